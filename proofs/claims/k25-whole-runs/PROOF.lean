import PyProof.Rows.All
import Wide.All
import OpenK.AllK
import Wide.FinOn
import HandS.ForMost
import HandS.Conv
import HandS.IsInst
import HandS.Style
import HandS.DictComp
import HandS.Zip
import HandS.ListItems
import HandS.ExcField
import HandS.ExcInit
import HandS.OwnEq
import HandS.Wide
import HandS.Strs
import HandS.TupAny
import HandS.CallLocal
import HandS.TryOnly
import HandS.ExcOwn
import HandS.WordsExc
import HandS.Lambda
import HandS.EndTab
import KE.KIndexOf
import HandS.HeadHook1
import HandS.HeadHook2
import HandS.HeadHook3
import HandS.HeadHook4
import KE.KStateDown
import HandS.Head0
import HandS.Head1
import HandS.Head2
import HandS.Walk
import HandS.DeepEq
import PyProof.InstNe
import PyProof.NeKinds
import HandS.EndBits
import PySem.Challenge.RW_rowsintime_k25_whole_runs_looked_at
/-! ## K0 -/
set_option Elab.async false
set_option linter.all false
set_option maxRecDepth 100000
set_option maxHeartbeats 4000000
namespace K25
open PySem L2
/-! ### the text by places -/
def top (i : Nat) : Stmt := PySem.Challenge.pw_rowsintime_k25_whole_runs_looked_at.main.body.getD i (.Pass ⟨0, 0, 0, 0⟩)

/-! ### plain data as trees -/
inductive D where
  | non | bl (b : Bool) | int (i : Int) | str (s : Str) | lst (ds : List D) | tup (ds : List D) | emp

mutual
/-- the value v of the heap G is the tree d -/
def Rp (K : PySem.W.Frag) (G : Hp) : D → V → Prop
  | .non, v => v = .non
  | .bl b, v => v = .bl b
  | .int i, v => v = .int i
  | .str s, v => v = .str s
  | .lst ds, v => ∃ a xs, v = .ref a ∧ SqL K G a xs ∧ RpA K G ds xs
  | .tup ds, v => ∃ a xs, v = .ref a ∧ SqT K G a xs ∧ RpA K G ds xs
  | .emp, v => ∃ a, v = .ref a ∧ G a = some (.dK [])
def RpA (K : PySem.W.Frag) (G : Hp) : List D → List V → Prop
  | [], xs => xs = []
  | d :: ds, xs => ∃ x r, xs = x :: r ∧ Rp K G d x ∧ RpA K G ds r
end

theorem seqT {K : PySem.W.Frag} {H H' : Hp} {a : Addr} {xs : List V} (e : Same H H') (h : SqT K H a xs) : SqT K H' a xs := by
  rcases h with (h | ⟨o, h⟩) | h
  · exact .inl (.inl (e _ _ h))
  · exact .inl (.inr ⟨o, e _ _ h⟩)
  · exact .inr h

section
variable {K : PySem.W.Frag} {G G' : Hp}
mutual
theorem Rp.mono (e : Same G G') : ∀ (d : D) (v : V), Rp K G d v → Rp K G' d v
  | .non, _, h => h
  | .bl _, _, h => h
  | .int _, _, h => h
  | .str _, _, h => h
  | .lst ds, _, ⟨a, xs, h1, h2, h3⟩ => ⟨a, xs, h1, e.seq h2, RpA.mono e ds xs h3⟩
  | .tup ds, _, ⟨a, xs, h1, h2, h3⟩ => ⟨a, xs, h1, seqT e h2, RpA.mono e ds xs h3⟩
  | .emp, _, ⟨a, h1, h2⟩ => ⟨a, h1, e _ _ h2⟩
theorem RpA.mono (e : Same G G') : ∀ (ds : List D) (xs : List V), RpA K G ds xs → RpA K G' ds xs
  | [], _, h => h
  | d :: ds, _, ⟨x, r, h1, h2, h3⟩ => ⟨x, r, h1, Rp.mono e d x h2, RpA.mono e ds r h3⟩
end
theorem RpA.len : ∀ {ds : List D} {xs : List V}, RpA K G ds xs → xs.length = ds.length
  | [], _, h => by cases h; rfl
  | d :: ds, _, ⟨x, r, h1, h2, h3⟩ => by subst h1; simp [RpA.len h3]
theorem RpA.get : ∀ {ds : List D} {xs : List V} {i : Nat} {d : D}, RpA K G ds xs → ds[i]? = some d → ∃ x, xs[i]? = some x ∧ Rp K G d x
  | [], _, _, _, _, h => by simp at h
  | d :: ds, _, 0, _, ⟨x, r, h1, h2, h3⟩, h => by
    subst h1
    cases h
    exact ⟨x, rfl, h2⟩
  | d :: ds, _, i + 1, _, ⟨x, r, h1, h2, h3⟩, h => by
    subst h1
    obtain ⟨y, hy, q⟩ := RpA.get (i := i) h3 (by simpa using h)
    exact ⟨y, by simpa using hy, q⟩
theorem RpA.get' {ds : List D} {xs : List V} {i : Nat} {x : V} (h : RpA K G ds xs) (hx : xs[i]? = some x) : ∃ d, ds[i]? = some d ∧ Rp K G d x := by
  have hi : i < ds.length := by
    have q := (List.getElem?_eq_some_iff.mp hx).1
    rw [h.len] at q
    exact q
  obtain ⟨y, hy, q⟩ := h.get (List.getElem?_eq_getElem hi)
  rw [hx] at hy
  cases hy
  exact ⟨_, List.getElem?_eq_getElem hi, q⟩
theorem RpA.nil : RpA K G [] [] := rfl
theorem RpA.cons {d : D} {ds : List D} {x : V} {xs : List V} (h : Rp K G d x) (t : RpA K G ds xs) : RpA K G (d :: ds) (x :: xs) := ⟨x, xs, rfl, h, t⟩
theorem RpA.snoc : ∀ {ds : List D} {xs : List V} {d : D} {x : V}, RpA K G ds xs → Rp K G d x → RpA K G (ds ++ [d]) (xs ++ [x])
  | [], _, _, _, h, q => by cases h; exact RpA.cons q RpA.nil
  | _ :: _, _, _, _, ⟨y, r, h1, h2, h3⟩, q => by
    subst h1
    exact ⟨y, _, rfl, h2, RpA.snoc h3 q⟩
theorem RpA.app : ∀ {ds es : List D} {xs ys : List V}, RpA K G ds xs → RpA K G es ys → RpA K G (ds ++ es) (xs ++ ys)
  | [], _, _, _, h, q => by cases h; exact q
  | _ :: _, _, _, _, ⟨y, r, h1, h2, h3⟩, q => by
    subst h1
    exact ⟨y, _, rfl, h2, RpA.app h3 q⟩
theorem RpA.take : ∀ (n : Nat) {ds : List D} {xs : List V}, RpA K G ds xs → RpA K G (ds.take n) (xs.take n)
  | 0, _, _, _ => rfl
  | _ + 1, [], _, h => by cases h; rfl
  | n + 1, _ :: _, _, ⟨y, r, h1, h2, h3⟩ => by
    subst h1
    exact ⟨y, _, rfl, h2, RpA.take n h3⟩
theorem RpA.drop : ∀ (n : Nat) {ds : List D} {xs : List V}, RpA K G ds xs → RpA K G (ds.drop n) (xs.drop n)
  | 0, _, _, h => h
  | _ + 1, [], _, h => by cases h; rfl
  | n + 1, _ :: _, _, ⟨y, r, h1, h2, h3⟩ => by
    subst h1
    exact RpA.drop n h3
theorem RpA.rev : ∀ {ds : List D} {xs : List V}, RpA K G ds xs → RpA K G ds.reverse xs.reverse
  | [], _, h => by cases h; rfl
  | _ :: _, _, ⟨y, r, h1, h2, h3⟩ => by
    subst h1
    simp only [List.reverse_cons]
    exact (RpA.rev h3).snoc h2
theorem RpA.ext {ds : List D} {xs : List V} (hl : xs.length = ds.length) (h : ∀ (i : Nat) (d : D) (x : V), ds[i]? = some d → xs[i]? = some x → Rp K G d x) : RpA K G ds xs := by
  induction ds generalizing xs with
  | nil => exact List.eq_nil_of_length_eq_zero (by simpa using hl)
  | cons d ds ih =>
    cases xs with
    | nil => simp at hl
    | cons x xs => exact ⟨x, xs, rfl, h 0 d x rfl rfl, ih (by simpa using hl) fun i d' x' h1 h2 => h (i + 1) d' x' (by simpa using h1) (by simpa using h2)⟩
theorem RpA.strs (ws : List Str) : RpA K G (ws.map D.str) (ws.map V.str) := by
  induction ws with
  | nil => rfl
  | cons w r ih => exact RpA.cons rfl ih
theorem RpA.strs_inv : ∀ {ws : List Str} {xs : List V}, RpA K G (ws.map D.str) xs → xs = ws.map V.str
  | [], _, h => h
  | w :: ws, _, ⟨x, r, h1, h2, h3⟩ => by
    subst h1
    rw [show x = V.str w from h2, RpA.strs_inv h3]
    rfl
end

/-! ### the kinds of things -/
def D.ty : D → String
  | .non => "NoneType" | .bl _ => "bool" | .int _ => "int" | .str _ => "str" | .lst _ => "list" | .tup _ => "tuple" | .emp => "dict"
def D.isL : D → Bool
  | .lst _ => true | .tup _ => true | _ => false
def D.isInt : D → Bool
  | .int _ => true | _ => false
def D.isIB : D → Bool
  | .int _ => true | .bl _ => true | _ => false
def D.isBl : D → Bool
  | .bl _ => true | _ => false
def D.isStr : D → Bool
  | .str _ => true | _ => false
def D.isLst : D → Bool
  | .lst _ => true | _ => false
def D.isTup : D → Bool
  | .tup _ => true | _ => false
def D.isDic : D → Bool
  | .emp => true | _ => false
theorem tyL {K : PySem.W.Frag} {H : Hp} {a : Addr} {xs : List V} (h : SqL K H a xs) : TyX K H (.ref a) (.type "list") := by
  rcases h with (h | ⟨o, h⟩) | ⟨o, its, n, h, c, _⟩
  · exact .base (.lst h)
  · exact .base (.frz h)
  · exact .kList h c
theorem tyT {K : PySem.W.Frag} {H : Hp} {a : Addr} {xs : List V} (h : SqT K H a xs) : TyX K H (.ref a) (.type "tuple") := by
  rcases h with (h | ⟨o, h⟩) | ⟨o, its, n, h, c, _⟩
  · exact .base (.tup h)
  · exact .fTuple h
  · exact .kTuple h c
theorem Rp.tyx {K : PySem.W.Frag} {H : Hp} : ∀ {d : D} {v : V}, Rp K H d v → TyX K H v (.type d.ty)
  | .non, _, h => by cases h; exact .base .non
  | .bl b, _, h => by cases h; exact .base (.bl b)
  | .int i, _, h => by cases h; exact .base (.int i)
  | .str s, _, h => by cases h; exact .base (.str s)
  | .lst ds, _, ⟨a, xs, h1, h2, h3⟩ => by subst h1; exact tyL h2
  | .tup ds, _, ⟨a, xs, h1, h2, h3⟩ => by subst h1; exact tyT h2
  | .emp, _, ⟨a, h1, h2⟩ => by subst h1; exact .base (.dK h2)
theorem kb_int : ∀ d : D, kitB d.ty "int" = some d.isIB
  | .non => (by decide +kernel : kitB "NoneType" "int" = some false)
  | .bl _ => (by decide +kernel : kitB "bool" "int" = some true)
  | .int _ => (by decide +kernel : kitB "int" "int" = some true)
  | .str _ => (by decide +kernel : kitB "str" "int" = some false)
  | .lst _ => (by decide +kernel : kitB "list" "int" = some false)
  | .tup _ => (by decide +kernel : kitB "tuple" "int" = some false)
  | .emp => (by decide +kernel : kitB "dict" "int" = some false)
theorem kb_bool : ∀ d : D, kitB d.ty "bool" = some d.isBl
  | .non => (by decide +kernel : kitB "NoneType" "bool" = some false)
  | .bl _ => (by decide +kernel : kitB "bool" "bool" = some true)
  | .int _ => (by decide +kernel : kitB "int" "bool" = some false)
  | .str _ => (by decide +kernel : kitB "str" "bool" = some false)
  | .lst _ => (by decide +kernel : kitB "list" "bool" = some false)
  | .tup _ => (by decide +kernel : kitB "tuple" "bool" = some false)
  | .emp => (by decide +kernel : kitB "dict" "bool" = some false)
theorem kb_str : ∀ d : D, kitB d.ty "str" = some d.isStr
  | .non => (by decide +kernel : kitB "NoneType" "str" = some false)
  | .bl _ => (by decide +kernel : kitB "bool" "str" = some false)
  | .int _ => (by decide +kernel : kitB "int" "str" = some false)
  | .str _ => (by decide +kernel : kitB "str" "str" = some true)
  | .lst _ => (by decide +kernel : kitB "list" "str" = some false)
  | .tup _ => (by decide +kernel : kitB "tuple" "str" = some false)
  | .emp => (by decide +kernel : kitB "dict" "str" = some false)
theorem kb_list : ∀ d : D, kitB d.ty "list" = some d.isLst
  | .non => (by decide +kernel : kitB "NoneType" "list" = some false)
  | .bl _ => (by decide +kernel : kitB "bool" "list" = some false)
  | .int _ => (by decide +kernel : kitB "int" "list" = some false)
  | .str _ => (by decide +kernel : kitB "str" "list" = some false)
  | .lst _ => (by decide +kernel : kitB "list" "list" = some true)
  | .tup _ => (by decide +kernel : kitB "tuple" "list" = some false)
  | .emp => (by decide +kernel : kitB "dict" "list" = some false)
theorem kb_tuple : ∀ d : D, kitB d.ty "tuple" = some d.isTup
  | .non => (by decide +kernel : kitB "NoneType" "tuple" = some false)
  | .bl _ => (by decide +kernel : kitB "bool" "tuple" = some false)
  | .int _ => (by decide +kernel : kitB "int" "tuple" = some false)
  | .str _ => (by decide +kernel : kitB "str" "tuple" = some false)
  | .lst _ => (by decide +kernel : kitB "list" "tuple" = some false)
  | .tup _ => (by decide +kernel : kitB "tuple" "tuple" = some true)
  | .emp => (by decide +kernel : kitB "dict" "tuple" = some false)
theorem kb_dict : ∀ d : D, kitB d.ty "dict" = some d.isDic
  | .non => (by decide +kernel : kitB "NoneType" "dict" = some false)
  | .bl _ => (by decide +kernel : kitB "bool" "dict" = some false)
  | .int _ => (by decide +kernel : kitB "int" "dict" = some false)
  | .str _ => (by decide +kernel : kitB "str" "dict" = some false)
  | .lst _ => (by decide +kernel : kitB "list" "dict" = some false)
  | .tup _ => (by decide +kernel : kitB "tuple" "dict" = some false)
  | .emp => (by decide +kernel : kitB "dict" "dict" = some true)
theorem isi {K : PySem.W.Frag} {H : Hp} {d : D} {v : V} {T : String} {b : Bool} {Q : VK} (h : Rp K H d v) (k : kitB d.ty T = some b) (q : Q (.bl b) H) : rIsi K [v, .ty T] H Q :=
  ⟨v, .ty T, _, _, b, rfl, .ty T, h.tyx, kit_ty k, q⟩
/-- isinstance(v, (S, T)), the tuple at p -/
theorem isi2 {K : PySem.W.Frag} {H : Hp} {d : D} {v : V} {S T : String} {b c : Bool} {p : Addr} {Q : VK} (hp : H p = some (.tup [.ty S, .ty T])) (h : Rp K H d v) (k : kitB d.ty S = some b) (k' : kitB d.ty T = some c) (q : Q (.bl (b || c)) H) :
    rIsiT K [v, .ref p] H Q := by
  refine ⟨v, p, [.ty S, .ty T], _, [.type S, .type T], b || c, rfl, hp, .cons (.ty S) (.cons (.ty T) .nil), h.tyx, ?_, q⟩
  cases b with
  | true => exact kitAny_cons (kit_ty k) (fun z => by cases z) (fun _ => rfl)
  | false => exact kitAny_cons (kit_ty k) (fun _ => kitAny_cons (kit_ty k') (fun z => by rw [z]; exact kitAny_nil) (fun z => by rw [z]; rfl)) (fun z => by cases z)
end K25

/-! ## K1 -/
set_option Elab.async false
set_option linter.all false
set_option maxRecDepth 100000
set_option maxHeartbeats 4000000

namespace K25
open PySem L2 PyProof.Rows PySem.Spec
/-! ### the defs by places, their names by slots (printed by mk1.py) -/
abbrev s_is_integer : Stmt := top 3
abbrev N_is_integer : List Str := ["thing"]
abbrev P_is_integer : List Str := ["thing"]
theorem sc_is_integer : FnScope N_is_integer P_is_integer (defScope s_is_integer) := ⟨rfl, rfl, rfl, by decide +kernel, rfl, by decide +kernel, by decide +kernel⟩
abbrev s_is_natural : Stmt := top 4
abbrev N_is_natural : List Str := ["thing"]
abbrev P_is_natural : List Str := ["thing"]
theorem sc_is_natural : FnScope N_is_natural P_is_natural (defScope s_is_natural) := ⟨rfl, rfl, rfl, by decide +kernel, rfl, by decide +kernel, by decide +kernel⟩
abbrev s_is_list : Stmt := top 5
abbrev N_is_list : List Str := ["thing"]
abbrev P_is_list : List Str := ["thing"]
theorem sc_is_list : FnScope N_is_list P_is_list (defScope s_is_list) := ⟨rfl, rfl, rfl, by decide +kernel, rfl, by decide +kernel, by decide +kernel⟩
abbrev s_is_name : Stmt := top 6
abbrev N_is_name : List Str := ["thing", "sign"]
abbrev P_is_name : List Str := ["thing"]
theorem sc_is_name : FnScope N_is_name P_is_name (defScope s_is_name) := ⟨rfl, rfl, rfl, by decide +kernel, rfl, by decide +kernel, by decide +kernel⟩
abbrev s_is_pair : Stmt := top 7
abbrev N_is_pair : List Str := ["thing"]
abbrev P_is_pair : List Str := ["thing"]
theorem sc_is_pair : FnScope N_is_pair P_is_pair (defScope s_is_pair) := ⟨rfl, rfl, rfl, by decide +kernel, rfl, by decide +kernel, by decide +kernel⟩
abbrev s_as_tuples : Stmt := top 8
abbrev N_as_tuples : List Str := ["thing", "part"]
abbrev P_as_tuples : List Str := ["thing"]
theorem sc_as_tuples : FnScope N_as_tuples P_as_tuples (defScope s_as_tuples) := ⟨rfl, rfl, rfl, by decide +kernel, rfl, by decide +kernel, by decide +kernel⟩
abbrev s_first_bad_name : Stmt := top 9
abbrev N_first_bad_name : List Str := ["things", "index", "thing"]
abbrev P_first_bad_name : List Str := ["things"]
theorem sc_first_bad_name : FnScope N_first_bad_name P_first_bad_name (defScope s_first_bad_name) := ⟨rfl, rfl, rfl, by decide +kernel, rfl, by decide +kernel, by decide +kernel⟩
abbrev s_is_of : Stmt := top 10
abbrev N_is_of : List Str := ["thing", "words"]
abbrev P_is_of : List Str := ["thing", "words"]
theorem sc_is_of : FnScope N_is_of P_is_of (defScope s_is_of) := ⟨rfl, rfl, rfl, by decide +kernel, rfl, by decide +kernel, by decide +kernel⟩
abbrev s_greatest_divisor : Stmt := top 13
abbrev N_greatest_divisor : List Str := ["one", "other"]
abbrev P_greatest_divisor : List Str := ["one", "other"]
theorem sc_greatest_divisor : FnScope N_greatest_divisor P_greatest_divisor (defScope s_greatest_divisor) := ⟨rfl, rfl, rfl, by decide +kernel, rfl, by decide +kernel, by decide +kernel⟩
abbrev s_lowest : Stmt := top 14
abbrev N_lowest : List Str := ["top", "bottom", "many"]
abbrev P_lowest : List Str := ["top", "bottom"]
theorem sc_lowest : FnScope N_lowest P_lowest (defScope s_lowest) := ⟨rfl, rfl, rfl, by decide +kernel, rfl, by decide +kernel, by decide +kernel⟩
abbrev s_whole : Stmt := top 15
abbrev N_whole : List Str := ["number"]
abbrev P_whole : List Str := ["number"]
theorem sc_whole : FnScope N_whole P_whole (defScope s_whole) := ⟨rfl, rfl, rfl, by decide +kernel, rfl, by decide +kernel, by decide +kernel⟩
abbrev s_is_frac : Stmt := top 16
abbrev N_is_frac : List Str := ["thing"]
abbrev P_is_frac : List Str := ["thing"]
theorem sc_is_frac : FnScope N_is_frac P_is_frac (defScope s_is_frac) := ⟨rfl, rfl, rfl, by decide +kernel, rfl, by decide +kernel, by decide +kernel⟩
abbrev s_is_time : Stmt := top 17
abbrev N_is_time : List Str := ["thing"]
abbrev P_is_time : List Str := ["thing"]
theorem sc_is_time : FnScope N_is_time P_is_time (defScope s_is_time) := ⟨rfl, rfl, rfl, by decide +kernel, rfl, by decide +kernel, by decide +kernel⟩
abbrev s_frac_of : Stmt := top 18
abbrev N_frac_of : List Str := ["thing"]
abbrev P_frac_of : List Str := ["thing"]
theorem sc_frac_of : FnScope N_frac_of P_frac_of (defScope s_frac_of) := ⟨rfl, rfl, rfl, by decide +kernel, rfl, by decide +kernel, by decide +kernel⟩
abbrev s_minus : Stmt := top 19
abbrev N_minus : List Str := ["one", "other"]
abbrev P_minus : List Str := ["one", "other"]
theorem sc_minus : FnScope N_minus P_minus (defScope s_minus) := ⟨rfl, rfl, rfl, by decide +kernel, rfl, by decide +kernel, by decide +kernel⟩
abbrev s_is_less : Stmt := top 20
abbrev N_is_less : List Str := ["one", "other"]
abbrev P_is_less : List Str := ["one", "other"]
theorem sc_is_less : FnScope N_is_less P_is_less (defScope s_is_less) := ⟨rfl, rfl, rfl, by decide +kernel, rfl, by decide +kernel, by decide +kernel⟩
abbrev s_is_upto : Stmt := top 21
abbrev N_is_upto : List Str := ["one", "other"]
abbrev P_is_upto : List Str := ["one", "other"]
theorem sc_is_upto : FnScope N_is_upto P_is_upto (defScope s_is_upto) := ⟨rfl, rfl, rfl, by decide +kernel, rfl, by decide +kernel, by decide +kernel⟩
abbrev s_is_upper : Stmt := top 25
abbrev N_is_upper : List Str := ["thing"]
abbrev P_is_upper : List Str := ["thing"]
theorem sc_is_upper : FnScope N_is_upper P_is_upper (defScope s_is_upper) := ⟨rfl, rfl, rfl, by decide +kernel, rfl, by decide +kernel, by decide +kernel⟩
abbrev s_code_of : Stmt := top 26
abbrev N_code_of : List Str := ["bound"]
abbrev P_code_of : List Str := ["bound"]
theorem sc_code_of : FnScope N_code_of P_code_of (defScope s_code_of) := ⟨rfl, rfl, rfl, by decide +kernel, rfl, by decide +kernel, by decide +kernel⟩
abbrev s_keeps : Stmt := top 27
abbrev N_keeps : List Str := ["number", "code", "top"]
abbrev P_keeps : List Str := ["number", "code"]
theorem sc_keeps : FnScope N_keeps P_keeps (defScope s_keeps) := ⟨rfl, rfl, rfl, by decide +kernel, rfl, by decide +kernel, by decide +kernel⟩
abbrev s_frac_keeps : Stmt := top 28
abbrev N_frac_keeps : List Str := ["number", "lower", "upper"]
abbrev P_frac_keeps : List Str := ["number", "lower", "upper"]
theorem sc_frac_keeps : FnScope N_frac_keeps P_frac_keeps (defScope s_frac_keeps) := ⟨rfl, rfl, rfl, by decide +kernel, rfl, by decide +kernel, by decide +kernel⟩
abbrev s_BadRun_init : Stmt := inClass (top 35) 0
abbrev N_BadRun_init : List Str := ["self", "thing"]
abbrev P_BadRun_init : List Str := ["self", "thing"]
theorem sc_BadRun_init : FnScope N_BadRun_init P_BadRun_init (defScope s_BadRun_init) := ⟨rfl, rfl, rfl, by decide +kernel, rfl, by decide +kernel, by decide +kernel⟩
abbrev s_first_stranger : Stmt := top 37
abbrev N_first_stranger : List Str := ["things", "words", "index", "thing"]
abbrev P_first_stranger : List Str := ["things", "words"]
theorem sc_first_stranger : FnScope N_first_stranger P_first_stranger (defScope s_first_stranger) := ⟨rfl, rfl, rfl, by decide +kernel, rfl, by decide +kernel, by decide +kernel⟩
abbrev s_is_limit : Stmt := top 38
abbrev N_is_limit : List Str := ["thing", "clocks", "clock"]
abbrev P_is_limit : List Str := ["thing", "clocks"]
theorem sc_is_limit : FnScope N_is_limit P_is_limit (defScope s_is_limit) := ⟨rfl, rfl, rfl, by decide +kernel, rfl, by decide +kernel, by decide +kernel⟩
abbrev s_is_cut : Stmt := top 39
abbrev N_is_cut : List Str := ["thing", "clocks"]
abbrev P_is_cut : List Str := ["thing", "clocks"]
theorem sc_is_cut : FnScope N_is_cut P_is_cut (defScope s_is_cut) := ⟨rfl, rfl, rfl, by decide +kernel, rfl, by decide +kernel, by decide +kernel⟩
abbrev s_is_arrow : Stmt := top 40
abbrev N_is_arrow : List Str := ["thing", "places", "clocks", "part"]
abbrev P_is_arrow : List Str := ["thing", "places", "clocks"]
theorem sc_is_arrow : FnScope N_is_arrow P_is_arrow (defScope s_is_arrow) := ⟨rfl, rfl, rfl, by decide +kernel, rfl, by decide +kernel, by decide +kernel⟩
abbrev s_Watcher_init : Stmt := inClass (top 41) 0
abbrev N_Watcher_init : List Str := ["self", "clocks", "limits", "arrows", "ends", "wrong", "name", "index", "arrow", "each"]
abbrev P_Watcher_init : List Str := ["self", "clocks", "limits", "arrows", "ends"]
theorem sc_Watcher_init : FnScope N_Watcher_init P_Watcher_init (defScope s_Watcher_init) := ⟨rfl, rfl, rfl, by decide +kernel, rfl, by decide +kernel, by decide +kernel⟩
abbrev s_Watcher_eq : Stmt := inClass (top 41) 7
abbrev N_Watcher_eq : List Str := ["self", "other"]
abbrev P_Watcher_eq : List Str := ["self", "other"]
theorem sc_Watcher_eq : FnScope N_Watcher_eq P_Watcher_eq (defScope s_Watcher_eq) := ⟨rfl, rfl, rfl, by decide +kernel, rfl, by decide +kernel, by decide +kernel⟩
abbrev s_begin_place : Stmt := top 42
abbrev N_begin_place : List Str := ["watcher"]
abbrev P_begin_place : List Str := ["watcher"]
theorem sc_begin_place : FnScope N_begin_place P_begin_place (defScope s_begin_place) := ⟨rfl, rfl, rfl, by decide +kernel, rfl, by decide +kernel, by decide +kernel⟩
abbrev s_Stand_init : Stmt := inClass (top 44) 0
abbrev N_Stand_init : List Str := ["self", "spot", "begins"]
abbrev P_Stand_init : List Str := ["self", "spot", "begins"]
theorem sc_Stand_init : FnScope N_Stand_init P_Stand_init (defScope s_Stand_init) := ⟨rfl, rfl, rfl, by decide +kernel, rfl, by decide +kernel, by decide +kernel⟩
abbrev s_Stand_worths_at : Stmt := inClass (top 44) 1
abbrev N_Stand_worths_at : List Str := ["self", "time", "clock", "begin"]
abbrev P_Stand_worths_at : List Str := ["self", "time"]
theorem sc_Stand_worths_at : FnScope N_Stand_worths_at P_Stand_worths_at (defScope s_Stand_worths_at) := ⟨rfl, rfl, rfl, by decide +kernel, rfl, by decide +kernel, by decide +kernel⟩
abbrev s_first_stand : Stmt := top 45
abbrev N_first_stand : List Str := ["watcher", "clock"]
abbrev P_first_stand : List Str := ["watcher"]
theorem sc_first_stand : FnScope N_first_stand P_first_stand (defScope s_first_stand) := ⟨rfl, rfl, rfl, by decide +kernel, rfl, by decide +kernel, by decide +kernel⟩
abbrev s_keeps_limit : Stmt := top 46
abbrev N_keeps_limit : List Str := ["watcher", "place", "worths_now", "clock", "edge"]
abbrev P_keeps_limit : List Str := ["watcher", "place", "worths_now"]
theorem sc_keeps_limit : FnScope N_keeps_limit P_keeps_limit (defScope s_keeps_limit) := ⟨rfl, rfl, rfl, by decide +kernel, rfl, by decide +kernel, by decide +kernel⟩
abbrev s_has_runs : Stmt := top 47
abbrev N_has_runs : List Str := ["watcher"]
abbrev P_has_runs : List Str := ["watcher"]
theorem sc_has_runs : FnScope N_has_runs P_has_runs (defScope s_has_runs) := ⟨rfl, rfl, rfl, by decide +kernel, rfl, by decide +kernel, by decide +kernel⟩
abbrev s_passes : Stmt := top 48
abbrev N_passes : List Str := ["part", "worths_now", "clock", "word", "number", "bound"]
abbrev P_passes : List Str := ["part", "worths_now"]
theorem sc_passes : FnScope N_passes P_passes (defScope s_passes) := ⟨rfl, rfl, rfl, by decide +kernel, rfl, by decide +kernel, by decide +kernel⟩
abbrev s_gone : Stmt := top 49
abbrev N_gone : List Str := ["watcher", "stand", "number", "time", "track", "worths_now", "begins", "clock", "found", "part"]
abbrev P_gone : List Str := ["watcher", "stand", "number", "time"]
theorem sc_gone : FnScope N_gone P_gone (defScope s_gone) := ⟨rfl, rfl, rfl, by decide +kernel, rfl, by decide +kernel, by decide +kernel⟩
abbrev s_stand_behind : Stmt := top 50
abbrev N_stand_behind : List Str := ["watcher", "pairs", "found", "number", "time"]
abbrev P_stand_behind : List Str := ["watcher", "pairs"]
theorem sc_stand_behind : FnScope N_stand_behind P_stand_behind (defScope s_stand_behind) := ⟨rfl, rfl, rfl, by decide +kernel, rfl, by decide +kernel, by decide +kernel⟩
abbrev s_is_step : Stmt := top 51
abbrev N_is_step : List Str := ["watcher", "thing"]
abbrev P_is_step : List Str := ["watcher", "thing"]
theorem sc_is_step : FnScope N_is_step P_is_step (defScope s_is_step) := ⟨rfl, rfl, rfl, by decide +kernel, rfl, by decide +kernel, by decide +kernel⟩
abbrev s_is_rising : Stmt := top 52
abbrev N_is_rising : List Str := ["moments", "earlier_one", "later_one"]
abbrev P_is_rising : List Str := ["moments"]
theorem sc_is_rising : FnScope N_is_rising P_is_rising (defScope s_is_rising) := ⟨rfl, rfl, rfl, by decide +kernel, rfl, by decide +kernel, by decide +kernel⟩
abbrev s_as_steps : Stmt := top 53
abbrev N_as_steps : List Str := ["thing", "number", "time"]
abbrev P_as_steps : List Str := ["thing"]
theorem sc_as_steps : FnScope N_as_steps P_as_steps (defScope s_as_steps) := ⟨rfl, rfl, rfl, by decide +kernel, rfl, by decide +kernel, by decide +kernel⟩
abbrev s_is_run : Stmt := top 54
abbrev N_is_run : List Str := ["watcher", "thing", "steps", "each"]
abbrev P_is_run : List Str := ["watcher", "thing"]
theorem sc_is_run : FnScope N_is_run P_is_run (defScope s_is_run) := ⟨rfl, rfl, rfl, by decide +kernel, rfl, by decide +kernel, by decide +kernel⟩
abbrev s_checked_run : Stmt := top 55
abbrev N_checked_run : List Str := ["watcher", "run"]
abbrev P_checked_run : List Str := ["watcher", "run"]
theorem sc_checked_run : FnScope N_checked_run P_checked_run (defScope s_checked_run) := ⟨rfl, rfl, rfl, by decide +kernel, rfl, by decide +kernel, by decide +kernel⟩
abbrev s_ended : Stmt := top 56
abbrev N_ended : List Str := ["watcher", "run"]
abbrev P_ended : List Str := ["watcher", "run"]
theorem sc_ended : FnScope N_ended P_ended (defScope s_ended) := ⟨rfl, rfl, rfl, by decide +kernel, rfl, by decide +kernel, by decide +kernel⟩
abbrev s_worths : Stmt := top 57
abbrev N_worths : List Str := ["watcher", "run", "steps"]
abbrev P_worths : List Str := ["watcher", "run"]
theorem sc_worths : FnScope N_worths P_worths (defScope s_worths) := ⟨rfl, rfl, rfl, by decide +kernel, rfl, by decide +kernel, by decide +kernel⟩
abbrev s_heard : Stmt := top 58
abbrev N_heard : List Str := ["watcher", "run", "steps", "pairs", "number", "time", "each"]
abbrev P_heard : List Str := ["watcher", "run"]
theorem sc_heard : FnScope N_heard P_heard (defScope s_heard) := ⟨rfl, rfl, rfl, by decide +kernel, rfl, by decide +kernel, by decide +kernel⟩
abbrev s_l_cell : Stmt := top 60
abbrev N_l_cell : List Str := ["_law_script", "_law_k"]
abbrev P_l_cell : List Str := ["_law_script", "_law_k"]
theorem sc_l_cell : FnScope N_l_cell P_l_cell (defScope s_l_cell) := ⟨rfl, rfl, rfl, by decide +kernel, rfl, by decide +kernel, by decide +kernel⟩
abbrev s_l_pool : Stmt := top 61
abbrev N_l_pool : List Str := ["_law_cell_here", "_law_folded"]
abbrev P_l_pool : List Str := ["_law_cell_here"]
theorem sc_l_pool : FnScope N_l_pool P_l_pool (defScope s_l_pool) := ⟨rfl, rfl, rfl, by decide +kernel, rfl, by decide +kernel, by decide +kernel⟩
abbrev s_l_take : Stmt := top 62
abbrev N_l_take : List Str := ["_law_pool_here", "_law_many", "_law_draw", "_law_mixed_here"]
abbrev P_l_take : List Str := ["_law_pool_here", "_law_many"]
theorem sc_l_take : FnScope N_l_take P_l_take (defScope s_l_take) := ⟨rfl, rfl, rfl, by decide +kernel, rfl, by decide +kernel, by decide +kernel⟩
abbrev s_l_one : Stmt := top 63
abbrev N_l_one : List Str := ["_law_pool_here", "_law_things"]
abbrev P_l_one : List Str := ["_law_pool_here", "_law_things"]
theorem sc_l_one : FnScope N_l_one P_l_one (defScope s_l_one) := ⟨rfl, rfl, rfl, by decide +kernel, rfl, by decide +kernel, by decide +kernel⟩
abbrev s_l_mixed : Stmt := top 64
abbrev N_l_mixed : List Str := ["_law_pool_here", "_law_things", "_law_left", "_law_k"]
abbrev P_l_mixed : List Str := ["_law_pool_here", "_law_things"]
theorem sc_l_mixed : FnScope N_l_mixed P_l_mixed (defScope s_l_mixed) := ⟨rfl, rfl, rfl, by decide +kernel, rfl, by decide +kernel, by decide +kernel⟩
abbrev s_l_same : Stmt := top 65
abbrev N_l_same : List Str := ["_law_found", "_law_due", "_law_x", "_law_y"]
abbrev P_l_same : List Str := ["_law_found", "_law_due"]
theorem sc_l_same : FnScope N_l_same P_l_same (defScope s_l_same) := ⟨rfl, rfl, rfl, by decide +kernel, rfl, by decide +kernel, by decide +kernel⟩
abbrev s_l_lowest : Stmt := top 66
abbrev N_l_lowest : List Str := ["_law_top", "_law_bottom", "_law_one_here", "_law_other"]
abbrev P_l_lowest : List Str := ["_law_top", "_law_bottom"]
theorem sc_l_lowest : FnScope N_l_lowest P_l_lowest (defScope s_l_lowest) := ⟨rfl, rfl, rfl, by decide +kernel, rfl, by decide +kernel, by decide +kernel⟩
abbrev s_l_less : Stmt := top 67
abbrev N_l_less : List Str := ["_law_one_here", "_law_other"]
abbrev P_l_less : List Str := ["_law_one_here", "_law_other"]
theorem sc_l_less : FnScope N_l_less P_l_less (defScope s_l_less) := ⟨rfl, rfl, rfl, by decide +kernel, rfl, by decide +kernel, by decide +kernel⟩
abbrev s_l_minus : Stmt := top 68
abbrev N_l_minus : List Str := ["_law_one_here", "_law_other"]
abbrev P_l_minus : List Str := ["_law_one_here", "_law_other"]
theorem sc_l_minus : FnScope N_l_minus P_l_minus (defScope s_l_minus) := ⟨rfl, rfl, rfl, by decide +kernel, rfl, by decide +kernel, by decide +kernel⟩
abbrev s_l_plus : Stmt := top 69
abbrev N_l_plus : List Str := ["_law_one_here", "_law_other"]
abbrev P_l_plus : List Str := ["_law_one_here", "_law_other"]
theorem sc_l_plus : FnScope N_l_plus P_l_plus (defScope s_l_plus) := ⟨rfl, rfl, rfl, by decide +kernel, rfl, by decide +kernel, by decide +kernel⟩
abbrev s_l_keeps : Stmt := top 70
abbrev N_l_keeps : List Str := ["_law_worth", "_law_word", "_law_n", "_law_top", "_law_far"]
abbrev P_l_keeps : List Str := ["_law_worth", "_law_word", "_law_n"]
theorem sc_l_keeps : FnScope N_l_keeps P_l_keeps (defScope s_l_keeps) := ⟨rfl, rfl, rfl, by decide +kernel, rfl, by decide +kernel, by decide +kernel⟩
abbrev s_l_cut : Stmt := top 71
abbrev N_l_cut : List Str := ["_law_pool_here", "_law_clocks"]
abbrev P_l_cut : List Str := ["_law_pool_here", "_law_clocks"]
theorem sc_l_cut : FnScope N_l_cut P_l_cut (defScope s_l_cut) := ⟨rfl, rfl, rfl, by decide +kernel, rfl, by decide +kernel, by decide +kernel⟩
abbrev s_l_arrow : Stmt := top 72
abbrev N_l_arrow : List Str := ["_law_pool_here", "_law_clocks", "_law_places", "_law_signals", "_law_cuts", "_law_begun", "_law_k", "_law_clock"]
abbrev P_l_arrow : List Str := ["_law_pool_here", "_law_clocks", "_law_places", "_law_signals"]
theorem sc_l_arrow : FnScope N_l_arrow P_l_arrow (defScope s_l_arrow) := ⟨rfl, rfl, rfl, by decide +kernel, rfl, by decide +kernel, by decide +kernel⟩
abbrev s_l_limits : Stmt := top 73
abbrev N_l_limits : List Str := ["_law_pool_here", "_law_clocks", "_law_places", "_law_found", "_law_place", "_law_clock", "_law_some", "_law_n"]
abbrev P_l_limits : List Str := ["_law_pool_here", "_law_clocks", "_law_places"]
theorem sc_l_limits : FnScope N_l_limits P_l_limits (defScope s_l_limits) := ⟨rfl, rfl, rfl, by decide +kernel, rfl, by decide +kernel, by decide +kernel⟩
abbrev s_l_watcher : Stmt := top 74
abbrev N_l_watcher : List Str := ["_law_pool_here", "_law_most", "_law_signals", "_law_clocks", "_law_places", "_law_arrows", "_law_ends", "_law_k"]
abbrev P_l_watcher : List Str := ["_law_pool_here", "_law_most", "_law_signals"]
theorem sc_l_watcher : FnScope N_l_watcher P_l_watcher (defScope s_l_watcher) := ⟨rfl, rfl, rfl, by decide +kernel, rfl, by decide +kernel, by decide +kernel⟩
abbrev s_l_made : Stmt := top 75
abbrev N_l_made : List Str := ["_law_w"]
abbrev P_l_made : List Str := ["_law_w"]
theorem sc_l_made : FnScope N_l_made P_l_made (defScope s_l_made) := ⟨rfl, rfl, rfl, by decide +kernel, rfl, by decide +kernel, by decide +kernel⟩
abbrev s_l_held : Stmt := top 76
abbrev N_l_held : List Str := ["_law_w", "_law_place", "_law_begins", "_law_time", "_law_clock", "_law_word", "_law_n"]
abbrev P_l_held : List Str := ["_law_w", "_law_place", "_law_begins", "_law_time"]
theorem sc_l_held : FnScope N_l_held P_l_held (defScope s_l_held) := ⟨rfl, rfl, rfl, by decide +kernel, rfl, by decide +kernel, by decide +kernel⟩
abbrev s_l_begin : Stmt := top 77
abbrev N_l_begin : List Str := ["_law_w", "_law_clock"]
abbrev P_l_begin : List Str := ["_law_w"]
theorem sc_l_begin : FnScope N_l_begin P_l_begin (defScope s_l_begin) := ⟨rfl, rfl, rfl, by decide +kernel, rfl, by decide +kernel, by decide +kernel⟩
abbrev s_l_step : Stmt := top 78
abbrev N_l_step : List Str := ["_law_w", "_law_stand", "_law_number", "_law_time", "_law_here", "_law_begins", "_law_place", "_law_signal", "_law_cuts", "_law_begun", "_law_there", "_law_clock", "_law_word", "_law_n", "_law_later"]
abbrev P_l_step : List Str := ["_law_w", "_law_stand", "_law_number", "_law_time"]
theorem sc_l_step : FnScope N_l_step P_l_step (defScope s_l_step) := ⟨rfl, rfl, rfl, by decide +kernel, rfl, by decide +kernel, by decide +kernel⟩
abbrev s_l_walked : Stmt := top 79
abbrev N_l_walked : List Str := ["_law_w", "_law_pairs", "_law_stand", "_law_now", "_law_number", "_law_time"]
abbrev P_l_walked : List Str := ["_law_w", "_law_pairs"]
theorem sc_l_walked : FnScope N_l_walked P_l_walked (defScope s_l_walked) := ⟨rfl, rfl, rfl, by decide +kernel, rfl, by decide +kernel, by decide +kernel⟩
abbrev s_l_drawn_run : Stmt := top 80
abbrev N_l_drawn_run : List Str := ["_law_pool_here", "_law_w", "_law_most", "_law_stand", "_law_now", "_law_found", "_law_k", "_law_some", "_law_far", "_law_time", "_law_number", "_law_later"]
abbrev P_l_drawn_run : List Str := ["_law_pool_here", "_law_w", "_law_most"]
theorem sc_l_drawn_run : FnScope N_l_drawn_run P_l_drawn_run (defScope s_l_drawn_run) := ⟨rfl, rfl, rfl, by decide +kernel, rfl, by decide +kernel, by decide +kernel⟩
abbrev s_l_wide : Stmt := top 81
abbrev N_l_wide : List Str := ["_law_pool_here", "_law_fraction", "_law_many"]
abbrev P_l_wide : List Str := ["_law_pool_here", "_law_fraction"]
theorem sc_l_wide : FnScope N_l_wide P_l_wide (defScope s_l_wide) := ⟨rfl, rfl, rfl, by decide +kernel, rfl, by decide +kernel, by decide +kernel⟩
abbrev s_l_bent : Stmt := top 82
abbrev N_l_bent : List Str := ["_law_pool_here", "_law_w", "_law_run", "_law_way", "_law_at", "_law_number", "_law_time", "_law_far", "_law_k", "_law_moment"]
abbrev P_l_bent : List Str := ["_law_pool_here", "_law_w", "_law_run"]
theorem sc_l_bent : FnScope N_l_bent P_l_bent (defScope s_l_bent) := ⟨rfl, rfl, rfl, by decide +kernel, rfl, by decide +kernel, by decide +kernel⟩
abbrev s_l_odd_runs : Stmt := top 83
abbrev N_l_odd_runs : List Str := ["_law_pool_here", "_law_w", "_law_run", "_law_odds", "_law_time", "_law_odd"]
abbrev P_l_odd_runs : List Str := ["_law_pool_here", "_law_w", "_law_run"]
theorem sc_l_odd_runs : FnScope N_l_odd_runs P_l_odd_runs (defScope s_l_odd_runs) := ⟨rfl, rfl, rfl, by decide +kernel, rfl, by decide +kernel, by decide +kernel⟩
abbrev s_l_met : Stmt := top 84
abbrev N_l_met : List Str := ["_law_ask", "e"]
abbrev P_l_met : List Str := ["_law_ask"]
theorem sc_l_met : FnScope N_l_met P_l_met (defScope s_l_met) := ⟨rfl, rfl, rfl, by decide +kernel, rfl, by decide +kernel, by decide +kernel⟩
abbrev s_l_right : Stmt := top 85
abbrev N_l_right : List Str := ["_law_made_here", "_law_w", "_law_pairs", "_law_handed", "_law_stand", "_law_held_here", "_law_found", "_law_now", "_law_place", "_law_due", "_law_signals", "_law_told", "_law_clock", "_law_number", "_law_time", "_law_some", "_law_pair"]
abbrev P_l_right : List Str := ["_law_made_here", "_law_w", "_law_pairs", "_law_handed"]
theorem sc_l_right : FnScope N_l_right P_l_right (defScope s_l_right) := ⟨rfl, rfl, rfl, by decide +kernel, rfl, by decide +kernel, by decide +kernel⟩
abbrev s_law : Stmt := top 86
abbrev N_law : List Str := ["_law_script", "_law_turn", "_law_pool_here", "_law_w", "_law_run", "_law_k", "_law_pairs", "_law_handed", "_law_found", "_law_made_here", "_law_odd", "_law_number", "_law_time"]
abbrev P_law : List Str := ["_law_script"]
theorem sc_law : FnScope N_law P_law (defScope s_law) := ⟨rfl, rfl, rfl, by decide +kernel, rfl, by decide +kernel, by decide +kernel⟩
/-! ### a def of the top, a class that is made, a method -/
def FunG (K : PySem.W.Frag) (mg : Str → Option Value) (x : Str) (st : Stmt) (ps : List Str) : Prop := ∃ f fd, mg x = some (.ref f) ∧ Fun K x x st f fd ∧ Binds K fd ps []
def MkG (K : PySem.W.Frag) (C : Addr) (q : Str) (st : Stmt) (ps : List Str) : Prop := ∃ f fd, Mk K C f ∧ Fun K "__init__" q st f fd ∧ Binds K fd ps []
def MethG (K : PySem.W.Frag) (C : Addr) (m q : Str) (st : Stmt) (ps : List Str) : Prop := ∃ f fd, Meth K C m f ∧ Fun K m q st f fd ∧ Binds K fd ps []
def EqG (K : PySem.W.Frag) (C : Addr) (q : Str) (st : Stmt) (ps : List Str) : Prop := ∃ f fd, PySem.W.findIn K (.ref C) "__eq__" = some (some (.ref f)) ∧ PySem.W.findIn K (.ref C) "__ne__" = some (some (.builtin "object.__ne__")) ∧ PySem.W.isFn K (.ref f) = true ∧ Fun K "__eq__" q st f fd ∧ Binds K fd ps []
def ClsG (K : PySem.W.Frag) (C : Addr) : Prop := ∃ nm q N bs bm hdct sn sub ab col dd k0 k1 k2 k3 k5 newId, K.lookup C = some (excClassObj nm q C N bs bm hdct sn sub ab col dd k0 k1 k2 k3 k5 newId) ∧ bm.contains (.type "object") = true
def BadG (K : PySem.W.Frag) (C : Addr) (q : Str) (st : Stmt) (ps : List Str) : Prop := OexC K C ∧ XfC K C ∧ PySem.W.findIn K (.ref C) "thing" = some none ∧ PySem.W.exmOne K (.ref C) (.ref C) = some true ∧
  ∃ f fd, PySem.W.findIn K (.ref C) "__init__" = some (some (.ref f)) ∧ PySem.W.typeIn K (.ref f) = some (.type "function") ∧ Fun K "__init__" q st f fd ∧ Binds K fd ps []
/-- what isinstance of an instance asks -/
structure InsG (K : PySem.W.Frag) (C : Addr) : Prop where
  ha : PySem.W.findIn K (.ref C) "__class__" = some (some (.builtin "object.__class__"))
  hn : PySem.W.specialIn K (.builtin "object.__class__") "__get__" = some (some (.builtin "getset_descriptor.__get__"))
  htk : PySem.W.takesIn K (.builtin "object.__class__") = some true
  hm : PySem.W.mroIn K C (.type "object") = some true
/-- a def keeps its promise -/
def DefOk (P : Program) (w : World) (K : PySem.W.Frag) (mg : Str → Option Value) (base : Heap) (k : Nat) (x : Str) (ps : List Str) (sp : Sp) : Prop :=
  ∃ f fd, mg x = some (.ref f) ∧ PySem.W.keepIn K (.ref f) = true ∧ Binds K fd ps [] ∧ FnOk P w K mg base CX0 k f fd ps sp
def MkOk (P : Program) (w : World) (K : PySem.W.Frag) (mg : Str → Option Value) (base : Heap) (C : Addr) (k : Nat) (ps : List Str) (sp : Sp) : Prop :=
  ∃ f fd, Mk K C f ∧ Binds K fd ps [] ∧ FnOk P w K mg base CX0 k f fd ps sp
def MdOk (P : Program) (w : World) (K : PySem.W.Frag) (mg : Str → Option Value) (base : Heap) (C : Addr) (m : Str) (k : Nat) (ps : List Str) (sp : Sp) : Prop :=
  ∃ f fd, Meth K C m f ∧ Binds K fd ps [] ∧ FnOk P w K mg base CX0 k f fd ps sp
theorem lv {j k : Nat} {A : Around} (hr : Room k A) (h : j ≤ k := by decide) : Room j A := hr.mono h
section
variable {P : Program} {w : World} {K : PySem.W.Frag} {mg : Str → Option Value} {base : Heap}
theorem FunG.ok {x : Str} {st : Stmt} {N ps : List Str} {k : Nat} {sp : Sp} (F : FunG K mg x st ps) (S : FnScope N ps (defScope st)) (len : ∀ vs H Q E, sp vs H Q E → vs.length = ps.length)
    (hbody : ∀ (f : Addr) (cdv : Value) (A : Around) (outer : List Env) (s : Shared) (H : Hp) (vs : List V) (Q : VK) (E : XK), Room k (A.deeper (envOfC x (defScope st) s.heap.objs.size f cdv)) → sp vs H Q E →
      ∃ t, PSs (cxOf CX0 P w K mg base N x (defScope st) f cdv A outer s H E).nox (defBody st) t ∧ t { nx := fun _ H' => Q .non H', rt := Q } (start N vs) H) : DefOk P w K mg base (k + 1) x ps sp := by
  obtain ⟨f, fd, hm, F, hb⟩ := F
  exact ⟨f, fd, hm, F.kp, hb, F.ok S len fun cdv A outer s H vs Q E hr h => hbody f cdv A outer s H vs Q E hr h⟩
theorem MkG.ok {C : Addr} {q : Str} {st : Stmt} {N ps : List Str} {k : Nat} {sp : Sp} (F : MkG K C q st ps) (S : FnScope N ps (defScope st)) (len : ∀ vs H Q E, sp vs H Q E → vs.length = ps.length)
    (hbody : ∀ (f : Addr) (cdv : Value) (A : Around) (outer : List Env) (s : Shared) (H : Hp) (vs : List V) (Q : VK) (E : XK), Room k (A.deeper (envOfC q (defScope st) s.heap.objs.size f cdv)) → sp vs H Q E →
      ∃ t, PSs (cxOf CX0 P w K mg base N q (defScope st) f cdv A outer s H E).nox (defBody st) t ∧ t { nx := fun _ H' => Q .non H', rt := Q } (start N vs) H) : MkOk P w K mg base C (k + 1) ps sp := by
  obtain ⟨f, fd, hm, F, hb⟩ := F
  exact ⟨f, fd, hm, hb, F.ok S len fun cdv A outer s H vs Q E hr h => hbody f cdv A outer s H vs Q E hr h⟩
theorem MethG.ok {C : Addr} {m q : Str} {st : Stmt} {N ps : List Str} {k : Nat} {sp : Sp} (F : MethG K C m q st ps) (S : FnScope N ps (defScope st)) (len : ∀ vs H Q E, sp vs H Q E → vs.length = ps.length)
    (hbody : ∀ (f : Addr) (cdv : Value) (A : Around) (outer : List Env) (s : Shared) (H : Hp) (vs : List V) (Q : VK) (E : XK), Room k (A.deeper (envOfC q (defScope st) s.heap.objs.size f cdv)) → sp vs H Q E →
      ∃ t, PSs (cxOf CX0 P w K mg base N q (defScope st) f cdv A outer s H E).nox (defBody st) t ∧ t { nx := fun _ H' => Q .non H', rt := Q } (start N vs) H) : MdOk P w K mg base C m (k + 1) ps sp := by
  obtain ⟨f, fd, hm, F, hb⟩ := F
  exact ⟨f, fd, hm, hb, F.ok S len fun cdv A outer s H vs Q E hr h => hbody f cdv A outer s H vs Q E hr h⟩
end
section
variable {X : Cx} {k : Nat} {x m : Str} {ps : List Str} {sp : Sp} {C : Addr} {e o : Expr} {es : List Expr} {t : TA} {to : TE} {p pos apos : Pos}
/-- f(e, ..), f a def of the top -/
theorem pe_cd (G : DefOk X.prog X.w X.K X.mg X.base k x ps sp) (hr : Room k X.A) (hg : Gl X x) (ha : PA X (e :: es) t) (hdb : (x == ("__debug__" : Str)) = false := by decide) (he : starEach (e :: es) X.env = (false, eval e X.env) :: starEach es X.env := by rfl) (hpl : (backTo pos (starEach es X.env)).any (·.1) = false := by rfl) :
    PE X (.Call (.Name x p) (e :: es) [] pos) (tCall sp [] E0 t) := by
  obtain ⟨f, fd, hm, hk, hb, F⟩ := G
  exact pe_call F hr hg hm hk hb .nil pass0 ha hdb he hpl
/-- C(e, ..) -/
theorem pe_mk (G : MkOk X.prog X.w X.K X.mg X.base C k ps sp) (hr : Room (k + 1) X.A) (hg : Gl X x) (hm : X.mg x = some (.ref C)) (ha : PA X (e :: es) t) (hdb : (x == ("__debug__" : Str)) = false := by decide) (he : starEach (e :: es) X.env = (false, eval e X.env) :: starEach es X.env := by rfl) (hpl : (backTo pos (starEach es X.env)).any (·.1) = false := by rfl) :
    PE X (.Call (.Name x p) (e :: es) [] pos) (tMake C sp [] E0 t) := by
  obtain ⟨f, fd, M, hb, F⟩ := G
  exact pe_make M F hr hg hm hb .nil pass0 ha hdb he hpl
/-- o.m(e, ..) -/
theorem pe_md {pl : Sem Bool} (c : Cls X.K C) (G : MdOk X.prog X.w X.K X.mg X.base C m k ps sp) (hr : Room k X.A) (ho : PE X o to) (ha : PA X (e :: es) t)
    (hst : starEach (e :: es) X.env = (false, eval e X.env) :: starEach es X.env := by rfl) (hpl : (backTo pos (starEach es X.env)).any (·.1) = false := by rfl)
    (ht : eval (.Call (.Attribute o m apos) (e :: es) [] pos) X.env = (do
      let ov ← eval o X.env
      standAt apos.atName
      let (f, first) ← holding [ov] (getMethod ov m pl)
      callWith pos f first (backTo pos (starEach (e :: es) X.env)) (backToKw pos (keywordEach [] X.env))) := by rfl) :
    PE X (.Call (.Attribute o m apos) (e :: es) [] pos) (tMeth C m sp [] E0 to t) := by
  obtain ⟨f, fd, M, hb, F⟩ := G
  exact pe_meth ho c M F hr hb .nil pass0 ha hst hpl ht
end
/-! ### further rules -/
/-- a list or a tuple walked -/
def iSeq (K : PySem.W.Frag) (tl : TE) : TI := fun σ H R => tl σ H fun x H1 => ∃ a, x = .ref a ∧ (((∃ xs, SqL K H1 a xs) ∧ R (Itl K a) H1) ∨ ((∃ xs, SqT K H1 a xs) ∧ R (Itt K a) H1))
theorem pi_seq {X : Cx} {tg l : Expr} {tl : TE} (hl : PE X l tl) : PI X tg l (iSeq X.K tl) := by
  refine ⟨fun pins s σ H R I h => ?_⟩
  refine thn (hl.run pins s σ H _ I h) fun v s1 ⟨x, H1, I1, r1, q1⟩ => ?_
  obtain ⟨a, e, q⟩ := q1
  subst e
  cases r1
  rcases q with ⟨⟨xs, hq⟩, q⟩ | ⟨⟨xs, hq⟩, q⟩
  · obtain ⟨its, rv, p, hz⟩ := I1.list hq
    refine wpAny_pyIter_list p.isList ?_
    refine ⟨s1.heap.objs.size, [s1.heap.objs.size], _, _, H1, rfl, I1.kept (t' := s1.toks) fun b o e => Heap.get?_push_of_some _ e, turn_list a _, ⟨_, Heap.get?_push_size _ rfl, rfl, rfl⟩, fun b hb => ?_, q⟩
    have e : b = s1.heap.objs.size := by simpa using hb
    subst e
    exact I1.fpOk (Nat.le_refl _) (I1.hok.fresh (Nat.le_refl _))
  · obtain ⟨its, rv, p, hz⟩ := I1.tuple hq
    refine wpAny_pyIter_tuple (show s1.heap.IsTuple a its.toArray from p) ?_
    refine ⟨s1.heap.objs.size, [s1.heap.objs.size], _, _, H1, rfl, I1.kept (t' := s1.toks) fun b o e => Heap.get?_push_of_some _ e, turn_tuple a _, ⟨_, Heap.get?_push_size _ rfl, rfl, rfl⟩, fun b hb => ?_, q⟩
    have e : b = s1.heap.objs.size := by simpa using hb
    subst e
    exact I1.fpOk (Nat.le_refl _) (I1.hok.fresh (Nat.le_refl _))
/-- dict(d) -/
theorem call_dict_copy {X : Cx} : CallR X (.type "dict") (fun xs H Q => ∃ a kvs, xs = [V.ref a] ∧ Rd H a (.dK kvs) ∧ ∀ p, H p = none → Q (.ref p) (upd H p (.dK kvs))) := by
  intro pins s σ H xs us Q I r h
  obtain ⟨a, kvs, rfl, ha, q⟩ := h
  obtain ⟨u, rfl, ru⟩ := vals1 r
  cases ru
  exact d_copyOf I ha fun p s' hp I' => ⟨.ref p, _, I', rfl, q p hp⟩
/-- t.index(w), texts -/
def rTIndex (K : PySem.W.Frag) : V → List V → Hp → VK → Prop := fun x xs H Q => ∃ (a : Addr) (ws : List Str) (w : Str), x = .ref a ∧ xs = [.str w] ∧ SqT K H a (ws.map V.str) ∧ w ∈ ws ∧ Q (.int (ws.idxOf w : Nat)) H
theorem mt_tindex {X : Cx} : MtR X "tuple.index" (rTIndex X.K) := by
  intro pins s σ H x xs v us Q I rx r h
  obtain ⟨a, ws, w, rfl, rfl, hs, hw, q⟩ := h
  cases rx
  obtain ⟨u, rfl, t, rfl⟩ := vals1 r
  obtain ⟨its, rv, p, hz⟩ := I.tuple hs
  exact SeqAt.tuple_index_strs (show s.heap.IsTuple a its.toArray from p) (Vals.strs rv) hw ⟨.int _, H, I.tok _, ⟨_, rfl⟩, q⟩
/-- repr(x) of data without dicts -/
theorem call_reprD {X : Cx} {k : Nat} (hr : Room k X.A) (hg : X.A.guards = some []) : CallR X (.builtin "repr") (fun xs H Q => ∃ a d, xs = [V.ref a] ∧ Dp X.K H (.ref a) d ∧ PyData.showable d = true ∧ PyData.hasDict d = false ∧ PyData.depth d + 1 ≤ 60 ∧ (PyData.shown d).length ≤ sizeLine ∧ Q (.str (PyData.shown d)) H) := by
  intro pins s σ H xs us Q I r h
  obtain ⟨a, d, rfl, hd, h1, h2, h3, h4, q⟩ := h
  obtain ⟨u, rfl, ru⟩ := vals1 r
  cases ru
  obtain ⟨as, rr⟩ := Dp.reads I d _ _ hd rfl
  have hu := hr.units
  exact repr_of_reads' rr h1 (fun z => by rw [h2] at z; cases z) hg (by omega) (fun _ _ e => e) (fun h' t tk hk => ⟨.str _, H, I.kept hk, ⟨_, rfl⟩, q⟩) h4
/-! ### what the written part holds -/
structure Ad where
  Watcher : Addr
  Stand : Addr
  BadRun : Addr
  cZERO : Addr
  cUPPERS : Addr
  cLOWERS : Addr
  tSIGNS : Tok
def SGN : Str := "abcdefghijklmnopqrstuvwxyz"

/-- what the top has written -/
structure Tx (K : PySem.W.Frag) (mg : Str → Option Value) (A : Ad) : Prop where
  f_is_integer : FunG K mg "is_integer" s_is_integer P_is_integer
  f_is_natural : FunG K mg "is_natural" s_is_natural P_is_natural
  f_is_list : FunG K mg "is_list" s_is_list P_is_list
  f_is_name : FunG K mg "is_name" s_is_name P_is_name
  f_is_pair : FunG K mg "is_pair" s_is_pair P_is_pair
  f_as_tuples : FunG K mg "as_tuples" s_as_tuples P_as_tuples
  f_first_bad_name : FunG K mg "first_bad_name" s_first_bad_name P_first_bad_name
  f_is_of : FunG K mg "is_of" s_is_of P_is_of
  f_greatest_divisor : FunG K mg "greatest_divisor" s_greatest_divisor P_greatest_divisor
  f_lowest : FunG K mg "lowest" s_lowest P_lowest
  f_whole : FunG K mg "whole" s_whole P_whole
  f_is_frac : FunG K mg "is_frac" s_is_frac P_is_frac
  f_is_time : FunG K mg "is_time" s_is_time P_is_time
  f_frac_of : FunG K mg "frac_of" s_frac_of P_frac_of
  f_minus : FunG K mg "minus" s_minus P_minus
  f_is_less : FunG K mg "is_less" s_is_less P_is_less
  f_is_upto : FunG K mg "is_upto" s_is_upto P_is_upto
  f_is_upper : FunG K mg "is_upper" s_is_upper P_is_upper
  f_code_of : FunG K mg "code_of" s_code_of P_code_of
  f_keeps : FunG K mg "keeps" s_keeps P_keeps
  f_frac_keeps : FunG K mg "frac_keeps" s_frac_keeps P_frac_keeps
  f_first_stranger : FunG K mg "first_stranger" s_first_stranger P_first_stranger
  f_is_limit : FunG K mg "is_limit" s_is_limit P_is_limit
  f_is_cut : FunG K mg "is_cut" s_is_cut P_is_cut
  f_is_arrow : FunG K mg "is_arrow" s_is_arrow P_is_arrow
  f_begin_place : FunG K mg "begin_place" s_begin_place P_begin_place
  f_first_stand : FunG K mg "first_stand" s_first_stand P_first_stand
  f_keeps_limit : FunG K mg "keeps_limit" s_keeps_limit P_keeps_limit
  f_has_runs : FunG K mg "has_runs" s_has_runs P_has_runs
  f_passes : FunG K mg "passes" s_passes P_passes
  f_gone : FunG K mg "gone" s_gone P_gone
  f_stand_behind : FunG K mg "stand_behind" s_stand_behind P_stand_behind
  f_is_step : FunG K mg "is_step" s_is_step P_is_step
  f_is_rising : FunG K mg "is_rising" s_is_rising P_is_rising
  f_as_steps : FunG K mg "as_steps" s_as_steps P_as_steps
  f_is_run : FunG K mg "is_run" s_is_run P_is_run
  f_checked_run : FunG K mg "checked_run" s_checked_run P_checked_run
  f_ended : FunG K mg "ended" s_ended P_ended
  f_worths : FunG K mg "worths" s_worths P_worths
  f_heard : FunG K mg "heard" s_heard P_heard
  f_l_cell : FunG K mg "_law_cell" s_l_cell P_l_cell
  f_l_pool : FunG K mg "_law_pool" s_l_pool P_l_pool
  f_l_take : FunG K mg "_law_take" s_l_take P_l_take
  f_l_one : FunG K mg "_law_one" s_l_one P_l_one
  f_l_mixed : FunG K mg "_law_mixed" s_l_mixed P_l_mixed
  f_l_same : FunG K mg "_law_same" s_l_same P_l_same
  f_l_lowest : FunG K mg "_law_lowest" s_l_lowest P_l_lowest
  f_l_less : FunG K mg "_law_less" s_l_less P_l_less
  f_l_minus : FunG K mg "_law_minus" s_l_minus P_l_minus
  f_l_plus : FunG K mg "_law_plus" s_l_plus P_l_plus
  f_l_keeps : FunG K mg "_law_keeps" s_l_keeps P_l_keeps
  f_l_cut : FunG K mg "_law_cut" s_l_cut P_l_cut
  f_l_arrow : FunG K mg "_law_arrow" s_l_arrow P_l_arrow
  f_l_limits : FunG K mg "_law_limits" s_l_limits P_l_limits
  f_l_watcher : FunG K mg "_law_watcher" s_l_watcher P_l_watcher
  f_l_made : FunG K mg "_law_made" s_l_made P_l_made
  f_l_held : FunG K mg "_law_held" s_l_held P_l_held
  f_l_begin : FunG K mg "_law_begin" s_l_begin P_l_begin
  f_l_step : FunG K mg "_law_step" s_l_step P_l_step
  f_l_walked : FunG K mg "_law_walked" s_l_walked P_l_walked
  f_l_drawn_run : FunG K mg "_law_drawn_run" s_l_drawn_run P_l_drawn_run
  f_l_wide : FunG K mg "_law_wide" s_l_wide P_l_wide
  f_l_bent : FunG K mg "_law_bent" s_l_bent P_l_bent
  f_l_odd_runs : FunG K mg "_law_odd_runs" s_l_odd_runs P_l_odd_runs
  f_l_met : FunG K mg "_law_met" s_l_met P_l_met
  f_l_right : FunG K mg "_law_right" s_l_right P_l_right
  z_isinstance : mg "isinstance" = none
  z_len : mg "len" = none
  z_all : mg "all" = none
  z_any : mg "any" = none
  z_abs : mg "abs" = none
  z_sum : mg "sum" = none
  z_range : mg "range" = none
  z_enumerate : mg "enumerate" = none
  z_zip : mg "zip" = none
  z_repr : mg "repr" = none
  z_int : mg "int" = none
  z_bool : mg "bool" = none
  z_str : mg "str" = none
  z_list : mg "list" = none
  z_tuple : mg "tuple" = none
  z_dict : mg "dict" = none
  g_Watcher : mg "Watcher" = some (.ref A.Watcher)
  g_Stand : mg "Stand" = some (.ref A.Stand)
  g_BadRun : mg "BadRun" = some (.ref A.BadRun)
  g_ZERO : mg "ZERO" = some (.ref A.cZERO)
  g_UPPERS : mg "UPPERS" = some (.ref A.cUPPERS)
  g_LOWERS : mg "LOWERS" = some (.ref A.cLOWERS)
  g_SIGNS : mg "SIGNS" = some (.str SGN A.tSIGNS)
  t_ZERO : ∀ H, SqT K H A.cZERO [.int 0, .int 1]
  t_UPPERS : ∀ H, SqT K H A.cUPPERS [.str "below", .str "upto"]
  t_LOWERS : ∀ H, SqT K H A.cLOWERS [.str "from", .str "above"]
  y_UPPERS : ∃ o, K.lookup A.cUPPERS = some o ∧ o.cls = .type "tuple" ∧ o.dict = none
  cl_Watcher : Cls K A.Watcher
  cl_Stand : Cls K A.Stand
  n_hands : NoAttr K A.Watcher "hands"
  n_held : NoAttr K A.Watcher "held"
  n_tracks : NoAttr K A.Watcher "tracks"
  n_last_ones : NoAttr K A.Watcher "last_ones"
  n_spot : NoAttr K A.Stand "spot"
  n_begins : NoAttr K A.Stand "begins"
  m_Watcher : MkG K A.Watcher "Watcher.__init__" s_Watcher_init P_Watcher_init
  m_Stand : MkG K A.Stand "Stand.__init__" s_Stand_init P_Stand_init
  m_worths_at : MethG K A.Stand "worths_at" "Stand.worths_at" s_Stand_worths_at P_Stand_worths_at
  m_eq : EqG K A.Watcher "Watcher.__eq__" s_Watcher_eq P_Watcher_eq
  o_Watcher : ClsG K A.Watcher
  io_Watcher : PySem.W.kitOne K (.ref A.Watcher) (.ref A.Watcher) = some true
  ia_Watcher : InsG K A.Watcher
  x_BadRun : BadG K A.BadRun "BadRun.__init__" s_BadRun_init P_BadRun_init
end K25

/-! ## H1a -/
set_option Elab.async false
set_option linter.all false
set_option maxRecDepth 100000
set_option maxHeartbeats 4000000
/-! H1a: what of the top is looked at (printed by mkH1.py). -/
namespace K25
open PySem PySem.Spec PyProof.Rows L2
def dG (x : Str) (st : Stmt) : He.DefD := ⟨(x, none), x, x, defArgs st, defBody st, defScope st, [], []⟩
def dM (C m q : Str) (st : Stmt) : He.DefD := ⟨(C, some m), m, q, defArgs st, defBody st, defScope st, [], []⟩

def fnL : List He.DefD := [
  dG "is_integer" s_is_integer,
  dG "is_natural" s_is_natural,
  dG "is_list" s_is_list,
  dG "is_name" s_is_name,
  dG "is_pair" s_is_pair,
  dG "as_tuples" s_as_tuples,
  dG "first_bad_name" s_first_bad_name,
  dG "is_of" s_is_of,
  dG "greatest_divisor" s_greatest_divisor,
  dG "lowest" s_lowest,
  dG "whole" s_whole,
  dG "is_frac" s_is_frac,
  dG "is_time" s_is_time,
  dG "frac_of" s_frac_of,
  dG "minus" s_minus,
  dG "is_less" s_is_less,
  dG "is_upto" s_is_upto,
  dG "is_upper" s_is_upper,
  dG "code_of" s_code_of,
  dG "keeps" s_keeps,
  dG "frac_keeps" s_frac_keeps,
  dG "first_stranger" s_first_stranger,
  dG "is_limit" s_is_limit,
  dG "is_cut" s_is_cut,
  dG "is_arrow" s_is_arrow,
  dG "begin_place" s_begin_place,
  dG "first_stand" s_first_stand,
  dG "keeps_limit" s_keeps_limit,
  dG "has_runs" s_has_runs,
  dG "passes" s_passes,
  dG "gone" s_gone,
  dG "stand_behind" s_stand_behind,
  dG "is_step" s_is_step,
  dG "is_rising" s_is_rising,
  dG "as_steps" s_as_steps,
  dG "is_run" s_is_run,
  dG "checked_run" s_checked_run,
  dG "ended" s_ended,
  dG "worths" s_worths,
  dG "heard" s_heard,
  dG "_law_cell" s_l_cell,
  dG "_law_pool" s_l_pool,
  dG "_law_take" s_l_take,
  dG "_law_one" s_l_one,
  dG "_law_mixed" s_l_mixed,
  dG "_law_same" s_l_same,
  dG "_law_lowest" s_l_lowest,
  dG "_law_less" s_l_less,
  dG "_law_minus" s_l_minus,
  dG "_law_plus" s_l_plus,
  dG "_law_keeps" s_l_keeps,
  dG "_law_cut" s_l_cut,
  dG "_law_arrow" s_l_arrow,
  dG "_law_limits" s_l_limits,
  dG "_law_watcher" s_l_watcher,
  dG "_law_made" s_l_made,
  dG "_law_held" s_l_held,
  dG "_law_begin" s_l_begin,
  dG "_law_step" s_l_step,
  dG "_law_walked" s_l_walked,
  dG "_law_drawn_run" s_l_drawn_run,
  dG "_law_wide" s_l_wide,
  dG "_law_bent" s_l_bent,
  dG "_law_odd_runs" s_l_odd_runs,
  dG "_law_met" s_l_met,
  dG "_law_right" s_l_right,
  dG "law" s_law,
  dM "BadRun" "__init__" "BadRun.__init__" s_BadRun_init,
  dM "Watcher" "__init__" "Watcher.__init__" s_Watcher_init,
  dM "Watcher" "__eq__" "Watcher.__eq__" s_Watcher_eq,
  dM "Stand" "__init__" "Stand.__init__" s_Stand_init,
  dM "Stand" "worths_at" "Stand.worths_at" s_Stand_worths_at]
def faL : List He.Fa := [
  .glo "is_integer",
  .glo "is_natural",
  .glo "is_list",
  .glo "is_name",
  .glo "is_pair",
  .glo "as_tuples",
  .glo "first_bad_name",
  .glo "is_of",
  .glo "greatest_divisor",
  .glo "lowest",
  .glo "whole",
  .glo "is_frac",
  .glo "is_time",
  .glo "frac_of",
  .glo "minus",
  .glo "is_less",
  .glo "is_upto",
  .glo "is_upper",
  .glo "code_of",
  .glo "keeps",
  .glo "frac_keeps",
  .glo "first_stranger",
  .glo "is_limit",
  .glo "is_cut",
  .glo "is_arrow",
  .glo "begin_place",
  .glo "first_stand",
  .glo "keeps_limit",
  .glo "has_runs",
  .glo "passes",
  .glo "gone",
  .glo "stand_behind",
  .glo "is_step",
  .glo "is_rising",
  .glo "as_steps",
  .glo "is_run",
  .glo "checked_run",
  .glo "ended",
  .glo "worths",
  .glo "heard",
  .glo "_law_cell",
  .glo "_law_pool",
  .glo "_law_take",
  .glo "_law_one",
  .glo "_law_mixed",
  .glo "_law_same",
  .glo "_law_lowest",
  .glo "_law_less",
  .glo "_law_minus",
  .glo "_law_plus",
  .glo "_law_keeps",
  .glo "_law_cut",
  .glo "_law_arrow",
  .glo "_law_limits",
  .glo "_law_watcher",
  .glo "_law_made",
  .glo "_law_held",
  .glo "_law_begin",
  .glo "_law_step",
  .glo "_law_walked",
  .glo "_law_drawn_run",
  .glo "_law_wide",
  .glo "_law_bent",
  .glo "_law_odd_runs",
  .glo "_law_met",
  .glo "_law_right",
  .free "isinstance",
  .free "len",
  .free "all",
  .free "any",
  .free "abs",
  .free "sum",
  .free "range",
  .free "enumerate",
  .free "zip",
  .free "repr",
  .free "int",
  .free "bool",
  .free "str",
  .free "list",
  .free "tuple",
  .free "dict",
  .glo "Watcher",
  .glo "Stand",
  .glo "BadRun",
  .glo "ZERO",
  .glo "UPPERS",
  .glo "LOWERS",
  .cls "Watcher",
  .cls "Stand",
  .noat "Watcher" "hands",
  .noat "Watcher" "held",
  .noat "Watcher" "tracks",
  .noat "Watcher" "last_ones",
  .noat "Stand" "spot",
  .noat "Stand" "begins",
  .mkr "Watcher",
  .mkr "Stand",
  .meth "Stand" "worths_at",
  .noat "BadRun" "thing",
  .exm "BadRun" "BadRun" true,
  .str "SIGNS" SGN,
  .glo "law"]
def tfL : List He.Defn := [("_law_right", none), ("law", none)]
def plainTup (K : PySem.W.Frag) (a : Addr) : Bool := match K.lookup a with
  | some ⟨.type c, none, _, _⟩ => decide (c = "tuple")
  | _ => false
def clsObjB (K : PySem.W.Frag) (C : Addr) (pr : List Value → Bool → String → Bool) : Bool := match K.lookup C with
  | some ⟨.type t, _, .cls cd, sl⟩ => decide (t = "type") && (!cd.hasDel && (match cd.mro, sl.toList with
    | .ref c :: bm, [_, _, _, _, some (.builtin nid), _] => decide (c = C) && pr bm cd.hasDict nid
    | _, _ => false))
  | _ => false
def insB (K : PySem.W.Frag) (C : Addr) : Bool := He.eqO (PySem.W.findIn K (.ref C) "__class__") (some (some (.builtin "object.__class__"))) && (He.eqO (PySem.W.specialIn K (.builtin "object.__class__") "__get__") (some (some (.builtin "getset_descriptor.__get__"))) &&
  (decide (PySem.W.takesIn K (.builtin "object.__class__") = some true) && decide (PySem.W.mroIn K C (.type "object") = some true)))
def eqMB (K : PySem.W.Frag) (C : Addr) : Bool := He.eqO (PySem.W.findIn K (.ref C) "__eq__") (some (some (.ref (He.ma K C "__eq__")))) && (He.eqO (PySem.W.findIn K (.ref C) "__ne__") (some (some (.builtin "object.__ne__"))) && PySem.W.isFn K (.ref (He.ma K C "__eq__")))
def oexB (K : PySem.W.Frag) (C : Addr) : Bool := clsObjB K C (fun bm hd nid => PySem.HandSPX.refsVE bm && (hd && decide (nid = "ValueError.__new__"))) && (He.eqO (PySem.W.findIn K (.ref C) "__setattr__") (some (some (.builtin "object.__setattr__"))) &&
  (decide (PySem.W.subIn K (.ref C) (.type "BaseException") = some true) && (decide (PySem.W.typeIn K (.ref C) = some (.type "type")) && PySem.W.keepIn K (.ref C))))
def iniB (K : PySem.W.Frag) (C : Addr) : Bool := He.eqO (PySem.W.findIn K (.ref C) "__init__") (some (some (.ref (He.ma K C "__init__")))) && decide (PySem.W.typeIn K (.ref (He.ma K C "__init__")) = some (.type "function"))
def exB (K : PySem.W.Frag) : Bool := He.tupB K "ZERO" [.int 0, .int 1] && (He.tupB K "UPPERS" [.str "below", .str "upto"] && (He.tupB K "LOWERS" [.str "from", .str "above"] && (plainTup K (He.ga K "UPPERS") && (eqMB K (He.ga K "Watcher") &&
  (clsObjB K (He.ga K "Watcher") (fun bm _ _ => bm.contains (.type "object")) && (decide (PySem.W.kitOne K (.ref (He.ga K "Watcher")) (.ref (He.ga K "Watcher")) = some true) && (insB K (He.ga K "Watcher") && (oexB K (He.ga K "BadRun") &&
  (xfB K (He.ga K "BadRun") && (iniB K (He.ga K "BadRun") && decide ((He.cT K ("_law_right", none)).2 ≠ (He.cT K ("law", none)).2)))))))))))

/-! ### where the head looks: by levels, from the module's names -/
def nearO (o : Obj) : List Addr := match o.data with
  | .dict es _ => es.toList.flatMap fun e => He.refV e.val
  | .func fd => He.refV fd.code
  | .cls cd => cd.ns :: cd.mro.flatMap He.refV
  | _ => []
def levY (g : Addr → Option Obj) : Nat → List Addr → List Addr
  | 0, as => as
  | n + 1, as => as ++ levY g n (as.flatMap fun a => match g a with
    | some o => nearO o
    | none => [])
def kY (g : Addr → Option Obj) : PySem.W.Frag := He.frT g (levY g 4 [mainGlobals])
def seeY (fa : List He.Fa) (fn : List He.DefD) (tf : List He.Defn) (ex : PySem.W.Frag → Bool) (g : Addr → Option Obj) : He.AlD × Bool := (He.obsD fa fn (kY g), ex (kY g) && He.tabsB g tf (kY g))
/-- what the head says -/
structure SaysY (fa : List He.Fa) (fn : List He.DefD) (tf : List He.Defn) (ex : PySem.W.Frag → Bool) (h : Heap) (K : PySem.W.Frag) : Prop where
  d : He.SaysD fa fn K
  more : ex K = true
  hd : ∀ p ∈ tf, PySem.W.codeHdIn K (He.cT K p).1 (He.cT K p).2 = true
  out : ∀ p ∈ tf, K.lookup (He.cT K p).2 = none
  empty : ∀ p ∈ tf, h.get? (He.cT K p).2 = some { cls := .none, data := .fields #[] }
theorem saysY_of {fa : List He.Fa} {fn : List He.DefD} {tf : List He.Defn} {ex : PySem.W.Frag → Bool} {h : Heap} (e : seeY fa fn tf ex h.get? = (He.valD fn, true)) : SaysY fa fn tf ex h (kY h.get?) := by
  obtain ⟨e1, e2⟩ := Prod.mk.inj e
  obtain ⟨x1, x2⟩ := He.ba e2
  have tab : ∀ p ∈ tf, PySem.W.codeHdIn (kY h.get?) (He.cT (kY h.get?) p).1 (He.cT (kY h.get?) p).2 = true ∧ ∃ o, h.get? (He.cT (kY h.get?) p).2 = some o ∧ He.emptyTab o = true := fun p hp => by
    obtain ⟨y1, y2⟩ := He.ba (List.all_eq_true.mp x2 p hp)
    refine ⟨y1, ?_⟩
    split at y2
    · rename_i o q
      exact ⟨o, q, y2⟩
    · cases y2
  refine ⟨e1, x1, fun p hp => (tab p hp).1, fun p hp => ?_, fun p hp => ?_⟩
  · obtain ⟨_, o, q, z⟩ := tab p hp
    exact He.frT_none q z
  · obtain ⟨_, o, q, z⟩ := tab p hp
    rw [q, He.emptyTab_eq z]
def hookY (fa : List He.Fa) (fn : List He.DefD) (tf : List He.Defn) (ex : PySem.W.Frag → Bool) : PySem.W.Hook where
  α := He.AlD × Bool
  obs := fun s => seeY fa fn tf ex s.heap.get?
  val := fun _ => (He.valD fn, true)
  says := fun _ h => ∃ K : PySem.W.Frag, K.In h ∧ SaysY fa fn tf ex h K
  of := fun _ _ e => ⟨_, He.frT_in, saysY_of e⟩
  keeps := fun _ _ _ ⟨K, hK, c⟩ k => ⟨K, PySem.W.Frag.In.keeps hK k, ⟨c.d, c.more, c.hd, c.out, fun p hp => k _ _ (c.empty p hp)⟩⟩
theorem seeY_eq {fa : List He.Fa} {fn : List He.DefD} {tf : List He.Defn} {ex : PySem.W.Frag → Bool} {g : Addr → Option Obj} {s : Shared} (h : ∀ a, g a = s.heap.get? a) : seeY fa fn tf ex g = (hookY fa fn tf ex).obs s := by
  have e : g = s.heap.get? := funext h
  rw [e] <;> rfl

end K25

/-! ## H2 -/
set_option Elab.async false
set_option linter.all false
set_option maxRecDepth 100000
set_option maxHeartbeats 0
/-! H2: the run of the top, looked at (printed by mkH2.py). -/
namespace K25H
open PySem PySem.W PySem.Calls PyProof.Rows
abbrev R : OpenRow := OpenLaw.row PySem.Challenge.rw_rowsintime_k25_whole_runs_looked_at
abbrev qv : Program := view R.prog [86]
def names0 : List PySem.Str := ["_wall", "SIGNS", "is_integer", "is_natural", "is_list", "is_name", "is_pair", "as_tuples", "first_bad_name", "is_of", "ZERO", "greatest_divisor", "lowest", "whole", "is_frac", "is_time", "frac_of", "minus", "is_less", "is_upto", "UPPERS", "LOWERS", "is_upper", "code_of", "keeps", "frac_keeps", "ClockError", "BadClocks", "BadPlace", "BadArrow"]
def names1 : List PySem.Str := ["BadEnd", "BadRun", "first_stranger", "is_limit", "is_cut", "is_arrow", "Watcher", "begin_place", "Stand", "first_stand", "keeps_limit", "has_runs", "passes", "gone", "stand_behind", "is_step", "is_rising", "as_steps", "is_run", "checked_run", "ended", "worths", "heard", "_law_cell", "_law_pool", "_law_take", "_law_one", "_law_mixed", "_law_same", "_law_lowest"]
def names2 : List PySem.Str := ["_law_less", "_law_minus", "_law_plus", "_law_keeps", "_law_cut", "_law_arrow", "_law_limits", "_law_watcher", "_law_made", "_law_held", "_law_begin", "_law_step", "_law_walked", "_law_drawn_run", "_law_wide", "_law_bent", "_law_odd_runs", "_law_met", "_law_right"]
def names : List PySem.Str := names0 ++ (names1 ++ (names2))
abbrev hk : Hook := K25.hookY K25.faL K25.fnL K25.tfL K25.exB
def ob (s : SharedT) : He.AlD × Bool := K25.seeY K25.faL K25.fnL K25.tfL K25.exB (HandSHeadRun.getT s)
theorem ob_eq (s : SharedT) : ob s = hk.obs s.abs := K25.seeY_eq (HandSHeadRun.getT_eq s)
theorem run (w : World) : HandSHeadRun.RunEq R qv hk ob 6000 names w := by
  intro os
  kernel_rfl
end K25H

/-! ## K2 -/
set_option Elab.async false
set_option linter.all false
set_option maxRecDepth 100000
set_option maxHeartbeats 4000000
/-! K2: how heaps grow: G what stands still, H the heap, M what may be written. -/
namespace K25
open PySem L2
abbrev M0 : Addr → Prop := fun _ => False
structure Nx (M : Addr → Prop) (G H G' H' : Hp) : Prop where
  g : Same G G'
  w : Same G' H'
  h : ∀ a o, ¬ M a → H a = some o → H' a = some o
  t : ∀ a, H a ≠ none → H' a ≠ none
  own : ∀ a, G a = none → H a ≠ none → G' a = none
section
variable {M M2 : Addr → Prop} {G H G1 H1 G2 H2 H' : Hp} {p : Addr} {o : HO}
theorem _root_.L2.Same.new (w : Same G H) (hp : H p = none) : Same G (upd H p o) := fun a u e => by
  rw [upd_ne (ne_of_none (w _ _ e) hp)]
  exact w _ _ e
theorem _root_.L2.Same.new0 (hp : H p = none) : Same H (upd H p o) := Same.new (Same.refl _) hp
/-- an object that G does not know is written -/
theorem _root_.L2.Same.mut (w : Same G H) (hp : G p = none) : Same G (upd H p o) := fun a u e => by
  rw [upd_ne (ne_of_none e hp)]
  exact w _ _ e
theorem _root_.L2.Same.both (w : Same G H) : Same (upd G p o) (upd H p o) := fun a u e => by
  by_cases h : a = p
  · subst h
    rw [upd_same] at e ⊢
    exact e
  · rw [upd_ne h] at e ⊢
    exact w _ _ e
theorem _root_.L2.Same.at (w : Same G H) (hp : H p = some o) : Same (upd G p o) H := fun a u e => by
  by_cases h : a = p
  · subst h
    rw [upd_same] at e
    rw [hp]
    exact e
  · rw [upd_ne h] at e
    exact w _ _ e
theorem _root_.L2.Same.noneG (w : Same G H) (hp : H p = none) : G p = none := w.free hp
theorem Nx.refl (w : Same G H) : Nx M G H G H := ⟨Same.refl _, w, fun _ _ _ e => e, fun _ e => e, fun _ e _ => e⟩
theorem Nx.trans' (a : Nx M G H G1 H1) (b : Nx M2 G1 H1 G2 H2) (hM : ∀ a, M2 a → M a ∨ H a = none) : Nx M G H G2 H2 :=
  ⟨a.g.trans b.g, b.w, fun x o m e => b.h x o (fun z => by
      rcases hM x z with q | q
      · exact m q
      · rw [q] at e; cases e) (a.h x o m e), fun x e => b.t x (a.t x e), fun x e f => b.own x (a.own x e f) (a.t x f)⟩
theorem Nx.trans (a : Nx M G H G1 H1) (b : Nx M G1 H1 G2 H2) : Nx M G H G2 H2 := a.trans' b fun _ z => .inl z
theorem Nx.trans0 (a : Nx M G H G1 H1) (b : Nx M0 G1 H1 G2 H2) : Nx M G H G2 H2 := a.trans' b fun _ z => z.elim
theorem Nx.same (a : Nx M0 G H G1 H1) : Same H H1 := fun x o e => a.h x o (fun z => z) e
/-- a new thing that stands still from now on -/
theorem Nx.new (w : Same G H) (hp : H p = none) : Nx M G H (upd G p o) (upd H p o) :=
  ⟨Same.new0 (w.free hp), w.both, fun a u _ e => by rw [upd_ne (ne_of_none e hp)]; exact e, fun a e => by
    by_cases h : a = p
    · subst h; exact (e hp).elim
    · rw [upd_ne h]; exact e, fun a e f => by
    by_cases h : a = p
    · subst h; exact (f hp).elim
    · rw [upd_ne h]; exact e⟩
/-- a new thing that is to be written -/
theorem Nx.newM (w : Same G H) (hp : H p = none) : Nx M G H G (upd H p o) :=
  ⟨Same.refl _, w.new hp, fun a u _ e => by rw [upd_ne (ne_of_none e hp)]; exact e, fun a e => by
    by_cases h : a = p
    · subst h; exact (e hp).elim
    · rw [upd_ne h]; exact e, fun a e _ => e⟩
theorem Nx.grow (w : Same G H) (e : Same H H') : Nx M G H G H' :=
  ⟨Same.refl _, w.trans e, fun _ _ _ q => e _ _ q, fun a q => by
    cases h : H a with
    | none => exact (q h).elim
    | some o => rw [e _ _ h]; simp, fun _ q _ => q⟩
theorem Nx.growG (n : Nx M G H G1 H1) (e : Same H1 H2) : Nx M G H G1 H2 := n.trans (Nx.grow n.w e)
/-- what is let to be written is written -/
theorem Nx.wr (w : Same G H) (hM : M p) (hG : G p = none) : Nx M G H G (upd H p o) :=
  ⟨Same.refl _, w.mut hG, fun a u m e => by rw [upd_ne (fun z => m (by rw [z]; exact hM))]; exact e, fun a e => by
    by_cases h : a = p
    · subst h; rw [upd_same]; simp
    · rw [upd_ne h]; exact e, fun _ q _ => q⟩
/-- a thing of one's own is written -/
theorem Nx.wrL (n : Nx M G H G1 H1) (hp : H p = none) (hG : G1 p = none) : Nx M G H G1 (upd H1 p o) :=
  ⟨n.g, n.w.mut hG, fun a u m e => by rw [upd_ne (ne_of_none e hp)]; exact n.h a u m e, fun a e => by
    by_cases h : a = p
    · subst h; exact (e hp).elim
    · rw [upd_ne h]; exact n.t a e, n.own⟩
/-- a thing of one's own stands still from now on -/
theorem Nx.still (n : Nx M G H G1 H1) (hp : H p = none) (h1 : H1 p = some o) (w : Same G H) : Nx M G H (upd G1 p o) H1 :=
  ⟨fun a u e => by rw [upd_ne (ne_of_none (w _ _ e) hp)]; exact n.g _ _ e, n.w.at h1, n.h, n.t, fun a e f => by
    by_cases h : a = p
    · subst h; exact (f hp).elim
    · rw [upd_ne h]; exact n.own a e f⟩
/-- a new thing q; but for what may be written all else as it was -/
theorem Nx.fresh (w : Same G H) (hq : H p = none) (hq' : H' p = some o) (k : ∀ a u, ¬ M a → H a = some u → H' a = some u) (t : ∀ a, M a → H' a ≠ none) (gM : ∀ a, M a → G a = none) : Nx M G H (upd G p o) H' :=
  ⟨Same.new0 (w.free hq), fun a u e => by
    by_cases h : a = p
    · subst h; rw [upd_same] at e; rw [hq']; exact e
    · rw [upd_ne h] at e
      exact k a u (fun z => by rw [gM a z] at e; cases e) (w _ _ e), k, fun a e => by
    by_cases h : M a
    · exact t a h
    · cases q : H a with
      | none => exact (e q).elim
      | some u => rw [k a u h q]; simp, fun a e f => by
    by_cases h : a = p
    · subst h; exact (f hq).elim
    · rw [upd_ne h]; exact e⟩
end
/-! ### comprehensions and loops -/
section
variable {J : It} {n : Nat} {Gd : Hp → Prop} {Y : Nat → Hp → V → Hp → Prop} {g : TG} {te : TE} {vs : List Nat} {σ : St} {H1 : Hp} {D : Addr} {Qd : Hp → Prop}
/-- [b for ..]: a list of truths; the turn only makes things -/
theorem lc_bools (w : Walk J n Gd Y) (b : Nat → Bool) (hD : H1 D = none) (hn : n ≤ 1000) (hG : ∀ H, Same H1 H → Gd H) (hY : ∀ i H x H', Y i H x H' → Same H H')
    (hs : ∀ i x H H' (Qc : VK), i < n → Same H1 H → Y i H x H' → (∀ H5, Same H' H5 → Qc (.bl (b i)) H5) → g x (wipe σ vs) H' fun σ2 H2 => wipe σ2 vs = wipe σ vs ∧ te σ2 H2 Qc)
    (hd : ∀ H, Same H1 H → H D = some (.lst (((List.range n).map b).map V.bl)) → Qd H) :
    ∃ W : Nat → Nat → Hp → Prop, (∃ m, W 0 m (upd H1 D (.lst []))) ∧ ∀ i m H, W i m H →
      (J.stop i H ∧ Qd H) ∨ (J.go i H ∧ ∃ Nx : Hp → Prop, (∀ H', Nx H' → ∃ m', m' < m ∧ W (i + 1) m' H') ∧ ∀ x H', J.yld i H x H' → g x (wipe σ vs) H' fun σ2 H2 => wipe σ2 vs = wipe σ vs ∧ tYes σ2 H2 fun b H3 =>
        if b = true then te σ2 H3 fun y H4 => ∃ acc, H4 D = some (.lst acc) ∧ acc.length < sizeLine ∧ Nx (upd H4 D (.lst (acc ++ [y]))) else Nx H3) := by
  refine lc_it w (fun i H => Same H1 H ∧ H D = some (.lst (((List.range i).map b).map V.bl))) ⟨Same.new0 hD, upd_same⟩ (fun i H _ p => hG H p.1) (fun i x H H' hi p y => ?_) (fun H p => hd H p.1 p.2)
  have q := hs i x H H' (fun y H4 => ∃ acc, H4 D = some (.lst acc) ∧ acc.length < sizeLine ∧ (fun i H => Same H1 H ∧ H D = some (.lst (((List.range i).map b).map V.bl))) (i + 1) (upd H4 D (.lst (acc ++ [y])))) hi p.1 y fun H5 e => by
    have eD := e _ _ (hY i H x H' y _ _ p.2)
    refine ⟨_, eD, ?_, ((p.1.trans (hY i H x H' y)).trans e).mut hD, ?_⟩
    · simp
      exact Nat.lt_of_lt_of_le (Nat.lt_of_lt_of_le hi hn) (by decide)
    · rw [upd_same, List.range_succ, List.map_append, List.map_append]
      rfl
  exact q
/-- a list made of things that the turns make or draw; I speaks of what is made, of what stands still, of the heap -/
theorem lc_map (w : Walk J n Gd Y) (M : Addr → Prop) {G : Hp} (I : Nat → List V → Hp → Hp → Prop) (wS : Same G H1) (hD : H1 D = none) (hn : n ≤ 100000) (hMD : ¬ M D) (h0 : I 0 [] G (upd H1 D (.lst [])))
    (hG : ∀ i acc G' H, Nx M G H1 G' H → I i acc G' H → Gd H)
    (hs : ∀ i acc G' H x H' (Qc : VK), i < n → acc.length = i → Nx M G H1 G' H → H D = some (.lst acc) → G' D = none → I i acc G' H → Y i H x H' →
      (∀ y G5 H5, Nx M G' H G5 H5 → I (i + 1) (acc ++ [y]) G5 (upd H5 D (.lst (acc ++ [y]))) → Qc y H5) → g x (wipe σ vs) H' fun σ2 H2 => wipe σ2 vs = wipe σ vs ∧ te σ2 H2 Qc)
    (hd : ∀ acc G' H, Nx M G H1 (upd G' D (.lst acc)) H → acc.length = n → Same G' (upd G' D (.lst acc)) → H D = some (.lst acc) → I n acc G' H → Qd H) :
    ∃ W : Nat → Nat → Hp → Prop, (∃ m, W 0 m (upd H1 D (.lst []))) ∧ ∀ i m H, W i m H →
      (J.stop i H ∧ Qd H) ∨ (J.go i H ∧ ∃ Nx : Hp → Prop, (∀ H', Nx H' → ∃ m', m' < m ∧ W (i + 1) m' H') ∧ ∀ x H', J.yld i H x H' → g x (wipe σ vs) H' fun σ2 H2 => wipe σ2 vs = wipe σ vs ∧ tYes σ2 H2 fun b H3 =>
        if b = true then te σ2 H3 fun y H4 => ∃ acc, H4 D = some (.lst acc) ∧ acc.length < sizeLine ∧ Nx (upd H4 D (.lst (acc ++ [y]))) else Nx H3) := by
  refine lc_it w (fun i H => ∃ acc G', Nx M G H1 G' H ∧ G' D = none ∧ H D = some (.lst acc) ∧ acc.length = i ∧ I i acc G' H) ⟨[], G, Nx.newM wS hD, wS.free hD, upd_same, rfl, h0⟩
    (fun i H _ ⟨acc, G', n1, _, _, _, q⟩ => hG i acc G' H n1 q) (fun i x H H' hi ⟨acc, G', n1, gD, eD, la, q⟩ y => ?_) (fun H ⟨acc, G', n1, gD, eD, la, q⟩ => hd acc G' H (n1.still hD eD wS) la (Same.new0 gD) eD q)
  refine hs i acc G' H x H' _ hi la n1 eD gD q y fun y G5 H5 n5 q5 => ?_
  have e5 := n5.h D _ hMD eD
  have g5 := n5.own D gD (by rw [eD]; simp)
  refine ⟨acc, e5, ?_, acc ++ [y], G5, (n1.trans n5).wrL hD g5, g5, upd_same, by simp [la], q5⟩
  exact Nat.lt_of_lt_of_le (by omega : acc.length < 100000) (by decide)
end
section
variable {J : It} {n : Nat} {Gd : Hp → Prop} {Y : Nat → Hp → V → Hp → Prop} {g : TG} {tt : TT} {tk tv : TE} {vs : List Nat} {σ : St} {H1 : Hp} {D : Addr} {Qd : Hp → Prop}
/-- a dict comprehension over a walk -/
theorem dc_it (w : Walk J n Gd Y) (Pv : Nat → Hp → Prop) (h0 : Pv 0 (upd H1 D (.dK []))) (hG : ∀ i H, i ≤ n → Pv i H → Gd H)
    (hs : ∀ i x H H', i < n → Pv i H → Y i H x H' → g x (wipe σ vs) H' fun σ2 H2 => wipe σ2 vs = wipe σ vs ∧ tt σ2 H2 fun b H3 =>
      if b = true then tk σ2 H3 fun y H4 => tv σ2 H4 fun z H5 => ∃ kvs k, y = kV k ∧ H5 D = some (.dK kvs) ∧ kvs.length < sizeLine ∧ Pv (i + 1) (upd H5 D (.dK (putK kvs k z))) else Pv (i + 1) H3) (hd : ∀ H, Pv n H → Qd H) :
    ∃ W : Nat → Nat → Hp → Prop, (∃ m, W 0 m (upd H1 D (.dK []))) ∧ ∀ i m H, W i m H →
      (J.stop i H ∧ Qd H) ∨ (J.go i H ∧ ∃ Nx : Hp → Prop, (∀ H', Nx H' → ∃ m', m' < m ∧ W (i + 1) m' H') ∧ ∀ x H', J.yld i H x H' → g x (wipe σ vs) H' fun σ2 H2 => wipe σ2 vs = wipe σ vs ∧ tt σ2 H2 fun b H3 =>
        if b = true then tk σ2 H3 fun y H4 => tv σ2 H4 fun z H5 => ∃ kvs k, y = kV k ∧ H5 D = some (.dK kvs) ∧ kvs.length < sizeLine ∧ Nx (upd H5 D (.dK (putK kvs k z))) else Nx H3) := by
  refine ⟨fun i m H => m = n - i ∧ i ≤ n ∧ Pv i H, ⟨n, by simp, Nat.zero_le _, h0⟩, ?_⟩
  rintro i m H ⟨rfl, hi, p⟩
  have q := hG i H hi p
  by_cases hlt : i < n
  · exact .inr ⟨w.goes i H hlt q, Pv (i + 1), fun H' p' => ⟨n - (i + 1), by omega, rfl, hlt, p'⟩, fun x H' y => hs i x H H' hlt p (w.yields i H x H' hlt q y)⟩
  · have e : i = n := by omega
    subst e
    exact .inl ⟨w.stops H q, hd H p⟩
end
theorem sz {n : Nat} (h : n ≤ 100000) : n ≤ sizeLine := Nat.le_trans h (by decide)
theorem szl {n : Nat} (h : n < 100000) : n < sizeLine := Nat.lt_of_lt_of_le h (by decide)
theorem YAt.same {xs : List V} {i : Nat} {H H' : Hp} {x : V} (h : YAt xs i H x H') : Same H H' := by
  obtain ⟨rfl, _⟩ := h
  exact Same.refl _
theorem YPair.same {xs ys : Nat → Option V} {i : Nat} {H H' : Hp} {x : V} (h : YPair xs ys i H x H') : Same H H' := by
  obtain ⟨T, _, _, _, h2, rfl, _⟩ := h
  exact Same.new0 h2
/-- a list or a tuple at a place -/
def rSq (K : PySem.W.Frag) : R2 := fun x y H Q => ∃ p xs i v, x = .ref p ∧ y = .int i ∧ (SqL K H p xs ∨ SqT K H p xs) ∧ atI xs i = some v ∧ Q v H
theorem ix_sq {X : Cx} : IxR X (rSq X.K) := by
  intro value slice pins s σ H x y v u Q I rx ry h e
  obtain ⟨p, xs, i, z, h1, h2, h3 | h3, h4, h5⟩ := h
  · exact ix_list value slice pins s σ H x y v u Q I rx ry ⟨p, xs, i, z, h1, h2, h3, h4, h5⟩ e
  · exact ix_tup value slice pins s σ H x y v u Q I rx ry ⟨p, xs, i, z, h1, h2, h3, h4, h5⟩ e
theorem kany2 {K : PySem.W.Frag} {a S T : String} {b c : Bool} (k : kitB a S = some b) (k' : kitB a T = some c) : PySem.W.kitAny K (.type a) [.type S, .type T] = some (b || c) := by
  cases b with
  | true => exact kitAny_cons (kit_ty k) (fun z => by cases z) (fun _ => rfl)
  | false => exact kitAny_cons (kit_ty k) (fun _ => kitAny_cons (kit_ty k') (fun z => by rw [z]; exact kitAny_nil) (fun z => by rw [z]; rfl)) (fun z => by cases z)
/-- a if c else b, as a test -/
theorem pt_ifExp {X : Cx} {c a b : Expr} {tA ta tb : TT} {pos : Pos} (hc : PT X c tA) (ha : PT X a ta) (hb : PT X b tb) : PT X (.IfExp c a b pos) (fun σ H Q => tA σ H fun k H1 => if k = true then ta σ H1 Q else tb σ H1 Q) := by
  refine ⟨fun pins s σ H Q I h => ?_⟩
  refine PyProof.Rows.isTrue_IfExp (thn (hc.run pins s σ H _ I h) fun d s1 ⟨H1, I1, q1⟩ => ?_)
  cases d with
  | true => exact ha.run pins s1 σ H1 Q I1 q1
  | false => exact hb.run pins s1 σ H1 Q I1 q1
end K25

/-! ## K2b -/
set_option Elab.async false
set_option linter.all false
set_option maxRecDepth 100000
set_option maxHeartbeats 4000000
/-! K2b: == of dicts of dicts of data; == of a list and an empty one; != by an own ==. -/
namespace K25
open PySem L2 PySem.Spec
/-- data, or dicts (n deep) of the same keys over such -/
def EqN (K : PySem.W.Frag) (H : Hp) : Nat → V → V → Prop
  | 0 => fun x y => ∃ d : PyData, Dp K H x d ∧ Dp K H y d ∧ SeqAt.shaped d = true
  | n + 1 => fun x y => ∃ a b ks ls, x = .ref a ∧ y = .ref b ∧ H a = some (.dK ks) ∧ H b = some (.dK ls) ∧ ks.length = ls.length ∧ ∀ p ∈ ks, ∃ u, valV ls p.1 = some u ∧ EqN K H n p.2 u
section
variable {X : Cx} {pins : List (Addr × Obj)} {σ : St} {H : Hp} {s : Shared}
theorem eqN_rc (I : Inv X pins σ H s) : ∀ (n : Nat) (A : Around), A.units + n + 70 < cLine → ∀ (x y : V) (v u : Value), EqN X.K H (n + 1) x y → RelV x v → RelV y u → ∀ (E Q : Value → Shared → Prop), Q (.bool true) s → wpAny (model X.prog X.w) A (richCompare .Eq v u) Q E s := by
  have base : ∀ (A : Around), A.units + 66 < cLine → ∀ (x y : V) (v u : Value), EqN X.K H 0 x y → RelV x v → RelV y u → SeqAt.EqP X.prog X.w A s v u true := by
    intro A hu x y v u ⟨d, h1, h2, sd⟩ rx ry E Q q
    obtain ⟨as, r1⟩ := Dp.reads I d x v h1 rx
    obtain ⟨bs, r2⟩ := Dp.reads I d y u h2 ry
    have cd : d.canLay0 = true := (Bool.and_eq_true_iff.mp sd).1
    have dd : d.depth ≤ 64 := of_decide_eq_true (Bool.and_eq_true_iff.mp sd).2
    have e := SeqAt.eqAt_reads d d A s v u as bs r1 r2 cd cd (by omega)
    rw [SeqAt.eqv_refl d cd] at e
    exact e.eqP E Q q
  have dic : ∀ (n : Nat) (A : Around), A.units < cLine → (∀ x y v u, EqN X.K H n x y → RelV x v → RelV y u → SeqAt.EqP X.prog X.w A.in1 s v u true) → ∀ (x y : V) (v u : Value), EqN X.K H (n + 1) x y → RelV x v → RelV y u → ∀ (E Q : Value → Shared → Prop), Q (.bool true) s → wpAny (model X.prog X.w) A (richCompare .Eq v u) Q E s := by
    intro n A hu ih x y v u h rx ry E Q q
    obtain ⟨a, b, ks, ls, rfl, rfl, ha, hb, hl, hp⟩ := h
    exact eqR_run I hu ih (.inr ⟨a, b, ks, ls, rfl, rfl, ha, hb, hl, hp⟩) rx ry E Q q
  intro n
  induction n with
  | zero => exact fun A hu => dic 0 A (by omega) (base A.in1 (by show A.units + 1 + 66 < cLine; omega))
  | succ n ih =>
    intro A hu
    refine dic (n + 1) A (by omega) fun x y v u h rx ry => ?_
    have step := ih A.in1 (by show A.units + 1 + n + 70 < cLine; omega) x y v u h rx ry
    obtain ⟨a, b, ks, ls, rfl, rfl, ha, hb, hl, hp⟩ := h
    cases rx
    cases ry
    by_cases e : a = b
    · subst e
      exact (SeqAt.EqAt.same _).eqP
    · exact SeqAt.eqP_refs e step
end
/-- two dicts of equal things -/
def rEqN (K : PySem.W.Frag) : R2 := fun x y H Q => ∃ n, n ≤ 8 ∧ EqN K H (n + 1) x y ∧ Q (.bl true) H
theorem op_eqN {X : Cx} {k : Nat} (hr : Room k X.A) : OpR X (compareOp .Eq) (rEqN X.K) := by
  intro pins s σ H x y v u Q I rx ry h
  obtain ⟨n, hn, h, q⟩ := h
  have hu := hr.un
  show wpAny (model X.prog X.w) X.A (richCompare .Eq v u) (EP X pins σ Q) X.xe s
  exact eqN_rc I n X.A (by omega) x y v u h rx ry _ _ ⟨.bl true, H, I, rfl, q⟩
end K25

/-! ## K2c -/
set_option Elab.async false
set_option linter.all false
set_option maxRecDepth 100000
set_option maxHeartbeats 4000000
/-! K2c: != by an own ==. -/
namespace K25
open PySem PySem.W PySem.Calls PyProof.Rows Builtin
section
variable {prog : Program} {w : World} {A : Around} {E : Value → Shared → Prop} {s : Shared} {K : Frag} {x y C f : Addr} {ox : Obj} {od : Option Obj}
/-- object.__ne__ of an instance, bound and called -/
theorem ne_bound {M : Model} {args : List Value} {Q : Option Value → Shared → Prop} (X : K.In s.heap) (I : InstAt s.heap x ox C od) (hs : findIn K (.ref C) "__ne__" = some (some (.builtin "object.__ne__")))
    (h : wpAny M A (call (.builtin "object.__ne__") (.ref x :: args)) (fun v => Q (some v)) E s) : wpAny M A (callSpecialIfBound? (.ref x) "__ne__" args) Q E s := by
  simp only [callSpecialIfBound?, bindSpecialIfBound?]
  refine wpAny_holding (wpAny_bind (wpAny_bind (wpAny_bind (I.type.here ((looks_findIn X hs).here ?_)))))
  refine wpAny_bind (wpAny_askSetting (wpAny_ite ?_))
  have fin : wpAny M A (call (.builtin "object.__ne__") ([.ref x] ++ args) >>= fun v => pure (some v)) Q E s := wpAny_bind (wpAny_mono h (fun v s' h' => wpAny_pure h') fun _ _ h' => h')
  have hb := F.cmp_object.ne.bind (.ref x)
  split
  · refine wpAny_bind ?_
    rw [hb]
    exact wpAny_pure (wpAny_pure (by exact fin))
  · refine wpAny_tryCatch (wpAny_bind ?_)
    rw [hb]
    exact wpAny_pure (wpAny_pure (by exact fin))
/-- its body: the own == asked, and turned -/
theorem ne_entry {Q : Fin → Shared → Prop} (X : K.In s.heap) (I : InstAt s.heap x ox C od) (hu : A.units < cLine) (hs : findIn K (.ref C) "__eq__" = some (some (.ref f))) (hf : isFn K (.ref f) = true)
    (hcall : wpAny (model prog w) A (call (.ref f) [.ref x, .ref y]) (fun v s' => ∃ b, v = .bool b ∧ Q (.done (.ret (.bool (!b)))) s') E s) :
    wpAny (model prog w) A (Builtin.«object.__ne__» ⟨[.ref x, .ref y], []⟩) Q E s := by
  unfold Builtin.«object.__ne__»
  repeat (first
    | with_reducible refine wpAny_cRoomFor hu ?_
    | (refine wpAny_bind (m := callSpecialIfBound? (.ref x) (Str.ofString "__eq__") [.ref y])
        (ifBound_K X I hs hf (wpAny_mono hcall (fun r s' hr => by
          obtain ⟨b, rfl, hq⟩ := hr
          repeat (first | exact hq | exact wpAny_pure hq | exact wpAny_truthy_bool hq | (refine wpAny_bind (m := truthy (.bool _)) (wpAny_truthy_bool ?_)) | wp_step)) fun _ _ e => e)))
    | wp_step)
theorem ne_rich {nm q : Str} {N : Addr} {bs bm : List Value} {hdct : Bool} {sn : List Str} {sub : List Value} {ab : Bool} {col : Option Bool} {dd : Option Addr} {k0 k1 k2 k3 k5 : Option Value} {newId : String} {oy : Obj} {Q : Value → Shared → Prop}
    (X : K.In s.heap) (I : InstAt s.heap x ox C od) (hC : K.lookup C = some (excClassObj nm q C N bs bm hdct sn sub ab col dd k0 k1 k2 k3 k5 newId)) (hob : bm.contains (.type "object") = true)
    (hn : findIn K (.ref C) "__ne__" = some (some (.builtin "object.__ne__"))) (hs : findIn K (.ref C) "__eq__" = some (some (.ref f))) (hf : isFn K (.ref f) = true)
    (hy : s.heap.get? y = some oy) (hyc : oy.cls = .ref C) (hu : A.units + 1 < cLine)
    (hcall : wpAny (model prog w) A.in1 (call (.ref f) [.ref x, .ref y]) (fun v s' => ∃ b, v = .bool b ∧ Q (.bool (!b)) s') E s) :
    wpAny (model prog w) A (richCompare .NotEq (.ref x) (.ref y)) Q E s := by
  obtain ⟨hp, g, d, t, os⟩ := s
  have one : wpAny (model prog w) A (tryCompare (.ref x) "__ne__" (.ref y)) (fun r s' => ∃ v, r = some v ∧ Q v s') E ⟨hp, g, d, t, os⟩ := by
    unfold tryCompare
    refine wpAny_bind (ne_bound X I hn (wpAny_call (codeAny_call_builtin F.cmp_object.ne.plain F.cmpEntry_ne
      (wpAny_check_slot_inst F.cmpKind_ne F.cmpSplit_ne (F.cmpArgs_ne _ _) hob I.1 I.cls (X _ _ hC) (ne_entry (A := A.in1) X I (by show A.units + 1 < cLine; exact hu) hs hf (wpAny_mono hcall (fun v s' hv => ?_) fun _ _ e => e))))))
    obtain ⟨b, rfl, hq⟩ := hv
    exact ⟨b, rfl, wpAny_pure ⟨_, rfl, hq⟩⟩
  unfold richCompare
  simp only [oneThing_ref]
  refine wpAny_holding (wpAny_bind (wpAny_cRoomFor (Nat.lt_of_succ_lt hu) ?_))
  rw [cmpInfo_NotEq]
  dsimp only
  refine wpAny_bind (wpAny_typeOf_ref I.1 ?_)
  rw [I.cls]
  refine wpAny_bind (wpAny_typeOf_ref hy ?_)
  rw [hyc]
  rw [show (Value.ref C != Value.ref C) = false from by simp]
  simp only [Bool.false_eq_true, if_false]
  refine wpAny_bind (wpAny_pure ?_)
  simp only [Bool.false_eq_true, if_false]
  refine wpAny_bind (wpAny_mono one (fun r s' z => ?_) fun _ _ e => e)
  obtain ⟨v, rfl, hq⟩ := z
  exact wpAny_pure hq
end
open L2
/-- x != y, two instances of the class at C that its own == finds equal -/
def rNeI (C : Addr) (R : Addr → Addr → Hp → Prop) : R2 := fun x y H Q => ∃ a b dx dy fs gs, x = .ref a ∧ y = .ref b ∧ H a = some (.ins C dx fs) ∧ H b = some (.ins C dy gs) ∧ R a b H ∧ ∀ H', Same H H' → Q (.bl false) H'
def spEqI (R : Addr → Addr → Hp → Prop) : Sp := fun vs H Q _ => ∃ a b, vs = [.ref a, .ref b] ∧ R a b H ∧ ∀ H', Same H H' → Q (.bl true) H'
theorem op_neI {X : Cx} {k : Nat} {C : Addr} {q : Str} {st : Stmt} {ps : List Str} {R : Addr → Addr → Hp → Prop}
    (G : ∃ f fd, PySem.W.findIn X.K (.ref C) "__eq__" = some (some (.ref f)) ∧ PySem.W.findIn X.K (.ref C) "__ne__" = some (some (.builtin "object.__ne__")) ∧ PySem.W.isFn X.K (.ref f) = true ∧ Binds X.K fd ps [] ∧ FnOk X.prog X.w X.K X.mg X.base CX0 k f fd ps (spEqI R))
    (hC : ∃ nm q N bs bm hdct sn sub ab col dd k0 k1 k2 k3 k5 newId, X.K.lookup C = some (excClassObj nm q C N bs bm hdct sn sub ab col dd k0 k1 k2 k3 k5 newId) ∧ bm.contains (.type "object") = true) (hr : Room (k + 1) X.A) : OpR X (compareOp .NotEq) (rNeI C R) := by
  intro pins s σ H x y v u Q I rx ry h
  obtain ⟨a, b, dx, dy, fs, gs, rfl, rfl, ha, hb', hR, q⟩ := h
  cases rx
  cases ry
  obtain ⟨f, fd, hs, hn, hf, hb, F⟩ := G
  obtain ⟨nm, q', N, bs, bm, hdct, sn, sub, ab, col, dd, k0, k1, k2, k3, k5, newId, hC, hob⟩ := hC
  obtain ⟨mA, J, _⟩ := ins_get I.hok ha
  obtain ⟨mB, J', _⟩ := ins_get I.hok hb'
  obtain ⟨od, J, _⟩ := J.look
  obtain ⟨od', J', _⟩ := J'.look
  show wpAny (model X.prog X.w) X.A (richCompare .NotEq (.ref a) (.ref b)) (EP X pins σ Q) X.xe s
  have hu := hr.un
  refine ne_rich I.kIn J hC hob hn hs hf J'.1 J'.cls (by omega) ?_
  have hr1 : Room k X.A.in1 := Room.in1 hr
  have e0 : Env0 X.prog X.w X.K X.mg X.base X.A.in1 X.stack s H := I.env0.in1
  have hsp : spEqI R [.ref a, .ref b] H (fun v H' => v = .bl true ∧ Same H H') (fun _ _ _ => False) := ⟨a, b, rfl, hR, fun H' e => ⟨rfl, e⟩⟩
  have hl := F.len _ _ _ _ hsp
  have r2 : Vals [V.ref a, V.ref b] [Value.ref a, Value.ref b] := .cons rfl (.cons rfl .nil)
  refine wpAny_call (codeAny_mono (F.run X.A.in1 X.stack s H ⟨[.ref a, .ref b], []⟩ [.ref a, .ref b] [.ref a, .ref b] _ _ hr1 e0 (by
    have := hb s [.ref a, .ref b] I.kIn (by simpa using hl)
    simpa using this) r2 hsp) fun r s' hq => ?_)
  cases r with
  | error e => exact False.elim hq
  | ok fl =>
    cases fl with
    | ret w =>
      obtain ⟨z, H', I', rz, ez, ex⟩ := I.after hq
      subst ez
      cases rz
      exact ⟨true, rfl, .bl false, H', I', rfl, q H' ex⟩
    | next => exact False.elim hq
    | brk => exact False.elim hq
    | cont => exact False.elim hq
end K25

/-! ## K2d -/
set_option Elab.async false
set_option linter.all false
set_option maxRecDepth 100000
set_option maxHeartbeats 4000000
/-! K2d: a list held against an empty one. -/
namespace K25
open PySem L2
def rEqE (K : PySem.W.Frag) (neg : Bool) : R2 := fun x y H Q => ∃ a b xs, x = .ref a ∧ y = .ref b ∧ SqL K H a xs ∧ SqL K H b [] ∧ Q (.bl (if neg then !xs.isEmpty else xs.isEmpty)) H
theorem emp_arr {xs : List V} {its : List Value} (r : Vals xs its) : its.toArray.size = xs.length := by
  rw [List.size_toArray, r.length]
theorem op_eqE {X : Cx} {k : Nat} (hr : Room k X.A) : OpR X (compareOp .Eq) (rEqE X.K false) := by
  intro pins s σ H x y v u Q I rx ry h
  obtain ⟨a, b, xs, rfl, rfl, ha, hb, q⟩ := h
  cases rx
  cases ry
  obtain ⟨us, r1, p1, _⟩ := I.list ha
  obtain ⟨ws, r2, p2, _⟩ := I.list hb
  have hu := hr.units0
  have s1 := emp_arr r1
  have s2 := emp_arr r2
  cases xs with
  | nil =>
    refine SeqAt.eq_listAt (e := fun _ => true) p1.isList p2.isList (by rw [s1, s2]) hu (fun j h1 _ => by rw [s1] at h1; exact absurd h1 (Nat.not_lt_zero _)) ?_
    rw [s1]
    exact ⟨.bl _, H, I, rfl, q⟩
  | cons z zs => exact SeqAt.eq_list_lengthsAt p1.isList p2.isList (by rw [s1, s2]; simp) hu ⟨.bl _, H, I, rfl, q⟩
theorem op_neE {X : Cx} {k : Nat} (hr : Room k X.A) : OpR X (compareOp .NotEq) (rEqE X.K true) := by
  intro pins s σ H x y v u Q I rx ry h
  obtain ⟨a, b, xs, rfl, rfl, ha, hb, q⟩ := h
  cases rx
  cases ry
  obtain ⟨us, r1, p1, _⟩ := I.list ha
  obtain ⟨ws, r2, p2, _⟩ := I.list hb
  have hu := hr.units0
  have s1 := emp_arr r1
  have s2 := emp_arr r2
  cases xs with
  | nil =>
    refine (SeqAt.RcNeAt.lists (e := fun _ => true) p1.isList p2.isList (by rw [s1, s2]) hu (fun j h1 _ => by rw [s1] at h1; exact absurd h1 (Nat.not_lt_zero _))) X.prog X.w _ _ ?_
    rw [s1]
    exact ⟨.bl _, H, I, rfl, q⟩
  | cons z zs => exact (SeqAt.RcNeAt.lists_lengths p1.isList p2.isList (by rw [s1, s2]; simp) hu) X.prog X.w _ _ ⟨.bl _, H, I, rfl, q⟩
end K25

/-! ## M0 -/
set_option maxHeartbeats 1000000
/-! M0: fractions, plain. -/
namespace K25
abbrev Fr := Int × Int
/-- in lowest terms -/
def lowF (t b : Int) : Fr := (t / (Int.gcd t b : Int), b / (Int.gcd t b : Int))
def minusF (x y : Fr) : Fr := lowF (x.1 * y.2 - y.1 * x.2) (x.2 * y.2)
def plusF (x y : Fr) : Fr := lowF (x.1 * y.2 + y.1 * x.2) (x.2 * y.2)
def ltF (x y : Fr) : Bool := decide (x.1 * y.2 < y.1 * x.2)
def leF (x y : Fr) : Bool := decide (x.1 * y.2 ≤ y.1 * x.2)
def FrB (k : Nat) (f : Fr) : Prop := 0 < f.2 ∧ f.1.natAbs < 2 ^ k ∧ f.2.natAbs < 2 ^ k
theorem FrB.mono {k j : Nat} {f : Fr} (h : FrB k f) (l : k ≤ j) : FrB j f :=
  ⟨h.1, Nat.lt_of_lt_of_le h.2.1 (Nat.pow_le_pow_right (by decide) l), Nat.lt_of_lt_of_le h.2.2 (Nat.pow_le_pow_right (by decide) l)⟩
theorem gcd_pos {t b : Int} (h : 0 < b) : 0 < (Int.gcd t b : Int) := by
  have : 0 < Int.gcd t b := Int.gcd_pos_of_ne_zero_right t (by omega)
  omega
theorem natAbs_div_le (a g : Int) : (a / g).natAbs ≤ a.natAbs := Int.natAbs_ediv_le_natAbs a g
theorem lowF_pos {t b : Int} (h : 0 < b) : 0 < (lowF t b).2 := by
  show 0 < b / (Int.gcd t b : Int)
  exact Int.ediv_pos_of_pos_of_dvd h (Int.le_of_lt (gcd_pos h)) (Int.gcd_dvd_right t b)
theorem lowF_B {k : Nat} {t b : Int} (h : FrB k (t, b)) : FrB k (lowF t b) :=
  ⟨lowF_pos h.1, Nat.lt_of_le_of_lt (natAbs_div_le _ _) h.2.1, Nat.lt_of_le_of_lt (natAbs_div_le _ _) h.2.2⟩
theorem mul_lt_pow {a b : Int} {k j : Nat} (h1 : a.natAbs < 2 ^ k) (h2 : b.natAbs < 2 ^ j) : (a * b).natAbs < 2 ^ (k + j) := by
  rw [Int.natAbs_mul, Nat.pow_add]
  exact Nat.mul_lt_mul'' h1 h2
theorem sub_lt_pow {a b : Int} {k : Nat} (h1 : a.natAbs < 2 ^ k) (h2 : b.natAbs < 2 ^ k) : (a - b).natAbs < 2 ^ (k + 1) := by
  rw [Nat.pow_succ]
  have := Int.natAbs_sub_le a b
  omega
theorem add_lt_pow {a b : Int} {k : Nat} (h1 : a.natAbs < 2 ^ k) (h2 : b.natAbs < 2 ^ k) : (a + b).natAbs < 2 ^ (k + 1) := by
  rw [Nat.pow_succ]
  have := Int.natAbs_add_le a b
  omega
theorem minus_arg {k j : Nat} {x y : Fr} (hx : FrB k x) (hy : FrB j y) : FrB (k + j + 1) (x.1 * y.2 - y.1 * x.2, x.2 * y.2) := by
  refine ⟨Int.mul_pos hx.1 hy.1, sub_lt_pow (mul_lt_pow hx.2.1 hy.2.2) ?_, Nat.lt_of_lt_of_le (mul_lt_pow hx.2.2 hy.2.2) (Nat.pow_le_pow_right (by decide) (by omega))⟩
  rw [Nat.add_comm k j]
  exact mul_lt_pow hy.2.1 hx.2.2
theorem plus_arg {k j : Nat} {x y : Fr} (hx : FrB k x) (hy : FrB j y) : FrB (k + j + 1) (x.1 * y.2 + y.1 * x.2, x.2 * y.2) := by
  refine ⟨Int.mul_pos hx.1 hy.1, add_lt_pow (mul_lt_pow hx.2.1 hy.2.2) ?_, Nat.lt_of_lt_of_le (mul_lt_pow hx.2.2 hy.2.2) (Nat.pow_le_pow_right (by decide) (by omega))⟩
  rw [Nat.add_comm k j]
  exact mul_lt_pow hy.2.1 hx.2.2
theorem minusF_B {k j : Nat} {x y : Fr} (hx : FrB k x) (hy : FrB j y) : FrB (k + j + 1) (minusF x y) := lowF_B (minus_arg hx hy)
theorem plusF_B {k j : Nat} {x y : Fr} (hx : FrB k x) (hy : FrB j y) : FrB (k + j + 1) (plusF x y) := lowF_B (plus_arg hx hy)
end K25

/-! ## K3 -/
set_option Elab.async false
set_option linter.all false
set_option maxRecDepth 100000
set_option maxHeartbeats 4000000
/-! K3: basics. -/
namespace K25
open PySem L2
variable {P : Program} {w : World} {K : PySem.W.Frag} {mg : Str → Option Value} {base : Heap} {A : Ad}
theorem len1 {sp : List V → Hp → VK → XK → Prop} {vs : List V} {H : Hp} {Q : VK} {E : XK} {n : Nat} (h : ∃ v, vs = [v]) : vs.length = 1 := by
  obtain ⟨_, rfl⟩ := h
  rfl
/-! ### is_integer, is_natural, is_list, is_pair -/
def sp_is_integer (K : PySem.W.Frag) : Sp := fun vs H Q _ => ∃ v d, vs = [v] ∧ Rp K H d v ∧ Q (.bl d.isInt) H
theorem ok_is_integer (T : Tx K mg A) : DefOk P w K mg base 1 "is_integer" P_is_integer (sp_is_integer K) := by
  refine T.f_is_integer.ok sc_is_integer (fun vs H Q E ⟨v, d, e, _⟩ => by rw [e]; rfl) (fun f cdv AA outer s H vs Q E hr h => ⟨_, (pss_one (ps_ret (pe_and (pe_callB call_isi rfl T.z_isinstance (by decide +kernel) (pa_cons (pv 0) (pa_cons (pe_bltn (v := .ty "int") rfl T.z_int (by decide +kernel) rfl) pa_nil))) (pe_one (pe_not (pe_callB call_isi rfl T.z_isinstance (by decide +kernel) (pa_cons (pv 0) (pa_cons (pe_bltn (v := .ty "bool") rfl T.z_bool (by decide +kernel) rfl) pa_nil)))))))), ?_⟩)
  obtain ⟨v, d, rfl, hd, k⟩ := h
  refine ⟨_, rfl, _, _, _, _, _, rfl, .ty _, hd.tyx, kit_ty (kb_int d), _, rfl, ?_⟩
  cases d with
  | int i => exact ⟨_, rfl, _, _, _, _, _, rfl, .ty _, hd.tyx, kit_ty (kb_bool _), _, rfl, k⟩
  | bl b => exact ⟨_, rfl, _, _, _, _, _, rfl, .ty _, hd.tyx, kit_ty (kb_bool _), _, rfl, k⟩
  | _ => exact k
def D.isNat : D → Bool
  | .int i => decide (0 ≤ i) | _ => false
def sp_is_natural (K : PySem.W.Frag) : Sp := fun vs H Q _ => ∃ v d, vs = [v] ∧ Rp K H d v ∧ Q (.bl d.isNat) H
theorem ok_is_natural (T : Tx K mg A) : DefOk P w K mg base 2 "is_natural" P_is_natural (sp_is_natural K) := by
  refine T.f_is_natural.ok sc_is_natural (fun vs H Q E ⟨v, d, e, _⟩ => by rw [e]; rfl) (fun f cdv AA outer s H vs Q E hr h => ⟨_, (pss_one (ps_ret (pe_and (pe_cd (ok_is_integer T) (lv hr) rfl (pa_cons (pv 0) pa_nil)) (pe_one (pe_cmpR op_ge (pv 0) pe_int (nomark _)))))), ?_⟩)
  obtain ⟨v, d, rfl, hd, k⟩ := h
  refine ⟨_, rfl, v, d, rfl, hd, _, rfl, ?_⟩
  cases d with
  | int i => exact ⟨_, rfl, _, _, hd, rfl, k⟩
  | _ => exact k
def sp_is_list (K : PySem.W.Frag) : Sp := fun vs H Q _ => ∃ v d, vs = [v] ∧ Rp K H d v ∧ ∀ H', Same H H' → Q (.bl d.isL) H'
theorem ok_is_list (T : Tx K mg A) : DefOk P w K mg base 1 "is_list" P_is_list (sp_is_list K) := by
  refine T.f_is_list.ok sc_is_list (fun vs H Q E ⟨v, d, e, _⟩ => by rw [e]; rfl) (fun f cdv AA outer s H vs Q E hr h => ⟨_, (pss_one (ps_ret (pe_callB call_isiT rfl T.z_isinstance (by decide +kernel) (pa_cons (pv 0) (pa_cons (pe_tup (pa_cons (pe_bltn (v := .ty "list") rfl T.z_list (by decide +kernel) rfl) (pa_cons (pe_bltn (v := .ty "tuple") rfl T.z_tuple (by decide +kernel) rfl) pa_nil))) pa_nil))))), ?_⟩)
  obtain ⟨v, d, rfl, hd, k⟩ := h
  refine ⟨_, rfl, sz (by decide), fun p hp => ⟨_, p, _, _, _, _, rfl, upd_same, .cons (.ty _) (.cons (.ty _) .nil), (hd.mono (Same.new0 hp)).tyx, kany2 (kb_list d) (kb_tuple d), ?_⟩⟩
  have q := k _ (Same.new0 (o := .tup [.ty "list", .ty "tuple"]) hp)
  cases d <;> exact q
/-- its items -/
def D.items : D → List D
  | .lst ds => ds | .tup ds => ds | _ => []
def D.isPair (d : D) : Bool := d.isL && decide (d.items.length = 2)
def sp_is_pair (K : PySem.W.Frag) : Sp := fun vs H Q _ => ∃ v d, vs = [v] ∧ Rp K H d v ∧ ∀ H', Same H H' → Q (.bl d.isPair) H'
/-- a list or tuple: what len, a subscript, a walk ask -/
theorem Rp.seq {G : Hp} {d : D} {v : V} (h : Rp K G d v) (hl : d.isL = true) : ∃ a xs, v = .ref a ∧ (SqL K G a xs ∨ SqT K G a xs) ∧ RpA K G d.items xs := by
  cases d with
  | lst ds => obtain ⟨a, xs, h1, h2, h3⟩ := h; exact ⟨a, xs, h1, .inl h2, h3⟩
  | tup ds => obtain ⟨a, xs, h1, h2, h3⟩ := h; exact ⟨a, xs, h1, .inr h2, h3⟩
  | _ => cases hl
theorem ok_is_pair (T : Tx K mg A) : DefOk P w K mg base 2 "is_pair" P_is_pair (sp_is_pair K) := by
  refine T.f_is_pair.ok sc_is_pair (fun vs H Q E ⟨v, d, e, _⟩ => by rw [e]; rfl) (fun f cdv AA outer s H vs Q E hr h => ⟨_, (pss_one (ps_ret (pe_and (pe_cd (ok_is_list T) (lv hr) rfl (pa_cons (pv 0) pa_nil)) (pe_one (pe_cmpR op_eq (pe_callB call_len_seq rfl T.z_len PySem.boot_len (pa_cons (pv 0) pa_nil)) pe_int (nomark _)))))), ?_⟩)
  obtain ⟨v, d, rfl, hd, k⟩ := h
  refine ⟨_, rfl, v, d, rfl, hd, fun H1 e1 => ⟨_, rfl, ?_⟩⟩
  have q := k H1 e1
  unfold D.isPair at q
  cases hl : d.isL with
  | false =>
    rw [hl] at q
    exact q
  | true =>
    rw [hl] at q
    obtain ⟨a, xs, rfl, hs, hx⟩ := (hd.mono e1).seq hl
    refine ⟨_, rfl, a, xs, rfl, hs, rfl, ?_⟩
    rw [hx.len]
    have e : decide (V.int ((d.items.length : Nat) : Int) = V.int 2) = decide (d.items.length = 2) := by
      rw [dec_int]
      by_cases z : d.items.length = 2
      · rw [z]; rfl
      · rw [decide_eq_false z, beq_eq_false_iff_ne]
        omega
    rw [e]
    exact q
end K25

/-! ## K4 -/
set_option Elab.async false
set_option linter.all false
set_option maxRecDepth 100000
set_option maxHeartbeats 4000000
/-! K4: is_name, as_tuples, first_bad_name, is_of. -/
namespace K25
open PySem L2
variable {P : Program} {w : World} {K : PySem.W.Frag} {mg : Str → Option Value} {base : Heap} {A : Ad}
theorem get_map {α β : Type} {f : α → β} {xs : List α} {i : Nat} {x : β} (h : (xs.map f)[i]? = some x) : ∃ z, xs[i]? = some z ∧ x = f z := by
  rw [List.getElem?_map] at h
  cases q : xs[i]? with
  | none => rw [q] at h; cases h
  | some z => rw [q] at h; exact ⟨z, rfl, (Option.some.inj h).symm⟩
structure GoodName (s : Str) : Prop where
  l1 : 1 ≤ s.length
  l8 : s.length ≤ 8
  az : ∀ c ∈ s.cps.toList, c ∈ SGN.cps.toList
def sp_is_name : Sp := fun vs H Q _ => ∃ s, vs = [.str s] ∧ GoodName s ∧ ∀ H', Same H H' → Q (.bl true) H'
theorem all_true (n : Nat) : (((List.range n).map fun _ => true).all id) = true := by simp
theorem ok_is_name (T : Tx K mg A) : DefOk P w K mg base 1 "is_name" P_is_name sp_is_name := by
  refine T.f_is_name.ok sc_is_name (fun vs H Q E ⟨v, e, _⟩ => by rw [e]; rfl) (fun f cdv AA outer s H vs Q E hr h => ⟨_, (pss_one (ps_ret (pe_and (pe_callB call_isi rfl T.z_isinstance (by decide +kernel) (pa_cons (pv 0) (pa_cons (pe_bltn (v := .ty "str") rfl T.z_str (by decide +kernel) rfl) pa_nil))) (pe_and (pe_chain op_le op_le pe_int (pe_callB call_len_str rfl T.z_len PySem.boot_len (pa_cons (pv 0) pa_nil)) pe_int) (pe_one (pe_callB (cr_all rfl) rfl T.z_all (by decide +kernel) (pa_cons (pe_lc (own := [("sign", 1)]) rfl sc_is_name.nd (pi_str (pv 0)) (blkOk_by (own := [("sign", 1)]) (N := N_is_name) (sc := defScope s_is_name) (by decide +kernel)) (fun _ _ _ _ _ => (pg_name (i := 1) sc_is_name.nd rfl (Or.inl rfl))) (fun _ _ _ _ _ => pts_nil) (fun _ _ _ _ _ => (pe_cmpR op_in_sign (pv 1) (pe_glob (v := .str SGN) rfl T.g_SIGNS ⟨_, rfl⟩) (by rfl)))) pa_nil))))))), ?_⟩)
  obtain ⟨z, rfl, g, k⟩ := h
  have l8 := g.l8
  refine ⟨_, rfl, _, _, _, _, _, rfl, .ty _, .base (.str z), kit_ty (kb_str (.str z)), _, rfl, ?_⟩
  refine iteT ⟨_, rfl, z, rfl, sz (by omega), _, _, rfl, rfl, _, rfl, ?_⟩
  have e1 : decide ((1 : Int) ≤ (z.length : Int)) = true := decide_eq_true (by have := g.l1; omega)
  have e2 : decide ((z.length : Int) ≤ 8) = true := decide_eq_true (by omega)
  rw [e1]
  refine iteT ⟨_, _, rfl, rfl, _, rfl, ?_⟩
  rw [e2]
  refine iteT ⟨_, rfl, _, rfl, fun D hD => ?_⟩
  refine lc_bools (walk_str (z := z)) (fun _ => true) hD (by have : z.cps.size = z.length := rfl; omega) (fun _ _ => trivial) (fun i H x H' y => by obtain ⟨rfl, _⟩ := y; exact Same.refl _) (fun i x H1 H2 Qc hi e y q => ?_) (fun H1 e hL => ?_)
  · obtain ⟨rfl, c, hc, rfl⟩ := y
    refine ⟨rfl, _, rfl, c, SGN, rfl, rfl, ?_⟩
    have m : c ∈ z.cps.toList := by
      have hx : z.cps.toList[i]? = some c := by simpa using hc
      exact List.mem_of_getElem? hx
    rw [decide_eq_true (g.az c m)]
    exact q _ (Same.refl _)
  · refine ⟨D, _, rfl, SqL.of hL, ?_⟩
    rw [all_true]
    exact k _ e
/-! ### as_tuples -/
mutual
def D.tupd : D → D
  | .lst ds => .tup (D.tupdA ds)
  | .tup ds => .tup (D.tupdA ds)
  | d => d
def D.tupdA : List D → List D
  | [] => []
  | d :: ds => d.tupd :: D.tupdA ds
end
mutual
def D.dep : D → Nat
  | .lst ds => D.depA ds + 1
  | .tup ds => D.depA ds + 1
  | _ => 0
def D.depA : List D → Nat
  | [] => 0
  | d :: ds => max d.dep (D.depA ds)
end
mutual
def D.wid : D → Prop
  | .lst ds => ds.length ≤ 1000 ∧ D.widA ds
  | .tup ds => ds.length ≤ 1000 ∧ D.widA ds
  | _ => True
def D.widA : List D → Prop
  | [] => True
  | d :: ds => d.wid ∧ D.widA ds
end
theorem tupdA_eq : ∀ ds : List D, D.tupdA ds = ds.map D.tupd
  | [] => rfl
  | d :: ds => by show _ :: _ = _; rw [tupdA_eq ds]; rfl
theorem dep_get : ∀ {ds : List D} {i : Nat} {d : D}, ds[i]? = some d → d.dep ≤ D.depA ds
  | [], _, _, h => by simp at h
  | e :: ds, 0, d, h => by cases h; exact Nat.le_max_left _ _
  | e :: ds, i + 1, d, h => Nat.le_trans (dep_get (i := i) (by simpa using h)) (Nat.le_max_right _ _)
theorem wid_get : ∀ {ds : List D} {i : Nat} {d : D}, D.widA ds → ds[i]? = some d → d.wid
  | [], _, _, _, h => by simp at h
  | e :: ds, 0, d, g, h => by cases h; exact g.1
  | e :: ds, i + 1, d, g, h => wid_get (i := i) g.2 (by simpa using h)
theorem items_tupd {d : D} (h : d.isL = true) : d.tupd = .tup (d.items.map D.tupd) := by
  cases d with
  | lst ds => show D.tup _ = _; rw [tupdA_eq]; rfl
  | tup ds => show D.tup _ = _; rw [tupdA_eq]; rfl
  | _ => cases h
theorem items_dep {d : D} (h : d.isL = true) : d.dep = D.depA d.items + 1 := by
  cases d with
  | lst ds => rfl
  | tup ds => rfl
  | _ => cases h
theorem items_wid {d : D} (h : d.isL = true) (g : d.wid) : d.items.length ≤ 1000 ∧ D.widA d.items := by
  cases d with
  | lst ds => exact g
  | tup ds => exact g
  | _ => cases h
theorem tupd_self {d : D} (h : d.isL = false) : d.tupd = d := by
  cases d with
  | lst ds => cases h
  | tup ds => cases h
  | _ => rfl
def sp_as_tuples (K : PySem.W.Frag) (n : Nat) : Sp := fun vs H Q _ => ∃ v d G, vs = [v] ∧ Same G H ∧ Rp K G d v ∧ d.dep ≤ n ∧ d.wid ∧ ∀ G' H' v', Nx M0 G H G' H' → Rp K G' d.tupd v' → Q v' H'
theorem pe_never {X : Cx} {e : Expr} : PE X e fun _ _ _ => False := ⟨fun _ _ _ _ _ _ h => h.elim⟩
theorem ok_as_tuples (T : Tx K mg A) (n : Nat) : DefOk P w K mg base (n + 2) "as_tuples" P_as_tuples (sp_as_tuples K n) := by
  induction n with
  | zero =>
    refine T.f_as_tuples.ok sc_as_tuples (fun vs H Q E ⟨v, d, G, e, _⟩ => by rw [e]; rfl) (fun f cdv AA outer s H vs Q E hr h => ⟨_, (pss_one (ps_ret (pe_ifExp (pt_val (pe_cd (ok_is_list T) (lv hr) rfl (pa_cons (pv 0) pa_nil))) pe_never (pv 0)))), ?_⟩)
    obtain ⟨v, d, G, rfl, wG, hd, hn, hw, k⟩ := h
    have hl : d.isL = false := by
      cases z : d.isL with
      | false => rfl
      | true => rw [items_dep z] at hn; omega
    refine ⟨_, rfl, v, d, rfl, hd.mono wG, fun H1 e1 => ⟨_, rfl, ?_⟩⟩
    rw [hl]
    refine iteF ⟨_, rfl, k G H1 v (Nx.grow wG e1) ?_⟩
    rw [tupd_self hl]
    exact hd
  | succ n ih =>
    refine T.f_as_tuples.ok sc_as_tuples (fun vs H Q E ⟨v, d, G, e, _⟩ => by rw [e]; rfl) (fun f cdv AA outer s H vs Q E hr h => ⟨_, (pss_one (ps_ret (pe_ifExp (pt_val (pe_cd (ok_is_list T) (lv hr (by omega)) rfl (pa_cons (pv 0) pa_nil))) (pe_callTy call_tuple_of rfl T.z_tuple (by decide +kernel) (pa_cons (pe_lc (own := [("part", 1)]) rfl sc_as_tuples.nd (pi_seq (pv 0)) (blkOk_by (own := [("part", 1)]) (N := N_as_tuples) (sc := defScope s_as_tuples) (by decide +kernel)) (fun _ _ _ _ _ => (pg_name (i := 1) sc_as_tuples.nd rfl (Or.inl rfl))) (fun _ _ _ _ _ => pts_nil) (fun _ _ _ _ _ => (pe_cd ih (lv hr (by omega)) rfl (pa_cons (pv 1) pa_nil)))) pa_nil)) (pv 0)))), ?_⟩)
    obtain ⟨v, d, G, rfl, wG, hd, hn, hw, k⟩ := h
    refine ⟨_, rfl, v, d, rfl, hd.mono wG, fun H1 e1 => ⟨_, rfl, ?_⟩⟩
    cases hl : d.isL with
    | false =>
      refine iteF ⟨_, rfl, k G H1 v (Nx.grow wG e1) ?_⟩
      rw [tupd_self hl]
      exact hd
    | true =>
      obtain ⟨a, xs, rfl, hs, hx⟩ := hd.seq hl
      obtain ⟨hlen, hwd⟩ := items_wid hl hw
      have hdp : D.depA d.items ≤ n := by rw [items_dep hl] at hn; omega
      have w1 : Same G H1 := wG.trans e1
      have lx := hx.len
      have step : ∀ (L : Addr) (hD : H1 L = none) (i : Nat) (acc : List V) (G' H2 : Hp) (x : V) (Qc : VK), i < xs.length → acc.length = i → Nx M0 G H1 G' H2 → H2 L = some (.lst acc) → G' L = none → RpA K G' (d.items.take i |>.map D.tupd) acc → xs[i]? = some x →
          (∀ y G5 H5, Nx M0 G' H2 G5 H5 → RpA K G5 (d.items.take (i + 1) |>.map D.tupd) (acc ++ [y]) → Qc y H5) → sp_as_tuples K n ([x] ++ []) H2 Qc E0 := by
        intro L hD i acc G' H2 x Qc hi la nx eD gD rA ex q
        obtain ⟨di, hdi, rx⟩ := hx.get' ex
        refine ⟨x, di, G', rfl, nx.w, rx.mono nx.g, Nat.le_trans (dep_get hdi) hdp, wid_get hwd hdi, fun G5 H5 y n5 ry => q y G5 H5 n5 ?_⟩
        rw [List.take_add_one, hdi, List.map_append]
        exact (rA.mono n5.g).snoc ry
      have fin : ∀ (L : Addr) (hD : H1 L = none) (acc : List V) (G' H2 : Hp), Nx M0 G H1 (upd G' L (.lst acc)) H2 → Same G' (upd G' L (.lst acc)) → H2 L = some (.lst acc) → RpA K G' (d.items.take xs.length |>.map D.tupd) acc → ∀ q, H2 q = none → Q (.ref q) (upd H2 q (.tup acc)) := by
        intro L hD acc G' H2 nx e' eD rA q hq
        have n2 := nx.trans (Nx.new (o := .tup acc) nx.w hq)
        refine k _ _ _ ((Nx.grow wG e1).trans n2) ?_
        rw [items_tupd hl]
        refine ⟨q, acc, rfl, SqT.of upd_same, ?_⟩
        rw [lx, List.take_length] at rA
        exact rA.mono (e'.trans (Same.new0 (nx.w.free hq)))
      rcases hs with hs | hs
      · refine iteT ⟨_, rfl, a, rfl, .inl ⟨⟨xs, (w1.seq hs)⟩, fun L hD => ?_⟩⟩
        refine lc_map (walk_list (xs := xs)) M0 (fun i acc G' _ => RpA K G' (d.items.take i |>.map D.tupd) acc) w1 hD (by omega) (fun z => z) rfl (fun i acc G' H2 nx _ => (nx.g.trans nx.w).seq hs) (fun i acc G' H2 x H3 Qc hi la nx eD gD rA y q => ?_) (fun acc G' H2 nx la e' eD rA => ?_)
        · obtain ⟨rfl, ex⟩ := y
          exact ⟨rfl, _, rfl, step L hD i acc G' _ x Qc hi la nx eD gD rA ex fun y G5 H5 n5 r5 => q y G5 H5 n5 r5⟩
        · exact ⟨L, acc, rfl, .inl ⟨SqL.of eD, fin L hD acc G' H2 nx e' eD rA⟩⟩
      · refine iteT ⟨_, rfl, a, rfl, .inr ⟨⟨xs, (seqT w1 hs)⟩, fun L hD => ?_⟩⟩
        refine lc_map (walk_tup (xs := xs)) M0 (fun i acc G' _ => RpA K G' (d.items.take i |>.map D.tupd) acc) w1 hD (by omega) (fun z => z) rfl (fun i acc G' H2 nx _ => seqT (nx.g.trans nx.w) hs) (fun i acc G' H2 x H3 Qc hi la nx eD gD rA y q => ?_) (fun acc G' H2 nx la e' eD rA => ?_)
        · obtain ⟨rfl, ex⟩ := y
          exact ⟨rfl, _, rfl, step L hD i acc G' _ x Qc hi la nx eD gD rA ex fun y G5 H5 n5 r5 => q y G5 H5 n5 r5⟩
        · exact ⟨L, acc, rfl, .inl ⟨SqL.of eD, fin L hD acc G' H2 nx e' eD rA⟩⟩
/-! ### first_bad_name, is_of, first_stranger: the good cases -/
theorem inV_str {s : Str} : ∀ {ws : List Str}, inV (.str s) (ws.map V.str) = decide (s ∈ ws)
  | [] => by simp [inV]
  | w :: ws => by
    show (eqV (.str w) (.str s) || inV (.str s) (ws.map V.str)) = _
    rw [inV_str]
    show ((w == s) || _) = _
    by_cases h : w = s
    · subst h; simp
    · have h' : (w == s) = false := by simpa using h
      rw [h']
      have h2 : ¬ s = w := fun z => h z.symm
      simp [h2]
theorem flat_strs (ws : List Str) : (ws.map V.str).all flatV = true := by
  simp [List.all_eq_true, flatV]
def sp_is_of (K : PySem.W.Frag) : Sp := fun vs H Q _ => ∃ (s : Str) (a : Addr) (ws : List Str), vs = [.str s, .ref a] ∧ (SqL K H a (ws.map V.str) ∨ SqT K H a (ws.map V.str)) ∧ Q (.bl (decide (s ∈ ws))) H
theorem ok_is_of (T : Tx K mg A) : DefOk P w K mg base 1 "is_of" P_is_of (sp_is_of K) := by
  refine T.f_is_of.ok sc_is_of (fun vs H Q E ⟨s, a, ws, e, _⟩ => by rw [e]; rfl) (fun f cdv AA outer s H vs Q E hr h => ⟨_, (pss_one (ps_ret (pe_and (pe_callB call_isi rfl T.z_isinstance (by decide +kernel) (pa_cons (pv 0) (pa_cons (pe_bltn (v := .ty "str") rfl T.z_str (by decide +kernel) rfl) pa_nil))) (pe_one (pe_cmpR op_in_seq (pv 0) (pv 1) (by rfl)))))), ?_⟩)
  obtain ⟨z, a, ws, rfl, hs, k⟩ := h
  refine ⟨_, rfl, _, _, _, _, _, rfl, .ty _, .base (.str z), kit_ty (kb_str (.str z)), _, rfl, ?_⟩
  refine iteT ⟨_, rfl, _, rfl, a, _, rfl, hs, rfl, flat_strs ws, ?_⟩
  show Q (.bl (inV (.str z) (ws.map V.str))) H
  rw [inV_str]
  exact k
def sp_first_bad_name (K : PySem.W.Frag) : Sp := fun vs H Q _ => ∃ (a : Addr) (ws : List Str), vs = [.ref a] ∧ SqL K H a (ws.map V.str) ∧ (∀ s ∈ ws, GoodName s) ∧ ws.Nodup ∧ ∀ H', Same H H' → Q .non H'
theorem nd_take {α : Type} {l : List α} (h : l.Nodup) {i : Nat} {x : α} (hx : l[i]? = some x) : x ∉ l.take i := by
  intro m
  obtain ⟨j, hj, e⟩ := List.getElem_of_mem m
  have hj' : j < i := by
    have := hj
    rw [List.length_take] at this
    omega
  obtain ⟨hi, ei⟩ := List.getElem?_eq_some_iff.mp hx
  rw [List.getElem_take] at e
  have := (List.getElem_inj (h₀ := by omega) (h₁ := hi) h).mp (e.trans ei.symm)
  omega
theorem cut_take (xs : List V) (i : Nat) (h : i ≤ xs.length) : cutV xs none (some (i : Int)) = xs.take i := by
  unfold cutV
  rw [HT.sIx_none, HT.sIx_nat, Nat.min_eq_left h]
  rfl
theorem ok_first_bad_name (T : Tx K mg A) : DefOk P w K mg base 2 "first_bad_name" P_first_bad_name (sp_first_bad_name K) := by
  refine T.f_first_bad_name.ok sc_first_bad_name (fun vs H Q E ⟨a, ws, e, _⟩ => by rw [e]; rfl) (fun f cdv AA outer s H vs Q E hr h => ⟨_, (pss_cons (ps_if (pt_not (pt_val (pe_cd (ok_is_list T) (lv hr) rfl (pa_cons (pv 0) pa_nil)))) (pss_one (ps_ret pe_int)) pss_nil) (pss_cons (ps_for PassesOwn.never rfl (pi_enum rfl T.z_enumerate (pa_cons (pv 0) pa_nil)) (pg_tup rfl (pgs_cons (pg_name (i := 1) sc_first_bad_name.nd rfl (Or.inl rfl)) (pgs_cons (pg_name (i := 2) sc_first_bad_name.nd rfl (Or.inl rfl)) pgs_nil))) (pss_one (ps_if (PW.pt (pw_or (pt_not (pt_val (pe_cd (ok_is_name T) (lv hr) rfl (pa_cons (pv 2) pa_nil)))) (pw_or1 (pt_cmpR op_in_seq (pv 2) (pe_slice sl_list (pv 0) po_none (po_some (pv 1))) (by rfl))))) (pss_one (ps_ret (pv 1))) pss_nil))) (pss_one (ps_ret pe_non)))), ?_⟩)
  obtain ⟨a, ws, rfl, hs, hg, hn, k⟩ := h
  refine ⟨_, rfl, _, .lst (ws.map D.str), rfl, ⟨a, _, rfl, hs, RpA.strs ws⟩, fun H1 e1 => ⟨_, rfl, iteF ?_⟩⟩
  refine ⟨_, rfl, a, _, rfl, e1.seq hs, ?_⟩
  refine for_it (walk_enum (K := K) (a := a) (xs := ws.map V.str)) (fun i σ H2 => Same H H2 ∧ ∃ v u, σ = [some (.ref a), v, u]) ⟨e1, none, none, rfl⟩ (fun i σ H2 _ ⟨e, _⟩ => e.seq hs) ?_ ?_
  · rintro i x σ H2 H3 hi ⟨e2, v0, u0, rfl⟩ y
    obtain ⟨t, x1, x2, rfl, ht, rfl, h1, h2⟩ := y
    cases h1
    obtain ⟨z, hz, rfl⟩ := get_map h2
    have e3 : Same H (upd H2 t (.tup [.int (i : Nat), .str z])) := e2.new ht
    refine ⟨t, _, rfl, SqT.of upd_same, rfl, _, _, rfl, _, _, rfl, rfl, ?_⟩
    refine ⟨_, rfl, z, rfl, hg z (List.mem_of_getElem? hz), fun H4 e4 => ⟨_, rfl, iteF ?_⟩⟩
    have e5 := e3.trans e4
    refine ⟨_, rfl, _, rfl, _, rfl, _, rfl, a, _, rfl, e5.seq hs, fun q hq => ?_⟩
    have hlt : i ≤ (ws.map V.str).length := by
      rw [List.length_map] at hi ⊢; omega
    rw [cut_take _ _ hlt, ← List.map_take]
    refine ⟨q, _, rfl, .inl (SqL.of upd_same), rfl, flat_strs _, _, rfl, ?_⟩
    have e6 : inV (.str z) ((ws.take i).map V.str) = false := by
      rw [inV_str]
      exact decide_eq_false (nd_take hn hz)
    show if (inV (.str z) ((ws.take i).map V.str)) = true then _ else _
    rw [e6]
    exact iteF ⟨e5.new hq, _, _, rfl⟩
  · rintro σ H2 ⟨e2, v0, u0, rfl⟩
    exact k _ e2
end K25

/-! ## K5 -/
set_option Elab.async false
set_option linter.all false
set_option maxRecDepth 100000
set_option maxHeartbeats 4000000
/-! K5: fractions, bounds. -/
set_option exponentiation.threshold 100000
namespace K25
open PySem L2
theorem s2 : 2 ≤ sizeLine := by decide
theorem iteF' {c : Bool} {A B : Prop} (hc : c = false) (h : B) : if c = true then A else B := by
  subst hc
  exact iteF h
theorem iteT' {c : Bool} {A B : Prop} (hc : c = true) (h : A) : if c = true then A else B := by
  subst hc
  exact iteT h
variable {P : Program} {w : World} {K : PySem.W.Frag} {mg : Str → Option Value} {base : Heap} {A : Ad}
def tupF (f : Fr) : HO := .tup [.int f.1, .int f.2]
def FrA (K : PySem.W.Frag) (G : Hp) (v : V) (f : Fr) : Prop := ∃ a, v = .ref a ∧ SqT K G a [.int f.1, .int f.2]
theorem FrA.mono {G G' : Hp} {v : V} {f : Fr} (h : FrA K G v f) (e : Same G G') : FrA K G' v f := by
  obtain ⟨a, h1, h2⟩ := h
  exact ⟨a, h1, seqT e h2⟩
theorem FrA.of {G : Hp} {p : Addr} {f : Fr} (h : G p = some (tupF f)) : FrA K G (.ref p) f := ⟨p, rfl, SqT.of h⟩
/-! ### greatest_divisor, lowest, whole -/
def sp_gd : Sp := fun vs H Q _ => ∃ a b : Int, vs = [.int a, .int b] ∧ 0 ≤ a ∧ 0 ≤ b ∧ Q (.int (Int.gcd a b : Nat)) H
theorem gcd_step (x y : Int) (hx : 0 ≤ x) (hy : 0 < y) : Int.gcd y (x % y) = Int.gcd x y := by
  obtain ⟨m, rfl⟩ := Int.eq_ofNat_of_zero_le hx
  obtain ⟨n, rfl⟩ := Int.eq_ofNat_of_zero_le (Int.le_of_lt hy)
  show Nat.gcd n (((m : Int) % (n : Int)).natAbs) = Nat.gcd m n
  have e : ((m : Int) % (n : Int)).natAbs = m % n := by
    rw [← Int.natCast_emod]
    rfl
  rw [e, Nat.gcd_comm n, ← Nat.gcd_rec, Nat.gcd_comm]
theorem ok_greatest_divisor (T : Tx K mg A) : DefOk P w K mg base 1 "greatest_divisor" P_greatest_divisor sp_gd := by
  refine T.f_greatest_divisor.ok sc_greatest_divisor (fun vs H Q E ⟨a, b, e, _⟩ => by rw [e]; rfl) (fun f cdv AA outer s H vs Q E hr h => ⟨_, (pss_cons (ps_while PassesOwn.never (pt_cmpR op_ne (pv 1) pe_int (nomark _)) (pss_one (ps_par (i := 0) (j := 1) rfl sc_greatest_divisor.nd rfl rfl (by decide) rfl rfl (pa_cons (pv 1) (pa_cons (pe_op op_mod (pv 0) (pv 1)) pa_nil)) (by rfl)))) (pss_one (ps_ret (pv 0)))), ?_⟩)
  obtain ⟨a, b, rfl, ha, hb, k⟩ := h
  refine while_by (fun σ H' => H' = H ∧ ∃ x y : Int, σ = [some (.int x), some (.int y)] ∧ 0 ≤ x ∧ 0 ≤ y ∧ Int.gcd x y = Int.gcd a b) (fun σ _ => match σ with | [_, some (.int y)] => y.toNat | _ => 0) ⟨rfl, a, b, rfl, ha, hb, rfl⟩ ?_ ?_
  · rintro σ H' ⟨rfl, x, y, rfl, hx, hy, hg⟩
    refine ⟨_, rfl, rfl, _, rfl, ?_⟩
    by_cases z : y = 0
    · subst z
      rw [show (!decide (V.int 0 = V.int 0)) = false by simp]
      refine iteF ⟨_, rfl, ?_⟩
      have e : ((Int.gcd a b : Nat) : Int) = x := by rw [← hg, Int.gcd_zero_right]; omega
      rw [e] at k
      exact k
    · rw [show (!decide (V.int y = V.int 0)) = true by simp [z]]
      have hy' : 0 < y := by omega
      refine iteT ⟨_, rfl, _, rfl, _, rfl, _, _, rfl, rfl, hy', _, _, rfl, ⟨rfl, y, x % y, rfl, hy, Int.emod_nonneg _ z, ?_⟩, ?_⟩
      · rw [gcd_step x y hx hy']; exact hg
      · show (x % y).toNat < y.toNat
        have := Int.emod_lt_of_pos x hy'
        have := Int.emod_nonneg x z
        omega
  · rintro σ H' Q1 Q2 hq ⟨v, h1, h2, k, h3, h4⟩
    exact ⟨v, h1, h2, k, h3, hq _ _ h4⟩
def sp_lowest : Sp := fun vs H Q _ => ∃ (t b : Int) (k : Nat), vs = [.int t, .int b] ∧ FrB k (t, b) ∧ k ≤ 8000 ∧ ∀ p, H p = none → Q (.ref p) (upd H p (tupF (lowF t b)))
theorem gcd_abs (t b : Int) : Int.gcd (if t < 0 then -t else t) b = Int.gcd t b := by
  split
  · show Nat.gcd (-t).natAbs _ = Nat.gcd t.natAbs _
    rw [Int.natAbs_neg]
  · rfl
theorem gcd_div {t b : Int} {k : Nat} (h : FrB k (t, b)) (hk : k ≤ 8000) : CDivW t (Int.gcd t b : Nat) ∧ CDivW b (Int.gcd t b : Nat) := by
  have h0 : 0 < ((Int.gcd t b : Nat) : Int) := gcd_pos h.1
  have hl : Int.gcd t b ≤ b.natAbs := Nat.le_of_dvd (by have := h.1; omega) (Nat.gcd_dvd_right _ _)
  have hb : ((Int.gcd t b : Nat) : Int).natAbs < 2 ^ 8000 := by
    show Int.gcd t b < _
    exact Nat.lt_of_le_of_lt hl (Nat.lt_of_lt_of_le h.2.2 (Nat.pow_le_pow_right (by decide) hk))
  exact ⟨wide_div h0 hb (by decide) (by decide), wide_div h0 hb (by decide) (by decide)⟩
theorem ok_lowest (T : Tx K mg A) : DefOk P w K mg base 2 "lowest" P_lowest sp_lowest := by
  refine T.f_lowest.ok sc_lowest (fun vs H Q E ⟨a, b, _, e, _⟩ => by rw [e]; rfl) (fun f cdv AA outer s H vs Q E hr h => ⟨_, (pss_cons (ps_set (i := 2) sc_lowest.nd rfl (Or.inl rfl) (pe_cd (ok_greatest_divisor T) (lv hr) rfl (pa_cons (pe_callB call_abs rfl T.z_abs (by decide +kernel) (pa_cons (pv 0) pa_nil)) (pa_cons (pv 1) pa_nil)))) (pss_one (ps_ret (pe_tup (pa_cons (pe_op op_fdivW (pv 0) (pv 2)) (pa_cons (pe_op op_fdivW (pv 1) (pv 2)) pa_nil)))))), ?_⟩)
  obtain ⟨t, b, n, rfl, hB, hn, k⟩ := h
  have hb0 : (0 : Int) < b := hB.1
  refine ⟨_, rfl, t, rfl, _, rfl, _, _, rfl, ?_, by omega, ?_⟩
  · split <;> omega
  · rw [gcd_abs]
    refine ⟨_, rfl, _, rfl, _, _, rfl, rfl, (gcd_div hB hn).1, _, rfl, _, rfl, _, _, rfl, rfl, (gcd_div hB hn).2, s2, fun p hp => ?_⟩
    exact k p hp
def sp_whole : Sp := fun vs H Q _ => ∃ n : Int, vs = [.int n] ∧ ∀ p, H p = none → Q (.ref p) (upd H p (tupF (n, 1)))
theorem ok_whole (T : Tx K mg A) : DefOk P w K mg base 1 "whole" P_whole sp_whole := by
  refine T.f_whole.ok sc_whole (fun vs H Q E ⟨a, e, _⟩ => by rw [e]; rfl) (fun f cdv AA outer s H vs Q E hr h => ⟨_, (pss_one (ps_ret (pe_tup (pa_cons (pv 0) (pa_cons pe_int pa_nil))))), ?_⟩)
  obtain ⟨n, rfl, k⟩ := h
  exact ⟨_, rfl, s2, fun p hp => k p hp⟩
/-! ### minus, is_less, is_upto -/
theorem at0 {x y : V} : atI [x, y] 0 = some x := rfl
theorem at1 {x y : V} : atI [x, y] 1 = some y := rfl
theorem mulW {x y : Int} {k j : Nat} (h1 : x.natAbs < 2 ^ k) (h2 : y.natAbs < 2 ^ j) (hk : k ≤ 4000) (hj : j ≤ 4000) : CMulW x y :=
  wide_mul (a := 4000) (b := 4000) (Nat.lt_of_lt_of_le h1 (Nat.pow_le_pow_right (by decide) hk)) (Nat.lt_of_lt_of_le h2 (Nat.pow_le_pow_right (by decide) hj)) (by decide) (by decide) (by decide)
def sp_minus (K : PySem.W.Frag) : Sp := fun vs H Q _ => ∃ (u v : V) (x y : Fr) (k : Nat), vs = [u, v] ∧ FrA K H u x ∧ FrA K H v y ∧ FrB k x ∧ FrB k y ∧ k ≤ 3900 ∧ ∀ p, H p = none → Q (.ref p) (upd H p (tupF (minusF x y)))
theorem ok_minus (T : Tx K mg A) : DefOk P w K mg base 3 "minus" P_minus (sp_minus K) := by
  refine T.f_minus.ok sc_minus (fun vs H Q E ⟨a, b, _, _, _, e, _⟩ => by rw [e]; rfl) (fun f cdv AA outer s H vs Q E hr h => ⟨_, (pss_one (ps_ret (pe_cd (ok_lowest T) (lv hr) rfl (pa_cons (pe_op op_sub (pe_op op_mulW (pe_ix ix_tup (pv 0) pe_int (fun _ _ => rfl)) (pe_ix ix_tup (pv 1) pe_int (fun _ _ => rfl))) (pe_op op_mulW (pe_ix ix_tup (pv 1) pe_int (fun _ _ => rfl)) (pe_ix ix_tup (pv 0) pe_int (fun _ _ => rfl)))) (pa_cons (pe_op op_mulW (pe_ix ix_tup (pv 0) pe_int (fun _ _ => rfl)) (pe_ix ix_tup (pv 1) pe_int (fun _ _ => rfl))) pa_nil))))), ?_⟩)
  obtain ⟨u, v, x, y, n, rfl, ⟨a, rfl, hx⟩, ⟨b, rfl, hy⟩, bx, bY, hn, k⟩ := h
  refine ⟨_, rfl, a, _, 0, _, rfl, rfl, hx, at0, _, rfl, b, _, 1, _, rfl, rfl, hy, at1, _, _, rfl, rfl, mulW bx.2.1 bY.2.2 (by omega) (by omega), ?_⟩
  refine ⟨_, rfl, b, _, 0, _, rfl, rfl, hy, at0, _, rfl, a, _, 1, _, rfl, rfl, hx, at1, _, _, rfl, rfl, mulW bY.2.1 bx.2.2 (by omega) (by omega), _, _, rfl, rfl, ?_⟩
  refine ⟨_, rfl, a, _, 1, _, rfl, rfl, hx, at1, _, rfl, b, _, 1, _, rfl, rfl, hy, at1, _, _, rfl, rfl, mulW bx.2.2 bY.2.2 (by omega) (by omega), ?_⟩
  exact ⟨_, _, n + n + 1, rfl, minus_arg bx bY, by omega, fun p hp => k p hp⟩
def sp_is_less (K : PySem.W.Frag) : Sp := fun vs H Q _ => ∃ (u v : V) (x y : Fr) (k : Nat), vs = [u, v] ∧ FrA K H u x ∧ FrA K H v y ∧ FrB k x ∧ FrB k y ∧ k ≤ 3900 ∧ Q (.bl (ltF x y)) H
theorem ok_is_less (T : Tx K mg A) : DefOk P w K mg base 1 "is_less" P_is_less (sp_is_less K) := by
  refine T.f_is_less.ok sc_is_less (fun vs H Q E ⟨a, b, _, _, _, e, _⟩ => by rw [e]; rfl) (fun f cdv AA outer s H vs Q E hr h => ⟨_, (pss_one (ps_ret (pe_cmpR op_lt (pe_op op_mulW (pe_ix ix_tup (pv 0) pe_int (fun _ _ => rfl)) (pe_ix ix_tup (pv 1) pe_int (fun _ _ => rfl))) (pe_op op_mulW (pe_ix ix_tup (pv 1) pe_int (fun _ _ => rfl)) (pe_ix ix_tup (pv 0) pe_int (fun _ _ => rfl))) (nomark _)))), ?_⟩)
  obtain ⟨u, v, x, y, n, rfl, ⟨a, rfl, hx⟩, ⟨b, rfl, hy⟩, bx, bY, hn, k⟩ := h
  refine ⟨_, rfl, a, _, 0, _, rfl, rfl, hx, at0, _, rfl, b, _, 1, _, rfl, rfl, hy, at1, _, _, rfl, rfl, mulW bx.2.1 bY.2.2 (by omega) (by omega), ?_⟩
  exact ⟨_, rfl, b, _, 0, _, rfl, rfl, hy, at0, _, rfl, a, _, 1, _, rfl, rfl, hx, at1, _, _, rfl, rfl, mulW bY.2.1 bx.2.2 (by omega) (by omega), _, _, rfl, rfl, k⟩
def sp_is_upto (K : PySem.W.Frag) : Sp := fun vs H Q _ => ∃ (u v : V) (x y : Fr) (k : Nat), vs = [u, v] ∧ FrA K H u x ∧ FrA K H v y ∧ FrB k x ∧ FrB k y ∧ k ≤ 3900 ∧ Q (.bl (leF x y)) H
theorem ok_is_upto (T : Tx K mg A) : DefOk P w K mg base 1 "is_upto" P_is_upto (sp_is_upto K) := by
  refine T.f_is_upto.ok sc_is_upto (fun vs H Q E ⟨a, b, _, _, _, e, _⟩ => by rw [e]; rfl) (fun f cdv AA outer s H vs Q E hr h => ⟨_, (pss_one (ps_ret (pe_cmpR op_le (pe_op op_mulW (pe_ix ix_tup (pv 0) pe_int (fun _ _ => rfl)) (pe_ix ix_tup (pv 1) pe_int (fun _ _ => rfl))) (pe_op op_mulW (pe_ix ix_tup (pv 1) pe_int (fun _ _ => rfl)) (pe_ix ix_tup (pv 0) pe_int (fun _ _ => rfl))) (nomark _)))), ?_⟩)
  obtain ⟨u, v, x, y, n, rfl, ⟨a, rfl, hx⟩, ⟨b, rfl, hy⟩, bx, bY, hn, k⟩ := h
  refine ⟨_, rfl, a, _, 0, _, rfl, rfl, hx, at0, _, rfl, b, _, 1, _, rfl, rfl, hy, at1, _, _, rfl, rfl, mulW bx.2.1 bY.2.2 (by omega) (by omega), ?_⟩
  exact ⟨_, rfl, b, _, 0, _, rfl, rfl, hy, at0, _, rfl, a, _, 1, _, rfl, rfl, hx, at1, _, _, rfl, rfl, mulW bY.2.1 bx.2.2 (by omega) (by omega), _, _, rfl, rfl, k⟩
/-! ### is_frac, is_time, frac_of -/
def fracI : List D → Option Fr
  | [.int t, .int b] => if 1 ≤ b then some (t, b) else none
  | _ => none
theorem fracI_len {l : List D} (h : l.length ≠ 2) : fracI l = none := by
  unfold fracI
  split
  · exact (h rfl).elim
  · rfl
def D.frac (d : D) : Option Fr := if d.isL then fracI d.items else none
def sp_is_frac (K : PySem.W.Frag) : Sp := fun vs H Q _ => ∃ v d, vs = [v] ∧ Rp K H d v ∧ ∀ H', Same H H' → Q (.bl d.frac.isSome) H'
theorem ok_is_frac (T : Tx K mg A) : DefOk P w K mg base 3 "is_frac" P_is_frac (sp_is_frac K) := by
  refine T.f_is_frac.ok sc_is_frac (fun vs H Q E ⟨a, _, e, _⟩ => by rw [e]; rfl) (fun f cdv AA outer s H vs Q E hr h => ⟨_, (pss_one (ps_ret (pe_and (pe_cd (ok_is_pair T) (lv hr) rfl (pa_cons (pv 0) pa_nil)) (pe_and (pe_cd (ok_is_integer T) (lv hr) rfl (pa_cons (pe_ix ix_sq (pv 0) pe_int (fun _ _ => rfl)) pa_nil)) (pe_and (pe_cd (ok_is_integer T) (lv hr) rfl (pa_cons (pe_ix ix_sq (pv 0) pe_int (fun _ _ => rfl)) pa_nil)) (pe_one (pe_cmpR op_ge (pe_ix ix_sq (pv 0) pe_int (fun _ _ => rfl)) pe_int (nomark _)))))))), ?_⟩)
  obtain ⟨v, d, rfl, hd, k⟩ := h
  refine ⟨_, rfl, v, d, rfl, hd, fun H1 e1 => ⟨_, rfl, ?_⟩⟩
  have q := k H1 e1
  unfold D.frac at q
  unfold D.isPair
  cases hl : d.isL with
  | false => rw [hl] at q; exact q
  | true =>
    rw [hl, if_pos rfl] at q
    obtain ⟨a, xs, rfl, hs, hx⟩ := (hd.mono e1).seq hl
    match hi : d.items with
    | [] => rw [hi] at q; exact q
    | [_] => rw [hi, fracI_len (by simp)] at q; exact iteF' rfl q
    | _ :: _ :: _ :: _ => rw [hi, fracI_len (by simp)] at q; exact iteF' (by simp) q
    | [d0, d1] =>
      rw [hi] at q hx
      obtain ⟨x0, r0, rfl, h0, x1, r1, rfl, h1, rfl⟩ := hx
      refine iteT ⟨_, rfl, a, _, 0, _, rfl, rfl, hs, at0, _, d0, rfl, h0, _, rfl, ?_⟩
      cases d0 with
      | int t =>
        refine iteT ⟨_, rfl, a, _, 1, _, rfl, rfl, hs, at1, _, d1, rfl, h1, _, rfl, ?_⟩
        cases d1 with
        | int b =>
          refine iteT ⟨_, rfl, a, _, 1, _, rfl, rfl, hs, at1, ?_⟩
          cases h1
          refine ⟨_, _, rfl, rfl, ?_⟩
          have e : (fracI [.int t, .int b]).isSome = decide (1 ≤ b) := by
            show (if 1 ≤ b then some (t, b) else none).isSome = _
            by_cases z : 1 ≤ b
            · rw [if_pos z, decide_eq_true z]; rfl
            · rw [if_neg z, decide_eq_false z]; rfl
          rw [e] at q
          exact q
        | _ => exact q
      | _ => exact q
def D.isTime (d : D) : Bool := match d.frac with
  | some (t, _) => decide (0 ≤ t) | none => false
def sp_is_time (K : PySem.W.Frag) : Sp := fun vs H Q _ => ∃ v d, vs = [v] ∧ Rp K H d v ∧ ∀ H', Same H H' → Q (.bl d.isTime) H'
/-- a fraction, list or tuple, by its items -/
theorem Rp.frac {G : Hp} {d : D} {v : V} {f : Fr} (h : Rp K G d v) (hf : d.frac = some f) : ∃ a, v = .ref a ∧ (SqL K G a [.int f.1, .int f.2] ∨ SqT K G a [.int f.1, .int f.2]) ∧ 1 ≤ f.2 := by
  unfold D.frac at hf
  cases hl : d.isL with
  | false => rw [hl] at hf; cases hf
  | true =>
    rw [hl, if_pos rfl] at hf
    obtain ⟨a, xs, rfl, hs, hx⟩ := h.seq hl
    unfold fracI at hf
    split at hf
    · rename_i t b hi
      rw [hi] at hx
      obtain ⟨x0, r0, rfl, h0, x1, r1, rfl, h1, rfl⟩ := hx
      cases h0
      cases h1
      split at hf
      · rename_i hb
        cases hf
        exact ⟨a, rfl, hs, hb⟩
      · cases hf
    · cases hf
theorem ok_is_time (T : Tx K mg A) : DefOk P w K mg base 4 "is_time" P_is_time (sp_is_time K) := by
  refine T.f_is_time.ok sc_is_time (fun vs H Q E ⟨a, _, e, _⟩ => by rw [e]; rfl) (fun f cdv AA outer s H vs Q E hr h => ⟨_, (pss_one (ps_ret (pe_and (pe_cd (ok_is_frac T) (lv hr) rfl (pa_cons (pv 0) pa_nil)) (pe_one (pe_cmpR op_ge (pe_ix ix_sq (pv 0) pe_int (fun _ _ => rfl)) pe_int (nomark _)))))), ?_⟩)
  obtain ⟨v, d, rfl, hd, k⟩ := h
  refine ⟨_, rfl, v, d, rfl, hd, fun H1 e1 => ⟨_, rfl, ?_⟩⟩
  have q := k H1 e1
  unfold D.isTime at q
  cases hf : d.frac with
  | none => rw [hf] at q; exact q
  | some x =>
    rw [hf] at q
    obtain ⟨a, rfl, hs, _⟩ := (hd.mono e1).frac hf
    exact iteT ⟨_, rfl, a, _, 0, _, rfl, rfl, hs, at0, _, _, rfl, rfl, q⟩
def sp_frac_of (K : PySem.W.Frag) : Sp := fun vs H Q _ => ∃ (v : V) (d : D) (x : Fr) (k : Nat), vs = [v] ∧ Rp K H d v ∧ d.frac = some x ∧ FrB k x ∧ k ≤ 3900 ∧ ∀ p, H p = none → Q (.ref p) (upd H p (tupF (lowF x.1 x.2)))
theorem ok_frac_of (T : Tx K mg A) : DefOk P w K mg base 3 "frac_of" P_frac_of (sp_frac_of K) := by
  refine T.f_frac_of.ok sc_frac_of (fun vs H Q E ⟨a, _, _, _, e, _⟩ => by rw [e]; rfl) (fun f cdv AA outer s H vs Q E hr h => ⟨_, (pss_one (ps_ret (pe_cd (ok_lowest T) (lv hr) rfl (pa_cons (pe_ix ix_sq (pv 0) pe_int (fun _ _ => rfl)) (pa_cons (pe_ix ix_sq (pv 0) pe_int (fun _ _ => rfl)) pa_nil))))), ?_⟩)
  obtain ⟨v, d, x, n, rfl, hd, hf, hB, hn, k⟩ := h
  obtain ⟨a, rfl, hs, _⟩ := hd.frac hf
  exact ⟨_, rfl, a, _, 0, _, rfl, rfl, hs, at0, _, rfl, a, _, 1, _, rfl, rfl, hs, at1, _, _, n, rfl, hB, by omega, fun p hp => k p hp⟩
end K25

/-! ## K6 -/
set_option Elab.async false
set_option linter.all false
set_option maxRecDepth 100000
set_option maxHeartbeats 4000000
/-! K6: bounds. -/
set_option exponentiation.threshold 100000
namespace K25
open PySem L2
variable {P : Program} {w : World} {K : PySem.W.Frag} {mg : Str → Option Value} {base : Heap} {A : Ad}
/-- the word of an upper bound -/
def UpW (w : Str) : Prop := w = "below" ∨ w = "upto"
theorem UpW.mem {w : Str} (h : UpW w) : w ∈ (["below", "upto"] : List Str) := by
  rcases h with rfl | rfl
  · exact List.mem_cons_self ..
  · exact List.mem_cons_of_mem _ (List.mem_cons_self ..)
def sp_is_upper (K : PySem.W.Frag) : Sp := fun vs H Q _ => ∃ (v : V) (w : Str) (n : Int), vs = [v] ∧ Rp K H (.tup [.str w, .int n]) v ∧ UpW w ∧ ∀ H', Same H H' → Q (.bl true) H'
theorem ok_is_upper (T : Tx K mg A) : DefOk P w K mg base 3 "is_upper" P_is_upper (sp_is_upper K) := by
  refine T.f_is_upper.ok sc_is_upper (fun vs H Q E ⟨a, _, _, e, _⟩ => by rw [e]; rfl) (fun f cdv AA outer s H vs Q E hr h => ⟨_, (pss_one (ps_ret (pe_or (pe_cmpR op_isN (pv 0) pe_non (nomark _)) (pe_one (pe_and (pe_cd (ok_is_pair T) (lv hr) rfl (pa_cons (pv 0) pa_nil)) (pe_and (pe_cd (ok_is_of T) (lv hr) rfl (pa_cons (pe_ix ix_tup (pv 0) pe_int (fun _ _ => rfl)) (pa_cons (pe_glob (v := .ref A.cUPPERS) rfl T.g_UPPERS rfl) pa_nil))) (pe_one (pe_cd (ok_is_integer T) (lv hr) rfl (pa_cons (pe_ix ix_tup (pv 0) pe_int (fun _ _ => rfl)) pa_nil))))))))), ?_⟩)
  obtain ⟨v, z, n, rfl, hd, hz, k⟩ := h
  have hd' := hd
  obtain ⟨a, xs, rfl, hs, x0, r0, rfl, h0, x1, r1, rfl, h1, rfl⟩ := hd'
  cases h0
  cases h1
  refine ⟨_, rfl, rfl, _, rfl, iteF' rfl ?_⟩
  refine ⟨_, rfl, _, _, rfl, hd, fun H1 e1 => ⟨_, rfl, iteT' rfl ?_⟩⟩
  have hs1 := seqT e1 hs
  refine ⟨_, rfl, a, _, 0, _, rfl, rfl, hs1, at0, z, A.cUPPERS, ["below", "upto"], rfl, .inr (T.t_UPPERS _), _, rfl, iteT' (decide_eq_true hz.mem) ?_⟩
  exact ⟨_, rfl, a, _, 1, _, rfl, rfl, hs1, at1, _, .int n, rfl, rfl, k _ e1⟩
def codeN (w : Str) (n : Int) : Int := 2 * n + (if w = "upto" then 1 else 0)
def sp_code_of (K : PySem.W.Frag) : Sp := fun vs H Q _ => ∃ (a : Addr) (w : Str) (n : Int), vs = [.ref a] ∧ SqT K H a [.str w, .int n] ∧ UpW w ∧ n.natAbs < 2 ^ 100 ∧ Q (.int (codeN w n)) H
theorem idx_up {w : Str} (h : UpW w) : (((["below", "upto"] : List Str).idxOf w : Nat) : Int) = if w = "upto" then 1 else 0 := by
  rcases h with rfl | rfl <;> decide +kernel
theorem ok_code_of (T : Tx K mg A) : DefOk P w K mg base 1 "code_of" P_code_of (sp_code_of K) := by
  refine T.f_code_of.ok sc_code_of (fun vs H Q E ⟨a, _, _, e, _⟩ => by rw [e]; rfl) (fun f cdv AA outer s H vs Q E hr h => ⟨_, (pss_one (ps_ret (pe_ifExp (pt_cmpR op_isN (pv 0) pe_non (nomark _)) pe_non (pe_op op_add (pe_op op_mulW pe_int (pe_ix ix_tup (pv 0) pe_int (fun _ _ => rfl))) (pe_bm PySem.F.plainAttrs_tuple PySem.F.slot_tuple_index PySem.F.type_tuple_index mt_tindex (pe_glob (v := .ref A.cUPPERS) rfl T.g_UPPERS rfl) (pa_cons (pe_ix ix_tup (pv 0) pe_int (fun _ _ => rfl)) pa_nil)))))), ?_⟩)
  obtain ⟨a, z, n, rfl, hs, hz, hn, k⟩ := h
  refine ⟨_, rfl, rfl, _, rfl, iteF' rfl ?_⟩
  refine ⟨_, rfl, a, _, 1, _, rfl, rfl, hs, at1, _, _, rfl, rfl, mulW (k := 2) (j := 100) (by decide) hn (by decide) (by decide), .inr (.inl ⟨rfl, T.y_UPPERS⟩), ?_⟩
  refine ⟨_, rfl, a, _, 0, _, rfl, rfl, hs, at0, A.cUPPERS, ["below", "upto"], z, rfl, rfl, T.t_UPPERS _, hz.mem, _, _, rfl, rfl, ?_⟩
  rw [idx_up hz]
  exact k
/-- x keeps the upper bound -/
def keepsU (x : Fr) (w : Str) (n : Int) : Bool := if w = "upto" then leF x (n, 1) else ltF x (n, 1)
def sp_keeps (K : PySem.W.Frag) : Sp := fun vs H Q _ => ∃ (v : V) (x : Fr) (w : Str) (n : Int) (k : Nat), vs = [v, .int (codeN w n)] ∧ FrA K H v x ∧ FrB k x ∧ k ≤ 3900 ∧ n.natAbs < 2 ^ 100 ∧ ∀ H', Same H H' → Q (.bl (keepsU x w n)) H'
theorem n1_B {n : Int} {k : Nat} (h : n.natAbs < 2 ^ k) (hk : 1 ≤ k) : FrB k (n, 1) := ⟨show (0 : Int) < 1 by decide, h, by
  show 1 < 2 ^ k
  exact Nat.one_lt_two_pow (by omega)⟩
theorem cdiv2 {i : Int} : CDivW i 2 := ⟨by decide, by decide +kernel⟩
theorem ok_keeps (T : Tx K mg A) : DefOk P w K mg base 2 "keeps" P_keeps (sp_keeps K) := by
  refine T.f_keeps.ok sc_keeps (fun vs H Q E ⟨a, _, _, _, _, e, _⟩ => by rw [e]; rfl) (fun f cdv AA outer s H vs Q E hr h => ⟨_, (pss_cons (ps_if (pt_cmpR op_isN (pv 1) pe_non (nomark _)) (pss_one (ps_ret pe_bl)) pss_nil) (pss_cons (ps_set (i := 2) sc_keeps.nd rfl (Or.inl rfl) (pe_cd (ok_whole T) (lv hr) rfl (pa_cons (pe_op op_fdivW (pv 1) pe_int) pa_nil))) (pss_one (ps_ret (pe_ifExp (pt_cmpR op_eq (pe_op op_mod (pv 1) pe_int) pe_int (nomark _)) (pe_cd (ok_is_upto T) (lv hr) rfl (pa_cons (pv 0) (pa_cons (pv 2) pa_nil))) (pe_cd (ok_is_less T) (lv hr) rfl (pa_cons (pv 0) (pa_cons (pv 2) pa_nil)))))))), ?_⟩)
  obtain ⟨v, x, z, n, j, rfl, hx, hB, hj, hn, k⟩ := h
  refine ⟨_, rfl, rfl, _, rfl, iteF' rfl ?_⟩
  have e1 : codeN z n / 2 = n := by unfold codeN; split <;> omega
  have e2 : codeN z n % 2 = if z = "upto" then 1 else 0 := by unfold codeN; split <;> omega
  refine ⟨_, rfl, _, _, rfl, rfl, cdiv2, _, rfl, fun p hp => ?_⟩
  rw [e1]
  refine ⟨_, rfl, _, _, rfl, rfl, show (0 : Int) < 2 by decide, rfl, _, rfl, ?_⟩
  show if decide (V.int (codeN z n % 2) = V.int 1) = true then _ else _
  rw [e2]
  have w1 : Same H (upd H p (tupF (n, 1))) := Same.new0 hp
  have hx1 := hx.mono w1
  have hn1 : FrA K (upd H p (tupF (n, 1))) (.ref p) (n, 1) := FrA.of upd_same
  have b1 : FrB (max j 100) x := hB.mono (Nat.le_max_left _ _)
  have b2 : FrB (max j 100) (n, 1) := (n1_B hn (by decide)).mono (Nat.le_max_right _ _)
  have q := k _ w1
  unfold keepsU at q
  by_cases hz : z = "upto"
  · rw [if_pos hz] at q ⊢
    exact iteT' rfl ⟨_, rfl, _, rfl, _, _, _, _, _, rfl, hx1, hn1, b1, b2, by omega, q⟩
  · rw [if_neg hz] at q ⊢
    exact iteF' rfl ⟨_, rfl, _, rfl, _, _, _, _, _, rfl, hx1, hn1, b1, b2, by omega, q⟩
/-- x keeps the bound of a cut -/
def keepsW (x : Fr) (w : Str) (n : Int) : Bool := if w = "from" then leF (n, 1) x else if w = "above" then ltF (n, 1) x else keepsU x w n
def LoW (w : Str) : Prop := w = "from" ∨ w = "above"
def sp_frac_keeps (K : PySem.W.Frag) : Sp := fun vs H Q _ => ∃ (v b : V) (x : Fr) (a u : Addr) (w : Str) (n : Int) (k : Nat), FrA K H v x ∧ FrB k x ∧ k ≤ 3900 ∧ n.natAbs < 2 ^ 100 ∧ SqT K H a [.str w, .ref u] ∧ FrA K H (.ref u) (n, 1) ∧
  ((vs = [v, .ref a, .non] ∧ LoW w) ∨ (vs = [v, .non, .ref a] ∧ UpW w)) ∧ Q (.bl (keepsW x w n)) H
theorem str_ne {a b : Str} (h : ¬ a = b) : decide (V.str a = V.str b) = false := decide_eq_false fun z => h (V.str.inj z)
theorem ok_frac_keeps (T : Tx K mg A) : DefOk P w K mg base 2 "frac_keeps" P_frac_keeps (sp_frac_keeps K) := by
  refine T.f_frac_keeps.ok sc_frac_keeps (fun vs H Q E ⟨_, _, _, _, _, _, _, _, _, _, _, _, _, _, e, _⟩ => by rcases e with ⟨e, _⟩ | ⟨e, _⟩ <;> (rw [e]; rfl)) (fun f cdv AA outer s H vs Q E hr h => ⟨_, (pss_cons (ps_if (PW.pt (pw_and (pt_cmpR op_notN (pv 1) pe_non (nomark _)) (pw_and1 (pt_not (pt_ifExp (pt_cmpR op_eq (pe_ix ix_tup (pv 1) pe_int (fun _ _ => rfl)) pe_str (nomark _)) (pt_val (pe_cd (ok_is_upto T) (lv hr) rfl (pa_cons (pe_ix ix_tup (pv 1) pe_int (fun _ _ => rfl)) (pa_cons (pv 0) pa_nil)))) (pt_val (pe_cd (ok_is_less T) (lv hr) rfl (pa_cons (pe_ix ix_tup (pv 1) pe_int (fun _ _ => rfl)) (pa_cons (pv 0) pa_nil))))))))) (pss_one (ps_ret pe_bl)) pss_nil) (pss_one (ps_ret (pe_or (pe_cmpR op_isN (pv 2) pe_non (nomark _)) (pe_one (pe_ifExp (pt_cmpR op_eq (pe_ix ix_tup (pv 2) pe_int (fun _ _ => rfl)) pe_str (nomark _)) (pe_cd (ok_is_upto T) (lv hr) rfl (pa_cons (pv 0) (pa_cons (pe_ix ix_tup (pv 2) pe_int (fun _ _ => rfl)) pa_nil))) (pe_cd (ok_is_less T) (lv hr) rfl (pa_cons (pv 0) (pa_cons (pe_ix ix_tup (pv 2) pe_int (fun _ _ => rfl)) pa_nil))))))))), ?_⟩)
  obtain ⟨v, _, x, a, u, z, n, j, hx, hB, hj, hn, hs, hu, hc, k⟩ := h
  have b1 : FrB (max j 100) x := hB.mono (Nat.le_max_left _ _)
  have b2 : FrB (max j 100) (n, 1) := (n1_B hn (by decide)).mono (Nat.le_max_right _ _)
  unfold keepsW at k
  rcases hc with ⟨rfl, rfl | rfl⟩ | ⟨rfl, rfl | rfl⟩
  · -- from
    rw [if_pos rfl] at k
    refine ⟨_, rfl, rfl, _, rfl, iteT' rfl ?_⟩
    refine ⟨_, rfl, a, _, 0, _, rfl, rfl, hs, at0, rfl, _, rfl, iteT' (decide_eq_true rfl) ?_⟩
    refine ⟨_, rfl, a, _, 1, _, rfl, rfl, hs, at1, _, rfl, _, _, _, _, _, rfl, hu, hx, b2, b1, by omega, _, rfl, ?_⟩
    cases h : leF (n, 1) x with
    | true => rw [h] at k; exact iteF' rfl ⟨_, rfl, rfl, _, rfl, iteT' rfl k⟩
    | false => rw [h] at k; exact iteT' rfl k
  · -- above
    rw [if_neg (by decide), if_pos rfl] at k
    refine ⟨_, rfl, rfl, _, rfl, iteT' rfl ?_⟩
    refine ⟨_, rfl, a, _, 0, _, rfl, rfl, hs, at0, rfl, _, rfl, iteF' (str_ne (by decide)) ?_⟩
    refine ⟨_, rfl, a, _, 1, _, rfl, rfl, hs, at1, _, rfl, _, _, _, _, _, rfl, hu, hx, b2, b1, by omega, _, rfl, ?_⟩
    cases h : ltF (n, 1) x with
    | true => rw [h] at k; exact iteF' rfl ⟨_, rfl, rfl, _, rfl, iteT' rfl k⟩
    | false => rw [h] at k; exact iteT' rfl k
  · -- below
    rw [if_neg (by decide), if_neg (by decide)] at k
    unfold keepsU at k
    rw [if_neg (by decide)] at k
    refine ⟨_, rfl, rfl, _, rfl, iteF' rfl (iteF' rfl ?_)⟩
    refine ⟨_, rfl, rfl, _, rfl, iteF' rfl ?_⟩
    refine ⟨_, rfl, a, _, 0, _, rfl, rfl, hs, at0, rfl, _, rfl, iteF' (str_ne (by decide)) ?_⟩
    exact ⟨_, rfl, _, rfl, a, _, 1, _, rfl, rfl, hs, at1, _, _, _, _, _, rfl, hx, hu, b1, b2, by omega, k⟩
  · -- upto
    rw [if_neg (by decide), if_neg (by decide)] at k
    unfold keepsU at k
    rw [if_pos rfl] at k
    refine ⟨_, rfl, rfl, _, rfl, iteF' rfl (iteF' rfl ?_)⟩
    refine ⟨_, rfl, rfl, _, rfl, iteF' rfl ?_⟩
    refine ⟨_, rfl, a, _, 0, _, rfl, rfl, hs, at0, rfl, _, rfl, iteT' (decide_eq_true rfl) ?_⟩
    exact ⟨_, rfl, _, rfl, a, _, 1, _, rfl, rfl, hs, at1, _, _, _, _, _, rfl, hx, hu, b1, b2, by omega, k⟩
end K25

/-! ## K7 -/
set_option Elab.async false
set_option linter.all false
set_option maxRecDepth 100000
set_option maxHeartbeats 4000000
/-! K7: watchers' data; first_stranger, is_limit, is_cut, is_arrow. -/
set_option exponentiation.threshold 100000
namespace K25
open PySem L2
variable {P : Program} {w : World} {K : PySem.W.Frag} {mg : Str → Option Value} {base : Heap} {A : Ad}
abbrev Cut := Str × Str × Int
abbrev Lim := List (Str × Str × Int)
structure Arr where
  src : Str
  sig : Option Str
  cuts : List Cut
  beg : List Str
  dst : Str
structure Wt where
  clocks : List Str
  lims : List (Str × Lim)
  arrs : List Arr
  ends : List Str
def Wt.places (W : Wt) : List Str := W.lims.map (·.1)
def sigD : Option Str → D
  | none => .non | some s => .str s
def cutD (c : Cut) : D := .tup [.str c.1, .str c.2.1, .int c.2.2]
def arrD (a : Arr) : D := .tup [.str a.src, sigD a.sig, .lst (a.cuts.map cutD), .lst (a.beg.map D.str), .str a.dst]
def arrT (a : Arr) : D := .tup [.str a.src, sigD a.sig, .tup (a.cuts.map cutD), .tup (a.beg.map D.str), .str a.dst]
structure CutOk (clocks : List Str) (x : Cut) : Prop where
  c : x.1 ∈ clocks
  w : LoW x.2.1 ∨ UpW x.2.1
  n0 : 0 ≤ x.2.2
  n5 : x.2.2 < 5
structure LimOk (clocks : List Str) (l : Lim) : Prop where
  nd : (l.map (·.1)).Nodup
  c : ∀ b ∈ l, b.1 ∈ clocks
  w : ∀ b ∈ l, UpW b.2.1
  n0 : ∀ b ∈ l, 0 ≤ b.2.2
  n5 : ∀ b ∈ l, b.2.2 < 5
  len : l.length ≤ 3
structure ArrOk (clocks places : List Str) (a : Arr) : Prop where
  src : a.src ∈ places
  dst : a.dst ∈ places
  sig : ∀ s, a.sig = some s → GoodName s
  cuts : ∀ c ∈ a.cuts, CutOk clocks c
  ncuts : a.cuts.length ≤ 2
  beg : ∀ s ∈ a.beg, s ∈ clocks
  nbeg : a.beg.Nodup
  lbeg : a.beg.length ≤ 3
structure WtOk (W : Wt) : Prop where
  cn : W.clocks.Nodup
  cg : ∀ s ∈ W.clocks, GoodName s
  cl : W.clocks.length ≤ 3
  pn : W.places.Nodup
  pg : ∀ s ∈ W.places, GoodName s
  pl : W.lims.length ≤ 4
  p0 : 0 < W.lims.length
  lm : ∀ p ∈ W.lims, LimOk W.clocks p.2
  ar : ∀ a ∈ W.arrs, ArrOk W.clocks W.places a
  al : W.arrs.length ≤ 6
  a0 : 0 < W.arrs.length
  en : W.ends.Nodup
  ep : ∀ s ∈ W.ends, s ∈ W.places
  el : W.ends.length ≤ 4
/-! ### dicts -/
def KvB (K : PySem.W.Frag) (G : Hp) : List (Key × V) → Lim → Prop := Paired fun kv b => kv.1 = Sum.inr b.1 ∧ ∃ a, kv.2 = .ref a ∧ SqT K G a [.str b.2.1, .int b.2.2]
def LimA (K : PySem.W.Frag) (G : Hp) (e : Addr) (l : Lim) : Prop := ∃ kvs, G e = some (.dK kvs) ∧ KvB K G kvs l
def KvL (K : PySem.W.Frag) (G : Hp) (d : Addr) : List (Key × V) → List (Str × Lim) → Prop := Paired fun kv p => kv.1 = Sum.inr p.1 ∧ ∃ e, kv.2 = .ref e ∧ e ≠ d ∧ LimA K G e p.2
def LimsA (K : PySem.W.Frag) (G : Hp) (d : Addr) (L : List (Str × Lim)) : Prop := ∃ kvs, G d = some (.dK kvs) ∧ KvL K G d kvs L
theorem Paired.get {α β : Type} {F : α → β → Prop} : ∀ {xs : List α} {ys : List β}, Paired F xs ys → ∀ {i : Nat} {x : α}, xs[i]? = some x → ∃ y, ys[i]? = some y ∧ F x y
  | _, _, .nil, i, x, h => by simp at h
  | _, _, .cons r t, 0, x, h => by cases h; exact ⟨_, rfl, r⟩
  | _, _, .cons r t, i + 1, x, h => by
    obtain ⟨y, h1, h2⟩ := Paired.get t (i := i) (x := x) (by simpa using h)
    exact ⟨y, by simpa using h1, h2⟩
theorem Paired.get2 {α β : Type} {F : α → β → Prop} : ∀ {xs : List α} {ys : List β}, Paired F xs ys → ∀ {i : Nat} {y : β}, ys[i]? = some y → ∃ x, xs[i]? = some x ∧ F x y
  | _, _, .nil, i, x, h => by simp at h
  | _, _, .cons r t, 0, x, h => by cases h; exact ⟨_, rfl, r⟩
  | _, _, .cons r t, i + 1, x, h => by
    obtain ⟨y, h1, h2⟩ := Paired.get2 t (i := i) (y := x) (by simpa using h)
    exact ⟨y, by simpa using h1, h2⟩
theorem Paired.len {α β : Type} {F : α → β → Prop} : ∀ {xs : List α} {ys : List β}, Paired F xs ys → xs.length = ys.length
  | _, _, .nil => rfl
  | _, _, .cons _ t => by simp [Paired.len t]
theorem Paired.imp {α β : Type} {F F' : α → β → Prop} (h : ∀ x y, F x y → F' x y) : ∀ {xs : List α} {ys : List β}, Paired F xs ys → Paired F' xs ys
  | _, _, .nil => .nil
  | _, _, .cons r t => .cons (h _ _ r) (Paired.imp h t)
theorem Paired.keys {β : Type} {f : β → Str} {F : V → β → Prop} : ∀ {kvs : List (Key × V)} {l : List β}, Paired (fun kv b => kv.1 = Sum.inr (f b) ∧ F kv.2 b) kvs l → kvs.map (·.1) = (l.map f).map Sum.inr
  | _, _, .nil => rfl
  | _, _, .cons r t => by
    rw [List.map_cons, List.map_cons, List.map_cons, r.1, Paired.keys t]
theorem KvB.mono {G G' : Hp} {kvs : List (Key × V)} {l : Lim} (h : KvB K G kvs l) (e : Same G G') : KvB K G' kvs l :=
  Paired.imp (fun _ _ ⟨h1, a, h2, h3⟩ => ⟨h1, a, h2, seqT e h3⟩) h
theorem LimA.mono {G G' : Hp} {a : Addr} {l : Lim} (h : LimA K G a l) (e : Same G G') : LimA K G' a l := by
  obtain ⟨kvs, h1, h2⟩ := h
  exact ⟨kvs, e _ _ h1, h2.mono e⟩
theorem LimsA.mono {G G' : Hp} {a : Addr} {l : List (Str × Lim)} (h : LimsA K G a l) (e : Same G G') : LimsA K G' a l := by
  obtain ⟨kvs, h1, h2⟩ := h
  exact ⟨kvs, e _ _ h1, Paired.imp (fun _ _ ⟨h1, a, h2, h3, h4⟩ => ⟨h1, a, h2, h3, h4.mono e⟩) h2⟩
theorem valV_of : ∀ {kvs : List (Key × V)} {i : Nat} {k : Key} {v : V}, (kvs.map (·.1)).Nodup → kvs[i]? = some (k, v) → valV kvs k = some v
  | [], _, _, _, _, h => by simp at h
  | (k', v') :: r, 0, k, v, hn, h => by
    cases h
    exact valV_pos rfl
  | (k', v') :: r, i + 1, k, v, hn, h => by
    rw [List.map_cons, List.nodup_cons] at hn
    have hr : r[i]? = some (k, v) := by simpa using h
    have ne : ¬ k' = k := fun z => hn.1 (by
      rw [z]
      exact List.mem_map.mpr ⟨_, List.mem_of_getElem? hr, rfl⟩)
    rw [valV_neg ne]
    exact valV_of hn.2 hr
theorem nd_inr {l : List Str} (h : l.Nodup) : (l.map (Sum.inr : Str → Key)).Nodup :=
  List.Pairwise.map _ (fun _ _ h e => h (Sum.inr.inj e)) h
theorem KvB.nd {G : Hp} {kvs : List (Key × V)} {l : Lim} (h : KvB K G kvs l) (hn : (l.map (·.1)).Nodup) : (kvs.map (·.1)).Nodup := by
  rw [Paired.keys (f := fun b : Str × Str × Int => b.1) (F := fun v b => ∃ a, v = .ref a ∧ SqT K G a [.str b.2.1, .int b.2.2]) h]
  exact nd_inr hn
theorem KvL.nd {G : Hp} {d : Addr} {kvs : List (Key × V)} {l : List (Str × Lim)} (h : KvL K G d kvs l) (hn : (l.map (·.1)).Nodup) : (kvs.map (·.1)).Nodup := by
  rw [Paired.keys (f := fun b : Str × Lim => b.1) (F := fun v b => ∃ e, v = .ref e ∧ e ≠ d ∧ LimA K G e b.2) h]
  exact nd_inr hn
/-! ### a dict that is locked -/
theorem del_same0 {H : Hp} {d : Addr} : Same (del H d) H := fun b o e => by
  by_cases h : b = d
  · subst h; rw [del_same] at e; cases e
  · rw [del_ne h] at e; exact e
theorem del_upd {H : Hp} {d : Addr} {o : HO} : Same (del H d) (upd H d o) := fun b u e => by
  by_cases h : b = d
  · subst h; rw [del_same] at e; cases e
  · rw [del_ne h] at e; rw [upd_ne h]; exact e
theorem del_at {H : Hp} {d a : Addr} {o u : HO} (hd : H d = some o) (ha : H a = some u) (ne : u ≠ o) : del H d a = some u := by
  have : a ≠ d := fun z => by rw [z, hd] at ha; exact ne (Option.some.inj ha).symm
  rw [del_ne this]
  exact ha
theorem seqL_del {H : Hp} {d a : Addr} {kvs : List (Key × V)} {xs : List V} (hd : H d = some (.dK kvs)) (h : SqL K H a xs) : SqL K (del H d) a xs := by
  rcases h with (h | ⟨o, h⟩) | h
  · exact .inl (.inl (del_at hd h (by intro z; cases z)))
  · exact .inl (.inr ⟨o, del_at hd h (by intro z; cases z)⟩)
  · exact .inr h
theorem seqT_del {H : Hp} {d a : Addr} {kvs : List (Key × V)} {xs : List V} (hd : H d = some (.dK kvs)) (h : SqT K H a xs) : SqT K (del H d) a xs := by
  rcases h with (h | ⟨o, h⟩) | h
  · exact .inl (.inl (del_at hd h (by intro z; cases z)))
  · exact .inl (.inr ⟨o, del_at hd h (by intro z; cases z)⟩)
  · exact .inr h
theorem KvB.del {H : Hp} {d : Addr} {kvs' kvs : List (Key × V)} {l : Lim} (hd : H d = some (.dK kvs')) (h : KvB K H kvs l) : KvB K (L2.del H d) kvs l :=
  Paired.imp (fun _ _ ⟨h1, a, h2, h3⟩ => ⟨h1, a, h2, seqT_del hd h3⟩) h
theorem KvL.del {H : Hp} {d : Addr} {kvs' kvs : List (Key × V)} {l : List (Str × Lim)} (hd : H d = some (.dK kvs')) (h : KvL K H d kvs l) : KvL K (L2.del H d) d kvs l :=
  Paired.imp (fun _ _ ⟨h1, e, h2, h3, ks, h4, h5⟩ => ⟨h1, e, h2, h3, ks, by rw [del_ne h3]; exact h4, h5.del hd⟩) h
/-- unlocked, what was there stands -/
theorem unlock {H H' : Hp} {d : Addr} {u : HO} (e : Same (del H d) H') (hd : H d = some u) : Same H (upd H' d u) := fun b o q => by
  by_cases h : b = d
  · subst h; rw [hd] at q; rw [upd_same]; exact q
  · rw [upd_ne h]; exact e b o (by rw [del_ne h]; exact q)
theorem dget_frz {H : Hp} {d : Addr} {od : Obj} {kvs : List (Key × V)} {c : Str} {v : V} (h : H d = some (.frz od (.dK kvs))) (hv : valV kvs (.inr c) = some v) : DGet H d (.str c) (some v) :=
  .inl ⟨kvs, .inr c, .inr ⟨od, h⟩, rfl, hv.symm⟩
theorem dget {H : Hp} {d : Addr} {kvs : List (Key × V)} {c : Str} {v : V} (h : H d = some (.dK kvs)) (hv : valV kvs (.inr c) = some v) : DGet H d (.str c) (some v) :=
  .inl ⟨kvs, .inr c, .inl h, rfl, hv.symm⟩
/-! ### first_stranger, is_limit, is_cut, is_arrow: the good cases -/
def sp_first_stranger (K : PySem.W.Frag) : Sp := fun vs H Q _ => ∃ (a b : Addr) (ws us : List Str), vs = [.ref a, .ref b] ∧ SqL K H a (ws.map V.str) ∧ SqL K H b (us.map V.str) ∧ (∀ s ∈ ws, s ∈ us) ∧ ws.Nodup ∧ ∀ H', Same H H' → Q .non H'
theorem ok_first_stranger (T : Tx K mg A) : DefOk P w K mg base 2 "first_stranger" P_first_stranger (sp_first_stranger K) := by
  refine T.f_first_stranger.ok sc_first_stranger (fun vs H Q E ⟨a, _, ws, _, e, _⟩ => by rw [e]; rfl) (fun f cdv AA outer s H vs Q E hr h => ⟨_, (pss_cons (ps_if (pt_not (pt_val (pe_cd (ok_is_list T) (lv hr) rfl (pa_cons (pv 0) pa_nil)))) (pss_one (ps_ret pe_int)) pss_nil) (pss_cons (ps_for PassesOwn.never rfl (pi_enum rfl T.z_enumerate (pa_cons (pv 0) pa_nil)) (pg_tup rfl (pgs_cons (pg_name (i := 2) sc_first_stranger.nd rfl (Or.inl rfl)) (pgs_cons (pg_name (i := 3) sc_first_stranger.nd rfl (Or.inl rfl)) pgs_nil))) (pss_one (ps_if (PW.pt (pw_or (pt_not (pt_val (pe_cd (ok_is_of T) (lv hr) rfl (pa_cons (pv 3) (pa_cons (pv 1) pa_nil))))) (pw_or1 (pt_cmpR op_in_seq (pv 3) (pe_slice sl_list (pv 0) po_none (po_some (pv 2))) (by rfl))))) (pss_one (ps_ret (pv 2))) pss_nil))) (pss_one (ps_ret pe_non)))), ?_⟩)
  obtain ⟨a, b, ws, us, rfl, hs, hu, hg, hn, k⟩ := h
  refine ⟨_, rfl, _, .lst (ws.map D.str), rfl, ⟨a, _, rfl, hs, RpA.strs ws⟩, fun H1 e1 => ⟨_, rfl, iteF ?_⟩⟩
  refine ⟨_, rfl, a, _, rfl, e1.seq hs, ?_⟩
  refine for_it (walk_enum (K := K) (a := a) (xs := ws.map V.str)) (fun i σ H2 => Same H H2 ∧ ∃ v u, σ = [some (.ref a), some (.ref b), v, u]) ⟨e1, none, none, rfl⟩ (fun i σ H2 _ ⟨e, _⟩ => e.seq hs) ?_ ?_
  · rintro i x σ H2 H3 hi ⟨e2, v0, u0, rfl⟩ y
    obtain ⟨t, x1, x2, rfl, ht, rfl, h1, h2⟩ := y
    cases h1
    obtain ⟨z, hz, rfl⟩ := get_map h2
    have e3 : Same H (upd H2 t (.tup [.int (i : Nat), .str z])) := e2.new ht
    refine ⟨t, _, rfl, SqT.of upd_same, rfl, _, _, rfl, _, _, rfl, rfl, ?_⟩
    refine ⟨_, rfl, _, rfl, z, b, us, rfl, .inl (e3.seq hu), _, rfl, ?_⟩
    refine iteF' (by rw [decide_eq_true (hg z (List.mem_of_getElem? hz))]; rfl) ?_
    refine ⟨_, rfl, _, rfl, _, rfl, _, rfl, a, _, rfl, e3.seq hs, fun q hq => ?_⟩
    have hlt : i ≤ (ws.map V.str).length := by
      rw [List.length_map] at hi ⊢; omega
    rw [cut_take _ _ hlt, ← List.map_take]
    refine ⟨q, _, rfl, .inl (SqL.of upd_same), rfl, flat_strs _, _, rfl, ?_⟩
    have e6 : inV (.str z) ((ws.take i).map V.str) = false := by
      rw [inV_str]
      exact decide_eq_false (nd_take hn hz)
    show if (inV (.str z) ((ws.take i).map V.str)) = true then _ else _
    rw [e6]
    exact iteF ⟨e3.new hq, _, _, rfl⟩
  · rintro σ H2 ⟨e2, v0, u0, rfl⟩
    exact k _ e2
def sp_is_limit (K : PySem.W.Frag) : Sp := fun vs H Q _ => ∃ (e c : Addr) (l : Lim) (clocks : List Str), vs = [.ref e, .ref c] ∧ LimA K H e l ∧ SqL K H c (clocks.map V.str) ∧ LimOk clocks l ∧ ∀ H', Same H H' → Q (.bl true) H'
theorem ok_is_limit (T : Tx K mg A) : DefOk P w K mg base 4 "is_limit" P_is_limit (sp_is_limit K) := by
  refine T.f_is_limit.ok sc_is_limit (fun vs H Q E ⟨a, _, ws, _, e, _⟩ => by rw [e]; rfl) (fun f cdv AA outer s H vs Q E hr h => ⟨_, (pss_cons (ps_if (pt_not (pt_val (pe_callB call_isi rfl T.z_isinstance (by decide +kernel) (pa_cons (pv 0) (pa_cons (pe_bltn (v := .ty "dict") rfl T.z_dict (by decide +kernel) rfl) pa_nil))))) (pss_one (ps_ret pe_bl)) pss_nil) (pss_cons (ps_lock (ps_for PassesOwn.never rfl (pi_keys (pv 0)) (pg_name (i := 2) sc_is_limit.nd rfl (Or.inl rfl)) (pss_cons (ps_if (PW.pt (pw_or (pt_not (pt_val (pe_cd (ok_is_of T) (lv hr) rfl (pa_cons (pv 2) (pa_cons (pv 1) pa_nil))))) (pw_or1 (pt_cmpR op_isN (pe_dget (hu_of hr) (pv 0) (pv 2) (fun _ _ => rfl)) pe_non (nomark _))))) (pss_one (ps_ret pe_bl)) pss_nil) (pss_one (ps_if (PW.pt (pw_or (pt_not (pt_val (pe_cd (ok_is_upper T) (lv hr) rfl (pa_cons (pe_dget (hu_of hr) (pv 0) (pv 2) (fun _ _ => rfl)) pa_nil)))) (pw_or1 (pt_cmpR op_lt (pe_ix ix_tup (pe_dget (hu_of hr) (pv 0) (pv 2) (fun _ _ => rfl)) pe_int (fun _ _ => rfl)) pe_int (nomark _))))) (pss_one (ps_ret pe_bl)) pss_nil))))) (pss_one (ps_ret pe_bl)))), ?_⟩)
  obtain ⟨e, c, l, clocks, rfl, ⟨kvs, he, hkv⟩, hc, ok, k⟩ := h
  refine ⟨_, rfl, _, _, _, _, _, rfl, .ty _, .base (.dK he), kit_ty (kb_dict .emp), _, rfl, iteF' rfl ?_⟩
  refine ⟨e, _, he, trivial, fun od => ⟨_, rfl, e, od, rfl, .inl ⟨kvs, upd_same, ?_⟩⟩⟩
  have hc0 := seqL_del he hc
  have hkv0 := hkv.del he
  refine for_it (walk_keys (d := e) (o := od) (kvs := kvs)) (fun i σ H2 => Same (del H e) H2 ∧ H2 e = some (.frz od (.dK kvs)) ∧ ∃ v, σ = [some (.ref e), some (.ref c), v]) ⟨del_upd, upd_same, none, rfl⟩ (fun i σ H2 _ ⟨_, e, _⟩ => e) ?_ ?_
  · rintro i x σ H2 H3 hi ⟨e2, f2, v0, rfl⟩ y
    obtain ⟨rfl, k1, v1, hk1, rfl⟩ := y
    obtain ⟨⟨c1, w1, n1⟩, hb, hk, a1, hv, hs1⟩ := Paired.get hkv0 hk1
    simp only at hk hv hs1
    subst hk
    subst hv
    have hm := List.mem_of_getElem? hb
    have hval := valV_of (hkv.nd ok.nd) hk1
    have g2 : DGet H3 e (.str c1) (some (.ref a1)) := dget_frz f2 hval
    have hs2 := seqT e2 hs1
    refine ⟨_, rfl, _, rfl, c1, c, clocks, rfl, .inl (e2.seq hc0), _, rfl, iteF' (by rw [decide_eq_true (ok.c _ hm)]; rfl) ?_⟩
    refine ⟨_, rfl, _, rfl, e, _, rfl, g2, rfl, _, rfl, iteF' rfl ?_⟩
    refine ⟨_, rfl, _, rfl, e, _, rfl, g2, _, w1, n1, rfl, ⟨a1, _, rfl, hs2, RpA.cons rfl (RpA.cons rfl RpA.nil)⟩, ok.w _ hm, fun H4 e4 => ⟨_, rfl, iteF' rfl ?_⟩⟩
    have f4 := e4 _ _ f2
    refine ⟨_, rfl, _, rfl, e, _, rfl, dget_frz f4 hval, a1, _, 1, _, rfl, rfl, seqT e4 hs2, at1, _, _, rfl, rfl, _, rfl, ?_⟩
    refine iteF' (decide_eq_false (by have z := ok.n0 _ hm; simp only at z; omega)) ?_
    exact ⟨e2.trans e4, f4, _, rfl⟩
  · rintro σ H2 ⟨e2, f2, v0, rfl⟩
    exact ⟨f2, k _ (unlock e2 he)⟩
def sp_is_cut (K : PySem.W.Frag) : Sp := fun vs H Q _ => ∃ (v : V) (c : Addr) (x : Cut) (clocks : List Str), vs = [v, .ref c] ∧ Rp K H (cutD x) v ∧ SqL K H c (clocks.map V.str) ∧ CutOk clocks x ∧ ∀ H', Same H H' → Q (.bl true) H'
theorem at2 {x y z : V} : atI [x, y, z] 2 = some z := rfl
theorem at30 {x y z : V} : atI [x, y, z] 0 = some x := rfl
theorem at31 {x y z : V} : atI [x, y, z] 1 = some y := rfl
theorem ok_is_cut (T : Tx K mg A) : DefOk P w K mg base 3 "is_cut" P_is_cut (sp_is_cut K) := by
  refine T.f_is_cut.ok sc_is_cut (fun vs H Q E ⟨a, _, ws, _, e, _⟩ => by rw [e]; rfl) (fun f cdv AA outer s H vs Q E hr h => ⟨_, (pss_cons (ps_if (PW.pt (pw_or (pt_not (pt_val (pe_cd (ok_is_list T) (lv hr) rfl (pa_cons (pv 0) pa_nil)))) (pw_or1 (pt_cmpR op_ne (pe_callB call_len_seq rfl T.z_len PySem.boot_len (pa_cons (pv 0) pa_nil)) pe_int (nomark _))))) (pss_one (ps_ret pe_bl)) pss_nil) (pss_one (ps_ret (pe_and (pe_cd (ok_is_of T) (lv hr) rfl (pa_cons (pe_ix ix_tup (pv 0) pe_int (fun _ _ => rfl)) (pa_cons (pv 1) pa_nil))) (pe_and (pe_cd (ok_is_of T) (lv hr) rfl (pa_cons (pe_ix ix_tup (pv 0) pe_int (fun _ _ => rfl)) (pa_cons (pe_op op_catT (pe_glob (v := .ref A.cLOWERS) rfl T.g_LOWERS rfl) (pe_glob (v := .ref A.cUPPERS) rfl T.g_UPPERS rfl)) pa_nil))) (pe_one (pe_cd (ok_is_natural T) (lv hr) rfl (pa_cons (pe_ix ix_tup (pv 0) pe_int (fun _ _ => rfl)) pa_nil)))))))), ?_⟩)
  obtain ⟨v, c, ⟨x0, x1, x2⟩, clocks, rfl, hd, hc, ok, k⟩ := h
  have hd' := hd
  obtain ⟨a, xs, rfl, hs, _, r0, rfl, h0, _, r1, rfl, h1, _, r2, rfl, h2, rfl⟩ := hd'
  cases h0
  cases h1
  cases h2
  refine ⟨_, rfl, _, _, rfl, hd, fun H1 e1 => ⟨_, rfl, iteF' rfl ?_⟩⟩
  have hs1 := seqT e1 hs
  refine ⟨_, rfl, a, _, rfl, .inr hs1, rfl, _, rfl, iteF' rfl ?_⟩
  refine ⟨_, rfl, a, _, 0, _, rfl, rfl, hs1, at30, _, rfl, x0, c, clocks, rfl, .inl (e1.seq hc), _, rfl, iteT' (decide_eq_true ok.c) ?_⟩
  refine ⟨_, rfl, a, _, 1, _, rfl, rfl, hs1, at31, A.cLOWERS, A.cUPPERS, _, _, rfl, rfl, T.t_LOWERS _, T.t_UPPERS _, by simp, by decide, (fun z => by cases z), fun _ p hp => ?_⟩
  have e2 : Same H (upd H1 p (.tup ([V.str "from", V.str "above"] ++ [V.str "below", V.str "upto"]))) := e1.new hp
  refine ⟨x1, p, ["from", "above", "below", "upto"], rfl, .inr (SqT.of upd_same), _, rfl, iteT' (decide_eq_true ?_) ?_⟩
  · rcases ok.w with (z | z) | (z | z) <;> (simp only at z; rw [z]; simp)
  · have hs2 := seqT e2 hs
    refine ⟨_, rfl, a, _, 2, _, rfl, rfl, hs2, at2, _, .int x2, rfl, rfl, ?_⟩
    have q := k _ e2
    rw [show (D.int x2).isNat = true from decide_eq_true ok.n0]
    exact q
end K25

/-! ## K8 -/
set_option Elab.async false
set_option linter.all false
set_option maxRecDepth 100000
set_option maxHeartbeats 4000000
/-! K8: data as the library's data; is_arrow; begin_place. -/
set_option exponentiation.threshold 100000
namespace K25
open PySem L2
variable {P : Program} {w : World} {K : PySem.W.Frag} {mg : Str → Option Value} {base : Heap} {A : Ad}
/-! ### trees as the library's data -/
mutual
def D.fine : D → Prop
  | .emp => False
  | .str s => PyData.strOk s = true
  | .lst ds => D.fineA ds
  | .tup ds => D.fineA ds
  | _ => True
def D.fineA : List D → Prop
  | [] => True
  | d :: ds => d.fine ∧ D.fineA ds
end
mutual
def D.py : D → PyData
  | .non => .none
  | .bl b => .bool b
  | .int i => .int i
  | .str s => .str s
  | .lst ds => .list (D.pyA ds)
  | .tup ds => .tuple (D.pyA ds)
  | .emp => .none
def D.pyA : List D → List PyData
  | [] => []
  | d :: ds => d.py :: D.pyA ds
end
mutual
theorem Rp.dp {H : Hp} : ∀ {d : D} {v : V}, d.fine → Rp K H d v → Dp K H v d.py
  | .non, _, _, h => by cases h; exact .non
  | .bl b, _, _, h => by cases h; exact .bl b
  | .int i, _, _, h => by cases h; exact .int i
  | .str s, _, _, h => by cases h; exact .str s
  | .lst ds, _, f, ⟨a, xs, h1, h2, h3⟩ => by subst h1; exact .lst h2 (RpA.dp f h3)
  | .tup ds, _, f, ⟨a, xs, h1, h2, h3⟩ => by subst h1; exact .tup h2 (RpA.dp f h3)
  | .emp, _, f, _ => f.elim
theorem RpA.dp {H : Hp} : ∀ {ds : List D} {xs : List V}, D.fineA ds → RpA K H ds xs → DpAll K H xs (D.pyA ds)
  | [], _, _, h => by cases h; exact .nil
  | d :: ds, _, f, ⟨x, r, h1, h2, h3⟩ => by subst h1; exact .cons (Rp.dp f.1 h2) (RpA.dp f.2 h3)
end
mutual
theorem py_lay : ∀ {d : D}, d.fine → d.py.canLay0 = true
  | .non, _ => rfl
  | .bl _, _ => rfl
  | .int _, _ => rfl
  | .str s, h => h
  | .lst ds, h => pyA_lay h
  | .tup ds, h => pyA_lay h
  | .emp, h => h.elim
theorem pyA_lay : ∀ {ds : List D}, D.fineA ds → PyData.canLayAll0 (D.pyA ds) = true
  | [], _ => rfl
  | d :: ds, h => by
    show (d.py.canLay0 && PyData.canLayAll0 (D.pyA ds)) = true
    rw [py_lay h.1, pyA_lay h.2]
    rfl
end
mutual
theorem py_dep : ∀ d : D, d.py.depth ≤ d.dep
  | .non => Nat.le_refl _
  | .bl _ => Nat.le_refl _
  | .int _ => Nat.le_refl _
  | .str _ => Nat.le_refl _
  | .lst ds => Nat.succ_le_succ (pyA_dep ds)
  | .tup ds => Nat.succ_le_succ (pyA_dep ds)
  | .emp => Nat.le_refl _
theorem pyA_dep : ∀ ds : List D, PyData.depthAll (D.pyA ds) ≤ D.depA ds
  | [] => Nat.le_refl _
  | d :: ds => by
    show max _ _ ≤ max _ _
    have h1 := py_dep d
    have h2 := pyA_dep ds
    omega
end
theorem py_shaped {d : D} (h : d.fine) (hd : d.dep ≤ 64) : SeqAt.shaped d.py = true := by
  unfold SeqAt.shaped
  rw [py_lay h, decide_eq_true (Nat.le_trans (py_dep d) hd)]
  rfl
theorem py_eqv {d : D} (h : d.fine) : PyData.eqv d.py d.py = true := SeqAt.eqv_refl _ (py_lay h)
theorem fineA_map {α : Type} {f : α → D} : ∀ {l : List α}, (∀ x ∈ l, (f x).fine) → D.fineA (l.map f)
  | [], _ => trivial
  | x :: l, h => ⟨h x (List.mem_cons_self ..), fineA_map fun y hy => h y (List.mem_cons_of_mem _ hy)⟩
theorem depA_map {α : Type} {f : α → D} {n : Nat} : ∀ {l : List α}, (∀ x ∈ l, (f x).dep ≤ n) → D.depA (l.map f) ≤ n
  | [], _ => Nat.zero_le _
  | x :: l, h => Nat.max_le.mpr ⟨h x (List.mem_cons_self ..), depA_map fun y hy => h y (List.mem_cons_of_mem _ hy)⟩
theorem widA_map {α : Type} {f : α → D} : ∀ {l : List α}, (∀ x ∈ l, (f x).wid) → D.widA (l.map f)
  | [], _ => trivial
  | x :: l, h => ⟨h x (List.mem_cons_self ..), widA_map fun y hy => h y (List.mem_cons_of_mem _ hy)⟩
theorem SGN_small : ∀ c ∈ SGN.cps.toList, c < 0x110000 := by decide +kernel
theorem GoodName.ok {s : Str} (h : GoodName s) : PyData.strOk s = true := by
  unfold PyData.strOk
  rw [Array.all_eq_true_iff_forall_mem]
  intro c hc
  exact decide_eq_true (SGN_small c (h.az c (by simpa using hc)))
theorem word_ok {w : Str} (h : LoW w ∨ UpW w) : PyData.strOk w = true := by
  rcases h with (rfl | rfl) | (rfl | rfl) <;> decide +kernel
/-- an if whose test is false, the heap grown -/
theorem split_if {c : TT} {t u : TS} {D : Ends} {σ : L2.St} {H1 : Hp} (R : Hp → Prop) (h : ∀ Qt : Bool → Hp → Prop, (∀ H2, R H2 → Qt false H2) → c σ H1 Qt) (k : ∀ H2, R H2 → u D σ H2) : tIfS c t u D σ H1 := h _ fun H2 r => iteF (k H2 r)
/-! ### is_arrow -/
def sp_is_arrow (K : PySem.W.Frag) : Sp := fun vs H Q _ => ∃ (v : V) (p c : Addr) (a : Arr) (clocks places : List Str), vs = [v, .ref p, .ref c] ∧ Rp K H (arrD a) v ∧ SqL K H p (places.map V.str) ∧ SqL K H c (clocks.map V.str) ∧ ArrOk clocks places a ∧ ∀ H', Same H H' → Q (.bl true) H'
theorem at50 {a b c d e : V} : atI [a, b, c, d, e] 0 = some a := rfl
theorem at51 {a b c d e : V} : atI [a, b, c, d, e] 1 = some b := rfl
theorem at52 {a b c d e : V} : atI [a, b, c, d, e] 2 = some c := rfl
theorem at53 {a b c d e : V} : atI [a, b, c, d, e] 3 = some d := rfl
theorem at54 {a b c d e : V} : atI [a, b, c, d, e] 4 = some e := rfl
theorem ok_is_arrow (T : Tx K mg A) : DefOk P w K mg base 4 "is_arrow" P_is_arrow (sp_is_arrow K) := by
  refine T.f_is_arrow.ok sc_is_arrow (fun vs H Q E ⟨_, _, _, _, _, _, e, _⟩ => by rw [e]; rfl) (fun f cdv AA outer s H vs Q E hr h => ⟨_, (pss_cons (ps_if (PW.pt (pw_or (pt_not (pt_val (pe_cd (ok_is_list T) (lv hr) rfl (pa_cons (pv 0) pa_nil)))) (pw_or1 (pt_cmpR op_ne (pe_callB call_len_seq rfl T.z_len PySem.boot_len (pa_cons (pv 0) pa_nil)) pe_int (nomark _))))) (pss_one (ps_ret pe_bl)) pss_nil) (pss_cons (ps_if (PW.pt (pw_or (pt_not (pt_val (pe_cd (ok_is_of T) (lv hr) rfl (pa_cons (pe_ix ix_tup (pv 0) pe_int (fun _ _ => rfl)) (pa_cons (pv 1) pa_nil))))) (pw_or1 (pt_not (pt_val (pe_cd (ok_is_of T) (lv hr) rfl (pa_cons (pe_ix ix_tup (pv 0) pe_int (fun _ _ => rfl)) (pa_cons (pv 1) pa_nil)))))))) (pss_one (ps_ret pe_bl)) pss_nil) (pss_cons (ps_if (PW.pt (pw_and (pt_cmpR op_notN (pe_ix ix_tup (pv 0) pe_int (fun _ _ => rfl)) pe_non (nomark _)) (pw_and1 (pt_not (pt_val (pe_cd (ok_is_name T) (lv hr) rfl (pa_cons (pe_ix ix_tup (pv 0) pe_int (fun _ _ => rfl)) pa_nil))))))) (pss_one (ps_ret pe_bl)) pss_nil) (pss_cons (ps_if (PW.pt (pw_or (pt_not (pt_val (pe_cd (ok_is_list T) (lv hr) rfl (pa_cons (pe_ix ix_tup (pv 0) pe_int (fun _ _ => rfl)) pa_nil)))) (pw_or1 (pt_not (pt_val (pe_callB (cr_all rfl) rfl T.z_all (by decide +kernel) (pa_cons (pe_lc (own := [("part", 3)]) rfl sc_is_arrow.nd (pi_list (pe_ix ix_tup (pv 0) pe_int (fun _ _ => rfl))) (blkOk_by (own := [("part", 3)]) (N := N_is_arrow) (sc := defScope s_is_arrow) (by decide +kernel)) (fun _ _ _ _ _ => (pg_name (i := 3) sc_is_arrow.nd rfl (Or.inl rfl))) (fun _ _ _ _ _ => pts_nil) (fun _ _ _ _ _ => (pe_cd (ok_is_cut T) (lv hr) rfl (pa_cons (pv 3) (pa_cons (pv 2) pa_nil))))) pa_nil))))))) (pss_one (ps_ret pe_bl)) pss_nil) (pss_one (ps_ret (pe_cmpR op_isN (pe_cd (ok_first_stranger T) (lv hr) rfl (pa_cons (pe_ix ix_tup (pv 0) pe_int (fun _ _ => rfl)) (pa_cons (pv 2) pa_nil))) pe_non (nomark _)))))))), ?_⟩)
  obtain ⟨v, p, c, ⟨src, sig, cuts, beg, dst⟩, clocks, places, rfl, hd, hp, hc, ok, k⟩ := h
  have hd' := hd
  obtain ⟨a, xs, rfl, hs, x0, r0, rfl, h0, x1, r1, rfl, h1, x2, r2, rfl, h2, x3, r3, rfl, h3, x4, r4, rfl, h4, rfl⟩ := hd'
  cases h0
  cases h4
  refine ⟨_, rfl, _, _, rfl, hd, fun H1 e1 => ⟨_, rfl, iteF' rfl ?_⟩⟩
  have hs1 := seqT e1 hs
  refine ⟨_, rfl, a, _, rfl, .inr hs1, rfl, _, rfl, iteF' rfl ?_⟩
  refine ⟨_, rfl, a, _, 0, _, rfl, rfl, hs1, at50, _, rfl, src, p, places, rfl, .inl (e1.seq hp), _, rfl, iteF' (by rw [decide_eq_true ok.src]; rfl) ?_⟩
  refine ⟨_, rfl, a, _, 4, _, rfl, rfl, hs1, at54, _, rfl, dst, p, places, rfl, .inl (e1.seq hp), _, rfl, iteF' (by rw [decide_eq_true ok.dst]; rfl) ?_⟩
  simp only [tNext, tSeq]
  refine split_if (Same H) (fun Qt hq => ?_) (fun H2 e2 => ?_)
  · refine ⟨_, rfl, a, _, 1, _, rfl, rfl, hs1, at51, rfl, _, rfl, ?_⟩
    cases sig with
    | none =>
      cases h1
      exact iteF' rfl (hq H1 e1)
    | some z =>
      cases h1
      exact iteT' rfl ⟨_, rfl, a, _, 1, _, rfl, rfl, hs1, at51, z, rfl, ok.sig z rfl, fun H3 e3 => ⟨_, rfl, hq H3 (e1.trans e3)⟩⟩
  · have hs2 := seqT e2 hs
    refine ⟨_, rfl, a, _, 2, _, rfl, rfl, hs2, at52, _, .lst (cuts.map cutD), rfl, Rp.mono e2 _ _ h2, fun H3 e3 => ⟨_, rfl, iteF' rfl ?_⟩⟩
    have e3 := e2.trans e3
    have hs3 := seqT e3 hs
    obtain ⟨ac, xc, rfl, hxc, hrc⟩ := h2
    have lc : xc.length = cuts.length := by rw [hrc.len, List.length_map]
    refine ⟨_, rfl, a, _, 2, _, rfl, rfl, hs3, at52, ac, rfl, ⟨xc, e3.seq hxc⟩, fun L hL => ?_⟩
    refine lc_bools (walk_list (xs := xc)) (fun _ => true) hL (by have := ok.ncuts; simp only at this; omega) (fun H4 e4 => (e3.trans e4).seq hxc) (fun _ _ _ _ y => YAt.same y) (fun i x H4 H5 Qc hi e4 y q => ?_) (fun H4 e4 hL4 => ?_)
    · obtain ⟨rfl, hx⟩ := y
      obtain ⟨d, hd1, hd2⟩ := hrc.get' hx
      obtain ⟨cc, hcc, rfl⟩ := get_map hd1
      exact ⟨rfl, _, rfl, _, rfl, x, c, cc, clocks, rfl, Rp.mono (e3.trans e4) _ _ hd2, (e3.trans e4).seq hc, ok.cuts _ (List.mem_of_getElem? hcc), fun H6 e6 => q H6 e6⟩
    · refine ⟨L, _, rfl, SqL.of hL4, ?_⟩
      rw [all_true]
      refine ⟨_, rfl, iteF' rfl ?_⟩
      have e4 := e3.trans e4
      have hs4 := seqT e4 hs
      obtain ⟨ab, xb, rfl, hxb, hrb⟩ := h3
      rw [hrb.strs_inv] at hxb
      refine ⟨_, rfl, a, _, 3, _, rfl, rfl, hs4, at53, _, rfl, ab, c, beg, clocks, rfl, e4.seq hxb, e4.seq hc, ok.beg, ok.nbeg, fun H5 e5 => ⟨rfl, k _ (e4.trans e5)⟩⟩
end K25

/-! ## K9 -/
set_option Elab.async false
set_option linter.all false
set_option maxRecDepth 100000
set_option maxHeartbeats 4000000
/-! K9: Watcher.__init__. -/
set_option exponentiation.threshold 100000
namespace K25
open PySem L2
variable {P : Program} {w : World} {K : PySem.W.Frag} {mg : Str → Option Value} {base : Heap} {A : Ad}
def heldL (clocks : List Str) (l : Lim) : Lim := clocks.filterMap fun c => (l.lookup c).map fun b => (c, b)
def Wt.held (W : Wt) : List (Str × Lim) := W.lims.map fun p => (p.1, heldL W.clocks p.2)
def fldsW (h e t l : V) : List (Str × V) := [("hands", h), ("held", e), ("tracks", t), ("last_ones", l)]
theorem put1 (h : V) : putF "hands" h [] = ([("hands", h)] : List (Str × V)) := rfl
theorem put2 (h e : V) : putF "held" e ([("hands", h)] : List (Str × V)) = ([("hands", h), ("held", e)] : List (Str × V)) := by
  have h1 : ¬ (("hands" : Str) = "held") := by decide +kernel
  simp only [putF, if_neg h1]
theorem put3 (h e t : V) : putF "tracks" t ([("hands", h), ("held", e)] : List (Str × V)) = ([("hands", h), ("held", e), ("tracks", t)] : List (Str × V)) := by
  have h1 : ¬ (("hands" : Str) = "tracks") := by decide +kernel
  have h2 : ¬ (("held" : Str) = "tracks") := by decide +kernel
  simp only [putF, if_neg h1, if_neg h2]
theorem put4 (h e t l : V) : putF "last_ones" l ([("hands", h), ("held", e), ("tracks", t)] : List (Str × V)) = fldsW h e t l := by
  have h1 : ¬ (("hands" : Str) = "last_ones") := by decide +kernel
  have h2 : ¬ (("held" : Str) = "last_ones") := by decide +kernel
  have h3 : ¬ (("tracks" : Str) = "last_ones") := by decide +kernel
  simp only [putF, if_neg h1, if_neg h2, if_neg h3]
  rfl
theorem look2 (h e : V) : List.lookup ("held" : Str) ([("hands", h), ("held", e)] : List (Str × V)) = some e := by
  have q : (("held" : Str) == "hands") = false := by decide +kernel
  simp [List.lookup, q]
/-- what the fields of a watcher are -/
def WatD (K : PySem.W.Frag) (G : Hp) (W : Wt) (fs : List (Str × V)) : Prop :=
  ∃ h e t l, fs = fldsW (.ref h) (.ref e) (.ref t) (.ref l) ∧ SqT K G h (W.clocks.map V.str) ∧ LimsA K G e W.held ∧ Rp K G (.tup (W.arrs.map arrT)) (.ref t) ∧ SqT K G l (W.ends.map V.str)
def WatA (K : PySem.W.Frag) (CW : Addr) (G : Hp) (x : Addr) (W : Wt) : Prop := ∃ dx fs, G x = some (.ins CW dx fs) ∧ WatD K G W fs
/-- a new instance and what its __init__ leaves -/
theorem made {G H1 G' H' : Hp} {x dx C : Addr} {o : HO} (w : Same G H1) (hx : H1 x = none) (hdx : H1 dx = none) (ne : dx ≠ x) (n : Nx (· = x) G (upd (upd H1 dx (.own x)) x (.ins C dx [])) G' H') (gx : G' x = none) (hx' : H' x = some o) :
    Nx M0 G H1 (upd G' x o) H' := by
  have up : ∀ a u, H1 a = some u → upd (upd H1 dx (.own x)) x (.ins C dx []) a = some u ∧ a ≠ x := fun a u e => by
    have h1 := ne_of_none e hx
    have h2 := ne_of_none e hdx
    exact ⟨by rw [upd_ne h1, upd_ne h2]; exact e, h1⟩
  refine ⟨n.g.trans (Same.new0 gx), n.w.at hx', fun a u _ e => n.h a u (up a u e).2 (up a u e).1, fun a e => ?_, fun a e f => ?_⟩
  · cases q : H1 a with
    | none => exact (e q).elim
    | some u => exact n.t a (by rw [(up a u q).1]; simp)
  · cases q : H1 a with
    | none => exact (f q).elim
    | some u =>
      rw [upd_ne (up a u q).2]
      exact n.own a e (by rw [(up a u q).1]; simp)
theorem made_same {G H1 : Hp} {x dx C : Addr} (w : Same G H1) (hx : H1 x = none) (hdx : H1 dx = none) (ne : dx ≠ x) : Same G (upd (upd H1 dx (.own x)) x (.ins C dx [])) := fun a u e => by
  have q := w _ _ e
  rw [upd_ne (ne_of_none q hx), upd_ne (ne_of_none q hdx)]
  exact q
/-- behind a lock under which things were made -/
theorem Nx.unlock {M : Addr → Prop} {G H G' H' : Hp} {d : Addr} {u : HO} {od : Obj} (w : Same G H) (n : Nx M (del G d) (upd H d (.frz od u)) G' H') (gd : G d = some u) (hd : H d = some u) (nM : ¬ M d) : Nx M G H (upd G' d u) (upd H' d u) := by
  refine ⟨fun a v e => ?_, n.w.both, fun a v m e => ?_, fun a e => ?_, fun a e f => ?_⟩
  · by_cases h : a = d
    · subst h; rw [gd] at e; rw [upd_same]; exact e
    · rw [upd_ne h]; exact n.g a v (by rw [del_ne h]; exact e)
  · by_cases h : a = d
    · subst h; rw [hd] at e; rw [upd_same]; exact e
    · rw [upd_ne h]; exact n.h a v m (by rw [upd_ne h]; exact e)
  · by_cases h : a = d
    · subst h; rw [upd_same]; simp
    · rw [upd_ne h]; exact n.t a (by rw [upd_ne h]; exact e)
  · by_cases h : a = d
    · subst h; rw [gd] at e; cases e
    · rw [upd_ne h]; exact n.own a (by rw [del_ne h]; exact e) (by rw [upd_ne h]; exact f)
theorem dgetO {H : Hp} {d : Addr} {kvs : List (Key × V)} {c : Str} (h : H d = some (.dK kvs)) : DGet H d (.str c) (valV kvs (.inr c)) := .inl ⟨kvs, .inr c, .inl h, rfl, rfl⟩
theorem KvB.look {G : Hp} {c : Str} : ∀ {kvs : List (Key × V)} {l : Lim}, KvB K G kvs l → match l.lookup c with
    | none => valV kvs (.inr c) = none
    | some b => ∃ a, valV kvs (.inr c) = some (.ref a) ∧ SqT K G a [.str b.1, .int b.2]
  | _, _, .nil => rfl
  | (k, v) :: kvs, (c', b) :: l, .cons ⟨h1, a, h2, h3⟩ t => by
    simp only at h1 h2 h3
    subst h1
    subst h2
    by_cases e : c = c'
    · subst e
      have q : List.lookup c ((c, b) :: l) = some b := by simp [List.lookup]
      rw [q]
      exact ⟨a, valV_pos rfl, h3⟩
    · have q : (c == c') = false := by simpa using e
      have q2 : List.lookup c ((c', b) :: l) = l.lookup c := by simp [List.lookup, q]
      rw [q2]
      have ne : ¬ (Sum.inr c' : Key) = Sum.inr c := fun z => e (Sum.inr.inj z).symm
      have ih := KvB.look (c := c) t
      cases h : l.lookup c with
      | none =>
        rw [h] at ih
        show valV ((Sum.inr c', V.ref a) :: kvs) (Sum.inr c) = none
        rw [valV_neg ne]
        exact ih
      | some b' =>
        rw [h] at ih
        obtain ⟨a', i1, i2⟩ := ih
        exact ⟨a', by rw [valV_neg ne]; exact i1, i2⟩
theorem valV_not {kvs : List (Key × V)} {k : Key} (h : k ∉ kvs.map (·.1)) : valV kvs k = none := by
  induction kvs with
  | nil => rfl
  | cons p r ih =>
    rw [List.map_cons, List.mem_cons, not_or] at h
    rw [valV_neg (fun z => h.1 z.symm)]
    exact ih h.2
theorem KvB.keys {G : Hp} {kvs : List (Key × V)} {l : Lim} (h : KvB K G kvs l) : kvs.map (·.1) = (l.map (·.1)).map Sum.inr :=
  Paired.keys (f := fun b : Str × Str × Int => b.1) (F := fun v b => ∃ a, v = .ref a ∧ SqT K G a [.str b.2.1, .int b.2.2]) h
theorem KvL.keys {G : Hp} {d : Addr} {kvs : List (Key × V)} {l : List (Str × Lim)} (h : KvL K G d kvs l) : kvs.map (·.1) = (l.map (·.1)).map Sum.inr :=
  Paired.keys (f := fun b : Str × Lim => b.1) (F := fun v b => ∃ e, v = .ref e ∧ e ≠ d ∧ LimA K G e b.2) h
theorem held_sub {clocks : List Str} {l : Lim} {c : Str} (h : c ∈ (heldL clocks l).map (·.1)) : c ∈ clocks := by
  obtain ⟨p, hp, rfl⟩ := List.mem_map.mp h
  obtain ⟨c', hc', e⟩ := List.mem_filterMap.mp hp
  cases q : l.lookup c' with
  | none => rw [q] at e; cases e
  | some b => rw [q] at e; cases e; exact hc'
theorem Paired.snoc {α β : Type} {F : α → β → Prop} : ∀ {xs : List α} {ys : List β} {x : α} {y : β}, Paired F xs ys → F x y → Paired F (xs ++ [x]) (ys ++ [y])
  | _, _, _, _, .nil, h => .cons h .nil
  | _, _, _, _, .cons r t, h => .cons r (Paired.snoc t h)
theorem not_inr {l : List Str} {c : Str} (h : c ∉ l) : (Sum.inr c : Key) ∉ l.map Sum.inr := fun z => by
  obtain ⟨x, hx, e⟩ := List.mem_map.mp z
  exact h (by rw [← Sum.inr.inj e]; exact hx)
theorem take_succ' {α : Type} {l : List α} {i : Nat} {x : α} (h : l[i]? = some x) : l.take (i + 1) = l.take i ++ [x] := by
  rw [List.take_add_one, h]
  rfl
theorem arr_dep (a : Arr) : (arrD a).dep ≤ 3 := by
  have h1 : D.depA (a.cuts.map cutD) ≤ 1 := depA_map fun x _ => (by decide : (1 : Nat) ≤ 1)
  have h2 : D.depA (a.beg.map D.str) ≤ 0 := depA_map fun x _ => Nat.le_refl _
  have h3 : (sigD a.sig).dep = 0 := by cases a.sig <;> rfl
  show D.depA [.str a.src, sigD a.sig, .lst (a.cuts.map cutD), .lst (a.beg.map D.str), .str a.dst] + 1 ≤ 3
  simp only [D.depA, D.dep]
  omega
theorem arr_wid {clocks places : List Str} {a : Arr} (ok : ArrOk clocks places a) : (arrD a).wid := by
  have h1 : D.widA (a.cuts.map cutD) := widA_map fun x _ => ⟨show 3 ≤ 1000 by decide, trivial, trivial, trivial, trivial⟩
  have h2 : D.widA (a.beg.map D.str) := widA_map fun x _ => trivial
  have h3 : (sigD a.sig).wid := by cases a.sig <;> trivial
  have := ok.ncuts
  have := ok.lbeg
  exact ⟨show 5 ≤ 1000 by decide, trivial, h3, ⟨by rw [List.length_map]; omega, h1⟩, ⟨by rw [List.length_map]; omega, h2⟩, trivial, trivial⟩
theorem tupdA_strs (l : List Str) : D.tupdA (l.map D.str) = l.map D.str := by
  rw [tupdA_eq, List.map_map]
  rfl
theorem tupdA_cuts (l : List Cut) : D.tupdA (l.map cutD) = l.map cutD := by
  rw [tupdA_eq, List.map_map]
  rfl
theorem arr_tupd (a : Arr) : (arrD a).tupd = arrT a := by
  have h3 : (sigD a.sig).tupd = sigD a.sig := by cases a.sig <;> rfl
  show D.tup [.str a.src, (sigD a.sig).tupd, .tup (D.tupdA (a.cuts.map cutD)), .tup (D.tupdA (a.beg.map D.str)), .str a.dst] = _
  rw [h3, tupdA_strs, tupdA_cuts]
  rfl
theorem arrs_tupd (l : List Arr) : (D.lst (l.map arrD)).tupd = .tup (l.map arrT) := by
  show D.tup (D.tupdA (l.map arrD)) = _
  rw [tupdA_eq, List.map_map]
  congr 1
  exact List.map_congr_left fun a _ => arr_tupd a
end K25

/-! ## K10 -/
set_option Elab.async false
set_option linter.all false
set_option maxRecDepth 100000
set_option maxHeartbeats 8000000
/-! K10: Watcher.__init__. -/
set_option exponentiation.threshold 100000
namespace K25
open PySem L2
variable {P : Program} {w : World} {K : PySem.W.Frag} {mg : Str → Option Value} {base : Heap} {A : Ad}
/-- the law's dict of a watcher: what is passed to Watcher -/
structure ArgsA (K : PySem.W.Frag) (G : Hp) (W : Wt) (c d a e : Addr) : Prop where
  c : SqL K G c (W.clocks.map V.str)
  d : LimsA K G d W.lims
  a : Rp K G (.lst (W.arrs.map arrD)) (.ref a)
  e : SqL K G e (W.ends.map V.str)
theorem ArgsA.mono {G G' : Hp} {W : Wt} {c d a e : Addr} (h : ArgsA K G W c d a e) (s : Same G G') : ArgsA K G' W c d a e :=
  ⟨s.seq h.c, h.d.mono s, h.a.mono s, s.seq h.e⟩
def sp_Watcher (K : PySem.W.Frag) (CW : Addr) : Sp := fun vs H Q _ => ∃ (x dx c d a e : Addr) (G : Hp) (W : Wt), vs = [.ref x, .ref c, .ref d, .ref a, .ref e] ∧ Same G H ∧ G x = none ∧ H x = some (.ins CW dx []) ∧ ArgsA K G W c d a e ∧ WtOk W ∧
  ∀ G' H' fs, Nx (· = x) G H G' H' → G' x = none → WatD K G' W fs → H' x = some (.ins CW dx fs) → Q .non H'
/-- the locked loop's turn: the limits of one place, in the order of the clocks -/
theorem held_snoc {clocks : List Str} {l : Lim} {j : Nat} {c : Str} (h : clocks[j]? = some c) : heldL (clocks.take (j + 1)) l = heldL (clocks.take j) l ++ ((l.lookup c).map fun b => (c, b)).toList := by
  rw [take_succ' h]
  unfold heldL
  rw [List.filterMap_append]
  congr 1
theorem del_upd' {G H : Hp} {d : Addr} {o : HO} (w : Same G H) : Same (del G d) (upd H d o) := fun b u e => by
  by_cases h : b = d
  · subst h; rw [del_same] at e; cases e
  · rw [del_ne h] at e; rw [upd_ne h]; exact w _ _ e
theorem ok_Watcher (T : Tx K mg A) : MkOk P w K mg base A.Watcher 8 P_Watcher_init (sp_Watcher K A.Watcher) := by
  refine T.m_Watcher.ok sc_Watcher_init (fun vs H Q E ⟨_, _, _, _, _, _, _, _, e, _⟩ => by rw [e]; rfl) (fun f cdv AA outer s H vs Q E hr h => ⟨_, (pss_cons (ps_set (i := 5) sc_Watcher_init.nd rfl (Or.inl rfl) (pe_cd (ok_first_bad_name T) (lv hr) rfl (pa_cons (pv 1) pa_nil))) (pss_cons (ps_if (pt_cmpR op_notN (pv 5) pe_non (nomark _)) (pss_one ps_never) pss_nil) (pss_cons (ps_if (PW.pt (pw_or (pt_not (pt_val (pe_callB call_isi rfl T.z_isinstance (by decide +kernel) (pa_cons (pv 2) (pa_cons (pe_bltn (v := .ty "dict") rfl T.z_dict (by decide +kernel) rfl) pa_nil))))) (pw_or1 (pt_cmpR op_eq (pe_callB call_lenD rfl T.z_len PySem.boot_len (pa_cons (pv 2) pa_nil)) pe_int (nomark _))))) (pss_one ps_never) pss_nil) (pss_cons (ps_lock (ps_for PassesOwn.never rfl (pi_keys (pv 2)) (pg_name (i := 6) sc_Watcher_init.nd rfl (Or.inr rfl)) (pss_one (ps_if (PW.pt (pw_or (pt_not (pt_val (pe_cd (ok_is_name T) (lv hr) rfl (pa_cons (pv 6) pa_nil)))) (pw_or1 (pt_not (pt_val (pe_cd (ok_is_limit T) (lv hr) rfl (pa_cons (pe_dget (hu_of hr) (pv 2) (pv 6) (fun _ _ => rfl)) (pa_cons (pv 1) pa_nil)))))))) (pss_one ps_never) pss_nil)))) (pss_cons (ps_if (pt_not (pt_val (pe_cd (ok_is_list T) (lv hr) rfl (pa_cons (pv 3) pa_nil)))) (pss_one ps_never) pss_nil) (pss_cons (ps_for PassesOwn.never rfl (pi_enum rfl T.z_enumerate (pa_cons (pv 3) pa_nil)) (pg_tup rfl (pgs_cons (pg_name (i := 7) sc_Watcher_init.nd rfl (Or.inl rfl)) (pgs_cons (pg_name (i := 8) sc_Watcher_init.nd rfl (Or.inl rfl)) pgs_nil))) (pss_one (ps_if (pt_not (pt_val (pe_cd (ok_is_arrow T) (lv hr) rfl (pa_cons (pv 8) (pa_cons (pe_callTy (call_list_dK rfl) rfl T.z_list (by decide +kernel) (pa_cons (pv 2) pa_nil)) (pa_cons (pv 1) pa_nil)))))) (pss_one ps_never) pss_nil))) (pss_cons (ps_set (i := 5) sc_Watcher_init.nd rfl (Or.inl rfl) (pe_cd (ok_first_stranger T) (lv hr) rfl (pa_cons (pv 4) (pa_cons (pe_callTy (call_list_dK rfl) rfl T.z_list (by decide +kernel) (pa_cons (pv 2) pa_nil)) pa_nil)))) (pss_cons (ps_if (pt_cmpR op_notN (pv 5) pe_non (nomark _)) (pss_one ps_never) pss_nil) (pss_cons (ps_fld (pv 0) (pe_callTy call_tuple_of rfl T.z_tuple (by decide +kernel) (pa_cons (pv 1) pa_nil)) rfl) (pss_cons (ps_fld (pv 0) pe_dnewK rfl) (pss_cons (ps_lock (ps_for PassesOwn.never rfl (pi_keys (pv 2)) (pg_name (i := 6) sc_Watcher_init.nd rfl (Or.inr rfl)) (pss_one (ps_dput (hu_of hr) (pe_fld (pv 0) rfl) (pv 6) (pe_dc (own := [("each", 9)]) rfl sc_Watcher_init.nd (pi_list (pv 1)) (blkOk_by (own := [("each", 9)]) (N := N_Watcher_init) (sc := defScope s_Watcher_init) (by decide +kernel)) (fun _ _ _ _ _ => (pg_name (i := 9) sc_Watcher_init.nd rfl (Or.inl rfl))) (fun _ _ _ _ _ => (pts_one (pt_cmp (pc_din (hu_of hr) (pv 9) (pe_dget (hu_of hr) (pv 2) (pv 6) (fun _ _ => rfl)))))) (fun _ _ _ _ _ => (pv 9)) (fun _ _ _ _ _ => (pe_cd (ok_as_tuples T 4) (lv hr) rfl (pa_cons (pe_dget (hu_of hr) (pe_dget (hu_of hr) (pv 2) (pv 6) (fun _ _ => rfl)) (pv 9) (fun _ _ => rfl)) pa_nil)))) rfl)))) (pss_cons (ps_fld (pv 0) (pe_cd (ok_as_tuples T 4) (lv hr) rfl (pa_cons (pv 3) pa_nil)) rfl) (pss_one (ps_fld (pv 0) (pe_callTy call_tuple_of rfl T.z_tuple (by decide +kernel) (pa_cons (pv 4) pa_nil)) rfl)))))))))))))), ?_⟩)
  obtain ⟨x, dx, c, d, a, e, G, W, rfl, w0, gx, hx, ar, ok, k⟩ := h
  have arH := ar.mono w0
  refine ⟨_, rfl, c, _, rfl, arH.c, ok.cg, ok.cn, fun H1 e1 => ?_⟩
  refine ⟨_, rfl, rfl, _, rfl, iteF' rfl ?_⟩
  obtain ⟨kvs, hd, hkv⟩ := (ar.mono (w0.trans e1)).d
  refine ⟨_, rfl, _, _, _, _, _, rfl, .ty _, .base (.dK hd), kit_ty (kb_dict .emp), _, rfl, iteF' rfl ?_⟩
  have hlen : kvs.length = W.lims.length := Paired.len hkv
  refine ⟨_, rfl, d, kvs, rfl, hd, rfl, _, rfl, iteF' ?_ ?_⟩
  · have := ok.p0
    rw [dec_int, beq_eq_false_iff_ne]
    omega
  -- the places, looked at under the lock
  refine ⟨d, _, hd, trivial, fun od => ⟨_, rfl, d, od, rfl, .inl ⟨kvs, upd_same, ?_⟩⟩⟩
  have hkvD := hkv.del hd
  have hcD := seqL_del hd (e1.seq arH.c)
  refine for_it (walk_keys (d := d) (o := od) (kvs := kvs)) (fun i σ H2 => Same (del H1 d) H2 ∧ H2 d = some (.frz od (.dK kvs)) ∧ ∃ v, σ = [some (.ref x), some (.ref c), some (.ref d), some (.ref a), some (.ref e), some .non, v, none, none, none]) ⟨del_upd, upd_same, none, rfl⟩ (fun i σ H2 _ ⟨_, q, _⟩ => q) ?_ ?_
  · rintro i y σ H2 H3 hi ⟨e2, f2, v0, rfl⟩ yy
    obtain ⟨rfl, k1, v1, hk1, rfl⟩ := yy
    obtain ⟨⟨nm, lm⟩, hb, hk, ei, hv, hne, hl⟩ := Paired.get hkvD hk1
    simp only at hk hv hl
    subst hk
    subst hv
    have hm := List.mem_of_getElem? hb
    have hmp : nm ∈ W.places := List.mem_map.mpr ⟨_, hm, rfl⟩
    have hval := valV_of (hkv.nd ok.pn) hk1
    refine ⟨_, rfl, nm, rfl, ok.pg _ hmp, fun H4 e4 => ⟨_, rfl, iteF' rfl ?_⟩⟩
    have f4 := e4 _ _ f2
    have e4' := e2.trans e4
    refine ⟨_, rfl, _, rfl, d, _, rfl, dget_frz f4 hval, _, rfl, ei, c, lm, W.clocks, rfl, hl.mono e4', e4'.seq hcD, ok.lm _ hm, fun H5 e5 => ⟨_, rfl, iteF' rfl ?_⟩⟩
    exact ⟨e4'.trans e5, e5 _ _ f4, _, rfl⟩
  rintro σ H2' ⟨e2, f2, v0, rfl⟩
  refine ⟨f2, ?_⟩
  have e2 : Same H (upd H2' d (.dK kvs)) := e1.trans (unlock e2 hd)
  generalize upd H2' d (.dK kvs) = H2 at e2
  clear f2
  have ar2 := arH.mono e2
  refine ⟨_, rfl, _, _, rfl, ar2.a, fun H3 e3 => ⟨_, rfl, iteF' rfl ?_⟩⟩
  have e3 := e2.trans e3
  have ar3 := arH.mono e3
  obtain ⟨a', xa, ea, hxa, hra⟩ := arH.a
  cases ea
  -- the arrows
  refine ⟨_, rfl, a, _, rfl, e3.seq hxa, ?_⟩
  refine for_it (walk_enum (K := K) (a := a) (xs := xa)) (fun i σ H4 => Same H H4 ∧ ∃ v u z, σ = [some (.ref x), some (.ref c), some (.ref d), some (.ref a), some (.ref e), some .non, v, u, z, none]) ⟨e3, v0, none, none, rfl⟩ (fun i σ H4 _ ⟨q, _⟩ => q.seq hxa) ?_ ?_
  · rintro i y σ H4 H5 hi ⟨e4, v1, u1, z1, rfl⟩ yy
    obtain ⟨t, y1, y2, rfl, ht, rfl, h1, h2⟩ := yy
    cases h1
    have e5 : Same H (upd H4 t (.tup [.int (i : Nat), y2])) := e4.new ht
    obtain ⟨da, hda, hra'⟩ := hra.get' h2
    obtain ⟨aw, haw, rfl⟩ := get_map hda
    obtain ⟨kvs5, hd5, hkv5⟩ := (arH.mono e5).d
    refine ⟨t, _, rfl, SqT.of upd_same, rfl, _, _, rfl, _, _, rfl, rfl, ?_⟩
    refine ⟨_, rfl, _, rfl, d, kvs5, rfl, hd5, fun q hq => ⟨_, rfl, y2, q, c, aw, W.clocks, W.places, rfl, hra'.mono (e5.new hq), ?_, (arH.mono (e5.new hq)).c, ok.ar _ (List.mem_of_getElem? haw), fun H6 e6 => ⟨_, rfl, iteF' rfl ?_⟩⟩⟩
    · have q1 : (kvs5.map fun kv => kV kv.1) = W.places.map V.str := by
        have q2 := hkv5.keys
        have q3 : (kvs5.map fun kv => kV kv.1) = (kvs5.map (·.1)).map kV := by rw [List.map_map]; rfl
        rw [q3, q2, List.map_map]
        rfl
      rw [q1]
      exact SqL.of upd_same
    · exact ⟨(e5.new hq).trans e6, _, _, _, rfl⟩
  rintro σ H4 ⟨e4, v1, u1, z1, rfl⟩
  obtain ⟨kvs4, hd4, hkv4⟩ := (arH.mono e4).d
  -- the ends
  refine ⟨_, rfl, _, rfl, d, kvs4, rfl, hd4, fun q hq => ⟨e, q, W.ends, W.places, rfl, (arH.mono (e4.new hq)).e, ?_, ok.ep, ok.en, fun H5 e5 => ?_⟩⟩
  · have q1 : (kvs4.map fun kv => kV kv.1) = W.places.map V.str := by
      have q3 : (kvs4.map fun kv => kV kv.1) = (kvs4.map (·.1)).map kV := by rw [List.map_map]; rfl
      rw [q3, hkv4.keys, List.map_map]
      rfl
    rw [q1]
    exact SqL.of upd_same
  refine ⟨_, rfl, rfl, _, rfl, iteF' rfl ?_⟩
  have e5 : Same H H5 := (e4.new hq).trans e5
  clear e4 hd4 hkv4 hq e1 e2 e3 ar2 ar3 hd hkv hcD hkvD hlen
  have n5 : Nx (· = x) G H G H5 := Nx.grow w0 e5
  -- self.hands
  refine ⟨_, rfl, c, _, rfl, .inl ⟨(arH.mono e5).c, fun th hth => ⟨_, rfl, x, A.Watcher, dx, [], rfl, ?_, T.cl_Watcher, T.n_hands, (by show 0 < 1000; decide), ?_⟩⟩⟩
  · rw [upd_ne (ne_of_none (e5 _ _ hx) hth)]
    exact e5 _ _ hx
  have n9a := n5.trans (Nx.new (o := .tup (W.clocks.map V.str)) n5.w hth)
  have g9x : upd G th (.tup (W.clocks.map V.str)) x = none := by rw [upd_ne (ne_of_none (e5 _ _ hx) hth)]; exact gx
  have n9 := n9a.trans (Nx.wr (o := .ins A.Watcher dx (putF "hands" (.ref th) [])) n9a.w rfl g9x)
  have gth : upd G th (.tup (W.clocks.map V.str)) th = some (.tup (W.clocks.map V.str)) := upd_same
  have hx9 : upd (upd H5 th (.tup (W.clocks.map V.str))) x (.ins A.Watcher dx (putF "hands" (.ref th) [])) x = some (.ins A.Watcher dx (putF "hands" (.ref th) [])) := upd_same
  generalize upd G th (.tup (W.clocks.map V.str)) = G9 at n9 g9x gth
  generalize upd (upd H5 th (.tup (W.clocks.map V.str))) x (.ins A.Watcher dx (putF "hands" (.ref th) [])) = H9 at n9 hx9
  rw [put1] at hx9
  -- self.held = {}
  refine fun eh heh => ⟨_, rfl, x, A.Watcher, dx, [("hands", .ref th)], rfl, ?_, T.cl_Watcher, T.n_held, ?_, ?_⟩
  · rw [upd_ne (ne_of_none hx9 heh)]
    exact hx9
  · show 1 < 1000
    decide
  rw [put2]
  have nex : x ≠ eh := ne_of_none hx9 heh
  have n10a := n9.trans (Nx.newM (o := .dK []) n9.w heh)
  have n10 := n10a.trans (Nx.wr (o := .ins A.Watcher dx [("hands", .ref th), ("held", .ref eh)]) n10a.w rfl g9x)
  have hx10 : upd (upd H9 eh (.dK [])) x (.ins A.Watcher dx [("hands", .ref th), ("held", .ref eh)]) x = some (.ins A.Watcher dx [("hands", .ref th), ("held", .ref eh)]) := upd_same
  have he10 : upd (upd H9 eh (.dK [])) x (.ins A.Watcher dx [("hands", .ref th), ("held", .ref eh)]) eh = some (.dK []) := by rw [upd_ne nex.symm, upd_same]
  have ge10 : G9 eh = none := n9.w.free heh
  have heH : H eh = none := by
    cases q : H eh with
    | none => rfl
    | some o => exact absurd heh (n9.t eh (by rw [q]; simp))
  generalize upd (upd H9 eh (.dK [])) x (.ins A.Watcher dx [("hands", .ref th), ("held", .ref eh)]) = H10 at n10 hx10 he10
  obtain ⟨kv0, gd0, kvL0⟩ := (ar.mono n10.g).d
  have hd10 := n10.w _ _ gd0
  have ned : d ≠ eh := ne_of_none gd0 ge10
  have nxd : x ≠ d := (ne_of_none gd0 g9x).symm
  -- the limits, in the order of the clocks, under the lock
  refine ⟨d, _, hd10, trivial, fun od2 => ⟨_, rfl, d, od2, rfl, .inl ⟨kv0, upd_same, ?_⟩⟩⟩
  have hcd : SqL K (del G9 d) c (W.clocks.map V.str) := seqL_del gd0 (n10.g.seq ar.c)
  have hkd := kvL0.del gd0
  have wd : Same (del G9 d) (upd H10 d (.frz od2 (.dK kv0))) := del_upd' n10.w
  refine for_it (walk_keys (d := d) (o := od2) (kvs := kv0)) (fun i σ H' => ∃ kvs' G' v, Nx (· = eh) (del G9 d) (upd H10 d (.frz od2 (.dK kv0))) G' H' ∧ H' eh = some (.dK kvs') ∧ G' eh = none ∧ KvL K G' eh kvs' (W.held.take i) ∧
      σ = [some (.ref x), some (.ref c), some (.ref d), some (.ref a), some (.ref e), some .non, v, u1, z1, none]) ⟨[], _, v1, Nx.refl wd, ?_, ?_, .nil, rfl⟩ (fun i σ H' _ ⟨_, _, _, nx, _⟩ => nx.h d _ ned upd_same) ?_ ?_
  · rw [upd_ne ned.symm]; exact he10
  · rw [del_ne ned.symm]; exact ge10
  · rintro i y σ H' H'' hi ⟨kvs', G', v, nx, he', ge', hk', rfl⟩ yy
    obtain ⟨rfl, k1, v1', hk1, rfl⟩ := yy
    have fr : H'' d = some (.frz od2 (.dK kv0)) := nx.h d _ ned upd_same
    have hx' : H'' x = some (.ins A.Watcher dx [("hands", .ref th), ("held", .ref eh)]) := nx.h x _ nex (by rw [upd_ne nxd]; exact hx10)
    obtain ⟨⟨nm, lm⟩, hb, hk, ei, hv, hne, ks, hei, hks⟩ := Paired.get hkd hk1
    simp only at hk hv hks
    subst hk
    subst hv
    have hei := nx.g _ _ hei
    have hks := hks.mono nx.g
    have hval := valV_of (kvL0.nd ok.pn) hk1
    have hcl : SqL K H'' c (W.clocks.map V.str) := (nx.g.trans nx.w).seq hcd
    refine ⟨_, rfl, c, rfl, ⟨_, hcl⟩, fun L hL => ?_⟩
    refine dc_it (walk_list (xs := W.clocks.map V.str)) (fun j H2 => ∃ kvs2 G2, Nx M0 G' H'' G2 H2 ∧ G2 L = none ∧ H2 L = some (.dK kvs2) ∧ KvB K G2 kvs2 (heldL (W.clocks.take j) lm)) ⟨[], G', Nx.newM nx.w hL, nx.w.free hL, upd_same, .nil⟩
      (fun j H2 _ ⟨_, _, n2, _⟩ => n2.same.seq hcl) ?_ ?_
    · rintro j y2 H2 H3 hj ⟨kvs2, G2, n2, gL, hL2, hkb⟩ yy2
      obtain ⟨rfl, hy2⟩ := yy2
      obtain ⟨cj, hcj, rfl⟩ := get_map hy2
      have f3 := n2.same _ _ fr
      have hei3 := n2.w _ _ (n2.g _ _ hei)
      have lk := (hks.mono n2.g).look (c := cj)
      refine ⟨rfl, _, rfl, _, rfl, _, rfl, d, _, rfl, dget_frz f3 hval, ei, _, rfl, dgetO hei3, _, rfl, ?_⟩
      cases q : lm.lookup cj with
      | none =>
        rw [q] at lk
        simp only at lk
        refine iteF' (by rw [lk]; rfl) ⟨kvs2, G2, n2, gL, hL2, ?_⟩
        rw [held_snoc hcj, q]
        simpa using hkb
      | some b =>
        rw [q] at lk
        simp only at lk
        obtain ⟨ab, hab, hsb⟩ := lk
        refine iteT' (by rw [hab]; rfl) ?_
        refine ⟨_, rfl, _, rfl, _, rfl, d, _, rfl, dget_frz f3 hval, _, rfl, ei, _, rfl, dget hei3 hab, _, .tup [.str b.1, .int b.2], G2, rfl, n2.w, ⟨ab, _, rfl, hsb, RpA.cons rfl (RpA.cons rfl RpA.nil)⟩, (by show 1 ≤ 4; decide), ⟨(by show 2 ≤ 1000; decide), trivial, trivial, trivial⟩, fun G5 H5 v' nn r5 => ?_⟩
        obtain ⟨a5, xs5, rfl, hs5, x0, r0, rfl, h0, x1, r1, rfl, h1, rfl⟩ := r5
        cases h0
        cases h1
        have lb : kvs2.length ≤ 3 := by
          have h1 : kvs2.length = (heldL (W.clocks.take j) lm).length := Paired.len hkb
          have h2 : (heldL (W.clocks.take j) lm).length ≤ (W.clocks.take j).length := List.length_filterMap_le _ _
          have h3 : (W.clocks.take j).length ≤ W.clocks.length := by rw [List.length_take]; omega
          have := ok.cl
          omega
        refine ⟨kvs2, .inr cj, rfl, nn.same _ _ hL2, szl (by omega), ?_⟩
        have nin : valV kvs2 (.inr cj) = none := valV_not (by
          rw [hkb.keys]
          exact not_inr fun z => nd_take ok.cn hcj (held_sub z))
        rw [putK_new _ nin]
        have gL5 := nn.own L gL (by rw [hL2]; simp)
        refine ⟨_, G5, (n2.trans nn).wrL hL gL5, gL5, upd_same, ?_⟩
        rw [held_snoc hcj, q]
        exact (hkb.mono nn.g).snoc ⟨rfl, a5, rfl, hs5⟩
    · rintro H2 ⟨kvs2, G2, n2, gL, hL2, hkb⟩
      have n3 := n2.still hL hL2 nx.w
      have hx2 := n2.same _ _ hx'
      have he2 := n2.same _ _ he'
      have nLe : L ≠ eh := (ne_of_none he' hL).symm
      have ge3 := n3.own eh ge' (by rw [he']; simp)
      have lb : kvs'.length ≤ 4 := by
        have h1 : kvs'.length = (W.held.take i).length := Paired.len hk'
        have h2 : W.held.length = W.lims.length := by unfold Wt.held; rw [List.length_map]
        have := ok.pl
        rw [List.length_take] at h1
        omega
      refine ⟨_, rfl, x, A.Watcher, dx, _, _, rfl, hx2, T.cl_Watcher, T.n_held, look2 _ _, _, rfl, eh, _, rfl, DPut.k (k := .inr nm) he2 (szl (by omega)), ?_⟩
      have hW : W.held[i]? = some (nm, heldL W.clocks lm) := by
        unfold Wt.held
        rw [List.getElem?_map, hb]
        rfl
      have nin : valV kvs' (.inr nm) = none := valV_not (by
        rw [hk'.keys]
        refine not_inr fun z => ?_
        have hp : W.places[i]? = some nm := by
          unfold Wt.places
          rw [List.getElem?_map, hb]
          rfl
        refine nd_take ok.pn hp ?_
        have q : (W.held.take i).map (·.1) = W.places.take i := by
          unfold Wt.held Wt.places
          rw [List.map_take, List.map_map]
          rfl
        rw [q] at z
        exact z)
      rw [putK_new _ nin]
      have nn := nx.trans0 n3
      refine ⟨_, _, _, nn.trans (Nx.wr nn.w rfl ge3), upd_same, ge3, ?_, rfl⟩
      rw [take_succ' hW]
      refine Paired.snoc (Paired.imp (fun _ _ ⟨h1, z, h2, h3, h4⟩ => ⟨h1, z, h2, h3, h4.mono n3.g⟩) hk') ⟨rfl, L, rfl, nLe, kvs2, upd_same, ?_⟩
      rw [List.length_map, List.take_length] at hkb
      exact hkb.mono (Same.new0 gL)
  rintro σ H' ⟨kvs', G', v, nx, he', ge', hk', rfl⟩
  refine ⟨nx.h d _ ned upd_same, ?_⟩
  have gd' : G' d = none := nx.own d del_same (by rw [upd_same]; simp)
  have n11 := Nx.unlock n10.w nx gd0 hd10 ned
  have n11t : Nx (· = x) G H (upd G' d (.dK kv0)) (upd H' d (.dK kv0)) := n10.trans' n11 fun z hz => .inr (by rw [hz]; exact heH)
  have he12 : upd H' d (.dK kv0) eh = some (.dK kvs') := by rw [upd_ne ned.symm]; exact he'
  have n12 := n11t.still heH he12 w0
  have lims : LimsA K (upd (upd G' d (.dK kv0)) eh (.dK kvs')) eh W.held := by
    refine ⟨kvs', upd_same, ?_⟩
    have e' : Same G' (upd (upd G' d (.dK kv0)) eh (.dK kvs')) := (Same.new0 gd').trans (Same.new0 (by rw [upd_ne ned.symm]; exact ge'))
    have q : (W.held.take kv0.length) = W.held := by
      rw [List.take_of_length_le]
      have h1 : kv0.length = W.lims.length := Paired.len kvL0
      unfold Wt.held
      rw [List.length_map]
      omega
    rw [q] at hk'
    exact Paired.imp (fun _ _ ⟨h1, z, h2, h3, h4⟩ => ⟨h1, z, h2, h3, h4.mono e'⟩) hk'
  have gx' : G' x = none := nx.own x (by rw [del_ne nxd]; exact g9x) (by rw [upd_ne nxd, hx10]; simp)
  have gx12 : upd (upd G' d (.dK kv0)) eh (.dK kvs') x = none := by rw [upd_ne nex, upd_ne nxd]; exact gx'
  have hx12 : upd H' d (.dK kv0) x = some (.ins A.Watcher dx [("hands", .ref th), ("held", .ref eh)]) := by
    rw [upd_ne nxd]
    exact nx.h x _ nex (by rw [upd_ne nxd]; exact hx10)
  have gth12 : SqT K (upd (upd G' d (.dK kv0)) eh (.dK kvs')) th (W.clocks.map V.str) := seqT n11.g (SqT.of gth) |> seqT (Same.new0 (by rw [upd_ne ned.symm]; exact ge'))
  generalize upd (upd G' d (.dK kv0)) eh (.dK kvs') = G12 at n12 lims gx12 gth12
  generalize upd H' d (.dK kv0) = H12 at n12 hx12
  -- self.tracks
  have wdep : (D.lst (W.arrs.map arrD)).dep ≤ 4 := Nat.succ_le_succ (depA_map fun z _ => arr_dep z)
  have wwid : (D.lst (W.arrs.map arrD)).wid := ⟨by rw [List.length_map]; have := ok.al; omega, widA_map fun z hz => arr_wid (ok.ar z hz)⟩
  refine ⟨_, rfl, _, _, G12, rfl, n12.w, ar.a.mono n12.g, wdep, wwid, fun G13 H13 t n13 r13 => ?_⟩
  rw [arrs_tupd] at r13
  have r13' := r13
  obtain ⟨ta, xt, rfl, _, _⟩ := r13'
  have hx13 := n13.same _ _ hx12
  have gx13 := n13.own x gx12 (by rw [hx12]; simp)
  refine ⟨_, rfl, x, A.Watcher, dx, _, rfl, hx13, T.cl_Watcher, T.n_tracks, (by show 2 < 1000; decide), ?_⟩
  rw [put3]
  have n13t := n12.trans0 n13
  have n14 := n13t.trans (Nx.wr (o := .ins A.Watcher dx [("hands", .ref th), ("held", .ref eh), ("tracks", .ref ta)]) n13t.w rfl gx13)
  have hx14 : upd H13 x (.ins A.Watcher dx [("hands", .ref th), ("held", .ref eh), ("tracks", .ref ta)]) x = some (.ins A.Watcher dx [("hands", .ref th), ("held", .ref eh), ("tracks", .ref ta)]) := upd_same
  generalize upd H13 x (.ins A.Watcher dx [("hands", .ref th), ("held", .ref eh), ("tracks", .ref ta)]) = H14 at n14 hx14
  -- self.last_ones
  refine ⟨_, rfl, e, _, rfl, .inl ⟨(n14.g.trans n14.w).seq ar.e, fun tl htl => ⟨_, rfl, x, A.Watcher, dx, [("hands", .ref th), ("held", .ref eh), ("tracks", .ref ta)], rfl, ?_, T.cl_Watcher, T.n_last_ones, ?_, ?_⟩⟩⟩
  · rw [upd_ne (ne_of_none hx14 htl)]
    exact hx14
  · show 3 < 1000
    decide
  rw [put4]
  have n15 := n14.trans (Nx.new (o := .tup (W.ends.map V.str)) n14.w htl)
  have gx15 : upd G13 tl (.tup (W.ends.map V.str)) x = none := by rw [upd_ne (ne_of_none hx14 htl)]; exact gx13
  have n16 := n15.trans (Nx.wr (o := .ins A.Watcher dx (fldsW (.ref th) (.ref eh) (.ref ta) (.ref tl))) n15.w rfl gx15)
  have e15 : Same G13 (upd G13 tl (.tup (W.ends.map V.str))) := Same.new0 (n14.w.free htl)
  exact k _ _ _ n16 gx15 ⟨th, eh, ta, tl, rfl, seqT (n13.g.trans e15) gth12, lims.mono (n13.g.trans e15), r13.mono e15, SqT.of upd_same⟩ upd_same
end K25

/-! ## K11 -/
set_option Elab.async false
set_option linter.all false
set_option maxRecDepth 100000
set_option maxHeartbeats 8000000
/-! K11: Watcher.__eq__. -/
set_option exponentiation.threshold 100000
namespace K25
open PySem L2 PySem.Spec PyProof.Rows
variable {P : Program} {w : World} {K : PySem.W.Frag} {mg : Str → Option Value} {base : Heap} {A : Ad}
def EqOk (P : Program) (w : World) (K : PySem.W.Frag) (mg : Str → Option Value) (base : Heap) (C : Addr) (k : Nat) (ps : List Str) (sp : Sp) : Prop :=
  ∃ f fd, PySem.W.findIn K (.ref C) "__eq__" = some (some (.ref f)) ∧ PySem.W.findIn K (.ref C) "__ne__" = some (some (.builtin "object.__ne__")) ∧ PySem.W.isFn K (.ref f) = true ∧ Binds K fd ps [] ∧ FnOk P w K mg base CX0 k f fd ps sp
theorem EqG.ok {C : Addr} {q : Str} {st : Stmt} {N ps : List Str} {k : Nat} {sp : Sp} (F : EqG K C q st ps) (S : FnScope N ps (defScope st)) (len : ∀ vs H Q E, sp vs H Q E → vs.length = ps.length)
    (hbody : ∀ (f : Addr) (cdv : Value) (A : Around) (outer : List Env) (s : Shared) (H : Hp) (vs : List V) (Q : VK) (E : XK), Room k (A.deeper (envOfC q (defScope st) s.heap.objs.size f cdv)) → sp vs H Q E →
      ∃ t, PSs (cxOf CX0 P w K mg base N q (defScope st) f cdv A outer s H E).nox (defBody st) t ∧ t { nx := fun _ H' => Q .non H', rt := Q } (start N vs) H) : EqOk P w K mg base C (k + 1) ps sp := by
  obtain ⟨f, fd, h1, h2, h3, F, hb⟩ := F
  exact ⟨f, fd, h1, h2, h3, hb, F.ok S len fun cdv A outer s H vs Q E hr h => hbody f cdv A outer s H vs Q E hr h⟩
theorem Paired.val {β : Type} {f : β → Str} {F : V → β → Prop} {kvs : List (Key × V)} {l : List β} (h : Paired (fun kv b => kv.1 = Sum.inr (f b) ∧ F kv.2 b) kvs l) (nd : (l.map f).Nodup) {i : Nat} {b : β} (hb : l[i]? = some b) :
    ∃ v, kvs[i]? = some (Sum.inr (f b), v) ∧ valV kvs (.inr (f b)) = some v ∧ F v b := by
  obtain ⟨⟨k, v⟩, h1, h2, h3⟩ := Paired.get2 h hb
  simp only at h2 h3
  subst h2
  refine ⟨v, h1, valV_of ?_ h1, h3⟩
  rw [Paired.keys h]
  exact nd_inr nd
theorem eqn_dict {β : Type} {f : β → Str} {F F' : V → β → Prop} {H : Hp} {n : Nat} {ks ls : List (Key × V)} {l : List β} (h : Paired (fun kv b => kv.1 = Sum.inr (f b) ∧ F kv.2 b) ks l) (g : Paired (fun kv b => kv.1 = Sum.inr (f b) ∧ F' kv.2 b) ls l)
    (nd : (l.map f).Nodup) (e : ∀ v u b, b ∈ l → F v b → F' u b → EqN K H n v u) : ks.length = ls.length ∧ ∀ p ∈ ks, ∃ u, valV ls p.1 = some u ∧ EqN K H n p.2 u := by
  refine ⟨by rw [Paired.len h, Paired.len g], fun p hp => ?_⟩
  obtain ⟨i, hi, rfl⟩ := List.getElem_of_mem hp
  obtain ⟨b, hb, h1, h2⟩ := Paired.get h (List.getElem?_eq_getElem hi)
  obtain ⟨u, _, h3, h4⟩ := Paired.val g nd hb
  rw [h1]
  exact ⟨u, h3, e _ _ _ (List.mem_of_getElem? hb) h2 h4⟩
theorem tup_strs {H : Hp} {a : Addr} {ws : List Str} (h : SqT K H a (ws.map V.str)) : Rp K H (.tup (ws.map D.str)) (.ref a) := ⟨a, _, rfl, h, RpA.strs ws⟩
theorem lst_strs {H : Hp} {a : Addr} {ws : List Str} (h : SqL K H a (ws.map V.str)) : Rp K H (.lst (ws.map D.str)) (.ref a) := ⟨a, _, rfl, h, RpA.strs ws⟩
theorem strs_fine {ws : List Str} (h : ∀ s ∈ ws, GoodName s) : D.fineA (ws.map D.str) := fineA_map fun s hs => (h s hs).ok
theorem strs_dep (ws : List Str) : D.depA (ws.map D.str) ≤ 0 := depA_map fun s _ => Nat.le_refl _
theorem held_keys (W : Wt) : W.held.map (·.1) = W.places := by
  unfold Wt.held Wt.places
  rw [List.map_map]
  rfl
theorem held_nd {clocks : List Str} (l : Lim) (h : clocks.Nodup) : ((heldL clocks l).map (·.1)).Nodup := by
  have e : (heldL clocks l).map (·.1) = clocks.filterMap fun c => (l.lookup c).map fun _ => c := by
    unfold heldL
    rw [List.map_filterMap]
    congr 1
    funext c
    cases l.lookup c <;> rfl
  rw [e]
  refine List.Nodup.sublist (l₂ := clocks) ?_ h
  clear e h
  induction clocks with
  | nil => exact .slnil
  | cons c r ih =>
    rw [List.filterMap_cons]
    cases l.lookup c with
    | none => exact ih.cons _
    | some b => exact ih.cons₂ _
theorem held_in {clocks : List Str} {l : Lim} {b : Str × Str × Int} (h : b ∈ heldL clocks l) : b.1 ∈ clocks ∧ l.lookup b.1 = some b.2 := by
  obtain ⟨c, hc, e⟩ := List.mem_filterMap.mp h
  cases q : l.lookup c with
  | none => rw [q] at e; cases e
  | some z => rw [q] at e; cases e; exact ⟨hc, q⟩
theorem look_mem {α : Type} {l : List (Str × α)} {c : Str} {b : α} (h : l.lookup c = some b) : (c, b) ∈ l := by
  induction l with
  | nil => cases h
  | cons p r ih =>
    obtain ⟨c', b'⟩ := p
    by_cases e : c = c'
    · subst e
      simp [List.lookup] at h
      subst h
      exact List.mem_cons_self ..
    · have q : (c == c') = false := by simpa using e
      simp [List.lookup, q] at h
      exact List.mem_cons_of_mem _ (ih h)
/-- the limits as held: words and numbers of limits -/
theorem WtOk.heldOk {W : Wt} (ok : WtOk W) {p : Str × Lim} (hp : p ∈ W.held) : LimOk W.clocks p.2 := by
  obtain ⟨q, hq, rfl⟩ := List.mem_map.mp hp
  have o := ok.lm q hq
  have m : ∀ b ∈ heldL W.clocks q.2, b ∈ q.2 := fun b hb => look_mem (held_in hb).2
  exact ⟨held_nd _ ok.cn, fun b hb => (held_in hb).1, fun b hb => o.w _ (m b hb), fun b hb => o.n0 _ (m b hb), fun b hb => o.n5 _ (m b hb), Nat.le_trans (List.length_filterMap_le _ _) ok.cl⟩
theorem lims_eqn {H : Hp} {W : Wt} {a b : Addr} (ok : WtOk W) (h : LimsA K H a W.held) (g : LimsA K H b W.held) : EqN K H 2 (.ref a) (.ref b) := by
  obtain ⟨ks, ha, hk⟩ := h
  obtain ⟨ls, hb, hl⟩ := g
  have nd : (W.held.map (·.1)).Nodup := by rw [held_keys]; exact ok.pn
  have q := eqn_dict (K := K) (f := fun p : Str × Lim => p.1) (F := fun v p => ∃ e, v = .ref e ∧ e ≠ a ∧ LimA K H e p.2) (F' := fun v p => ∃ e, v = .ref e ∧ e ≠ b ∧ LimA K H e p.2) (H := H) (n := 1) hk hl nd fun v u p hp => by
    rintro ⟨e, rfl, _, ks', h1, h2⟩ ⟨e', rfl, _, ls', h3, h4⟩
    have o := ok.heldOk hp
    have q := eqn_dict (K := K) (f := fun b : Str × Str × Int => b.1) (F := fun v b => ∃ a, v = .ref a ∧ SqT K H a [.str b.2.1, .int b.2.2]) (F' := fun v b => ∃ a, v = .ref a ∧ SqT K H a [.str b.2.1, .int b.2.2]) (H := H) (n := 0) h2 h4 o.nd fun v u b hb => by
      rintro ⟨x, rfl, hx⟩ ⟨y, rfl, hy⟩
      have fn : (D.tup [.str b.2.1, .int b.2.2]).fine := ⟨word_ok (.inr (o.w _ hb)), trivial, trivial⟩
      have r : ∀ z, SqT K H z [.str b.2.1, .int b.2.2] → Rp K H (.tup [.str b.2.1, .int b.2.2]) (.ref z) := fun z hz => ⟨z, _, rfl, hz, RpA.cons rfl (RpA.cons rfl RpA.nil)⟩
      exact ⟨_, Rp.dp fn (r x hx), Rp.dp fn (r y hy), py_shaped fn (by show 1 ≤ 64; decide)⟩
    exact ⟨e, e', ks', ls', rfl, rfl, h1, h3, q.1, q.2⟩
  exact ⟨a, b, ks, ls, rfl, rfl, ha, hb, q.1, q.2⟩
theorem arrT_fine {clocks places : List Str} {a : Arr} (cg : ∀ s ∈ clocks, GoodName s) (pg : ∀ s ∈ places, GoodName s) (ok : ArrOk clocks places a) : (arrT a).fine := by
  have h3 : (sigD a.sig).fine := by
    cases q : a.sig with
    | none => trivial
    | some s => exact (ok.sig s q).ok
  refine ⟨(pg _ ok.src).ok, h3, fineA_map fun c hc => ?_, strs_fine fun s hs => cg _ (ok.beg s hs), (pg _ ok.dst).ok, trivial⟩
  exact ⟨(cg _ (ok.cuts c hc).c).ok, word_ok (ok.cuts c hc).w, trivial, trivial⟩
theorem arrT_dep (a : Arr) : (arrT a).dep ≤ 3 := by
  have h1 : D.depA (a.cuts.map cutD) ≤ 1 := depA_map fun x _ => (by decide : (1 : Nat) ≤ 1)
  have h2 : D.depA (a.beg.map D.str) ≤ 0 := depA_map fun x _ => Nat.le_refl _
  have h3 : (sigD a.sig).dep = 0 := by cases a.sig <;> rfl
  show D.depA [.str a.src, sigD a.sig, .tup (a.cuts.map cutD), .tup (a.beg.map D.str), .str a.dst] + 1 ≤ 3
  simp only [D.depA, D.dep]
  omega
def REq (K : PySem.W.Frag) (CW : Addr) : Addr → Addr → Hp → Prop := fun a b H => ∃ W, WtOk W ∧ WatA K CW H a W ∧ WatA K CW H b W
theorem lookH (h e t l : V) : (fldsW h e t l).lookup ("hands" : Str) = some h := rfl
theorem lookE (h e t l : V) : (fldsW h e t l).lookup ("held" : Str) = some e := by
  have q : (("held" : Str) == "hands") = false := by decide +kernel
  simp [fldsW, List.lookup, q]
theorem lookT (h e t l : V) : (fldsW h e t l).lookup ("tracks" : Str) = some t := by
  have q : (("tracks" : Str) == "hands") = false := by decide +kernel
  have q2 : (("tracks" : Str) == "held") = false := by decide +kernel
  simp [fldsW, List.lookup, q, q2]
theorem lookL (h e t l : V) : (fldsW h e t l).lookup ("last_ones" : Str) = some l := by
  have q : (("last_ones" : Str) == "hands") = false := by decide +kernel
  have q2 : (("last_ones" : Str) == "held") = false := by decide +kernel
  have q3 : (("last_ones" : Str) == "tracks") = false := by decide +kernel
  simp [fldsW, List.lookup, q, q2, q3]
theorem keys_list {G : Hp} {d : Addr} {kvs : List (Key × V)} {l : List (Str × Lim)} (h : KvL K G d kvs l) : (kvs.map fun kv => kV kv.1) = (l.map (·.1)).map V.str := by
  have q3 : (kvs.map fun kv => kV kv.1) = (kvs.map (·.1)).map kV := by rw [List.map_map]; rfl
  rw [q3, h.keys, List.map_map]
  rfl
theorem ok_Watcher_eq (T : Tx K mg A) : EqOk P w K mg base A.Watcher 1 P_Watcher_eq (spEqI (REq K A.Watcher)) := by
  refine T.m_eq.ok sc_Watcher_eq (fun vs H Q E ⟨_, _, e, _⟩ => by rw [e]; rfl) (fun f cdv AA outer s H vs Q E hr h => ⟨_, (pss_cons (ps_if (PW.pt (pw_or (pt_not (pt_val (pe_callB call_isi rfl T.z_isinstance (by decide +kernel) (pa_cons (pv 1) (pa_cons (pe_glob (v := .ref A.Watcher) rfl T.g_Watcher rfl) pa_nil))))) (pw_or (pt_cmpR (op_neD hr.units) (pe_fld (pv 0) rfl) (pe_fld (pv 1) rfl) (nomark _)) (pw_or1 (pt_cmpR (op_neD hr.units) (pe_callTy (call_list_dK rfl) rfl T.z_list (by decide +kernel) (pa_cons (pe_fld (pv 0) rfl) pa_nil)) (pe_callTy (call_list_dK rfl) rfl T.z_list (by decide +kernel) (pa_cons (pe_fld (pv 1) rfl) pa_nil)) (nomark _)))))) (pss_one (ps_ret pe_bl)) pss_nil) (pss_one (ps_ret (pe_and (pe_cmpR (op_eqN hr) (pe_fld (pv 0) rfl) (pe_fld (pv 1) rfl) (nomark _)) (pe_and (pe_cmpR (op_eqD hr.units) (pe_fld (pv 0) rfl) (pe_fld (pv 1) rfl) (nomark _)) (pe_one (pe_cmpR (op_eqD hr.units) (pe_fld (pv 0) rfl) (pe_fld (pv 1) rfl) (nomark _)))))))), ?_⟩)
  obtain ⟨a, b, rfl, ⟨W, ok, ⟨dx, fs, ha, h1, e1, t1, l1, rfl, hh1, he1, ht1, hl1⟩, ⟨dy, gs, hb, h2, e2, t2, l2, rfl, hh2, he2, ht2, hl2⟩⟩, k⟩ := h
  have cf : (D.tup (W.clocks.map D.str)).fine := strs_fine ok.cg
  have cs := py_shaped cf (by have := strs_dep W.clocks; show D.depA _ + 1 ≤ 64; omega)
  have pf : (D.lst (W.places.map D.str)).fine := strs_fine ok.pg
  have ps := py_shaped pf (by have := strs_dep W.places; show D.depA _ + 1 ≤ 64; omega)
  have ef : (D.tup (W.ends.map D.str)).fine := strs_fine fun s hs => ok.pg _ (ok.ep s hs)
  have es := py_shaped ef (by have := strs_dep W.ends; show D.depA _ + 1 ≤ 64; omega)
  have af : (D.tup (W.arrs.map arrT)).fine := fineA_map fun x hx => arrT_fine ok.cg ok.pg (ok.ar x hx)
  have as := py_shaped af (by have : D.depA (W.arrs.map arrT) ≤ 3 := depA_map fun x _ => arrT_dep x; show D.depA _ + 1 ≤ 64; omega)
  obtain ⟨ks, hd1, hk1⟩ := he1
  obtain ⟨ls, hd2, hk2⟩ := he2
  refine ⟨_, rfl, _, _, _, _, _, rfl, .own _, .base (.ins hb T.cl_Watcher T.ia_Watcher.ha T.ia_Watcher.hn T.ia_Watcher.htk T.ia_Watcher.hm), T.io_Watcher, _, rfl, iteF' rfl ?_⟩
  refine ⟨_, rfl, a, _, _, _, _, rfl, ha, T.cl_Watcher, T.n_hands, lookH _ _ _ _, _, rfl, b, _, _, _, _, rfl, hb, T.cl_Watcher, T.n_hands, lookH _ _ _ _, _, _, Rp.dp cf (tup_strs hh1), Rp.dp cf (tup_strs hh2), cs, cs, ?_⟩
  refine ⟨_, rfl, iteF' (by rw [py_eqv cf]; rfl) ?_⟩
  refine ⟨_, rfl, a, _, _, _, _, rfl, ha, T.cl_Watcher, T.n_held, lookE _ _ _ _, _, ks, rfl, hd1, fun q1 hq1 => ?_⟩
  have w1 : Same H (upd H q1 (.lst (ks.map fun kv => kV kv.1))) := Same.new0 hq1
  refine ⟨_, rfl, b, _, _, _, _, rfl, w1 _ _ hb, T.cl_Watcher, T.n_held, lookE _ _ _ _, _, ls, rfl, w1 _ _ hd2, fun q2 hq2 => ?_⟩
  have w2 : Same H (upd (upd H q1 (.lst (ks.map fun kv => kV kv.1))) q2 (.lst (ls.map fun kv => kV kv.1))) := w1.new hq2
  have x1 : SqL K (upd (upd H q1 (.lst (ks.map fun kv => kV kv.1))) q2 (.lst (ls.map fun kv => kV kv.1))) q1 (W.places.map V.str) := by
    rw [← held_keys, ← keys_list hk1]
    exact SqL.of (by rw [upd_ne (ne_of_none upd_same hq2)]; exact upd_same)
  have x2 : SqL K (upd (upd H q1 (.lst (ks.map fun kv => kV kv.1))) q2 (.lst (ls.map fun kv => kV kv.1))) q2 (W.places.map V.str) := by
    rw [← held_keys, ← keys_list hk2]
    exact SqL.of upd_same
  generalize upd (upd H q1 (.lst (ks.map fun kv => kV kv.1))) q2 (.lst (ls.map fun kv => kV kv.1)) = H2 at w2 x1 x2
  refine ⟨_, _, Rp.dp pf (lst_strs x1), Rp.dp pf (lst_strs x2), ps, ps, ?_⟩
  refine ⟨_, rfl, iteF' (by rw [py_eqv pf]; rfl) ?_⟩
  have ha := w2 _ _ ha
  have hb := w2 _ _ hb
  refine ⟨_, rfl, a, _, _, _, _, rfl, ha, T.cl_Watcher, T.n_held, lookE _ _ _ _, _, rfl, b, _, _, _, _, rfl, hb, T.cl_Watcher, T.n_held, lookE _ _ _ _, 1, by decide, lims_eqn ok (LimsA.mono ⟨ks, hd1, hk1⟩ w2) (LimsA.mono ⟨ls, hd2, hk2⟩ w2), ?_⟩
  refine ⟨_, rfl, iteT' rfl ?_⟩
  refine ⟨_, rfl, a, _, _, _, _, rfl, ha, T.cl_Watcher, T.n_tracks, lookT _ _ _ _, _, rfl, b, _, _, _, _, rfl, hb, T.cl_Watcher, T.n_tracks, lookT _ _ _ _, _, _, Rp.dp af (ht1.mono w2), Rp.dp af (ht2.mono w2), as, as, ?_⟩
  rw [py_eqv af]
  refine ⟨_, rfl, iteT' rfl ?_⟩
  refine ⟨_, rfl, a, _, _, _, _, rfl, ha, T.cl_Watcher, T.n_last_ones, lookL _ _ _ _, _, rfl, b, _, _, _, _, rfl, hb, T.cl_Watcher, T.n_last_ones, lookL _ _ _ _, _, _, Rp.dp ef (tup_strs (seqT w2 hl1)), Rp.dp ef (tup_strs (seqT w2 hl2)), es, es, ?_⟩
  rw [py_eqv ef]
  exact k _ w2
end K25

/-! ## K12 -/
set_option Elab.async false
set_option linter.all false
set_option maxRecDepth 100000
set_option maxHeartbeats 8000000
/-! K12: stands. -/
set_option exponentiation.threshold 100000
namespace K25
open PySem L2
open PySem.Spec PyProof.Rows
/-! ### the rules within a comprehension: the reading must not speak of the block -/
section
variable {X : Cx} {s : Shared} {H : Hp} {scope : Scope} {cenv : Env} {fp : List Addr}
theorem pg_tupB {es : List Expr} {k : Nat} {t : TGs} {n : Nat} {pos : Pos} (hc : (X.blk s H scope cenv fp).calm = true) (h : PGs (X.blk s H scope cenv fp) es t)
    (hn : (assignEach es (X.blk s H scope cenv fp).env).length = n := by rfl) (hst : (assignEach es (X.blk s H scope cenv fp).env).findIdx? (·.1) = none := by rfl) : PG (X.blk s H scope cenv fp) (.Tuple es k pos) (gTup X.K n t) := pg_tup hc h hn hst
theorem ix_sqB : IxR (X.blk s H scope cenv fp) (rSq X.K) := ix_sq
theorem ix_listB : IxR (X.blk s H scope cenv fp) (rIxL X.K) := ix_list
theorem ix_tupB : IxR (X.blk s H scope cenv fp) (rIxT X.K) := ix_tup
theorem pe_fldB {e : Expr} {f : Str} {pos : Pos} {ta : TE} (he : PE (X.blk s H scope cenv fp) e ta) (hb : attributeBase e f (X.blk s H scope cenv fp).env (eval e (X.blk s H scope cenv fp).env) = eval e (X.blk s H scope cenv fp).env) : PE (X.blk s H scope cenv fp) (.Attribute e f pos) (tFld X.K ta f) := pe_fld he hb
end
variable {P : Program} {w : World} {K : PySem.W.Frag} {mg : Str → Option Value} {base : Heap} {A : Ad}
abbrev Std := Str × List (Str × Fr)
def KvF (K : PySem.W.Frag) (G : Hp) : List (Key × V) → List (Str × Fr) → Prop := Paired fun kv b => kv.1 = Sum.inr b.1 ∧ FrA K G kv.2 b.2
def BegA (K : PySem.W.Frag) (G : Hp) (d : Addr) (bs : List (Str × Fr)) : Prop := ∃ kvs, G d = some (.dK kvs) ∧ KvF K G kvs bs
def fldsS (p d : V) : List (Str × V) := [("spot", p), ("begins", d)]
def StdA (K : PySem.W.Frag) (CS : Addr) (G : Hp) (x : Addr) (st : Std) : Prop := ∃ dx d, G x = some (.ins CS dx (fldsS (.str st.1) (.ref d))) ∧ BegA K G d st.2
def worthsF (bs : List (Str × Fr)) (t : Fr) : List (Str × Fr) := bs.map fun b => (b.1, minusF t b.2)
def Wt.pl0 (W : Wt) : Str := (W.places[0]?).getD ""
def getF (ws : List (Str × Fr)) (c : Str) : Fr := (ws.lookup c).getD (0, 1)
def limB (W : Wt) (p : Str) (ws : List (Str × Fr)) : Bool := ((W.held.lookup p).getD []).all fun e => keepsU (getF ws e.1) e.2.1 e.2.2
def zerosF (W : Wt) : List (Str × Fr) := W.clocks.map fun c => (c, (0, 1))
theorem KvF.mono {G G' : Hp} {kvs : List (Key × V)} {l : List (Str × Fr)} (h : KvF K G kvs l) (e : Same G G') : KvF K G' kvs l :=
  Paired.imp (fun _ _ ⟨h1, h2⟩ => ⟨h1, h2.mono e⟩) h
theorem BegA.mono {G G' : Hp} {d : Addr} {l : List (Str × Fr)} (h : BegA K G d l) (e : Same G G') : BegA K G' d l := by
  obtain ⟨kvs, h1, h2⟩ := h
  exact ⟨kvs, e _ _ h1, h2.mono e⟩
theorem StdA.mono {CS : Addr} {G G' : Hp} {x : Addr} {st : Std} (h : StdA K CS G x st) (e : Same G G') : StdA K CS G' x st := by
  obtain ⟨dx, d, h1, h2⟩ := h
  exact ⟨dx, d, e _ _ h1, h2.mono e⟩
theorem WatD.mono {G G' : Hp} {W : Wt} {fs : List (Str × V)} (h : WatD K G W fs) (s : Same G G') : WatD K G' W fs := by
  obtain ⟨h, e, t, l, rfl, h1, h2, h3, h4⟩ := h
  exact ⟨h, e, t, l, rfl, seqT s h1, h2.mono s, h3.mono s, seqT s h4⟩
theorem WatA.mono {CW : Addr} {G G' : Hp} {x : Addr} {W : Wt} (h : WatA K CW G x W) (s : Same G G') : WatA K CW G' x W := by
  obtain ⟨dx, fs, h1, h2⟩ := h
  exact ⟨dx, fs, s _ _ h1, h2.mono s⟩
theorem KvF.del {H : Hp} {d : Addr} {kvs' kvs : List (Key × V)} {l : List (Str × Fr)} (hd : H d = some (.dK kvs')) (h : KvF K H kvs l) : KvF K (L2.del H d) kvs l :=
  Paired.imp (fun _ _ ⟨h1, a, h2, h3⟩ => ⟨h1, a, h2, seqT_del hd h3⟩) h
theorem KvF.keys {G : Hp} {kvs : List (Key × V)} {l : List (Str × Fr)} (h : KvF K G kvs l) : kvs.map (·.1) = (l.map (·.1)).map Sum.inr :=
  Paired.keys (f := fun b : Str × Fr => b.1) (F := fun v b => FrA K G v b.2) h
theorem look_nd {α : Type} {l : List (Str × α)} (nd : (l.map (·.1)).Nodup) {i : Nat} {c : Str} {b : α} (h : l[i]? = some (c, b)) : l.lookup c = some b := by
  induction l generalizing i with
  | nil => simp at h
  | cons p r ih =>
    obtain ⟨c', b'⟩ := p
    rw [List.map_cons, List.nodup_cons] at nd
    cases i with
    | zero => cases h; simp [List.lookup]
    | succ i =>
      have hr : r[i]? = some (c, b) := by simpa using h
      have ne : c ≠ c' := fun z => nd.1 (by rw [← z]; exact List.mem_map.mpr ⟨_, List.mem_of_getElem? hr, rfl⟩)
      have q : (c == c') = false := by simpa using ne
      simp [List.lookup, q]
      exact ih nd.2 hr
theorem look_some {α : Type} {l : List (Str × α)} {c : Str} (h : c ∈ l.map (·.1)) : ∃ b, l.lookup c = some b := by
  induction l with
  | nil => simp at h
  | cons p r ih =>
    obtain ⟨c', b'⟩ := p
    by_cases e : c = c'
    · subst e; exact ⟨b', by simp [List.lookup]⟩
    · have q : (c == c') = false := by simpa using e
      rw [List.map_cons, List.mem_cons] at h
      obtain ⟨b, hb⟩ := ih (h.resolve_left e)
      exact ⟨b, by simp [List.lookup, q]; exact hb⟩
/-- a worth looked up -/
theorem KvF.look {G : Hp} : ∀ {kvs : List (Key × V)} {l : List (Str × Fr)} {c : Str} {f : Fr}, KvF K G kvs l → l.lookup c = some f → ∃ v, valV kvs (.inr c) = some v ∧ FrA K G v f
  | _, _, _, _, .nil, h => by cases h
  | (k, v) :: kvs, (c', b) :: l, c, f, .cons ⟨h1, h2⟩ t, h => by
    simp only at h1 h2
    subst h1
    by_cases e : c = c'
    · subst e
      simp [List.lookup] at h
      subst h
      exact ⟨v, valV_pos rfl, h2⟩
    · have q : (c == c') = false := by simpa using e
      simp [List.lookup, q] at h
      obtain ⟨v', i1, i2⟩ := KvF.look t h
      exact ⟨v', by rw [valV_neg (fun z => e (Sum.inr.inj z).symm)]; exact i1, i2⟩
theorem BegA.look {G : Hp} {d : Addr} {l : List (Str × Fr)} {c : Str} (h : BegA K G d l) (hc : c ∈ l.map (·.1)) : ∃ v, DGet G d (.str c) (some v) ∧ FrA K G v (getF l c) := by
  obtain ⟨kvs, h1, h2⟩ := h
  obtain ⟨f, hf⟩ := look_some hc
  obtain ⟨v, h3, h4⟩ := h2.look hf
  exact ⟨v, dget h1 h3, by unfold getF; rw [hf]; exact h4⟩
theorem getF_mem {l : List (Str × Fr)} {c : Str} (h : c ∈ l.map (·.1)) : (c, getF l c) ∈ l := by
  obtain ⟨f, hf⟩ := look_some h
  unfold getF
  rw [hf]
  exact look_mem hf
/-! ### begin_place -/
theorem WtOk.pl0 {W : Wt} (ok : WtOk W) : W.places[0]? = some W.pl0 ∧ W.pl0 ∈ W.places := by
  have h : 0 < W.places.length := by
    unfold Wt.places
    rw [List.length_map]
    exact ok.p0
  have e : W.places[0]? = some W.places[0] := List.getElem?_eq_getElem h
  have e2 : W.pl0 = W.places[0] := by unfold Wt.pl0; rw [e]; rfl
  rw [e2]
  exact ⟨e, List.getElem_mem h⟩
def sp_begin_place (K : PySem.W.Frag) (CW : Addr) : Sp := fun vs H Q _ => ∃ x W, vs = [.ref x] ∧ WatA K CW H x W ∧ WtOk W ∧ ∀ H', Same H H' → Q (.str W.pl0) H'
theorem ok_begin_place (T : Tx K mg A) : DefOk P w K mg base 1 "begin_place" P_begin_place (sp_begin_place K A.Watcher) := by
  refine T.f_begin_place.ok sc_begin_place (fun vs H Q E ⟨_, _, e, _⟩ => by rw [e]; rfl) (fun f cdv AA outer s H vs Q E hr h => ⟨_, (pss_one (ps_ret (pe_ix ix_list (pe_callTy (call_list_dK rfl) rfl T.z_list (by decide +kernel) (pa_cons (pe_fld (pv 0) rfl) pa_nil)) pe_int (fun _ _ => rfl)))), ?_⟩)
  obtain ⟨x, W, rfl, ⟨dx, fs, hx, hh, eh, th, lh, rfl, h1, ⟨kvs, h2, h2'⟩, h3, h4⟩, ok, k⟩ := h
  refine ⟨_, rfl, x, _, _, _, _, rfl, hx, T.cl_Watcher, T.n_held, lookE _ _ _ _, _, kvs, rfl, h2, fun q hq => ⟨q, _, 0, _, rfl, rfl, SqL.of upd_same, ?_, k _ (Same.new0 hq)⟩⟩
  rw [keys_list h2', held_keys]
  have q := ok.pl0.1
  cases hp : W.places with
  | nil => rw [hp] at q; cases q
  | cons p r =>
    rw [hp] at q
    cases q
    simp [atI, ixN]
/-! ### Stand -/
theorem putS (p d : V) : putF "begins" d ([("spot", p)] : List (Str × V)) = fldsS p d := by
  have h1 : ¬ (("spot" : Str) = "begins") := by decide +kernel
  simp only [putF, if_neg h1]
  rfl
theorem lookSp (p d : V) : (fldsS p d).lookup ("spot" : Str) = some p := rfl
theorem lookBe (p d : V) : (fldsS p d).lookup ("begins" : Str) = some d := by
  have q : (("begins" : Str) == "spot") = false := by decide +kernel
  simp [fldsS, List.lookup, q]
def sp_Stand (K : PySem.W.Frag) (CS : Addr) : Sp := fun vs H Q _ => ∃ (x dx d : Addr) (p : Str) (G : Hp), vs = [.ref x, .str p, .ref d] ∧ Same G H ∧ G x = none ∧ H x = some (.ins CS dx []) ∧
  ∀ H', Nx (· = x) G H G H' → H' x = some (.ins CS dx (fldsS (.str p) (.ref d))) → Q .non H'
theorem ok_Stand (T : Tx K mg A) : MkOk P w K mg base A.Stand 1 P_Stand_init (sp_Stand K A.Stand) := by
  refine T.m_Stand.ok sc_Stand_init (fun vs H Q E ⟨_, _, _, _, _, e, _⟩ => by rw [e]; rfl) (fun f cdv AA outer s H vs Q E hr h => ⟨_, (pss_cons (ps_fld (pv 0) (pv 1) rfl) (pss_one (ps_fld (pv 0) (pv 2) rfl))), ?_⟩)
  obtain ⟨x, dx, d, p, G, rfl, w0, gx, hx, k⟩ := h
  refine ⟨_, rfl, _, rfl, x, A.Stand, dx, [], rfl, hx, T.cl_Stand, T.n_spot, (by show 0 < 1000; decide), ?_⟩
  refine ⟨_, rfl, _, rfl, x, A.Stand, dx, [("spot", .str p)], rfl, upd_same, T.cl_Stand, T.n_begins, (by show 1 < 1000; decide), ?_⟩
  rw [putS]
  exact k _ ((Nx.wr (M := (· = x)) w0 rfl gx).trans (Nx.wr (M := (· = x)) (w0.mut gx) rfl gx)) upd_same
/-! ### worths_at -/
def sp_worths_at (K : PySem.W.Frag) (CS : Addr) : Sp := fun vs H Q _ => ∃ (x : Addr) (v : V) (st : Std) (t : Fr) (k : Nat) (G : Hp), vs = [.ref x, v] ∧ Same G H ∧ StdA K CS G x st ∧ FrA K G v t ∧ FrB k t ∧ (∀ b ∈ st.2, FrB k b.2) ∧ k ≤ 3900 ∧
  (st.2.map (·.1)).Nodup ∧ st.2.length ≤ 1000 ∧ ∀ G' H' d, Nx M0 G H G' H' → BegA K G' d (worthsF st.2 t) → Q (.ref d) H'
theorem ok_worths_at (T : Tx K mg A) : MdOk P w K mg base A.Stand "worths_at" 4 P_Stand_worths_at (sp_worths_at K A.Stand) := by
  refine T.m_worths_at.ok sc_Stand_worths_at (fun vs H Q E ⟨_, _, _, _, _, _, e, _⟩ => by rw [e]; rfl) (fun f cdv AA outer s H vs Q E hr h => ⟨_, (pss_one (ps_ret (pe_lock (pe_dc (own := [("clock", 2), ("begin", 3)]) rfl sc_Stand_worths_at.nd (pi_items (pe_fld (pv 0) rfl)) (blkOk_by (own := [("clock", 2), ("begin", 3)]) (N := N_Stand_worths_at) (sc := defScope s_Stand_worths_at) (by decide +kernel)) (fun _ _ _ _ _ => (pg_tupB (n := 2) rfl (pgs_cons (pg_name (i := 2) sc_Stand_worths_at.nd rfl (Or.inl rfl)) (pgs_cons (pg_name (i := 3) sc_Stand_worths_at.nd rfl (Or.inl rfl)) pgs_nil)))) (fun _ _ _ _ _ => pts_nil) (fun _ _ _ _ _ => (pv 2)) (fun _ _ _ _ _ => (pe_cd (ok_minus T) (lv hr) rfl (pa_cons (pv 1) (pa_cons (pv 3) pa_nil)))))))), ?_⟩)
  obtain ⟨x, v, st, t, n, G, rfl, w0, ⟨dx, d, gx, kvs, gd, hkv⟩, gt, bt, bb, hn, nd, hl, k⟩ := h
  have hd := w0 _ _ gd
  refine ⟨d, _, hd, trivial, fun od => ?_⟩
  have nxd : x ≠ d := fun z => by rw [z, gd] at gx; cases gx
  have hlen : kvs.length = st.2.length := Paired.len hkv
  have wd : Same (del G d) (upd H d (.frz od (.dK kvs))) := del_upd' w0
  have hkd := hkv.del gd
  have gtd : FrA K (del G d) v t := by
    obtain ⟨a, h1, h2⟩ := gt
    exact ⟨a, h1, seqT_del gd h2⟩
  have gxd : del G d x = some (.ins A.Stand dx (fldsS (.str st.1) (.ref d))) := by rw [del_ne nxd]; exact gx
  refine ⟨_, rfl, x, _, _, _, _, rfl, wd _ _ gxd, T.cl_Stand, T.n_begins, lookBe _ _, d, od, kvs, rfl, upd_same, fun L hL => ?_⟩
  refine dc_it (walk_items (d := d) (o := od) (kvs := kvs)) (fun i H2 => ∃ kvs2 G2, Nx M0 (del G d) (upd H d (.frz od (.dK kvs))) G2 H2 ∧ G2 L = none ∧ H2 L = some (.dK kvs2) ∧ KvF K G2 kvs2 (worthsF (st.2.take i) t)) ⟨[], _, Nx.newM wd hL, wd.free hL, upd_same, .nil⟩
    (fun i H2 _ ⟨_, _, n2, _⟩ => n2.same _ _ upd_same) ?_ ?_
  · rintro i y H2 H3 hi ⟨kvs2, G2, n2, gL, hL2, hk2⟩ yy
    obtain ⟨T1, x1, x2, rfl, hT, rfl, h1, h2⟩ := yy
    obtain ⟨⟨k1, v1⟩, hk1⟩ : ∃ z, kvs[i]? = some z := ⟨_, List.getElem?_eq_getElem hi⟩
    simp only [hk1, Option.map_some] at h1 h2
    cases h1
    cases h2
    obtain ⟨⟨c, b⟩, hb, hk, hv⟩ := Paired.get hkd hk1
    simp only at hk hv
    subst hk
    have n3 := n2.trans (Nx.new (o := .tup [.str c, x2]) n2.w hT)
    have g3 : Same G2 (upd G2 T1 (.tup [.str c, x2])) := Same.new0 (n2.w.free hT)
    have nLT : L ≠ T1 := ne_of_none hL2 hT
    refine ⟨T1, _, rfl, SqT.of upd_same, rfl, _, _, rfl, _, _, rfl, rfl, rfl, _, rfl, _, rfl, _, rfl, _, _, t, b, n, rfl, ?_, ?_, bt, bb _ (List.mem_of_getElem? hb), hn, fun q hq => ?_⟩
    · exact (gtd.mono n3.g).mono n3.w
    · exact (hv.mono n3.g).mono n3.w
    have n4 := n3.trans (Nx.new (o := tupF (minusF t b)) n3.w hq)
    have hL3 : upd H2 T1 (.tup [.str c, x2]) L = some (.dK kvs2) := by rw [upd_ne nLT]; exact hL2
    have nLq : L ≠ q := ne_of_none hL3 hq
    refine ⟨kvs2, .inr c, rfl, by rw [upd_ne nLq]; exact hL3, szl ?_, ?_⟩
    · have h1 : kvs2.length = (worthsF (st.2.take i) t).length := Paired.len hk2
      unfold worthsF at h1
      rw [List.length_map, List.length_take] at h1
      omega
    have nin : valV kvs2 (.inr c) = none := valV_not (by
      rw [hk2.keys]
      refine not_inr fun z => ?_
      have q2 : (worthsF (st.2.take i) t).map (·.1) = (st.2.map (·.1)).take i := by
        unfold worthsF
        rw [List.map_map, List.map_take]
        rfl
      rw [q2] at z
      have hp : (st.2.map (·.1))[i]? = some c := by rw [List.getElem?_map, hb]; rfl
      exact nd_take nd hp z)
    rw [putK_new _ nin]
    have gL4 : upd (upd G2 T1 (.tup [.str c, x2])) q (tupF (minusF t b)) L = none := by rw [upd_ne nLq, upd_ne nLT]; exact gL
    refine ⟨_, _, n4.wrL hL gL4, gL4, upd_same, ?_⟩
    have e : worthsF (st.2.take (i + 1)) t = worthsF (st.2.take i) t ++ [(c, minusF t b)] := by
      rw [take_succ' hb]
      unfold worthsF
      rw [List.map_append]
      rfl
    rw [e]
    exact Paired.snoc (hk2.mono (g3.trans (Same.new0 (n3.w.free hq)))) ⟨rfl, FrA.of upd_same⟩
  rintro H2 ⟨kvs2, G2, n2, gL, hL2, hk2⟩
  refine ⟨n2.same _ _ upd_same, ?_⟩
  have n3 := n2.still hL hL2 wd
  have n4 := Nx.unlock w0 n3 gd hd (fun z => z)
  have gd2 : G2 d = none := n2.own d del_same (by rw [upd_same]; simp)
  have nLd : L ≠ d := (ne_of_none (show upd H d (.frz od (.dK kvs)) d = _ from upd_same) hL).symm
  refine k _ _ L n4 ⟨kvs2, by rw [upd_ne nLd]; exact upd_same, ?_⟩
  have q : st.2.take kvs.length = st.2 := by rw [List.take_of_length_le (by omega)]
  rw [q] at hk2
  exact hk2.mono ((Same.new0 gL).trans (Same.new0 (by rw [upd_ne nLd.symm]; exact gd2)))
/-! ### first_stand -/
theorem map_take_snoc {α β : Type} {f : α → β} {l : List α} {i : Nat} {x : α} (h : l[i]? = some x) : (l.take (i + 1)).map f = (l.take i).map f ++ [f x] := by
  rw [take_succ' h, List.map_append]
  rfl
def sp_first_stand (K : PySem.W.Frag) (CW CS : Addr) : Sp := fun vs H Q _ => ∃ (x : Addr) (W : Wt) (G : Hp), vs = [.ref x] ∧ Same G H ∧ WatA K CW G x W ∧ WtOk W ∧ ∀ G' H' y, Nx M0 G H G' H' → StdA K CS G' y (W.pl0, zerosF W) → Q (.ref y) H'
theorem ok_first_stand (T : Tx K mg A) : DefOk P w K mg base 3 "first_stand" P_first_stand (sp_first_stand K A.Watcher A.Stand) := by
  refine T.f_first_stand.ok sc_first_stand (fun vs H Q E ⟨_, _, _, e, _⟩ => by rw [e]; rfl) (fun f cdv AA outer s H vs Q E hr h => ⟨_, (pss_one (ps_ret (pe_mk (ok_Stand T) (lv hr) rfl T.g_Stand (pa_cons (pe_cd (ok_begin_place T) (lv hr) rfl (pa_cons (pv 0) pa_nil)) (pa_cons (pe_dc (own := [("clock", 1)]) rfl sc_first_stand.nd (pi_tup (pe_fld (pv 0) rfl)) (blkOk_by (own := [("clock", 1)]) (N := N_first_stand) (sc := defScope s_first_stand) (by decide +kernel)) (fun _ _ _ _ _ => (pg_name (i := 1) sc_first_stand.nd rfl (Or.inl rfl))) (fun _ _ _ _ _ => pts_nil) (fun _ _ _ _ _ => (pv 1)) (fun _ _ _ _ _ => (pe_glob (v := .ref A.cZERO) rfl T.g_ZERO rfl))) pa_nil))))), ?_⟩)
  obtain ⟨x, W, G, rfl, w0, wa, ok, k⟩ := h
  refine ⟨_, rfl, x, W, rfl, wa.mono w0, ok, fun H1 e1 => ?_⟩
  have n1 : Nx M0 G H G H1 := Nx.grow w0 e1
  have wa1 := wa.mono n1.w
  obtain ⟨dx, fs, hx, hh, eh, th, lh, rfl, h1, h2, h3, h4⟩ := wa1
  obtain ⟨dx', fs', gx, hh', eh', th', lh', e', g1, g2, g3, g4⟩ := wa
  have hx' := n1.w _ _ gx
  rw [hx] at hx'
  cases hx'
  cases e'
  refine ⟨_, rfl, x, _, _, _, _, rfl, hx, T.cl_Watcher, T.n_hands, lookH _ _ _ _, hh, rfl, ⟨_, h1⟩, fun L hL => ?_⟩
  have cl := ok.cl
  refine dc_it (walk_tup (xs := W.clocks.map V.str)) (fun i H2 => ∃ kvs2, Nx M0 G H1 G H2 ∧ H2 L = some (.dK kvs2) ∧ KvF K G kvs2 ((W.clocks.take i).map fun c => (c, (0, 1)))) ⟨[], Nx.newM n1.w hL, upd_same, .nil⟩
    (fun i H2 _ ⟨_, n2, _⟩ => seqT n2.same h1) ?_ ?_
  · rintro i y H2 H3 hi ⟨kvs2, n2, hL2, hk2⟩ yy
    obtain ⟨rfl, hy⟩ := yy
    obtain ⟨c, hc, rfl⟩ := get_map hy
    refine ⟨rfl, _, rfl, kvs2, .inr c, rfl, hL2, szl ?_, ?_⟩
    · have h1 := Paired.len hk2
      rw [List.length_map, List.length_take] at h1
      omega
    have nin : valV kvs2 (.inr c) = none := valV_not (by
      rw [hk2.keys]
      refine not_inr fun z => ?_
      have e : ((W.clocks.take i).map fun c => ((c, ((0, 1) : Fr)) : Str × Fr)).map (·.1) = W.clocks.take i := by
        rw [List.map_map]
        exact List.map_id _
      rw [e] at z
      exact nd_take ok.cn hc z)
    rw [putK_new _ nin, map_take_snoc hc]
    exact ⟨_, n2.wrL hL (n1.w.free hL), upd_same, Paired.snoc hk2 ⟨rfl, A.cZERO, rfl, T.t_ZERO _⟩⟩
  rintro H2 ⟨kvs2, n2, hL2, hk2⟩
  have n3 := n1.trans (n2.still hL hL2 n1.w)
  rw [List.length_map, List.take_length] at hk2
  intro y dy hy hdy ne
  have ms := made_same (C := A.Stand) n3.w hy hdy ne
  refine ⟨y, dy, L, W.pl0, _, rfl, ms, n3.w.free hy, upd_same, fun H4 n4 hy4 => ⟨rfl, ?_⟩⟩
  have n5 := n3.trans (made n3.w hy hdy ne n4 (n3.w.free hy) hy4)
  refine k _ _ y n5 ⟨dy, L, upd_same, BegA.mono ⟨kvs2, upd_same, hk2.mono ?_⟩ (Same.new0 (n3.w.free hy))⟩
  exact Same.new0 (n1.w.free hL)
end K25

/-! ## K13 -/
set_option Elab.async false
set_option linter.all false
set_option maxRecDepth 100000
set_option maxHeartbeats 8000000
/-! K13: keeps_limit, has_runs, passes, gone, stand_behind. -/
set_option exponentiation.threshold 100000
namespace K25
open PySem L2
open PySem.Spec PyProof.Rows
variable {P : Program} {w : World} {K : PySem.W.Frag} {mg : Str → Option Value} {base : Heap} {A : Ad}
theorem range_map {α : Type} (l : List α) (f : α → Bool) : (List.range l.length).map (fun i => (l[i]?.map f).getD true) = l.map f := by
  apply List.ext_getElem
  · simp
  · intro i h1 h2
    simp at h1 h2 ⊢
    simp [h1]
theorem BegA.lockd {H : Hp} {d e : Addr} {kvs : List (Key × V)} {ws : List (Str × Fr)} {od : Obj} (he : H e = some (.dK kvs)) (h : BegA K H d ws) {c : Str} (hc : c ∈ ws.map (·.1)) :
    ∃ v, (∀ H', Same (del H e) H' → H' e = some (.frz od (.dK kvs)) → DGet H' d (.str c) (some v)) ∧ FrA K (del H e) v (getF ws c) := by
  obtain ⟨ks, h1, h2⟩ := h
  obtain ⟨f, hf⟩ := look_some hc
  obtain ⟨v, h3, h4⟩ := h2.look hf
  refine ⟨v, fun H' s f' => ?_, ?_⟩
  · by_cases q : d = e
    · subst q
      rw [he] at h1
      cases h1
      exact dget_frz f' h3
    · exact dget (s _ _ (by rw [del_ne q]; exact h1)) h3
  · unfold getF
    rw [hf]
    obtain ⟨a, e1, e2⟩ := h4
    exact ⟨a, e1, seqT_del he e2⟩
theorem n5_lt {n : Int} (h0 : 0 ≤ n) (h5 : n < 5) : n.natAbs < 2 ^ 100 := by
  have h1 : n.natAbs < 5 := by omega
  exact Nat.lt_of_lt_of_le h1 (by decide)
def sp_keeps_limit (K : PySem.W.Frag) (CW : Addr) : Sp := fun vs H Q _ => ∃ (x d : Addr) (p : Str) (W : Wt) (ws : List (Str × Fr)) (k : Nat), vs = [.ref x, .str p, .ref d] ∧ WatA K CW H x W ∧ WtOk W ∧ p ∈ W.places ∧ BegA K H d ws ∧ (∀ c ∈ W.clocks, c ∈ ws.map (·.1)) ∧ (∀ b ∈ ws, FrB k b.2) ∧ k ≤ 3900 ∧
  ∀ H', Same H H' → Q (.bl (limB W p ws)) H'
theorem ok_keeps_limit (T : Tx K mg A) : DefOk P w K mg base 3 "keeps_limit" P_keeps_limit (sp_keeps_limit K A.Watcher) := by
  refine T.f_keeps_limit.ok sc_keeps_limit (fun vs H Q E ⟨_, _, _, _, _, _, e, _⟩ => by rw [e]; rfl) (fun f cdv AA outer s H vs Q E hr h => ⟨_, (pss_one (ps_ret (pe_callB (cr_all rfl) rfl T.z_all (by decide +kernel) (pa_cons (pe_lock (pe_lc (own := [("clock", 3), ("edge", 4)]) rfl sc_keeps_limit.nd (pi_items (pe_dget (hu_of hr) (pe_fld (pv 0) rfl) (pv 1) (fun _ _ => rfl))) (blkOk_by (own := [("clock", 3), ("edge", 4)]) (N := N_keeps_limit) (sc := defScope s_keeps_limit) (by decide +kernel)) (fun _ _ _ _ _ => (pg_tupB (n := 2) rfl (pgs_cons (pg_name (i := 3) sc_keeps_limit.nd rfl (Or.inl rfl)) (pgs_cons (pg_name (i := 4) sc_keeps_limit.nd rfl (Or.inl rfl)) pgs_nil)))) (fun _ _ _ _ _ => pts_nil) (fun _ _ _ _ _ => (pe_cd (ok_keeps T) (lv hr) rfl (pa_cons (pe_dget (hu_of hr) (pv 2) (pv 3) (fun _ _ => rfl)) (pa_cons (pe_cd (ok_code_of T) (lv hr) rfl (pa_cons (pv 4) pa_nil)) pa_nil)))))) pa_nil)))), ?_⟩)
  obtain ⟨x, d, p, W, ws, n, rfl, ⟨dx, fs, hx, hh, eh, th, lh, rfl, h1, ⟨kvs, h2, h2'⟩, h3, h4⟩, ok, hp, hb, hc, hB, hn, k⟩ := h
  have nd : (W.held.map (·.1)).Nodup := by rw [held_keys]; exact ok.pn
  obtain ⟨i, hi, hpi⟩ := List.getElem_of_mem hp
  have hWi : ∃ l, W.held[i]? = some (p, l) := by
    have hl : i < W.held.length := by rw [← List.length_map (f := (·.1)), held_keys]; exact hi
    refine ⟨(W.held[i]).2, ?_⟩
    rw [List.getElem?_eq_getElem hl]
    have q : (W.held.map (·.1))[i]? = some p := by rw [held_keys, List.getElem?_eq_getElem hi, hpi]
    rw [List.getElem?_map, List.getElem?_eq_getElem hl] at q
    have q := Option.some.inj q
    simp only at q
    rw [← q]
  obtain ⟨l, hl⟩ := hWi
  have hlim : limB W p ws = l.all fun e => keepsU (getF ws e.1) e.2.1 e.2.2 := by
    unfold limB
    rw [look_nd nd hl]
    rfl
  have lo := ok.heldOk (List.mem_of_getElem? hl)
  obtain ⟨v, hv1, hv2, e, rfl, ne, ks, he, hks⟩ := Paired.val (f := fun b : Str × Lim => b.1) (F := fun v b => ∃ e, v = .ref e ∧ e ≠ eh ∧ LimA K H e b.2) h2' nd hl
  simp only at hv1 hv2 hks
  refine ⟨e, _, he, trivial, fun od => ?_⟩
  have nxe : x ≠ e := fun z => by rw [z, he] at hx; cases hx
  have hse : Same (del H e) (upd H e (.frz od (.dK ks))) := del_upd
  refine ⟨_, rfl, x, _, _, _, _, rfl, (by rw [upd_ne nxe]; exact hx), T.cl_Watcher, T.n_held, lookE _ _ _ _, _, rfl, eh, _, rfl, dget (by rw [upd_ne ne.symm]; exact h2) hv2, e, od, ks, rfl, upd_same, fun D hD => ?_⟩
  have hlk : ks.length = l.length := Paired.len hks
  refine lc_bools (walk_items (d := e) (o := od) (kvs := ks)) (fun i => (l[i]?.map fun e => keepsU (getF ws e.1) e.2.1 e.2.2).getD true) hD (by have := lo.len; simp only at this; omega) (fun H4 e4 => e4 _ _ upd_same) (fun _ _ _ _ y => YPair.same y) (fun j y H4 H5 Qc hj e4 yy q => ?_) (fun H4 e4 hL4 => ?_)
  · obtain ⟨T1, x1, x2, rfl, hT, rfl, g1, g2⟩ := yy
    obtain ⟨⟨k1, v1⟩, hk1⟩ : ∃ z, ks[j]? = some z := ⟨_, List.getElem?_eq_getElem hj⟩
    simp only [hk1, Option.map_some] at g1 g2
    cases g1
    cases g2
    obtain ⟨⟨c, b⟩, hb1, hk, a1, hv, hs1⟩ := Paired.get (hks.del he) hk1
    simp only at hk hv hs1
    subst hk
    subst hv
    have hm := List.mem_of_getElem? hb1
    obtain ⟨v2, hg, hf⟩ := hb.lockd (od := od) he (hc c (lo.c _ hm))
    have e5 := (hse.trans e4).new (o := .tup [kV (Sum.inr c), .ref a1]) hT
    have e4' := e4.new (o := .tup [kV (Sum.inr c), .ref a1]) hT
    refine ⟨T1, _, rfl, SqT.of upd_same, rfl, _, _, rfl, _, _, rfl, rfl, rfl, ?_⟩
    have hn5 := n5_lt (lo.n0 _ hm) (lo.n5 _ hm)
    refine ⟨_, rfl, _, rfl, d, _, rfl, hg _ e5 (e4' _ _ upd_same), _, rfl, a1, b.1, b.2, rfl, seqT e5 hs1, lo.w _ hm, hn5, v2, _, b.1, b.2, n, rfl, hf.mono e5, hB _ (getF_mem (hc c (lo.c _ hm))), hn, hn5, fun H6 e6 => ?_⟩
    have q := q H6 e6
    rw [hb1] at q
    exact q
  · have nDe : D ≠ e := (ne_of_none (show upd H e (.frz od (.dK ks)) e = _ from upd_same) hD).symm
    refine ⟨e4 _ _ upd_same, D, _, rfl, SqL.of (by rw [upd_ne nDe]; exact hL4), ?_⟩
    rw [hlk, range_map]
    have q := k _ (unlock (hse.trans e4) he)
    rw [hlim] at q
    have e : ((l.map fun e => keepsU (getF ws e.1) e.2.1 e.2.2).all id) = l.all fun e => keepsU (getF ws e.1) e.2.1 e.2.2 := by rw [List.all_map]; rfl
    rw [e]
    exact q
/-! ### has_runs -/
theorem lookWa (p d : V) : (fldsS p d).lookup ("worths_at" : Str) = none := by
  have q : (("worths_at" : Str) == "spot") = false := by decide +kernel
  have q2 : (("worths_at" : Str) == "begins") = false := by decide +kernel
  simp [fldsS, List.lookup, q, q2]
theorem zeros_keys (W : Wt) : (zerosF W).map (·.1) = W.clocks := by
  unfold zerosF
  rw [List.map_map]
  exact List.map_id _
theorem worths_keys (bs : List (Str × Fr)) (t : Fr) : (worthsF bs t).map (·.1) = bs.map (·.1) := by
  unfold worthsF
  rw [List.map_map]
  rfl
theorem zero_B {k : Nat} (h : 1 ≤ k) : FrB k (0, 1) := n1_B (n := 0) (by show 0 < 2 ^ k; exact Nat.pow_pos (by decide)) h
theorem zeros_B {k : Nat} (h : 1 ≤ k) {W : Wt} {b : Str × Fr} (hb : b ∈ zerosF W) : FrB k b.2 := by
  obtain ⟨c, _, rfl⟩ := List.mem_map.mp hb
  exact zero_B h
theorem worths_B {k : Nat} {bs : List (Str × Fr)} {t : Fr} (ht : FrB k t) (hb : ∀ b ∈ bs, FrB k b.2) : ∀ b ∈ worthsF bs t, FrB (k + k + 1) b.2 := fun b h => by
  obtain ⟨c, hc, rfl⟩ := List.mem_map.mp h
  exact minusF_B ht (hb c hc)
def runsB (W : Wt) : Bool := limB W W.pl0 (worthsF (zerosF W) (0, 1))
def sp_has_runs (K : PySem.W.Frag) (CW : Addr) : Sp := fun vs H Q _ => ∃ x W, vs = [.ref x] ∧ WatA K CW H x W ∧ WtOk W ∧ ∀ H', Same H H' → Q (.bl (runsB W)) H'
theorem ok_has_runs (T : Tx K mg A) : DefOk P w K mg base 5 "has_runs" P_has_runs (sp_has_runs K A.Watcher) := by
  refine T.f_has_runs.ok sc_has_runs (fun vs H Q E ⟨_, _, e, _⟩ => by rw [e]; rfl) (fun f cdv AA outer s H vs Q E hr h => ⟨_, (pss_one (ps_ret (pe_cd (ok_keeps_limit T) (lv hr) rfl (pa_cons (pv 0) (pa_cons (pe_cd (ok_begin_place T) (lv hr) rfl (pa_cons (pv 0) pa_nil)) (pa_cons (pe_md T.cl_Stand (ok_worths_at T) (lv hr) (pe_cd (ok_first_stand T) (lv hr) rfl (pa_cons (pv 0) pa_nil)) (pa_cons (pe_glob (v := .ref A.cZERO) rfl T.g_ZERO rfl) pa_nil)) pa_nil)))))), ?_⟩)
  obtain ⟨x, W, rfl, wa, ok, k⟩ := h
  have cl := ok.cl
  refine ⟨_, rfl, _, rfl, x, W, rfl, wa, ok, fun H1 e1 => ?_⟩
  refine ⟨_, rfl, x, W, H1, rfl, Same.refl _, wa.mono e1, ok, fun G2 H2 y n2 sy => ?_⟩
  have sy' := sy
  obtain ⟨dy, dd, gy, _⟩ := sy'
  have zl : (zerosF W).length = W.clocks.length := by unfold zerosF; rw [List.length_map]
  refine ⟨y, _, _, rfl, n2.w _ _ gy, lookWa _ _, y, .ref A.cZERO, (W.pl0, zerosF W), (0, 1), 1, G2, rfl, n2.w, sy, ⟨_, rfl, T.t_ZERO _⟩, zero_B (by decide), fun b hb => zeros_B (by decide) hb, by decide, by rw [zeros_keys]; exact ok.cn, by show (zerosF W).length ≤ 1000; omega, fun G3 H3 d n3 hd => ?_⟩
  have e3 := (e1.trans n2.same).trans n3.same
  exact ⟨x, d, W.pl0, W, _, 3, rfl, wa.mono e3, ok, ok.pl0.2, hd.mono n3.w, fun c hc => by rw [worths_keys, zeros_keys]; exact hc, worths_B (zero_B (k := 1) (by decide)) (fun b hb => zeros_B (by decide) hb), by decide, fun H4 e4 => k _ (e3.trans e4)⟩
/-! ### passes -/
def passB (ws : List (Str × Fr)) (c : Cut) : Bool := keepsW (getF ws c.1) c.2.1 c.2.2
def sp_passes (K : PySem.W.Frag) : Sp := fun vs H Q _ => ∃ (v : V) (d : Addr) (c : Cut) (clocks : List Str) (ws : List (Str × Fr)) (k : Nat), vs = [v, .ref d] ∧ Rp K H (cutD c) v ∧ CutOk clocks c ∧ BegA K H d ws ∧ c.1 ∈ ws.map (·.1) ∧ (∀ b ∈ ws, FrB k b.2) ∧ k ≤ 3900 ∧ ∀ H', Same H H' → Q (.bl (passB ws c)) H'
theorem ok_passes (T : Tx K mg A) : DefOk P w K mg base 3 "passes" P_passes (sp_passes K) := by
  refine T.f_passes.ok sc_passes (fun vs H Q E ⟨_, _, _, _, _, _, e, _⟩ => by rw [e]; rfl) (fun f cdv AA outer s H vs Q E hr h => ⟨_, (pss_cons (ps_asg (pv 0) (pg_tup rfl (pgs_cons (pg_name (i := 2) sc_passes.nd rfl (Or.inl rfl)) (pgs_cons (pg_name (i := 3) sc_passes.nd rfl (Or.inl rfl)) (pgs_cons (pg_name (i := 4) sc_passes.nd rfl (Or.inl rfl)) pgs_nil))))) (pss_cons (ps_set (i := 5) sc_passes.nd rfl (Or.inl rfl) (pe_tup (pa_cons (pv 3) (pa_cons (pe_cd (ok_whole T) (lv hr) rfl (pa_cons (pv 4) pa_nil)) pa_nil)))) (pss_cons (ps_if (pt_cmpR op_in_seq (pv 3) (pe_tup (pa_cons pe_str (pa_cons pe_str pa_nil))) (by rfl)) (pss_one (ps_ret (pe_cd (ok_frac_keeps T) (lv hr) rfl (pa_cons (pe_dget (hu_of hr) (pv 1) (pv 2) (fun _ _ => rfl)) (pa_cons (pv 5) (pa_cons pe_non pa_nil)))))) pss_nil) (pss_one (ps_ret (pe_cd (ok_frac_keeps T) (lv hr) rfl (pa_cons (pe_dget (hu_of hr) (pv 1) (pv 2) (fun _ _ => rfl)) (pa_cons pe_non (pa_cons (pv 5) pa_nil))))))))), ?_⟩)
  obtain ⟨v, d, ⟨c, u, m⟩, clocks, ws, n, rfl, ⟨a, xs, rfl, hs, _, r0, rfl, h0, _, r1, rfl, h1, _, r2, rfl, h2, rfl⟩, ok, hb, hc, hB, hn, k⟩ := h
  cases h0
  cases h1
  cases h2
  have hn5 := n5_lt ok.n0 ok.n5
  have hB := hB _ (getF_mem hc)
  refine ⟨_, rfl, a, _, rfl, hs, rfl, _, _, rfl, _, _, rfl, _, _, rfl, rfl, ?_⟩
  refine ⟨_, rfl, _, rfl, m, rfl, fun p hp => ⟨s2, fun q hq => ?_⟩⟩
  have e1 : Same H (upd H p (tupF (m, 1))) := Same.new0 hp
  have e2 := e1.new (o := .tup [.str u, .ref p]) hq
  have hq2 : SqT K (upd (upd H p (tupF (m, 1))) q (.tup [.str u, .ref p])) q [.str u, .ref p] := SqT.of upd_same
  have hp2 : FrA K (upd (upd H p (tupF (m, 1))) q (.tup [.str u, .ref p])) (.ref p) (m, 1) := (FrA.of upd_same).mono (Same.new0 hq)
  refine ⟨_, rfl, s2, fun t ht => ?_⟩
  have e3 := e2.new (o := .tup [.str "from", .str "above"]) ht
  have e23 := Same.new0 (o := .tup [.str "from", .str "above"]) ht
  have hq3 := seqT e23 hq2
  have hp3 := hp2.mono e23
  obtain ⟨v2, hg, hf⟩ := (hb.mono e3).look hc
  refine ⟨t, _, rfl, .inr (SqT.of upd_same), rfl, flat_strs ["from", "above"], _, rfl, ?_⟩
  have ein : inV (.str u) (([("from" : Str), "above"]).map V.str) = decide (u ∈ ([("from" : Str), "above"])) := inV_str
  rcases ok.w with hl | hu
  · refine iteT' (by show inV (.str u) (([("from" : Str), "above"]).map V.str) = true; rw [ein]; exact decide_eq_true (by rcases hl with h | h <;> (simp only at h; rw [h]; simp))) ?_
    exact ⟨_, rfl, _, rfl, d, _, rfl, hg, _, rfl, v2, .ref q, _, q, p, u, m, n, hf, hB, hn, hn5, hq3, hp3, .inl ⟨rfl, hl⟩, k _ e3⟩
  · refine iteF' (by show inV (.str u) (([("from" : Str), "above"]).map V.str) = false; rw [ein]; exact decide_eq_false (by rcases hu with h | h <;> (simp only at h; rw [h]; decide +kernel))) ?_
    exact ⟨_, rfl, _, rfl, d, _, rfl, hg, _, rfl, v2, .ref q, _, q, p, u, m, n, hf, hB, hn, hn5, hq3, hp3, .inr ⟨rfl, hu⟩, k _ e3⟩
end K25

/-! ## K14 -/
set_option Elab.async false
set_option linter.all false
set_option maxRecDepth 100000
set_option maxHeartbeats 8000000
/-! K14: gone, stand_behind. -/
set_option exponentiation.threshold 100000
namespace K25
open PySem L2
open PySem.Spec PyProof.Rows
variable {P : Program} {w : World} {K : PySem.W.Frag} {mg : Str → Option Value} {base : Heap} {A : Ad}
def setB (bs : List (Str × Fr)) (beg : List Str) (t : Fr) : List (Str × Fr) := bs.map fun b => (b.1, if b.1 ∈ beg then t else b.2)
def goneS (W : Wt) (st : Std) (a : Arr) (t : Fr) : Option Std :=
  if a.src = st.1 ∧ limB W a.src (worthsF st.2 t) = true then
    if (a.cuts.all (passB (worthsF st.2 t))) = true then
      if limB W a.dst (worthsF (setB st.2 a.beg t) t) = true then some (a.dst, setB st.2 a.beg t) else none
    else none
  else none
theorem setB_nil (bs : List (Str × Fr)) (t : Fr) : setB bs [] t = bs := by
  unfold setB
  conv => rhs; rw [← List.map_id bs]
  exact List.map_congr_left fun b _ => by simp
theorem setB_keys (bs : List (Str × Fr)) (l : List Str) (t : Fr) : (setB bs l t).map (·.1) = bs.map (·.1) := by
  unfold setB
  rw [List.map_map]
  rfl
theorem setB_B {k : Nat} {bs : List (Str × Fr)} {l : List Str} {t : Fr} (ht : FrB k t) (hb : ∀ b ∈ bs, FrB k b.2) : ∀ b ∈ setB bs l t, FrB k b.2 := fun b h => by
  obtain ⟨c, hc, rfl⟩ := List.mem_map.mp h
  show FrB k (if _ then _ else _)
  split
  · exact ht
  · exact hb c hc
theorem setB_snoc (bs : List (Str × Fr)) (l : List Str) (c : Str) (t : Fr) : setB bs (l ++ [c]) t = (setB bs l t).map fun b => (b.1, if b.1 = c then t else b.2) := by
  unfold setB
  rw [List.map_map]
  refine List.map_congr_left fun b _ => ?_
  by_cases h1 : b.1 = c
  · simp [h1]
  · by_cases h2 : b.1 ∈ l
    · simp [h2]
    · simp [h1, h2]
theorem KvF.put {G : Hp} {kvs : List (Key × V)} {l : List (Str × Fr)} {c : Str} {v : V} {t : Fr} (h : KvF K G kvs l) (hc : c ∈ l.map (·.1)) (hv : FrA K G v t) : KvF K G (putK kvs (.inr c) v) (l.map fun b => (b.1, if b.1 = c then t else b.2)) := by
  have e : putK kvs (.inr c) v = kvs.map fun kv => if kv.1 = (.inr c : Key) then (kv.1, v) else kv := by
    unfold putK
    refine if_pos ?_
    have m : (Sum.inr c : Key) ∈ kvs.map (·.1) := by
      rw [h.keys]
      exact List.mem_map.mpr ⟨c, hc, rfl⟩
    obtain ⟨kv, h1, h2⟩ := List.mem_map.mp m
    rw [List.any_eq_true]
    exact ⟨kv, h1, decide_eq_true h2⟩
  rw [e]
  clear e hc
  unfold KvF at h ⊢
  induction h with
  | nil => exact .nil
  | @cons kv b xs ys r t ih =>
    refine .cons ?_ ih
    obtain ⟨h1, h2⟩ := r
    obtain ⟨k, z⟩ := kv
    simp only at h1 h2
    subst h1
    by_cases q : b.1 = c
    · simp only [q, if_true]
      exact ⟨trivial, hv⟩
    · have q' : ¬ (Sum.inr b.1 : Key) = Sum.inr c := fun z => q (Sum.inr.inj z)
      simp only [if_neg q, if_neg q']
      exact ⟨trivial, h2⟩
theorem putK_len {G : Hp} {kvs : List (Key × V)} {l : List (Str × Fr)} (h : KvF K G kvs l) : kvs.length = l.length := Paired.len h
/-- a stand or None -/
def OptS (K : PySem.W.Frag) (CS : Addr) (G : Hp) (v : V) : Option Std → Prop
  | none => v = .non
  | some st => ∃ y, v = .ref y ∧ StdA K CS G y st
theorem OptS.mono {CS : Addr} {G G' : Hp} {v : V} : ∀ {o : Option Std}, OptS K CS G v o → Same G G' → OptS K CS G' v o
  | none, h, _ => h
  | some _, ⟨y, h1, h2⟩, e => ⟨y, h1, h2.mono e⟩
/-- the stand is one of the watcher's: its clocks -/
structure StOk (W : Wt) (k : Nat) (st : Std) : Prop where
  c : st.2.map (·.1) = W.clocks
  b : ∀ b ∈ st.2, FrB k b.2
theorem StOk.gone {W : Wt} {k : Nat} {st st' : Std} {a : Arr} {t : Fr} (h : StOk W k st) (ht : FrB k t) (e : goneS W st a t = some st') : StOk W k st' := by
  unfold goneS at e
  split at e
  · split at e
    · split at e
      · cases e
        exact ⟨by rw [setB_keys]; exact h.c, setB_B ht h.b⟩
      · cases e
    · cases e
  · cases e
def sp_gone (K : PySem.W.Frag) (CW CS : Addr) : Sp := fun vs H Q _ => ∃ (x y : Addr) (i : Nat) (v : V) (W : Wt) (st : Std) (a : Arr) (t : Fr) (k : Nat) (G : Hp), vs = [.ref x, .ref y, .int i, v] ∧ Same G H ∧ WatA K CW G x W ∧ WtOk W ∧ StdA K CS G y st ∧ StOk W k st ∧ W.arrs[i]? = some a ∧
  FrA K G v t ∧ FrB k t ∧ k ≤ 1900 ∧ ∀ G' H' v', Nx M0 G H G' H' → OptS K CS G' v' (goneS W st a t) → Q v' H'
theorem ok_gone (T : Tx K mg A) : DefOk P w K mg base 5 "gone" P_gone (sp_gone K A.Watcher A.Stand) := by
  refine T.f_gone.ok sc_gone (fun vs H Q E ⟨_, _, _, _, _, _, _, _, _, _, e, _⟩ => by rw [e]; rfl) (fun f cdv AA outer s H vs Q E hr h => ⟨_, (pss_cons (ps_asg (pe_tup (pa_cons (pe_ix ix_tup (pe_fld (pv 0) rfl) (pv 2) (fun _ _ => rfl)) (pa_cons (pe_md T.cl_Stand (ok_worths_at T) (lv hr) (pv 1) (pa_cons (pv 3) pa_nil)) pa_nil))) (pg_tup rfl (pgs_cons (pg_name (i := 4) sc_gone.nd rfl (Or.inl rfl)) (pgs_cons (pg_name (i := 5) sc_gone.nd rfl (Or.inr rfl)) pgs_nil)))) (pss_cons (ps_if (PW.pt (pw_or (pt_cmpR op_ne (pe_ix ix_tup (pv 4) pe_int (fun _ _ => rfl)) (pe_fld (pv 1) rfl) (nomark _)) (pw_or1 (pt_not (pt_val (pe_cd (ok_keeps_limit T) (lv hr) rfl (pa_cons (pv 0) (pa_cons (pe_ix ix_tup (pv 4) pe_int (fun _ _ => rfl)) (pa_cons (pv 5) pa_nil))))))))) (pss_one (ps_ret pe_non)) pss_nil) (pss_cons (ps_if (pt_not (pt_val (pe_callB (cr_all rfl) rfl T.z_all (by decide +kernel) (pa_cons (pe_lc (own := [("part", 9)]) rfl sc_gone.nd (pi_tup (pe_ix ix_tup (pv 4) pe_int (fun _ _ => rfl))) (blkOk_by (own := [("part", 9)]) (N := N_gone) (sc := defScope s_gone) (by decide +kernel)) (fun _ _ _ _ _ => (pg_name (i := 9) sc_gone.nd rfl (Or.inl rfl))) (fun _ _ _ _ _ => pts_nil) (fun _ _ _ _ _ => (pe_cd (ok_passes T) (lv hr) rfl (pa_cons (pv 9) (pa_cons (pv 5) pa_nil))))) pa_nil)))) (pss_one (ps_ret pe_non)) pss_nil) (pss_cons (ps_set (i := 6) sc_gone.nd rfl (Or.inl rfl) (pe_callTy call_dict_copy rfl T.z_dict (by decide +kernel) (pa_cons (pe_fld (pv 1) rfl) pa_nil))) (pss_cons (ps_for PassesOwn.never rfl (pi_tup (pe_ix ix_tup (pv 4) pe_int (fun _ _ => rfl))) (pg_name (i := 7) sc_gone.nd rfl (Or.inl rfl)) (pss_one (ps_dput (hu_of hr) (pv 6) (pv 7) (pv 3) rfl))) (pss_cons (ps_set (i := 8) sc_gone.nd rfl (Or.inl rfl) (pe_mk (ok_Stand T) (lv hr) rfl T.g_Stand (pa_cons (pe_ix ix_tup (pv 4) pe_int (fun _ _ => rfl)) (pa_cons (pv 6) pa_nil)))) (pss_one (ps_ret (pe_ifExp (pt_val (pe_cd (ok_keeps_limit T) (lv hr) rfl (pa_cons (pv 0) (pa_cons (pe_ix ix_tup (pv 4) pe_int (fun _ _ => rfl)) (pa_cons (pe_md T.cl_Stand (ok_worths_at T) (lv hr) (pv 8) (pa_cons (pv 3) pa_nil)) pa_nil))))) (pv 8) pe_non))))))))), ?_⟩)
  obtain ⟨x, y, i, v, W, st, a, t, n, G, rfl, w0, wa, ok, sy, so, hi, ft, bt, hn, k⟩ := h
  have cl := ok.cl
  have sl : st.2.length = W.clocks.length := by rw [← so.c, List.length_map]
  have ao := ok.ar a (List.mem_of_getElem? hi)
  obtain ⟨dx, fs, gx, hh, eh, th, lh, rfl, g1, g2, ⟨th', xs, e0, g3, g3'⟩, g4⟩ := wa
  cases e0
  have wa : WatA K A.Watcher G x W := ⟨dx, _, gx, hh, eh, _, lh, rfl, g1, g2, ⟨_, xs, rfl, g3, g3'⟩, g4⟩
  obtain ⟨xi, hxi, rxi⟩ := g3'.get (i := i) (d := arrT a) (by rw [List.getElem?_map, hi]; rfl)
  have sy' := sy
  obtain ⟨dy, bd, gy, gb⟩ := sy'
  obtain ⟨tr, trx, rfl, gtr, x0, r0, rfl, h0, x1, r1, rfl, h1, x2, r2, rfl, h2, x3, r3, rfl, h3, x4, r4, rfl, h4, rfl⟩ := rxi
  cases h0
  cases h4
  have eat : atI xs (i : Int) = some (.ref tr) := atI_nat hxi
  refine ⟨_, rfl, x, _, _, _, _, rfl, w0 _ _ gx, T.cl_Watcher, T.n_tracks, lookT _ _ _ _, _, rfl, _, _, _, _, rfl, rfl, seqT w0 g3, eat, ?_⟩
  refine ⟨_, rfl, y, _, _, rfl, w0 _ _ gy, lookWa _ _, _, rfl, y, v, st, t, n, G, rfl, w0, sy, ft, bt, so.b, by omega, by rw [so.c]; exact ok.cn, by omega, fun G1 H1 wd n1 hw => ?_⟩
  refine ⟨s2, fun q hq => ⟨q, _, rfl, SqT.of upd_same, rfl, _, _, rfl, _, _, rfl, rfl, ?_⟩⟩
  have nq := n1.trans (Nx.new (o := .tup [.ref tr, .ref wd]) n1.w hq)
  have hwq := hw.mono (Same.new0 (o := .tup [.ref tr, .ref wd]) (n1.w.free hq))
  generalize upd G1 q (.tup [.ref tr, .ref wd]) = Gq at nq hwq
  generalize upd H1 q (.tup [.ref tr, .ref wd]) = Hq at nq
  clear hq n1 hw
  have wk : ∀ c ∈ W.clocks, c ∈ (worthsF st.2 t).map (·.1) := fun c hc => by rw [worths_keys, so.c]; exact hc
  have wB := worths_B bt so.b
  have stop : ∀ H', Same Hq H' → goneS W st a t = none → Q .non H' := fun H' e z => k Gq H' .non (nq.trans (Nx.grow nq.w e)) (by rw [z]; rfl)
  by_cases hsrc : a.src = st.1
  rotate_left
  · -- another place
    refine ⟨_, rfl, tr, _, 0, _, rfl, rfl, seqT (nq.g.trans nq.w) gtr, at50, _, rfl, y, _, _, _, _, rfl, nq.w _ _ (nq.g _ _ gy), T.cl_Stand, T.n_spot, lookSp _ _, rfl, ?_⟩
    have e : decide (V.str a.src = V.str st.1) = false := str_ne hsrc
    refine ⟨_, rfl, iteT' (by rw [e]; rfl) (stop _ (Same.refl _) ?_)⟩
    unfold goneS
    exact if_neg fun z => hsrc z.1
  refine ⟨_, rfl, tr, _, 0, _, rfl, rfl, seqT (nq.g.trans nq.w) gtr, at50, _, rfl, y, _, _, _, _, rfl, nq.w _ _ (nq.g _ _ gy), T.cl_Stand, T.n_spot, lookSp _ _, rfl, ?_⟩
  have e : decide (V.str a.src = V.str st.1) = true := decide_eq_true (by rw [hsrc])
  refine ⟨_, rfl, iteF' (by rw [e]; rfl) ?_⟩
  refine ⟨_, rfl, _, rfl, tr, _, 0, _, rfl, rfl, seqT (nq.g.trans nq.w) gtr, at50, _, rfl, x, wd, a.src, W, _, n + n + 1, rfl, wa.mono (nq.g.trans nq.w), ok, ao.src, hwq.mono nq.w, wk, wB, by omega, fun H2 e2 => ⟨_, rfl, ?_⟩⟩
  cases hlim : limB W a.src (worthsF st.2 t) with
  | false =>
    refine iteT' rfl (stop _ e2 ?_)
    unfold goneS
    exact if_neg fun z => by rw [hlim] at z; cases z.2
  | true =>
  refine iteF' rfl ?_
  have nq := nq.growG e2
  -- the cuts
  obtain ⟨ac, xc, rfl, hac, hxc⟩ := h2
  have lc : xc.length = a.cuts.length := by rw [hxc.len, List.length_map]
  refine ⟨_, rfl, tr, _, 2, _, rfl, rfl, seqT (nq.g.trans nq.w) gtr, at52, ac, rfl, ⟨xc, seqT (nq.g.trans nq.w) hac⟩, fun L hL => ?_⟩
  refine lc_bools (walk_tup (xs := xc)) (fun i => (a.cuts[i]?.map fun c => passB (worthsF st.2 t) c).getD true) hL (by have := ao.ncuts; omega) (fun H4 e4 => seqT ((nq.g.trans nq.w).trans e4) hac) (fun _ _ _ _ y => YAt.same y) (fun j z H4 H5 Qc hj e4 yy q => ?_) (fun H4 e4 hL4 => ?_)
  · obtain ⟨rfl, hz⟩ := yy
    obtain ⟨dz, hdz, rdz⟩ := hxc.get' hz
    obtain ⟨c, hc, rfl⟩ := get_map hdz
    have co := ao.cuts c (List.mem_of_getElem? hc)
    refine ⟨rfl, _, rfl, _, rfl, z, wd, c, W.clocks, _, n + n + 1, rfl, rdz.mono ((nq.g.trans nq.w).trans e4), co, hwq.mono (nq.w.trans e4), wk _ co.c, wB, by omega, fun H6 e6 => ?_⟩
    have q := q H6 e6
    rw [hc] at q
    exact q
  have e4' := e2.trans e4
  refine ⟨L, _, rfl, SqL.of hL4, _, rfl, ?_⟩
  rw [lc, range_map, List.all_map]
  show if (!(a.cuts.all (passB (worthsF st.2 t)))) = true then _ else _
  cases hcut : a.cuts.all (passB (worthsF st.2 t)) with
  | false =>
    refine iteT' rfl (stop _ e4' ?_)
    unfold goneS
    rw [if_pos ⟨hsrc, hlim⟩]
    exact if_neg fun z => by rw [hcut] at z; cases z
  | true =>
  refine iteF' rfl ?_
  have nq := nq.growG e4
  clear hL4 hL e4 e2 e4' hxc hac lc
  -- begins = dict(stand.begins)
  obtain ⟨bks, gb1, gb2⟩ := gb
  refine ⟨_, rfl, y, _, _, _, _, rfl, nq.w _ _ (nq.g _ _ gy), T.cl_Stand, T.n_begins, lookBe _ _, bd, bks, rfl, .inl (nq.w _ _ (nq.g _ _ gb1)), fun p hp => ?_⟩
  obtain ⟨ab, xb, rfl, hab, hxb⟩ := h3
  rw [hxb.strs_inv] at hab
  have np := nq.trans (Nx.newM (o := .dK bks) nq.w hp)
  have hfree : H p = none := by
    cases z : H p with
    | none => rfl
    | some o => exact absurd hp (nq.t p (by rw [z]; simp))
  have gp : Gq p = none := nq.w.free hp
  refine ⟨_, rfl, tr, _, 3, _, rfl, rfl, seqT (np.g.trans np.w) gtr, at53, ab, rfl, ⟨_, seqT (np.g.trans np.w) hab⟩, ?_⟩
  refine for_it (walk_tup (xs := a.beg.map V.str)) (fun j σ H2 => ∃ kvs2 z, Nx M0 G H Gq H2 ∧ H2 p = some (.dK kvs2) ∧ KvF K Gq kvs2 (setB st.2 (a.beg.take j) t) ∧ σ = [some (.ref x), some (.ref y), some (.int i), some v, some (.ref tr), some (.ref wd), some (.ref p), z, none, none])
    ⟨bks, none, np, upd_same, by rw [List.take_zero, setB_nil]; exact gb2.mono nq.g, rfl⟩ (fun j σ H2 _ ⟨_, _, n2, _⟩ => seqT (n2.g.trans n2.w) hab) ?_ ?_
  · rintro j z σ H2 H3 hj ⟨kvs2, z0, n2, hp2, hk2, rfl⟩ ⟨rfl, hz⟩
    obtain ⟨c, hc, rfl⟩ := get_map hz
    have hl2 : kvs2.length = st.2.length := by rw [putK_len hk2]; unfold setB; rw [List.length_map]
    refine ⟨_, rfl, _, rfl, _, rfl, p, _, rfl, DPut.k (k := .inr c) hp2 (szl (by omega)), _, _, n2.wrL hfree gp, upd_same, ?_, rfl⟩
    rw [take_succ' hc, setB_snoc]
    exact hk2.put (by rw [setB_keys, so.c]; exact ao.beg _ (List.mem_of_getElem? hc)) (ft.mono n2.g)
  rintro σ H2 ⟨kvs2, z0, n2, hp2, hk2, rfl⟩
  rw [List.length_map, List.take_length] at hk2
  have n3 := n2.still hfree hp2 w0
  have gB : BegA K (upd Gq p (.dK kvs2)) p (setB st.2 a.beg t) := ⟨kvs2, upd_same, hk2.mono (Same.new0 gp)⟩
  have hwq := hwq.mono (Same.new0 (o := .dK kvs2) gp)
  generalize upd Gq p (.dK kvs2) = G3 at n3 gB hwq
  clear n2 hp2 hk2 np hp gp nq
  -- the stand
  refine ⟨_, rfl, tr, _, 4, _, rfl, rfl, seqT (n3.g.trans n3.w) gtr, at54, _, rfl, fun y2 dy2 hy2 hdy2 ne2 => ?_⟩
  have ms := made_same (C := A.Stand) n3.w hy2 hdy2 ne2
  refine ⟨y2, dy2, p, a.dst, _, rfl, ms, n3.w.free hy2, upd_same, fun H4 n4 hy4 => ⟨rfl, ?_⟩⟩
  have n5 := n3.trans (made n3.w hy2 hdy2 ne2 n4 (n3.w.free hy2) hy4)
  have gB5 := gB.mono (Same.new0 (o := .ins A.Stand dy2 (fldsS (.str a.dst) (.ref p))) (n3.w.free hy2))
  have gy5 : upd G3 y2 (.ins A.Stand dy2 (fldsS (.str a.dst) (.ref p))) y2 = some (.ins A.Stand dy2 (fldsS (.str a.dst) (.ref p))) := upd_same
  generalize upd G3 y2 (.ins A.Stand dy2 (fldsS (.str a.dst) (.ref p))) = G5 at n5 gB5 gy5
  have st5 : StdA K A.Stand G5 y2 (a.dst, setB st.2 a.beg t) := ⟨dy2, p, gy5, gB5⟩
  have sB := setB_B (l := a.beg) bt so.b
  have sk : (setB st.2 a.beg t).map (·.1) = W.clocks := by rw [setB_keys]; exact so.c
  refine ⟨_, rfl, _, rfl, tr, _, 4, _, rfl, rfl, seqT (n5.g.trans n5.w) gtr, at54, _, rfl, y2, _, _, rfl, n5.w _ _ gy5, lookWa _ _, _, rfl, y2, v, (a.dst, setB st.2 a.beg t), t, n, G5, rfl, n5.w, st5, ft.mono n5.g, bt, sB, by omega, by rw [sk]; exact ok.cn, ?_, fun G6 H6 wd2 n6 hw6 => ?_⟩
  · show (setB st.2 a.beg t).length ≤ 1000
    rw [← List.length_map (f := (·.1)), sk]
    omega
  have n7 := n5.trans n6
  refine ⟨x, wd2, a.dst, W, _, n + n + 1, rfl, wa.mono (n7.g.trans n7.w), ok, ao.dst, hw6.mono n6.w, fun c hc => by rw [worths_keys, sk]; exact hc, worths_B bt sB, by omega, fun H8 e8 => ⟨_, rfl, ?_⟩⟩
  have n8 := n7.growG e8
  cases hl2 : limB W a.dst (worthsF (setB st.2 a.beg t) t) with
  | true =>
    refine iteT' rfl ⟨_, rfl, k _ _ _ n8 ?_⟩
    unfold goneS
    rw [if_pos ⟨hsrc, hlim⟩, if_pos hcut, if_pos hl2]
    exact ⟨y2, rfl, st5.mono n6.g⟩
  | false =>
    refine iteF' rfl (k _ _ _ n8 ?_)
    unfold goneS
    rw [if_pos ⟨hsrc, hlim⟩, if_pos hcut, if_neg (by rw [hl2]; decide)]
    rfl
/-- what is set to a slot, however it was made -/
theorem split_set {e : TE} {i : Nat} {u : TS} {D : Ends} {σ : L2.St} {H1 : Hp} (R : V → Hp → Prop) (h : ∀ Qt : VK, (∀ v H2, R v H2 → Qt v H2) → e σ H1 Qt) (k : ∀ v H2, R v H2 → u D (σ.set i (some v)) H2) : tSeq (tAsg e (gName i)) u D σ H1 := h _ k
/-! ### stand_behind -/
abbrev Stp := Nat × Fr
def PairsA (K : PySem.W.Frag) (G : Hp) (p : Addr) (ps : List Stp) : Prop := ∃ xs, SqL K G p xs ∧ Paired (fun v s => ∃ a u, v = V.ref a ∧ SqT K G a [.int (s.1 : Nat), u] ∧ FrA K G u s.2) xs ps
theorem PairsA.mono {G G' : Hp} {p : Addr} {ps : List Stp} (h : PairsA K G p ps) (e : Same G G') : PairsA K G' p ps := by
  obtain ⟨xs, h1, h2⟩ := h
  exact ⟨xs, e.seq h1, Paired.imp (fun _ _ ⟨a, u, q1, q2, q3⟩ => ⟨a, u, q1, seqT e q2, q3.mono e⟩) h2⟩
def stepS (W : Wt) (o : Option Std) (s : Stp) : Option Std := o.bind fun st => (W.arrs[s.1]?).bind fun a => goneS W st a s.2
def firstS (W : Wt) : Option Std := if runsB W = true then some (W.pl0, zerosF W) else none
def walkS (W : Wt) (ps : List Stp) : Option Std := ps.foldl (stepS W) (firstS W)
theorem walkS_ok {W : Wt} {k : Nat} (hk : 1 ≤ k) : ∀ (ps : List Stp) (o : Option Std), (∀ s ∈ ps, FrB k s.2) → (∀ st, o = some st → StOk W k st) → ∀ st, ps.foldl (stepS W) o = some st → StOk W k st
  | [], o, _, h, st, e => h st e
  | s :: ps, o, hp, h, st, e => by
    refine walkS_ok hk ps (stepS W o s) (fun z hz => hp z (List.mem_cons_of_mem _ hz)) (fun st' e' => ?_) st e
    unfold stepS at e'
    cases o with
    | none => cases e'
    | some st0 =>
      simp only [Option.bind_some] at e'
      cases ha : W.arrs[s.1]? with
      | none => rw [ha] at e'; cases e'
      | some a =>
        rw [ha] at e'
        exact (h st0 rfl).gone (hp s (List.mem_cons_self ..)) e'
theorem firstS_ok {W : Wt} {k : Nat} (hk : 1 ≤ k) : ∀ st, firstS W = some st → StOk W k st := fun st e => by
  unfold firstS at e
  split at e
  · cases e
    exact ⟨zeros_keys W, fun b hb => zeros_B hk hb⟩
  · cases e
def sp_stand_behind (K : PySem.W.Frag) (CW CS : Addr) : Sp := fun vs H Q _ => ∃ (x p : Addr) (W : Wt) (ps : List Stp) (k : Nat) (G : Hp), vs = [.ref x, .ref p] ∧ Same G H ∧ WatA K CW G x W ∧ WtOk W ∧ PairsA K G p ps ∧ (∀ s ∈ ps, s.1 < W.arrs.length ∧ FrB k s.2) ∧ 1 ≤ k ∧ k ≤ 1900 ∧
  ∀ G' H' v', Nx M0 G H G' H' → OptS K CS G' v' (walkS W ps) → Q v' H'
theorem ok_stand_behind (T : Tx K mg A) : DefOk P w K mg base 6 "stand_behind" P_stand_behind (sp_stand_behind K A.Watcher A.Stand) := by
  refine T.f_stand_behind.ok sc_stand_behind (fun vs H Q E ⟨_, _, _, _, _, _, e, _⟩ => by rw [e]; rfl) (fun f cdv AA outer s H vs Q E hr h => ⟨_, (pss_cons (ps_set (i := 2) sc_stand_behind.nd rfl (Or.inl rfl) (pe_ifExp (pt_val (pe_cd (ok_has_runs T) (lv hr) rfl (pa_cons (pv 0) pa_nil))) (pe_cd (ok_first_stand T) (lv hr) rfl (pa_cons (pv 0) pa_nil)) pe_non)) (pss_cons (ps_for PassesOwn.never rfl (pi_list (pv 1)) (pg_tup rfl (pgs_cons (pg_name (i := 3) sc_stand_behind.nd rfl (Or.inl rfl)) (pgs_cons (pg_name (i := 4) sc_stand_behind.nd rfl (Or.inl rfl)) pgs_nil))) (pss_one (ps_set (i := 2) sc_stand_behind.nd rfl (Or.inl rfl) (pe_ifExp (pt_cmpR op_notN (pv 2) pe_non (nomark _)) (pe_cd (ok_gone T) (lv hr) rfl (pa_cons (pv 0) (pa_cons (pv 2) (pa_cons (pv 3) (pa_cons (pv 4) pa_nil))))) pe_non)))) (pss_one (ps_ret (pv 2))))), ?_⟩)
  obtain ⟨x, p, W, ps, n, G, rfl, w0, wa, ok, hp, hps, hn1, hn, k⟩ := h
  obtain ⟨xs, gp, hxs⟩ := hp
  have hlen : xs.length = ps.length := Paired.len hxs
  refine split_set (fun v H1 => ∃ G1, Nx M0 G H G1 H1 ∧ OptS K A.Stand G1 v (firstS W)) (fun Qt hq => ?_) (fun v0 H1 ⟨G1, n1, o1⟩ => ?_)
  · refine ⟨_, rfl, x, W, rfl, wa.mono w0, ok, fun H1 e1 => ⟨_, rfl, ?_⟩⟩
    have n1 : Nx M0 G H G H1 := Nx.grow w0 e1
    cases hr : runsB W with
    | true =>
      refine iteT' rfl ⟨_, rfl, x, W, G, rfl, n1.w, wa, ok, fun G2 H2 y n2 hy => hq _ _ ⟨G2, n1.trans n2, ?_⟩⟩
      unfold firstS
      rw [if_pos hr]
      exact ⟨y, rfl, hy⟩
    | false =>
      refine iteF' rfl (hq _ _ ⟨G, n1, ?_⟩)
      unfold firstS
      rw [if_neg (by rw [hr]; decide)]
      rfl
  refine ⟨_, rfl, p, rfl, ⟨_, (n1.g.trans n1.w).seq gp⟩, ?_⟩
  refine for_it (walk_list (xs := xs)) (fun i σ H2 => ∃ G2 o z u, Nx M0 G H G2 H2 ∧ OptS K A.Stand G2 o ((ps.take i).foldl (stepS W) (firstS W)) ∧ σ = [some (.ref x), some (.ref p), some o, z, u]) ⟨G1, v0, none, none, n1, o1, rfl⟩ (fun i σ H2 _ ⟨_, _, _, _, n2, _⟩ => (n2.g.trans n2.w).seq gp) ?_ ?_
  · rintro i z σ H2 H3 hi ⟨G2, o, z0, u0, n2, ho, rfl⟩ ⟨rfl, hz⟩
    obtain ⟨⟨j, t⟩, hs, aa, u, rfl, h1, h2⟩ := Paired.get hxs hz
    simp only at h1 h2
    obtain ⟨hj, bt⟩ := hps _ (List.mem_of_getElem? hs)
    simp only at hj bt
    have est : (ps.take (i + 1)).foldl (stepS W) (firstS W) = stepS W ((ps.take i).foldl (stepS W) (firstS W)) (j, t) := by rw [take_succ' hs, List.foldl_append]; rfl
    refine ⟨aa, _, rfl, seqT (n2.g.trans n2.w) h1, rfl, _, _, rfl, _, _, rfl, rfl, ?_⟩
    cases hc : (ps.take i).foldl (stepS W) (firstS W) with
    | none =>
      rw [hc] at ho est
      cases ho
      exact ⟨_, rfl, rfl, _, rfl, iteF' rfl ⟨G2, .non, _, _, n2, by rw [est]; rfl, rfl⟩⟩
    | some st =>
      rw [hc] at ho est
      obtain ⟨y, rfl, hy⟩ := ho
      obtain ⟨a, ha⟩ : ∃ a, W.arrs[j]? = some a := ⟨_, List.getElem?_eq_getElem hj⟩
      have so : StOk W n st := walkS_ok hn1 (ps.take i) (firstS W) (fun s hs => (hps s (List.mem_of_mem_take hs)).2) (firstS_ok hn1) st hc
      refine ⟨_, rfl, rfl, _, rfl, iteT' rfl ⟨_, rfl, _, rfl, _, rfl, _, rfl, x, y, j, u, W, st, a, t, n, G2, rfl, n2.w, wa.mono n2.g, ok, hy, so, ha, h2.mono n2.g, bt, hn, fun G4 H4 v' n4 ho4 => ⟨G4, v', _, _, n2.trans n4, ?_, rfl⟩⟩⟩
      rw [est]
      show OptS K A.Stand G4 v' ((W.arrs[j]?).bind fun a => goneS W st a t)
      rw [ha]
      exact ho4
  rintro σ H2 ⟨G2, o, z, u, n2, ho, rfl⟩
  rw [hlen, List.take_length] at ho
  exact ⟨_, rfl, k _ _ _ n2 ho⟩
end K25

/-! ## K15 -/
set_option Elab.async false
set_option linter.all false
set_option maxRecDepth 100000
set_option maxHeartbeats 8000000
/-! K15: is_step, is_rising, as_steps, is_run. -/
set_option exponentiation.threshold 100000
namespace K25
open PySem L2
open PySem.Spec PyProof.Rows
/-- (a, b, ..) = a list or a tuple -/
def gSq (K : PySem.W.Frag) (n : Nat) (t : TGs) : TG := fun v σ H Q => ∃ a xs, v = .ref a ∧ (SqL K H a xs ∨ SqT K H a xs) ∧ xs.length = n ∧ t xs σ H Q
section
variable {X : Cx} {pos : Pos}
theorem pg_sq {es : List Expr} {k : Nat} {t : TGs} {n : Nat} (hc : X.calm = true) (h : PGs X es t)
    (hn : (assignEach es X.env).length = n := by rfl) (hst : (assignEach es X.env).findIdx? (·.1) = none := by rfl) : PG X (.Tuple es k pos) (gSq X.K n t) := by
  refine ⟨fun pins s σ H v u Q I r hw => ?_⟩
  obtain ⟨a, xs, e1, hq | hq, hl, hw⟩ := hw
  · exact (pg_lst hc h hn hst).run pins s σ H v u Q I r ⟨a, xs, e1, hq, hl, hw⟩
  · exact (pg_tup hc h hn hst).run pins s σ H v u Q I r ⟨a, xs, e1, hq, hl, hw⟩
variable {s : Shared} {H : Hp} {scope : Scope} {cenv : Env} {fp : List Addr}
theorem pg_sqB {es : List Expr} {k : Nat} {t : TGs} {n : Nat} (hc : (X.blk s H scope cenv fp).calm = true) (h : PGs (X.blk s H scope cenv fp) es t)
    (hn : (assignEach es (X.blk s H scope cenv fp).env).length = n := by rfl) (hst : (assignEach es (X.blk s H scope cenv fp).env).findIdx? (·.1) = none := by rfl) : PG (X.blk s H scope cenv fp) (.Tuple es k pos) (gSq X.K n t) := pg_sq hc h hn hst
end
variable {P : Program} {w : World} {K : PySem.W.Frag} {mg : Str → Option Value} {base : Heap} {A : Ad}
/-! ### steps of a thing -/
def stpI (n : Nat) : List D → Option Stp
  | [.int i, t] => match t.frac with
    | some f => if 0 ≤ f.1 ∧ 0 ≤ i ∧ i < n then some (i.toNat, f) else none
    | none => none
  | _ => none
def D.stp (n : Nat) (d : D) : Option Stp := if d.isL then stpI n d.items else none
theorem stpI_len {n : Nat} {l : List D} (h : l.length ≠ 2) : stpI n l = none := by
  unfold stpI
  split
  · exact (h rfl).elim
  · rfl
def sp_is_step (K : PySem.W.Frag) (CW : Addr) : Sp := fun vs H Q _ => ∃ (x : Addr) (v : V) (d : D) (W : Wt), vs = [.ref x, v] ∧ WatA K CW H x W ∧ Rp K H d v ∧ ∀ H', Same H H' → Q (.bl (d.stp W.arrs.length).isSome) H'
theorem ok_is_step (T : Tx K mg A) : DefOk P w K mg base 5 "is_step" P_is_step (sp_is_step K A.Watcher) := by
  refine T.f_is_step.ok sc_is_step (fun vs H Q E ⟨_, _, _, _, e, _⟩ => by rw [e]; rfl) (fun f cdv AA outer s H vs Q E hr h => ⟨_, (pss_cons (ps_if (PW.pt (pw_or (pt_not (pt_val (pe_cd (ok_is_pair T) (lv hr) rfl (pa_cons (pv 1) pa_nil)))) (pw_or (pt_not (pt_val (pe_cd (ok_is_integer T) (lv hr) rfl (pa_cons (pe_ix ix_sq (pv 1) pe_int (fun _ _ => rfl)) pa_nil)))) (pw_or1 (pt_not (pt_val (pe_cd (ok_is_time T) (lv hr) rfl (pa_cons (pe_ix ix_sq (pv 1) pe_int (fun _ _ => rfl)) pa_nil)))))))) (pss_one (ps_ret pe_bl)) pss_nil) (pss_one (ps_ret (pe_chain op_le op_lt pe_int (pe_ix ix_sq (pv 1) pe_int (fun _ _ => rfl)) (pe_callB call_len_seq rfl T.z_len PySem.boot_len (pa_cons (pe_fld (pv 0) rfl) pa_nil)))))), ?_⟩)
  obtain ⟨x, v, d, W, rfl, wa, hd, k⟩ := h
  refine ⟨_, rfl, v, d, rfl, hd, fun H1 e1 => ⟨_, rfl, ?_⟩⟩
  unfold D.stp at k
  unfold D.isPair
  cases hl : d.isL with
  | false => rw [hl] at k; exact iteT' rfl (k _ e1)
  | true =>
    rw [hl, if_pos rfl] at k
    obtain ⟨a, xs, rfl, hs, hx⟩ := hd.seq hl
    have stop : ∀ H', Same H H' → stpI W.arrs.length d.items = none → Q (.bl false) H' := fun H' e z => by
      have q := k H' e
      rw [z] at q
      exact q
    match hi : d.items with
    | [] => exact iteT' rfl (stop _ e1 (by rw [hi]; rfl))
    | [_] => exact iteT' rfl (stop _ e1 (by rw [hi, stpI_len (by simp)]))
    | _ :: _ :: _ :: _ => exact iteT' (by simp) (stop _ e1 (by rw [hi, stpI_len (by simp)]))
    | [d0, d1] =>
      have hs1 : SqL K H1 a xs ∨ SqT K H1 a xs := hs.imp (fun z => e1.seq z) (fun z => seqT e1 z)
      rw [hi] at hx
      obtain ⟨x0, r0, rfl, h0, x1, r1, rfl, h1, rfl⟩ := hx
      refine iteF' rfl ?_
      refine ⟨_, rfl, a, _, 0, _, rfl, rfl, hs1, at0, _, d0, rfl, h0.mono e1, _, rfl, ?_⟩
      cases d0 with
      | int i =>
        refine iteF' rfl ?_
        refine ⟨_, rfl, a, _, 1, _, rfl, rfl, hs1, at1, _, d1, rfl, h1.mono e1, fun H2 e2 => ⟨_, rfl, ?_⟩⟩
        have e2 := e1.trans e2
        unfold D.isTime
        cases hf : d1.frac with
        | none => exact iteT' rfl (stop _ e2 (by rw [hi]; show (match d1.frac with | some f => _ | none => none) = none; rw [hf]))
        | some fr =>
          by_cases ht : 0 ≤ fr.1
          · have hs2 : SqL K H2 a [x0, x1] ∨ SqT K H2 a [x0, x1] := hs.imp (fun z => e2.seq z) (fun z => seqT e2 z)
            cases h0
            refine iteF' (by show (!decide (0 ≤ fr.1)) = false; rw [decide_eq_true ht]; rfl) ?_
            obtain ⟨dx, fs, hx, hh, eh, th, lh, rfl, g1, g2, ⟨th', xt, e0, g3, g3'⟩, g4⟩ := wa
            cases e0
            have el : xt.length = W.arrs.length := by rw [g3'.len, List.length_map]
            have q := k _ e2
            have est : stpI W.arrs.length [.int i, d1] = if 0 ≤ fr.1 ∧ 0 ≤ i ∧ i < W.arrs.length then some (i.toNat, fr) else none := by
              show (match d1.frac with | some f => if 0 ≤ f.1 ∧ 0 ≤ i ∧ i < W.arrs.length then some (i.toNat, f) else none | none => none) = _
              rw [hf]
            rw [hi, est] at q
            refine ⟨_, rfl, a, _, 0, _, rfl, rfl, hs2, at0, _, _, rfl, rfl, _, rfl, ?_⟩
            by_cases h0i : 0 ≤ i
            · refine iteT' (decide_eq_true h0i) ?_
              refine ⟨_, rfl, x, _, _, _, _, rfl, e2 _ _ hx, T.cl_Watcher, T.n_tracks, lookT _ _ _ _, _, xt, rfl, .inr (seqT e2 g3), _, _, rfl, rfl, ?_⟩
              rw [el]
              by_cases hlt : i < W.arrs.length
              · rw [if_pos ⟨ht, h0i, hlt⟩] at q
                show Q (.bl (decide (i < (W.arrs.length : Int)))) H2
                rw [decide_eq_true hlt]
                exact q
              · rw [if_neg (fun z => hlt z.2.2)] at q
                show Q (.bl (decide (i < (W.arrs.length : Int)))) H2
                rw [decide_eq_false hlt]
                exact q
            · refine iteF' (decide_eq_false h0i) ?_
              rw [if_neg (fun z => h0i z.2.1)] at q
              exact q
          · refine iteT' (by show (!decide (0 ≤ fr.1)) = true; rw [decide_eq_false ht]; rfl) (stop _ e2 ?_)
            rw [hi]
            show (match d1.frac with | some f => if 0 ≤ f.1 ∧ 0 ≤ i ∧ i < W.arrs.length then some (i.toNat, f) else none | none => none) = none
            rw [hf]
            exact if_neg fun z => ht z.1
      | _ => exact iteT' rfl (stop _ e1 (by rw [hi]; rfl))
/-! ### is_rising -/
def risingB (fs : List Fr) : Bool := !((fs.zip (fs.drop 1)).any fun p => ltF p.2 p.1)
theorem range_mapF {α : Type} (l : List α) (f : α → Bool) : (List.range l.length).map (fun i => (l[i]?.map f).getD false) = l.map f := by
  apply List.ext_getElem
  · simp
  · intro i h1 h2
    simp at h1 h2 ⊢
    simp [h1]
theorem cut_drop1 (xs : List V) : cutV xs (some (1 : Int)) none = xs.drop 1 := by
  show cutV xs (some ((1 : Nat) : Int)) none = _
  unfold cutV
  rw [HT.sIx_none, HT.sIx_nat]
  cases xs with
  | nil => rfl
  | cons x r =>
    have e : min 1 (x :: r).length = 1 := Nat.min_eq_left (by simp)
    rw [e]
    exact List.take_of_length_le (by simp)
def sp_is_rising (K : PySem.W.Frag) : Sp := fun vs H Q _ => ∃ (a : Addr) (xs : List V) (fs : List Fr) (k : Nat), vs = [.ref a] ∧ SqL K H a xs ∧ Paired (FrA K H) xs fs ∧ (∀ f ∈ fs, FrB k f) ∧ k ≤ 3900 ∧ fs.length ≤ 1000 ∧ ∀ H', Same H H' → Q (.bl (risingB fs)) H'
theorem ok_is_rising (T : Tx K mg A) : DefOk P w K mg base 2 "is_rising" P_is_rising (sp_is_rising K) := by
  refine T.f_is_rising.ok sc_is_rising (fun vs H Q E ⟨_, _, _, _, e, _⟩ => by rw [e]; rfl) (fun f cdv AA outer s H vs Q E hr h => ⟨_, (pss_one (ps_ret (pe_not (pe_callB (cr_any rfl) rfl T.z_any (by decide +kernel) (pa_cons (pe_lc (own := [("earlier_one", 1), ("later_one", 2)]) rfl sc_is_rising.nd (pi_zip rfl T.z_zip (pa_cons (pv 0) (pa_cons (pe_slice sl_list (pv 0) (po_some pe_int) po_none) pa_nil))) (blkOk_by (own := [("earlier_one", 1), ("later_one", 2)]) (N := N_is_rising) (sc := defScope s_is_rising) (by decide +kernel)) (fun _ _ _ _ _ => (pg_tupB (n := 2) rfl (pgs_cons (pg_name (i := 1) sc_is_rising.nd rfl (Or.inl rfl)) (pgs_cons (pg_name (i := 2) sc_is_rising.nd rfl (Or.inl rfl)) pgs_nil)))) (fun _ _ _ _ _ => pts_nil) (fun _ _ _ _ _ => (pe_cd (ok_is_less T) (lv hr) rfl (pa_cons (pv 2) (pa_cons (pv 1) pa_nil))))) pa_nil))))), ?_⟩)
  obtain ⟨a, xs, fs, n, rfl, hs, hx, hB, hn, hl, k⟩ := h
  have len : xs.length = fs.length := Paired.len hx
  refine ⟨_, rfl, _, rfl, _, rfl, a, _, rfl, hs, fun q hq => ?_⟩
  have e1 : Same H (upd H q (.lst (cutV xs (some (1 : Int)) none))) := Same.new0 hq
  have hq1 : SqL K (upd H q (.lst (cutV xs (some (1 : Int)) none))) q (xs.drop 1) := by
    rw [cut_drop1]
    exact SqL.of upd_same
  generalize upd H q (.lst (cutV xs (some (1 : Int)) none)) = H1 at e1 hq1
  have lz : (fs.zip (fs.drop 1)).length = min xs.length (xs.drop 1).length := by rw [List.length_zip, List.length_drop, List.length_drop, len]
  refine ⟨a, q, xs, xs.drop 1, rfl, e1.seq hs, hq1, fun D hD => ?_⟩
  refine lc_bools (walk_zip (K := K) (a := a) (b := q) (xs := xs) (ys := xs.drop 1) lz) (fun i => ((fs.zip (fs.drop 1))[i]?.map fun p => ltF p.2 p.1).getD false) hD (by rw [lz]; rw [List.length_drop]; omega) (fun H4 e4 => ⟨(e1.trans e4).seq hs, e4.seq hq1⟩) (fun _ _ _ _ y => YPair.same y) (fun j y H4 H5 Qc hj e4 yy q => ?_) (fun H4 e4 hL4 => ?_)
  · obtain ⟨T1, x1, x2, rfl, hT, rfl, g1, g2⟩ := yy
    obtain ⟨f1, hf1, r1⟩ := Paired.get hx g1
    have g2 : (xs.drop 1)[j]? = some x2 := g2
    rw [List.getElem?_drop] at g2
    obtain ⟨f2, hf2, r2⟩ := Paired.get hx g2
    have e5 := (e1.trans e4).new (o := .tup [x1, x2]) hT
    refine ⟨T1, _, rfl, SqT.of upd_same, rfl, _, _, rfl, _, _, rfl, rfl, rfl, _, rfl, _, rfl, x2, x1, f2, f1, n, rfl, r2.mono e5, r1.mono e5, hB _ (List.mem_of_getElem? hf2), hB _ (List.mem_of_getElem? hf1), hn, ?_⟩
    have q := q _ (Same.refl _)
    have ez : (fs.zip (fs.drop 1))[j]? = some (f1, f2) := by
      rw [List.getElem?_zip_eq_some]
      exact ⟨hf1, by rw [List.getElem?_drop]; exact hf2⟩
    rw [ez] at q
    exact q
  · refine ⟨D, _, rfl, SqL.of hL4, _, rfl, ?_⟩
    rw [range_mapF, List.any_map]
    exact k _ (e1.trans e4)
/-! ### walks of lists and tuples alike -/
def iSeq2 (K : PySem.W.Frag) (tl : TE) : TI := fun σ H R => tl σ H fun x H1 => ∃ a xs, x = .ref a ∧ (SqL K H1 a xs ∨ SqT K H1 a xs) ∧ ∀ J, Walk J xs.length (fun H' => Same H1 H') (YAt xs) → R J H1
theorem pi_seq2 {X : Cx} {tg l : Expr} {tl : TE} (hl : PE X l tl) : PI X tg l (iSeq2 X.K tl) := by
  refine ⟨fun pins s σ H R I h => ?_⟩
  refine thn (hl.run pins s σ H _ I h) fun v s1 ⟨x, H1, I1, r1, q1⟩ => ?_
  obtain ⟨a, xs, e, hq, q⟩ := q1
  subst e
  cases r1
  rcases hq with hq | hq
  · have q := q (Itl X.K a) (walk_list.mono (fun H' e => e.seq hq) fun _ _ _ _ _ _ y => y)
    obtain ⟨its, rv, p, hz⟩ := I1.list hq
    refine wpAny_pyIter_list p.isList ?_
    refine ⟨s1.heap.objs.size, [s1.heap.objs.size], _, _, H1, rfl, I1.kept (t' := s1.toks) fun b o e => Heap.get?_push_of_some _ e, turn_list a _, ⟨_, Heap.get?_push_size _ rfl, rfl, rfl⟩, fun b hb => ?_, q⟩
    have e : b = s1.heap.objs.size := by simpa using hb
    subst e
    exact I1.fpOk (Nat.le_refl _) (I1.hok.fresh (Nat.le_refl _))
  · have q := q (Itt X.K a) (walk_tup.mono (fun H' e => seqT e hq) fun _ _ _ _ _ _ y => y)
    obtain ⟨its, rv, p, hz⟩ := I1.tuple hq
    refine wpAny_pyIter_tuple (show s1.heap.IsTuple a its.toArray from p) ?_
    refine ⟨s1.heap.objs.size, [s1.heap.objs.size], _, _, H1, rfl, I1.kept (t' := s1.toks) fun b o e => Heap.get?_push_of_some _ e, turn_tuple a _, ⟨_, Heap.get?_push_size _ rfl, rfl, rfl⟩, fun b hb => ?_, q⟩
    have e : b = s1.heap.objs.size := by simpa using hb
    subst e
    exact I1.fpOk (Nat.le_refl _) (I1.hok.fresh (Nat.le_refl _))
/-! ### as_steps -/
def stpsO (n : Nat) : List D → Option (List Stp)
  | [] => some []
  | d :: ds => match d.stp n, stpsO n ds with
    | some s, some r => some (s :: r)
    | _, _ => none
def lowS (s : Stp) : Stp := (s.1, lowF s.2.1 s.2.2)
theorem stp_inv {n : Nat} {d : D} {s : Stp} (h : d.stp n = some s) : ∃ i t f, d.isL = true ∧ d.items = [.int i, t] ∧ t.frac = some f ∧ 0 ≤ f.1 ∧ 0 ≤ i ∧ i < n ∧ s = (i.toNat, f) := by
  unfold D.stp at h
  cases hl : d.isL with
  | false => rw [hl] at h; cases h
  | true =>
    rw [hl, if_pos rfl] at h
    unfold stpI at h
    split at h
    · rename_i i t hi
      split at h
      · rename_i f hf
        split at h
        · rename_i hc
          cases h
          exact ⟨i, t, f, rfl, hi, hf, hc.1, hc.2.1, hc.2.2, rfl⟩
        · cases h
      · cases h
    · cases h
theorem stpsO_get {n : Nat} : ∀ {ds : List D} {ss : List Stp}, stpsO n ds = some ss → ss.length = ds.length ∧ ∀ (i : Nat) (d : D), ds[i]? = some d → ∃ s, ss[i]? = some s ∧ d.stp n = some s
  | [], ss, h => by cases h; exact ⟨rfl, fun i d hd => by simp at hd⟩
  | d :: ds, ss, h => by
    unfold stpsO at h
    split at h
    · rename_i s r h1 h2
      cases h
      obtain ⟨l, g⟩ := stpsO_get h2
      refine ⟨by simp [l], fun i d' hd => ?_⟩
      cases i with
      | zero => cases hd; exact ⟨s, rfl, h1⟩
      | succ i => exact g i d' (by simpa using hd)
    · cases h
theorem stpsO_all {n : Nat} : ∀ (ds : List D), (stpsO n ds).isSome = ds.all fun d => (d.stp n).isSome
  | [] => rfl
  | d :: ds => by
    rw [List.all_cons, ← stpsO_all ds]
    show (match d.stp n, stpsO n ds with | some s, some r => some (s :: r) | _, _ => none).isSome = _
    cases d.stp n with
    | none => rfl
    | some s =>
      cases stpsO n ds with
      | none => rfl
      | some r => rfl
def StpV (K : PySem.W.Frag) (G : Hp) : V → Stp → Prop := fun v s => ∃ a u, v = V.ref a ∧ SqT K G a [.int (s.1 : Nat), u] ∧ FrA K G u s.2
theorem StpV.mono {G G' : Hp} {v : V} {s : Stp} (h : StpV K G v s) (e : Same G G') : StpV K G' v s := by
  obtain ⟨a, u, h1, h2, h3⟩ := h
  exact ⟨a, u, h1, seqT e h2, h3.mono e⟩
def sp_as_steps (K : PySem.W.Frag) : Sp := fun vs H Q _ => ∃ (v : V) (d : D) (n : Nat) (ss : List Stp) (k : Nat) (G : Hp), vs = [v] ∧ Same G H ∧ Rp K G d v ∧ d.isL = true ∧ stpsO n d.items = some ss ∧ (∀ s ∈ ss, FrB k s.2) ∧ k ≤ 3900 ∧ d.items.length ≤ 1000 ∧
  ∀ G' H' p, Nx M0 G H G' H' → PairsA K G' p (ss.map lowS) → Q (.ref p) H'
theorem ok_as_steps (T : Tx K mg A) : DefOk P w K mg base 4 "as_steps" P_as_steps (sp_as_steps K) := by
  refine T.f_as_steps.ok sc_as_steps (fun vs H Q E ⟨_, _, _, _, _, _, e, _⟩ => by rw [e]; rfl) (fun f cdv AA outer s H vs Q E hr h => ⟨_, (pss_one (ps_ret (pe_lc (own := [("number", 1), ("time", 2)]) rfl sc_as_steps.nd (pi_seq2 (pv 0)) (blkOk_by (own := [("number", 1), ("time", 2)]) (N := N_as_steps) (sc := defScope s_as_steps) (by decide +kernel)) (fun _ _ _ _ _ => (pg_sqB (n := 2) rfl (pgs_cons (pg_name (i := 1) sc_as_steps.nd rfl (Or.inl rfl)) (pgs_cons (pg_name (i := 2) sc_as_steps.nd rfl (Or.inl rfl)) pgs_nil)))) (fun _ _ _ _ _ => pts_nil) (fun _ _ _ _ _ => (pe_tup (pa_cons (pv 1) (pa_cons (pe_cd (ok_frac_of T) (lv hr) rfl (pa_cons (pv 2) pa_nil)) pa_nil))))))), ?_⟩)
  obtain ⟨v, d, n, ss, m, G, rfl, w0, hd, hl, hss, hB, hm, hlen, k⟩ := h
  obtain ⟨sl, sg⟩ := stpsO_get hss
  obtain ⟨a, xs, rfl, hs, hx⟩ := hd.seq hl
  have hs' : SqL K H a xs ∨ SqT K H a xs := hs.imp (fun z => w0.seq z) (fun z => seqT w0 z)
  refine ⟨_, rfl, a, xs, rfl, hs', fun J wJ L hL => ?_⟩
  refine lc_map (G := G) wJ M0 (fun i acc G' H' => Paired (StpV K G') acc ((ss.take i).map lowS)) w0 hL (by have := hx.len; omega) (fun z => z) .nil (fun i acc G' H' n1 _ => n1.same) ?_ ?_
  · rintro i acc G' H2 z H3 Qc hi la n2 hD gD hI ⟨rfl, hz⟩ q
    obtain ⟨di, hdi, rdi⟩ := hx.get' hz
    obtain ⟨s, hsi, hst⟩ := sg i di hdi
    obtain ⟨j, t, f, hl1, hi1, hf, h0, hj0, hjn, rfl⟩ := stp_inv hst
    obtain ⟨ai, xi, rfl, hsq, hxi⟩ := (rdi.mono n2.g).seq hl1
    rw [hi1] at hxi
    obtain ⟨x0, r0, rfl, h0, x1, r1, rfl, h1, rfl⟩ := hxi
    cases h0
    have hsq' : SqL K H3 ai [.int j, x1] ∨ SqT K H3 ai [.int j, x1] := hsq.imp (fun z => n2.w.seq z) (fun z => seqT n2.w z)
    refine ⟨ai, _, rfl, hsq', rfl, _, _, rfl, _, _, rfl, rfl, rfl, _, rfl, _, rfl, x1, t, f, m, rfl, h1.mono n2.w, hf, hB _ (List.mem_of_getElem? hsi), hm, fun p hp => ⟨s2, fun u hu => ?_⟩⟩
    have n3 := (Nx.new (M := M0) (o := tupF (lowF f.1 f.2)) n2.w hp)
    have n4 := n3.trans (Nx.new (o := .tup [.int j, .ref p]) n3.w hu)
    refine q _ _ _ n4 ?_
    rw [map_take_snoc hsi]
    refine Paired.snoc (Paired.imp (fun _ _ h => StpV.mono h n4.g) hI) ⟨u, .ref p, rfl, ?_, ?_⟩
    · have ej : ((lowS (j.toNat, f)).1 : Int) = j := Int.toNat_of_nonneg hj0
      rw [ej]
      exact SqT.of upd_same
    · exact (FrA.of (f := lowF f.1 f.2) upd_same).mono (Same.new0 (n3.w.free hu))
  · intro acc G' H2 n2 la e2 hD hI
    refine k _ _ L n2 ⟨acc, SqL.of upd_same, Paired.imp (fun _ _ h => StpV.mono h e2) ?_⟩
    have q : ss.take xs.length = ss := List.take_of_length_le (by have := hx.len; omega)
    rw [q] at hI
    exact hI
/-! ### is_run -/
def runOf (W : Wt) (d : D) : Option (List Stp) := match (if d.isL then stpsO W.arrs.length d.items else none) with
  | some ss => if risingB ((ss.map lowS).map (·.2)) = true ∧ (walkS W (ss.map lowS)).isSome = true then some (ss.map lowS) else none
  | none => none
theorem low_B {k : Nat} {ss : List Stp} (h : ∀ s ∈ ss, FrB k s.2) : ∀ s ∈ ss.map lowS, FrB k s.2 := fun s hs => by
  obtain ⟨z, hz, rfl⟩ := List.mem_map.mp hs
  exact lowF_B (h z hz)
theorem steps_lt {n : Nat} {ds : List D} {ss : List Stp} (h : stpsO n ds = some ss) : ∀ s ∈ ss.map lowS, s.1 < n := fun s hs => by
  obtain ⟨z, hz, rfl⟩ := List.mem_map.mp hs
  obtain ⟨i, hi, rfl⟩ := List.getElem_of_mem hz
  obtain ⟨sl, sg⟩ := stpsO_get h
  obtain ⟨s', h1, h2⟩ := sg i ds[i] (List.getElem?_eq_getElem (by omega))
  rw [List.getElem?_eq_getElem hi] at h1
  cases h1
  obtain ⟨j, t, f, _, _, _, _, hj0, hjn, e⟩ := stp_inv h2
  rw [e]
  show j.toNat < n
  omega
def sp_is_run (K : PySem.W.Frag) (CW : Addr) : Sp := fun vs H Q _ => ∃ (x : Addr) (v : V) (d : D) (W : Wt) (k : Nat), vs = [.ref x, v] ∧ WatA K CW H x W ∧ WtOk W ∧ Rp K H d v ∧ d.items.length ≤ 1000 ∧ (∀ ss, stpsO W.arrs.length d.items = some ss → ∀ s ∈ ss, FrB k s.2) ∧ 1 ≤ k ∧ k ≤ 1900 ∧
  ∀ H', Same H H' → Q (.bl (runOf W d).isSome) H'
theorem ok_is_run (T : Tx K mg A) : DefOk P w K mg base 7 "is_run" P_is_run (sp_is_run K A.Watcher) := by
  refine T.f_is_run.ok sc_is_run (fun vs H Q E ⟨_, _, _, _, _, e, _⟩ => by rw [e]; rfl) (fun f cdv AA outer s H vs Q E hr h => ⟨_, (pss_cons (ps_if (PW.pt (pw_or (pt_not (pt_val (pe_cd (ok_is_list T) (lv hr) rfl (pa_cons (pv 1) pa_nil)))) (pw_or1 (pt_not (pt_val (pe_callB (cr_all rfl) rfl T.z_all (by decide +kernel) (pa_cons (pe_lc (own := [("each", 3)]) rfl sc_is_run.nd (pi_seq2 (pv 1)) (blkOk_by (own := [("each", 3)]) (N := N_is_run) (sc := defScope s_is_run) (by decide +kernel)) (fun _ _ _ _ _ => (pg_name (i := 3) sc_is_run.nd rfl (Or.inl rfl))) (fun _ _ _ _ _ => pts_nil) (fun _ _ _ _ _ => (pe_cd (ok_is_step T) (lv hr) rfl (pa_cons (pv 0) (pa_cons (pv 3) pa_nil))))) pa_nil))))))) (pss_one (ps_ret pe_bl)) pss_nil) (pss_cons (ps_set (i := 2) sc_is_run.nd rfl (Or.inl rfl) (pe_cd (ok_as_steps T) (lv hr) rfl (pa_cons (pv 1) pa_nil))) (pss_one (ps_ret (pe_and (pe_cd (ok_is_rising T) (lv hr) rfl (pa_cons (pe_lc (own := [("each", 3)]) rfl sc_is_run.nd (pi_list (pv 2)) (blkOk_by (own := [("each", 3)]) (N := N_is_run) (sc := defScope s_is_run) (by decide +kernel)) (fun _ _ _ _ _ => (pg_name (i := 3) sc_is_run.nd rfl (Or.inl rfl))) (fun _ _ _ _ _ => pts_nil) (fun _ _ _ _ _ => (pe_ix ix_tupB (pv 3) pe_int (fun _ _ => rfl)))) pa_nil)) (pe_one (pe_cmpR op_notN (pe_cd (ok_stand_behind T) (lv hr) rfl (pa_cons (pv 0) (pa_cons (pv 2) pa_nil))) pe_non (nomark _)))))))), ?_⟩)
  obtain ⟨x, v, d, W, m, rfl, wa, ok, hd, hlen, hB, hm1, hm, k⟩ := h
  refine ⟨_, rfl, v, d, rfl, hd, fun H1 e1 => ⟨_, rfl, ?_⟩⟩
  have stop : ∀ H', Same H H' → runOf W d = none → Q (.bl false) H' := fun H' e z => by
    have q := k H' e
    rw [z] at q
    exact q
  cases hl : d.isL with
  | false => exact iteT' rfl (stop _ e1 (by unfold runOf; rw [hl]; rfl))
  | true =>
  refine iteF' rfl ?_
  obtain ⟨a, xs, rfl, hs, hx⟩ := hd.seq hl
  have lx : xs.length = d.items.length := hx.len
  refine ⟨_, rfl, a, xs, rfl, hs.imp (fun z => e1.seq z) (fun z => seqT e1 z), fun J wJ L hL => ?_⟩
  refine lc_bools wJ (fun i => (d.items[i]?.map fun e => (e.stp W.arrs.length).isSome).getD true) hL (by omega) (fun H4 e4 => e4) (fun _ _ _ _ y => YAt.same y) (fun j z H4 H5 Qc hj e4 yy q => ?_) (fun H4 e4 hL4 => ?_)
  · obtain ⟨rfl, hz⟩ := yy
    obtain ⟨dz, hdz, rdz⟩ := hx.get' hz
    refine ⟨rfl, _, rfl, _, rfl, x, z, dz, W, rfl, wa.mono (e1.trans e4), rdz.mono (e1.trans e4), fun H6 e6 => ?_⟩
    have q := q H6 e6
    rw [hdz] at q
    exact q
  refine ⟨L, _, rfl, SqL.of hL4, _, rfl, ?_⟩
  rw [lx, range_map, List.all_map]
  have e4 := e1.trans e4
  cases hss : stpsO W.arrs.length d.items with
  | none =>
    have q := stpsO_all (n := W.arrs.length) d.items
    rw [hss] at q
    refine iteT' (by show (!(d.items.all fun e => (e.stp W.arrs.length).isSome)) = true; rw [← q]; rfl) (stop _ e4 ?_)
    unfold runOf
    rw [hl, if_pos rfl, hss]
  | some ss =>
  have hB := hB ss hss
  have q := stpsO_all (n := W.arrs.length) d.items
  rw [hss] at q
  refine iteF' (by show (!(d.items.all fun e => (e.stp W.arrs.length).isSome)) = false; rw [← q]; rfl) ?_
  have hlB := low_B hB
  have hlt := steps_lt hss
  have sl := (stpsO_get hss).1
  refine ⟨_, rfl, _, d, _, ss, m, H4, rfl, Same.refl _, hd.mono e4, hl, hss, hB, by omega, hlen, fun G5 H5 p n5 hp => ?_⟩
  have e5 := e4.trans n5.same
  obtain ⟨ys, gys, hys⟩ := hp
  have ly : ys.length = ss.length := by rw [Paired.len hys, List.length_map]
  refine ⟨_, rfl, p, rfl, ⟨_, n5.w.seq gys⟩, fun L2 hL2 => ?_⟩
  refine lc_map (G := G5) (walk_list (xs := ys)) M0 (fun i acc G' H' => Paired (FrA K G') acc (((ss.map lowS).take i).map (·.2))) n5.w hL2 (by omega) (fun z => z) .nil (fun i acc G' H' n1 _ => (n1.g.trans n1.w).seq gys) ?_ ?_
  · rintro i acc G' H6 z H7 Qc hi la n6 hD gD hI ⟨rfl, hz⟩ q
    obtain ⟨s, hsi, aa, u, rfl, r1, r2⟩ := Paired.get hys hz
    refine ⟨rfl, _, rfl, aa, _, 1, _, rfl, rfl, seqT (n6.g.trans n6.w) r1, at1, q _ _ _ (Nx.refl n6.w) ?_⟩
    rw [map_take_snoc hsi]
    exact Paired.snoc hI (r2.mono n6.g)
  intro acc G' H6 n6 la e6 hD hI
  rw [ly, List.take_of_length_le (by rw [List.length_map]; omega)] at hI
  refine ⟨L2, acc, _, m, rfl, n6.w.seq (SqL.of upd_same), Paired.imp (fun _ _ h => (h.mono e6).mono n6.w) hI, fun f hf => ?_, by omega, by rw [List.length_map, List.length_map]; omega, fun H8 e8 => ⟨_, rfl, ?_⟩⟩
  · obtain ⟨s, hs, rfl⟩ := List.mem_map.mp hf
    exact hlB s hs
  have hrun : runOf W d = if risingB ((ss.map lowS).map (·.2)) = true ∧ (walkS W (ss.map lowS)).isSome = true then some (ss.map lowS) else none := by
    unfold runOf
    rw [hl, if_pos rfl, hss]
  have e8' := (e5.trans n6.same).trans e8
  cases hri : risingB ((ss.map lowS).map (·.2)) with
  | false =>
    exact iteF' rfl (stop _ e8' (by rw [hrun, if_neg (fun z => by rw [hri] at z; cases z.1)]))
  | true =>
    have n8 := n6.growG e8
    refine iteT' rfl ?_
    refine ⟨_, rfl, _, rfl, x, p, W, ss.map lowS, m, _, rfl, n8.w, wa.mono ((e4.trans n5.g).trans n8.g), ok, PairsA.mono ⟨ys, gys, hys⟩ n8.g, fun s hs => ⟨hlt s hs, hlB s hs⟩, hm1, hm, fun G9 H9 v' n9 ho => ?_⟩
    have q := k H9 (e8'.trans n9.same)
    rw [hrun] at q
    cases hw : walkS W (ss.map lowS) with
    | none =>
      rw [hw] at ho q
      cases ho
      rw [if_neg (fun z => by cases z.2)] at q
      exact ⟨rfl, q⟩
    | some st =>
      rw [hw] at ho q
      obtain ⟨y, rfl, hy⟩ := ho
      rw [if_pos ⟨hri, rfl⟩] at q
      exact ⟨rfl, q⟩
end K25

/-! ## K16 -/
set_option Elab.async false
set_option linter.all false
set_option maxRecDepth 100000
set_option maxHeartbeats 8000000
/-! K16: checked_run, ended, worths, heard. -/
set_option exponentiation.threshold 100000
namespace K25
open PySem L2
open PySem.Spec PyProof.Rows
/-! ### defs that may raise -/
def DefOkX (P : Program) (w : World) (K : PySem.W.Frag) (mg : Str → Option Value) (base : Heap) (k : Nat) (x : Str) (ps : List Str) (sp : Sp) : Prop :=
  ∃ f fd, mg x = some (.ref f) ∧ PySem.W.keepIn K (.ref f) = true ∧ Binds K fd ps [] ∧ FnOk P w K mg base (L2.CX P w) k f fd ps sp
section
variable {P : Program} {w : World} {K : PySem.W.Frag} {mg : Str → Option Value} {base : Heap}
theorem FunG.okX {x : Str} {st : Stmt} {N ps : List Str} {k : Nat} {sp : Sp} (F : FunG K mg x st ps) (S : FnScope N ps (defScope st)) (len : ∀ vs H Q E, sp vs H Q E → vs.length = ps.length)
    (hbody : ∀ (f : Addr) (cdv : Value) (A : Around) (outer : List Env) (s : Shared) (H : Hp) (vs : List V) (Q : VK) (E : XK), Room k (A.deeper (envOfC x (defScope st) s.heap.objs.size f cdv)) → sp vs H Q E →
      ∃ t, PSs (cxOf (L2.CX P w) P w K mg base N x (defScope st) f cdv A outer s H E) (defBody st) t ∧ t { nx := fun _ H' => Q .non H', rt := Q } (start N vs) H) : DefOkX P w K mg base (k + 1) x ps sp := by
  obtain ⟨f, fd, hm, F, hb⟩ := F
  exact ⟨f, fd, hm, F.kp, hb, F.okX S len fun cdv A outer s H vs Q E hr h => hbody f cdv A outer s H vs Q E hr h⟩
end
section
variable {X : Cx} {k : Nat} {x : Str} {ps : List Str} {sp : Sp} {C : Addr} {e : Expr} {es : List Expr} {t : TA} {p pos : Pos} {E : L2.St → XK}
theorem pe_cdS (G : DefOkX X.prog X.w X.K X.mg X.base k x ps sp) (hr : Room k X.A) (hg : Gl X x) (hx : ∀ σ, PassesAt (L2.CX X.prog X.w) X σ (E σ)) (ha : PA X (e :: es) t) (hdb : (x == ("__debug__" : Str)) = false := by decide) (he : starEach (e :: es) X.env = (false, eval e X.env) :: starEach es X.env := by rfl) (hpl : (backTo pos (starEach es X.env)).any (·.1) = false := by rfl) :
    PE X (.Call (.Name x p) (e :: es) [] pos) (tCallS sp E t) := by
  obtain ⟨f, fd, hm, hk, hb, F⟩ := G
  exact pe_callS F hr hg hm hk hb hx ha hdb he hpl
end
variable {P : Program} {w : World} {K : PySem.W.Frag} {mg : Str → Option Value} {base : Heap} {A : Ad}
/-! ### BadRun -/
def sp_BadRun (K : PySem.W.Frag) (C : Addr) : Sp := fun vs H Q _ => ∃ a v, vs = [.ref a, v] ∧ H a = some (exo a C none) ∧ ∀ dx, H dx = none → dx ≠ a → Q .non (upd (upd H dx (exd dx [("thing", v)])) a (exo a C (some dx)))
def InitOk (P : Program) (w : World) (K : PySem.W.Frag) (mg : Str → Option Value) (base : Heap) (C : Addr) (k : Nat) (ps : List Str) (sp : Sp) : Prop :=
  ∃ f fd, PySem.W.findIn K (.ref C) "__init__" = some (some (.ref f)) ∧ PySem.W.typeIn K (.ref f) = some (.type "function") ∧ Binds K fd ps [] ∧ FnOk P w K mg base CX0 k f fd ps sp
theorem ok_BadRun (T : Tx K mg A) : InitOk P w K mg base A.BadRun 1 P_BadRun_init (sp_BadRun K A.BadRun) := by
  obtain ⟨oex, xf, hno, hex, f, fd, h1, h2, F, hb⟩ := T.x_BadRun
  refine ⟨f, fd, h1, h2, hb, F.ok sc_BadRun_init (fun vs H Q E ⟨_, _, e, _⟩ => by rw [e]; rfl) fun cdv AA outer s H vs Q E hr h => ⟨_, (pss_one (ps_ost (pv 0) (pv 1))), ?_⟩⟩
  obtain ⟨a, v, rfl, ha, k⟩ := h
  exact ⟨_, rfl, _, rfl, a, A.BadRun, rfl, oex, hno, .inl ⟨ha, fun dx hd ne => k dx hd ne⟩⟩
theorem pmk_bad {X : Cx} {C : Addr} {q x : Str} {st : Stmt} {ps : List Str} {k : Nat} {sp : Sp} {e : Expr} {es : List Expr} {ta : TA} {p pos : Pos} (B : BadG X.K C q st ps) (I : InitOk X.prog X.w X.K X.mg X.base C k ps sp) (hr : Room (k + 1) X.A) (hg : Gl X x) (hm : X.mg x = some (.ref C)) (ha : PA X (e :: es) ta)
    (hdb : (x == ("__debug__" : Str)) = false := by decide) (he : starEach (e :: es) X.env = (false, eval e X.env) :: starEach es X.env := by rfl) (hpl : (backTo pos (starEach es X.env)).any (·.1) = false := by rfl) :
    PMk X (.Call (.Name x p) (e :: es) [] pos) (tMkO C sp [] ta) := by
  obtain ⟨f, fd, h1, h2, hb, F⟩ := I
  exact pmk_oex B.1 h1 h2 F hr hb .nil pass0 hg hm ha hdb he hpl
theorem bad_heap {H : Hp} {a d C : Addr} {fs gs : List (Str × V)} (ha : H a = none) (hd : d ≠ a) : upd (L2.del (upd (upd (upd H a (exo a C none)) d (exd d gs)) a (exo a C (some d))) a) d (.xd fs) = upd H d (.xd fs) := by
  funext b
  by_cases h1 : b = d
  · rw [h1, upd_same, upd_same]
  · rw [upd_ne h1, upd_ne h1]
    by_cases h2 : b = a
    · rw [h2, del_same, ha]
    · rw [del_ne h2, upd_ne h2, upd_ne h1, upd_ne h2]
theorem Nx.pre {M : Addr → Prop} {H H1 G' H' : Hp} (n : Nx M H1 H1 G' H') (e : Same H H1) : Nx M H H G' H' :=
  ⟨e.trans n.g, n.w, fun a o m q => n.h a o m (e _ _ q), fun a q => n.t a (by
    cases z : H a with
    | none => exact (q z).elim
    | some o => rw [e _ _ z]; simp), fun a q f => (f q).elim⟩
/-! ### checked_run -/
/-- what is let out: a BadRun that carries v -/
def BadE (C : Addr) (H : Hp) (v : V) (E : XK) : Prop := ∀ H' d, Same H H' → H' d = none → E (.ref C) (some d) (upd H' d (.xd [("thing", v)]))
theorem BadE.mono {C : Addr} {H H' : Hp} {v : V} {E : XK} (h : BadE C H v E) (e : Same H H') : BadE C H' v E := fun H2 d e2 hd => h H2 d (e.trans e2) hd
/-- a thing handed as a run -/
structure RunP (K : PySem.W.Frag) (CW : Addr) (H : Hp) (x : Addr) (v : V) (d : D) (W : Wt) (k : Nat) : Prop where
  wa : WatA K CW H x W
  ok : WtOk W
  rd : Rp K H d v
  len : d.items.length ≤ 1000
  b : ∀ ss, stpsO W.arrs.length d.items = some ss → ∀ s ∈ ss, FrB k s.2
  k1 : 1 ≤ k
  k2 : k ≤ 1900
theorem RunP.mono {CW : Addr} {H H' : Hp} {x : Addr} {v : V} {d : D} {W : Wt} {k : Nat} (h : RunP K CW H x v d W k) (e : Same H H') : RunP K CW H' x v d W k := ⟨h.wa.mono e, h.ok, h.rd.mono e, h.len, h.b, h.k1, h.k2⟩
theorem run_inv {W : Wt} {d : D} {ls : List Stp} (h : runOf W d = some ls) : ∃ ss, d.isL = true ∧ stpsO W.arrs.length d.items = some ss ∧ ls = ss.map lowS ∧ ∃ st, walkS W ls = some st := by
  unfold runOf at h
  cases hl : d.isL with
  | false => rw [hl] at h; cases h
  | true =>
    rw [hl, if_pos rfl] at h
    split at h
    · rename_i ss hs
      split at h
      · rename_i hc
        cases h
        exact ⟨ss, rfl, hs, rfl, Option.isSome_iff_exists.mp hc.2⟩
      · cases h
    · cases h
theorem run_ok {CW : Addr} {H : Hp} {x : Addr} {v : V} {d : D} {W : Wt} {k : Nat} (h : RunP K CW H x v d W k) {ls : List Stp} (e : runOf W d = some ls) : (∀ s ∈ ls, s.1 < W.arrs.length ∧ FrB k s.2) ∧ ls.length ≤ 1000 := by
  obtain ⟨ss, _, h2, rfl, _⟩ := run_inv e
  refine ⟨fun s hs => ⟨steps_lt h2 s hs, low_B (h.b ss h2) s hs⟩, ?_⟩
  rw [List.length_map, (stpsO_get h2).1]
  exact h.len
def sp_checked_run (K : PySem.W.Frag) (CW CB : Addr) : Sp := fun vs H Q E => ∃ (x : Addr) (v : V) (d : D) (W : Wt) (k : Nat) (G : Hp), vs = [.ref x, v] ∧ Same G H ∧ RunP K CW G x v d W k ∧ (runOf W d = none → BadE CB H v E) ∧
  ∀ ls, runOf W d = some ls → ∀ G' H' p, Nx M0 G H G' H' → PairsA K G' p ls → Q (.ref p) H'
theorem ok_checked_run (T : Tx K mg A) : DefOkX P w K mg base 8 "checked_run" P_checked_run (sp_checked_run K A.Watcher A.BadRun) := by
  have hI := ok_BadRun (P := P) (w := w) (base := base) T
  refine T.f_checked_run.okX sc_checked_run (fun vs H Q E ⟨_, _, _, _, _, _, e, _⟩ => by rw [e]; rfl) (fun f cdv AA outer s H vs Q E hr h => ⟨_, (pss_cons (ps_if (pt_not (pt_val (pe_cd (ok_is_run T) (lv hr) rfl (pa_cons (pv 0) (pa_cons (pv 1) pa_nil))))) (pss_one (ps_raise (W := fun cls d _ H => E cls d H) rfl (takes_of rfl rfl rfl rfl) (pmk_bad T.x_BadRun hI (lv hr) rfl T.g_BadRun (pa_cons (pv 1) pa_nil)))) pss_nil) (pss_one (ps_ret (pe_cd (ok_as_steps T) (lv hr) rfl (pa_cons (pv 1) pa_nil))))), ?_⟩)
  obtain ⟨x, v, d, W, n, G, rfl, w0, rpG, hbad, k⟩ := h
  have rp := rpG.mono w0
  refine ⟨_, rfl, _, rfl, x, v, d, W, n, rfl, rp.wa, rp.ok, rp.rd, rp.len, rp.b, rp.k1, rp.k2, fun H1 e1 => ⟨_, rfl, ?_⟩⟩
  cases hrun : runOf W d with
  | none =>
    refine iteT' rfl ?_
    refine ⟨_, rfl, (by show 1 ≤ 1000; decide), fun a ha => ⟨a, v, rfl, upd_same, fun dx hd ne => ⟨rfl, dx, [("thing", v)], upd_same, ?_, ?_, ?_⟩⟩⟩
    · rw [upd_ne ne, upd_same]
    · rw [upd_ne ne] at hd; exact hd
    · rw [bad_heap ha ne]
      rw [upd_ne ne] at hd
      exact hbad hrun H1 dx e1 hd
  | some ls =>
    refine iteF' rfl ?_
    obtain ⟨ss, hl, hss, rfl, _⟩ := run_inv hrun
    refine ⟨_, rfl, v, d, _, ss, n, G, rfl, w0.trans e1, rpG.rd, hl, hss, rp.b ss hss, by have := rp.k2; omega, rp.len, fun G' H' p n1 hp => k _ hrun G' H' p ((Nx.grow w0 e1).trans n1) hp⟩
/-! ### ended, worths, heard -/
def sp_ended (K : PySem.W.Frag) (CW CB : Addr) : Sp := fun vs H Q E => ∃ (x : Addr) (v : V) (d : D) (W : Wt) (k : Nat) (G : Hp), vs = [.ref x, v] ∧ Same G H ∧ RunP K CW G x v d W k ∧ (runOf W d = none → BadE CB H v E) ∧
  ∀ ls st, runOf W d = some ls → walkS W ls = some st → ∀ G' H', Nx M0 G H G' H' → Q (.str st.1) H'
theorem ok_ended (T : Tx K mg A) : DefOkX P w K mg base 9 "ended" P_ended (sp_ended K A.Watcher A.BadRun) := by
  refine T.f_ended.okX sc_ended (fun vs H Q E ⟨_, _, _, _, _, _, e, _⟩ => by rw [e]; rfl) (fun f cdv AA outer s H vs Q E hr h => ⟨_, (pss_one (ps_ret (pe_fld (pe_cd (ok_stand_behind T) (lv hr) rfl (pa_cons (pv 0) (pa_cons (pe_cdS (ok_checked_run T) (lv hr) rfl (fun σ => passAt (W := fun cls d _ H => E cls d H) (takes_of rfl rfl rfl rfl) σ) (pa_cons (pv 0) (pa_cons (pv 1) pa_nil))) pa_nil))) rfl))), ?_⟩)
  obtain ⟨x, v, d, W, n, G, rfl, w0, rp, hbad, k⟩ := h
  refine ⟨_, rfl, _, rfl, _, rfl, x, v, d, W, n, G, rfl, w0, rp, hbad, fun ls hls G1 H1 p n1 hp => ?_⟩
  obtain ⟨st, hst⟩ := (run_inv hls).choose_spec.2.2.2
  obtain ⟨hb, hl⟩ := run_ok rp hls
  refine ⟨x, p, W, ls, n, G1, rfl, n1.w, rp.wa.mono n1.g, rp.ok, hp, hb, rp.k1, rp.k2, fun G2 H2 v' n2 ho => ?_⟩
  rw [hst] at ho
  obtain ⟨y, rfl, dy, bd, gy, gb⟩ := ho
  exact ⟨y, _, _, _, _, rfl, n2.w _ _ gy, T.cl_Stand, T.n_spot, lookSp _ _, k ls st hls hst _ _ (n1.trans n2)⟩
def lastF (ls : List Stp) : Fr := (ls.getLast?.map (·.2)).getD (0, 1)
theorem Paired.snocI {α β : Type} {F : α → β → Prop} : ∀ {xs : List α} {ys : List β} {y : β}, Paired F xs (ys ++ [y]) → ∃ zs z, xs = zs ++ [z] ∧ Paired F zs ys ∧ F z y
  | _, [], y, .cons r .nil => ⟨[], _, rfl, .nil, r⟩
  | _, y0 :: ys, y, .cons r t => by
    obtain ⟨zs, z, rfl, h1, h2⟩ := Paired.snocI (ys := ys) t
    exact ⟨_ :: zs, z, rfl, .cons r h1, h2⟩
def sp_worths (K : PySem.W.Frag) (CW CB : Addr) : Sp := fun vs H Q E => ∃ (x : Addr) (v : V) (d : D) (W : Wt) (k : Nat) (G : Hp), vs = [.ref x, v] ∧ Same G H ∧ RunP K CW G x v d W k ∧ (runOf W d = none → BadE CB H v E) ∧
  ∀ ls st, runOf W d = some ls → walkS W ls = some st → ∀ G' H' p, Nx M0 G H G' H' → BegA K G' p (worthsF st.2 (lastF ls)) → Q (.ref p) H'
theorem ok_worths (T : Tx K mg A) : DefOkX P w K mg base 9 "worths" P_worths (sp_worths K A.Watcher A.BadRun) := by
  refine T.f_worths.okX sc_worths (fun vs H Q E ⟨_, _, _, _, _, _, e, _⟩ => by rw [e]; rfl) (fun f cdv AA outer s H vs Q E hr h => ⟨_, (pss_cons (ps_set (i := 2) sc_worths.nd rfl (Or.inl rfl) (pe_cdS (ok_checked_run T) (lv hr) rfl (fun σ => passAt (W := fun cls d _ H => E cls d H) (takes_of rfl rfl rfl rfl) σ) (pa_cons (pv 0) (pa_cons (pv 1) pa_nil)))) (pss_one (ps_ret (pe_md T.cl_Stand (ok_worths_at T) (lv hr) (pe_cd (ok_stand_behind T) (lv hr) rfl (pa_cons (pv 0) (pa_cons (pv 2) pa_nil))) (pa_cons (pe_ifExp (pt_cmpR (op_neE hr) (pv 2) (pe_lst pa_nil) (nomark _)) (pe_ix ix_tup (pe_ix ix_list (pv 2) (pe_un un_neg pe_int) (fun _ _ => rfl)) pe_int (fun _ _ => rfl)) (pe_glob (v := .ref A.cZERO) rfl T.g_ZERO rfl)) pa_nil))))), ?_⟩)
  obtain ⟨x, v, d, W, n, G, rfl, w0, rp, hbad, k⟩ := h
  refine ⟨_, rfl, _, rfl, x, v, d, W, n, G, rfl, w0, rp, hbad, fun ls hls G1 H1 p n1 hp => ?_⟩
  obtain ⟨st, hst⟩ := (run_inv hls).choose_spec.2.2.2
  obtain ⟨hb, hl⟩ := run_ok rp hls
  have cl := rp.ok.cl
  have so : StOk W n st := walkS_ok rp.k1 ls (firstS W) (fun s hs => (hb s hs).2) (firstS_ok rp.k1) st hst
  have sl : st.2.length = W.clocks.length := by rw [← so.c, List.length_map]
  refine ⟨_, rfl, _, rfl, x, p, W, ls, n, G1, rfl, n1.w, rp.wa.mono n1.g, rp.ok, hp, hb, rp.k1, rp.k2, fun G2 H2 v' n2 ho => ?_⟩
  rw [hst] at ho
  obtain ⟨y, rfl, hy⟩ := ho
  have hy' := hy
  obtain ⟨dy, bd, gy, gb⟩ := hy'
  refine ⟨y, _, _, rfl, n2.w _ _ gy, lookWa _ _, _, rfl, (by decide), fun q hq => ?_⟩
  obtain ⟨xs, gxs, hxs⟩ := hp
  have n3 : Nx M0 G H G2 (upd H2 q (.lst [])) := (n1.trans n2).growG (Same.new0 hq)
  have lx : xs.length = ls.length := Paired.len hxs
  have gxs3 := (n2.g.trans n3.w).seq gxs
  refine ⟨p, q, xs, rfl, rfl, gxs3, SqL.of upd_same, ?_⟩
  have fin : ∀ (u : V), FrA K G2 u (lastF ls) → FrB n (lastF ls) → sp_worths_at K A.Stand [.ref y, u] (upd H2 q (.lst [])) Q E0 := fun u hu hB => by
    refine ⟨y, u, st, lastF ls, n, G2, rfl, n3.w, hy, hu, hB, so.b, by have := rp.k2; omega, by rw [so.c]; exact rp.ok.cn, by omega, fun G5 H5 r n5 hr5 => ?_⟩
    exact k ls st hls hst _ _ r (n3.trans n5) hr5
  cases hc : ls.getLast? with
  | none =>
    have e0 : ls = [] := by simpa using hc
    subst e0
    cases hxs
    refine ⟨_, rfl, iteF' rfl ?_⟩
    exact fin _ ⟨_, rfl, T.t_ZERO _⟩ (zero_B rp.k1)
  | some s =>
    obtain ⟨l0, rfl⟩ := List.getLast?_eq_some_iff.mp hc
    obtain ⟨zs, z, rfl, h1, aa, u, rfl, h2, h3⟩ := Paired.snocI hxs
    have el : lastF (l0 ++ [s]) = s.2 := by unfold lastF; rw [hc]; rfl
    refine ⟨_, rfl, iteT' (by simp) ?_⟩
    refine ⟨_, rfl, _, rfl, p, _, -1, _, rfl, rfl, gxs3, atI_last _ _, aa, _, 1, _, rfl, rfl, seqT (n2.g.trans n3.w) h2, at1, ?_⟩
    exact fin u (by rw [el]; exact h3.mono n2.g) (by rw [el]; exact (hb s (by simp)).2)
end K25

/-! ## K17 -/
set_option Elab.async false
set_option linter.all false
set_option maxRecDepth 100000
set_option maxHeartbeats 8000000
/-! K17: heard. -/
set_option exponentiation.threshold 100000
namespace K25
open PySem L2
open PySem.Spec PyProof.Rows
variable {P : Program} {w : World} {K : PySem.W.Frag} {mg : Str → Option Value} {base : Heap} {A : Ad}
abbrev OSig := Option Str × Fr
def OSigV (K : PySem.W.Frag) (G : Hp) (v : V) (z : OSig) : Prop := ∃ a u w, v = V.ref a ∧ SqT K G a [w, u] ∧ Rp K G (sigD z.1) w ∧ FrA K G u z.2
theorem OSigV.mono {G G' : Hp} {v : V} {z : OSig} (h : OSigV K G v z) (e : Same G G') : OSigV K G' v z := by
  obtain ⟨a, u, w, h1, h2, h3, h4⟩ := h
  exact ⟨a, u, w, h1, seqT e h2, h3.mono e, h4.mono e⟩
def osigOf (W : Wt) (s : Stp) : OSig := ((W.arrs[s.1]?).bind Arr.sig, s.2)
def heardF (W : Wt) (ls : List Stp) : List OSig := (ls.map (osigOf W)).filter fun z => z.1.isSome
theorem sig_not {G : Hp} {o : Option Str} {w : V} (h : Rp K G (sigD o) w) : (!decide (w = V.non)) = o.isSome := by
  cases o with
  | none => cases h; rfl
  | some s => cases h; rfl
theorem filter_take_snoc {α : Type} {p : α → Bool} {l : List α} {i : Nat} {x : α} (h : l[i]? = some x) : (l.take (i + 1)).filter p = (l.take i).filter p ++ (if p x = true then [x] else []) := by
  rw [take_succ' h, List.filter_append]
  cases q : p x <;> simp [q]
def sp_heard (K : PySem.W.Frag) (CW CB : Addr) : Sp := fun vs H Q E => ∃ (x : Addr) (v : V) (d : D) (W : Wt) (k : Nat) (G : Hp), vs = [.ref x, v] ∧ Same G H ∧ RunP K CW G x v d W k ∧ (runOf W d = none → BadE CB H v E) ∧
  ∀ ls, runOf W d = some ls → ∀ G' H' p xs, Nx M0 G H G' H' → SqL K G' p xs → Paired (OSigV K G') xs (heardF W ls) → Q (.ref p) H'
theorem ok_heard (T : Tx K mg A) : DefOkX P w K mg base 9 "heard" P_heard (sp_heard K A.Watcher A.BadRun) := by
  refine T.f_heard.okX sc_heard (fun vs H Q E ⟨_, _, _, _, _, _, e, _⟩ => by rw [e]; rfl) (fun f cdv AA outer s H vs Q E hr h => ⟨_, (pss_cons (ps_set (i := 2) sc_heard.nd rfl (Or.inl rfl) (pe_cdS (ok_checked_run T) (lv hr) rfl (fun σ => passAt (W := fun cls d _ H => E cls d H) (takes_of rfl rfl rfl rfl) σ) (pa_cons (pv 0) (pa_cons (pv 1) pa_nil)))) (pss_cons (ps_setLc (i := 3) rfl sc_heard.nd rfl rfl (sw_true rfl rfl rfl (by decide +kernel)) (own := [("number", 4), ("time", 5)]) (pi_list (pv 2)) (blkOk_by (own := [("number", 4), ("time", 5)]) (N := N_heard) (sc := defScope s_heard) (by decide +kernel)) (fun _ _ _ _ _ => (pg_tupB (n := 2) rfl (pgs_cons (pg_name (i := 4) sc_heard.nd rfl (Or.inl rfl)) (pgs_cons (pg_name (i := 5) sc_heard.nd rfl (Or.inl rfl)) pgs_nil)))) (fun _ _ _ _ _ => pts_nil) (fun _ _ _ _ _ => (pe_tup (pa_cons (pe_ix ix_tupB (pe_ix ix_tupB (pe_fldB (pv 0) rfl) (pv 4) (fun _ _ => rfl)) pe_int (fun _ _ => rfl)) (pa_cons (pv 5) pa_nil))))) (pss_one (ps_ret (pe_lc (own := [("each", 6)]) rfl sc_heard.nd (pi_list (pv 3)) (blkOk_by (own := [("each", 6)]) (N := N_heard) (sc := defScope s_heard) (by decide +kernel)) (fun _ _ _ _ _ => (pg_name (i := 6) sc_heard.nd rfl (Or.inl rfl))) (fun _ _ _ _ _ => (pts_one (pt_cmpR op_notN (pe_ix ix_tupB (pv 6) pe_int (fun _ _ => rfl)) pe_non (nomark _)))) (fun _ _ _ _ _ => (pv 6))))))), ?_⟩)
  obtain ⟨x, v, d, W, n, G, rfl, w0, rp, hbad, k⟩ := h
  refine ⟨_, rfl, _, rfl, x, v, d, W, n, G, rfl, w0, rp, hbad, fun ls hls G1 H1 p n1 hp => ?_⟩
  obtain ⟨hb, hl⟩ := run_ok rp hls
  obtain ⟨ys, gys, hys⟩ := hp
  have ly : ys.length = ls.length := Paired.len hys
  have wa := rp.wa.mono n1.g
  obtain ⟨dx, fs, gx, hh, eh, th, lh, rfl, g1, g2, ⟨th', xt, e0, g3, g3'⟩, g4⟩ := wa
  cases e0
  refine ⟨_, rfl, p, rfl, ⟨_, n1.w.seq gys⟩, fun L hL => ?_⟩
  refine lc_map (G := G1) (walk_list (xs := ys)) M0 (fun i acc G' H' => Paired (OSigV K G') acc ((ls.take i).map (osigOf W))) n1.w hL (by omega) (fun z => z) .nil (fun i acc G' H' n2 _ => (n2.g.trans n2.w).seq gys) ?_ ?_
  · rintro i acc G' H2 z H3 Qc hi la n2 hD gD hI ⟨rfl, hz⟩ q
    obtain ⟨s, hsi, aa, u, rfl, r1, r2⟩ := Paired.get hys hz
    obtain ⟨hj, hB⟩ := hb s (List.mem_of_getElem? hsi)
    obtain ⟨a, ha⟩ : ∃ a, W.arrs[s.1]? = some a := ⟨_, List.getElem?_eq_getElem hj⟩
    obtain ⟨xi, hxi, rxi⟩ := g3'.get (i := s.1) (d := arrT a) (by rw [List.getElem?_map, ha]; rfl)
    obtain ⟨tr, trx, rfl, gtr, x0, r0, rfl, h0, x1, r1', rfl, h1, x2, r2', rfl, h2, x3, r3, rfl, h3, x4, r4, rfl, h4, rfl⟩ := rxi
    have gg := n2.g.trans n2.w
    refine ⟨aa, _, rfl, seqT gg r1, rfl, _, _, rfl, _, _, rfl, rfl, rfl, ?_⟩
    refine ⟨_, rfl, x, _, _, _, _, rfl, gg _ _ gx, T.cl_Watcher, T.n_tracks, lookT _ _ _ _, _, rfl, _, xt, (s.1 : Int), _, rfl, rfl, seqT gg g3, atI_nat hxi, tr, _, 1, _, rfl, rfl, seqT gg gtr, at51, _, rfl, s2, fun t ht => ?_⟩
    have n3 := Nx.new (M := M0) (o := .tup [x1, u]) n2.w ht
    refine q _ _ _ n3 ?_
    rw [map_take_snoc hsi]
    refine Paired.snoc (Paired.imp (fun _ _ h => OSigV.mono h n3.g) hI) ⟨t, u, x1, rfl, SqT.of upd_same, ?_, ?_⟩
    · show Rp K _ (sigD ((W.arrs[s.1]?).bind Arr.sig)) x1
      rw [ha]
      exact h1.mono (n2.g.trans n3.g)
    · exact r2.mono (n2.g.trans n3.g)
  intro acc G' H2 n2 la e2 hD hI
  rw [ly, List.take_length] at hI
  have hI2 := Paired.imp (fun _ _ h => OSigV.mono h e2) hI
  have gL : SqL K (upd G' L (.lst acc)) L acc := SqL.of upd_same
  generalize upd G' L (.lst acc) = G2 at n2 hI2 gL
  have nn := n1.trans n2
  have la2 : acc.length = (ls.map (osigOf W)).length := Paired.len hI2
  refine ⟨_, rfl, L, rfl, ⟨_, n2.w.seq gL⟩, fun L2 hL2 => ?_⟩
  refine lc_it (walk_list (xs := acc)) (fun i H' => ∃ out, Nx M0 G2 H2 G2 H' ∧ H' L2 = some (.lst out) ∧ out.length ≤ i ∧ Paired (OSigV K G2) out (((ls.map (osigOf W)).take i).filter fun z => z.1.isSome)) ⟨[], Nx.newM n2.w hL2, upd_same, Nat.le_refl _, .nil⟩ (fun i H' _ ⟨_, n4, _⟩ => n4.w.seq gL) ?_ ?_
  · rintro i z H3 H4 hi ⟨out, n4, hL4, lo, hO⟩ ⟨rfl, hz⟩
    obtain ⟨o, ho, ov⟩ := Paired.get hI2 hz
    have ov' := ov
    obtain ⟨a, u, w0, rfl, r1, r2, r3⟩ := ov'
    refine ⟨rfl, _, rfl, a, _, 0, _, rfl, rfl, seqT n4.w r1, at0, rfl, _, rfl, ?_⟩
    rw [sig_not r2, filter_take_snoc ho]
    cases hs : o.1.isSome with
    | false => exact iteF' rfl ⟨out, n4, hL4, by omega, by simpa using hO⟩
    | true =>
      refine iteT' rfl ⟨_, rfl, out, hL4, szl (by omega), _, n4.wrL hL2 (n2.w.free hL2), upd_same, by simp; omega, ?_⟩
      rw [if_pos rfl]
      exact Paired.snoc hO ov
  rintro H3 ⟨out, n4, hL4, lo, hO⟩
  rw [la2, List.take_length] at hO
  have n5 := nn.trans (n4.still hL2 hL4 n2.w)
  exact k ls hls _ _ L2 out n5 (SqL.of upd_same) (Paired.imp (fun _ _ h => OSigV.mono h (Same.new0 (n2.w.free hL2))) hO)
end K25

/-! ## L1 -/
set_option Elab.async false
set_option linter.all false
set_option maxRecDepth 100000
set_option maxHeartbeats 8000000
/-! L1: the law's pool. -/
set_option exponentiation.threshold 100000
namespace K25
open PySem L2
open PySem.Spec PyProof.Rows
section
variable {X : Cx} {s : Shared} {H : Hp} {scope : Scope} {cenv : Env} {fp : List Addr}
theorem call_len_seqB : CallR (X.blk s H scope cenv fp) (.builtin "len") (fun xs H Q => ∃ p ys, xs = [.ref p] ∧ (SqL X.K H p ys ∨ SqT X.K H p ys) ∧ Q (.int ys.length) H) := call_len_seq
theorem pe_bmB {o e : Expr} {es : List Expr} {to : TE} {t : TA} {name : Str} {apos cpos : Pos} {T id : String} {r : V → List V → Hp → VK → Prop} (pa : PlainAttrs T) (slot : Slot T name id) (hty : typeOf (.builtin id) = pure (.type "method_descriptor")) (hm : MtR (X.blk s H scope cenv fp) id r) (ho : PE (X.blk s H scope cenv fp) o to) (ha : PA (X.blk s H scope cenv fp) (e :: es) t)
    (hbase : attributeBase o name (X.blk s H scope cenv fp).env (eval o (X.blk s H scope cenv fp).env) = eval o (X.blk s H scope cenv fp).env := by rfl)
    (hfew : ((backTo cpos (starEach (e :: es) (X.blk s H scope cenv fp).env)).all (fun x => !x.1) && (backToKw cpos (keywordEach [] (X.blk s H scope cenv fp).env)).all (fun x => x.1.isSome)
      && decide ((e :: es).length + ([] : List Keyword).length + (if ([] : List Keyword).isEmpty then 0 else 1) < 30)) = true := by rfl)
    (hline : (apos.endLine == cpos.line) = true := by rfl) (hs : starEach (e :: es) (X.blk s H scope cenv fp).env = (false, eval e (X.blk s H scope cenv fp).env) :: starEach es (X.blk s H scope cenv fp).env := by rfl) (hplain : (backTo cpos (starEach es (X.blk s H scope cenv fp).env)).any (·.1) = false := by rfl) :
    PE (X.blk s H scope cenv fp) (.Call (.Attribute o name apos) (e :: es) [] cpos) (tBM X.K T r to t) := pe_bm pa slot hty hm ho ha hbase hfew hline hs hplain
end
variable {P : Program} {w : World} {K : PySem.W.Frag} {mg : Str → Option Value} {base : Heap} {A : Ad}
/-- the pool: what is left, a number, how many takes -/
def PoolL (H : Hp) (p : Addr) (n : Nat) : Prop := ∃ a b c : Int, H p = some (.lst [.int a, .int b, .int c]) ∧ 0 ≤ a ∧ 0 ≤ b ∧ b < 2 ^ 30 ∧ 0 ≤ c ∧ c ≤ n
theorem s3 : 3 ≤ sizeLine := by decide
theorem PoolL.mono {H : Hp} {p : Addr} {n m : Nat} (h : PoolL H p n) (l : n ≤ m) : PoolL H p m := by
  obtain ⟨a, b, c, h1, h2, h3, h4, h5, h6⟩ := h
  exact ⟨a, b, c, h1, h2, h3, h4, h5, by omega⟩
def sp_l_cell (K : PySem.W.Frag) : Sp := fun vs H Q _ => ∃ (a : Addr) (ns : List Int) (k : Nat), vs = [.ref a, .int k] ∧ SqL K H a (ns.map V.int) ∧ ∀ i H', Same H H' → Q (.int i) H'
theorem ok_l_cell (T : Tx K mg A) : DefOk P w K mg base 1 "_law_cell" P_l_cell (sp_l_cell K) := by
  refine T.f_l_cell.ok sc_l_cell (fun vs H Q E ⟨_, _, _, e, _⟩ => by rw [e]; rfl) (fun f cdv AA outer s H vs Q E hr h => ⟨_, (pss_one (ps_ret (pe_ifExp (pt_cmpR op_lt (pv 1) (pe_callB call_len_seq rfl T.z_len PySem.boot_len (pa_cons (pv 0) pa_nil)) (nomark _)) (pe_ix ix_list (pv 0) (pv 1) (fun _ _ => rfl)) (pe_op op_mod (pe_callB (cr_sum rfl) rfl T.z_sum (by decide +kernel) (pa_cons (pe_slice sl_list (pv 0) po_none (po_some pe_int)) pa_nil)) pe_int)))), ?_⟩)
  obtain ⟨a, ns, j, rfl, hs, k⟩ := h
  refine ⟨_, rfl, _, rfl, a, _, rfl, .inl hs, _, _, rfl, rfl, _, rfl, ?_⟩
  rw [List.length_map]
  by_cases hj : (j : Int) < (ns.length : Int)
  · refine iteT' (decide_eq_true hj) ⟨_, rfl, _, rfl, a, _, _, _, rfl, rfl, hs, atI_nat (j := j) (v := .int ns[j]) ?_, k _ _ (Same.refl _)⟩
    rw [List.getElem?_map, List.getElem?_eq_getElem (by omega)]
    rfl
  · refine iteF' (decide_eq_false hj) ⟨_, rfl, _, rfl, a, _, rfl, hs, fun q hq => ?_⟩
    have e : cutV (ns.map V.int) none (some (1 : Int)) = (ns.take 1).map V.int := by
      show cutV (ns.map V.int) none (some ((1 : Nat) : Int)) = _
      unfold cutV
      rw [HT.sIx_none, HT.sIx_nat, List.map_take, List.drop_zero, List.length_map, Nat.sub_zero]
      cases ns with
      | nil => rfl
      | cons z zs => rw [Nat.min_eq_left (by simp)]
    rw [e]
    exact ⟨q, ns.take 1, rfl, SqL.of upd_same, _, _, rfl, rfl, (show (0 : Int) < 1000003 by decide), k _ _ (Same.new0 hq)⟩
def sp_l_pool : Sp := fun vs H Q _ => ∃ c : Int, vs = [.int c] ∧ ∀ p a b, H p = none → 0 ≤ a → 0 ≤ b → b < 2 ^ 30 → Q (.ref p) (upd H p (.lst [.int a, .int b, .int 0]))
theorem ok_l_pool (T : Tx K mg A) : DefOk P w K mg base 1 "_law_pool" P_l_pool sp_l_pool := by
  refine T.f_l_pool.ok sc_l_pool (fun vs H Q E ⟨_, e, _⟩ => by rw [e]; rfl) (fun f cdv AA outer s H vs Q E hr h => ⟨_, (pss_cons (ps_set (i := 1) sc_l_pool.nd rfl (Or.inl rfl) (pe_op op_mul pe_int (pv 0))) (pss_cons (ps_if (pt_cmpR op_lt (pv 0) pe_int (nomark _)) (pss_one (ps_set (i := 1) sc_l_pool.nd rfl (Or.inl rfl) (pe_op op_sub (pe_op op_sub pe_int (pe_op op_mul pe_int (pv 0))) pe_int))) pss_nil) (pss_cons (ps_if (pt_cmpR op_ge (pv 1) (pe_op op_pow pe_int pe_int) (nomark _)) (pss_one (ps_ret (pe_lst (pa_cons (pe_op op_fdivW (pv 1) pe_int) (pa_cons (pe_op op_mod (pe_callTy call_int1 rfl T.z_int (by decide +kernel) (pa_cons (pv 1) pa_nil)) pe_int) (pa_cons pe_int pa_nil)))))) pss_nil) (pss_one (ps_ret (pe_lst (pa_cons pe_int (pa_cons (pe_op op_mod (pe_callTy call_int1 rfl T.z_int (by decide +kernel) (pa_cons (pv 1) pa_nil)) pe_int) (pa_cons pe_int pa_nil))))))))), ?_⟩)
  obtain ⟨c, rfl, k⟩ := h
  have m2 : CMul 2 c := .inl ⟨by decide, by decide⟩
  have d2 : ∀ z : Int, CDivW z 2 := fun z => ⟨by decide, by decide +kernel⟩
  have mb : ∀ z : Int, 0 ≤ z % 1000000007 ∧ z % 1000000007 < 2 ^ 30 := fun z => ⟨Int.emod_nonneg _ (by decide), Int.lt_trans (Int.emod_lt_of_pos z (by decide)) (by decide)⟩
  refine ⟨_, rfl, _, _, rfl, rfl, m2, _, rfl, _, _, rfl, rfl, _, rfl, ?_⟩
  by_cases hc : c < 0
  · refine iteT' (decide_eq_true hc) ⟨_, rfl, _, _, rfl, rfl, m2, _, _, rfl, rfl, _, _, rfl, rfl, ?_⟩
    have z0 : 0 ≤ 0 - 2 * c - 1 := by omega
    refine ⟨_, rfl, _, _, rfl, rfl, ⟨by decide, by decide, by decide⟩, _, _, rfl, rfl, _, rfl, ?_⟩
    by_cases hz : (10 : Int) ^ (18 : Int).toNat ≤ 0 - 2 * c - 1
    · exact iteT' (decide_eq_true hz) ⟨_, rfl, _, _, rfl, rfl, d2 _, _, rfl, .inl ⟨_, rfl, _, _, rfl, rfl, (show (0 : Int) < 1000000007 by decide), s3, fun p hp => k p _ _ hp (Int.ediv_nonneg z0 (by decide)) (mb _).1 (mb _).2⟩⟩
    · exact iteF' (decide_eq_false hz) ⟨_, rfl, .inl ⟨_, rfl, _, _, rfl, rfl, (show (0 : Int) < 1000000007 by decide), s3, fun p hp => k p _ _ hp (Int.le_refl 0) (mb _).1 (mb _).2⟩⟩
  · refine iteF' (decide_eq_false hc) ?_
    have z0 : 0 ≤ 2 * c := by omega
    refine ⟨_, rfl, _, _, rfl, rfl, ⟨by decide, by decide, by decide⟩, _, _, rfl, rfl, _, rfl, ?_⟩
    by_cases hz : (10 : Int) ^ (18 : Int).toNat ≤ 2 * c
    · exact iteT' (decide_eq_true hz) ⟨_, rfl, _, _, rfl, rfl, d2 _, _, rfl, .inl ⟨_, rfl, _, _, rfl, rfl, (show (0 : Int) < 1000000007 by decide), s3, fun p hp => k p _ _ hp (Int.ediv_nonneg z0 (by decide)) (mb _).1 (mb _).2⟩⟩
    · exact iteF' (decide_eq_false hz) ⟨_, rfl, .inl ⟨_, rfl, _, _, rfl, rfl, (show (0 : Int) < 1000000007 by decide), s3, fun p hp => k p _ _ hp (Int.le_refl 0) (mb _).1 (mb _).2⟩⟩
/-! ### take -/
def sp_l_take : Sp := fun vs H Q _ => ∃ (p : Addr) (many n : Nat) (G : Hp), vs = [.ref p, .int many] ∧ 0 < many ∧ many ≤ 1000000 ∧ Same G H ∧ G p = none ∧ PoolL H p n ∧ n < 2 ^ 40 ∧
  ∀ (j : Nat) H', j < many → Nx (· = p) G H G H' → PoolL H' p (n + 1) → Q (.int j) H'
theorem ok_l_take (T : Tx K mg A) : DefOk P w K mg base 1 "_law_take" P_l_take sp_l_take := by
  refine T.f_l_take.ok sc_l_take (fun vs H Q E ⟨_, _, _, _, e, _⟩ => by rw [e]; rfl) (fun f cdv AA outer s H vs Q E hr h => ⟨_, (pss_cons (ps_if (pt_cmpR op_gt (pe_ix ix_list (pv 0) pe_int (fun _ _ => rfl)) pe_int (nomark _)) (pss_cons (ps_set (i := 2) sc_l_take.nd rfl (Or.inl rfl) (pe_op op_mod (pe_callTy call_int1 rfl T.z_int (by decide +kernel) (pa_cons (pe_ix ix_list (pv 0) pe_int (fun _ _ => rfl)) pa_nil)) (pv 1))) (pss_cons (ps_asg (pe_op op_fdivW (pe_ix ix_list (pv 0) pe_int (fun _ _ => rfl)) (pv 1)) (pg_sub (pv 0) pe_int set_list)) (pss_one (ps_ret (pv 2))))) pss_nil) (pss_cons (ps_asg (pe_op op_add (pe_ix ix_list (pv 0) pe_int (fun _ _ => rfl)) pe_int) (pg_sub (pv 0) pe_int set_list)) (pss_cons (ps_set (i := 3) sc_l_take.nd rfl (Or.inl rfl) (pe_op op_mod (pe_callTy call_int1 rfl T.z_int (by decide +kernel) (pa_cons (pe_op op_pow (pe_op op_add (pe_op op_add (pe_ix ix_list (pv 0) pe_int (fun _ _ => rfl)) (pe_op op_mulW pe_int (pe_ix ix_list (pv 0) pe_int (fun _ _ => rfl)))) pe_int) pe_int) pa_nil)) pe_int)) (pss_one (ps_ret (pe_op op_mod (pe_op op_mod (pe_callTy call_int1 rfl T.z_int (by decide +kernel) (pa_cons (pe_op op_mulW (pe_op op_add (pv 3) (pe_ix ix_list (pv 0) pe_int (fun _ _ => rfl))) pe_int) pa_nil)) pe_int) (pv 1))))))), ?_⟩)
  obtain ⟨p, m, n, G, rfl, m0, m1, w0, gp, ⟨a, b, c, hp, ha, hb, hb2, hc, hcn⟩, hn, k⟩ := h
  have mi : (0 : Int) < (m : Int) := by omega
  have md : ∀ z : Int, ∃ j : Nat, j < m ∧ z % (m : Int) = (j : Int) := fun z => by
    have h1 := Int.emod_nonneg z (show (m : Int) ≠ 0 by omega)
    have h2 := Int.emod_lt_of_pos z mi
    exact ⟨(z % m).toNat, by omega, by omega⟩
  have dm : ∀ z : Int, CDivW z m := fun z => wide_div (b := 100) mi (by show m < 2 ^ 100; exact Nat.lt_of_le_of_lt m1 (by decide)) (by decide) (by decide)
  have hs : ∀ {x y z : Int}, SqL K (upd H p (.lst [.int x, .int y, .int z])) p [.int x, .int y, .int z] := SqL.of upd_same
  refine ⟨_, rfl, p, _, 0, _, rfl, rfl, SqL.of hp, at30, _, _, rfl, rfl, _, rfl, ?_⟩
  by_cases h0 : 0 < a
  · refine iteT' (decide_eq_true h0) ⟨_, rfl, p, _, 0, _, rfl, rfl, SqL.of hp, at30, .inl ⟨_, rfl, _, rfl, _, _, rfl, rfl, mi, ?_⟩⟩
    obtain ⟨j, hj, ej⟩ := md a
    refine ⟨_, rfl, p, _, 0, _, rfl, rfl, SqL.of hp, at30, _, rfl, _, _, rfl, rfl, dm _, _, rfl, p, _, 0, 0, rfl, rfl, hp, rfl, ?_⟩
    have q := k j _ hj (Nx.wr w0 rfl gp) ⟨a / m, b, c, upd_same, Int.ediv_nonneg ha (by omega), hb, hb2, hc, by omega⟩
    rw [← ej] at q
    exact ⟨_, rfl, q⟩
  · refine iteF' (decide_eq_false h0) ?_
    refine ⟨_, rfl, p, _, 2, _, rfl, rfl, SqL.of hp, at2, _, _, rfl, rfl, _, rfl, p, _, 2, 2, rfl, rfl, hp, rfl, ?_⟩
    have e : ([V.int a, V.int b, V.int c] : List V).set 2 (V.int (c + 1)) = [V.int a, V.int b, V.int (c + 1)] := rfl
    rw [e]
    have bp : (b + 7919 * (c + 1) + 104729).natAbs < 2 ^ 64 := by
      have h1 : (0 : Int) ≤ b + 7919 * (c + 1) + 104729 := by omega
      have h2 : b + 7919 * (c + 1) + 104729 < 2 ^ 64 := by omega
      omega
    have nx : Nx (· = p) G H G (upd H p (.lst [.int a, .int b, .int (c + 1)])) := Nx.wr w0 rfl gp
    have c7 : CMulW 7919 (c + 1) := mulW (k := 20) (j := 60) (by decide) (by omega) (by decide) (by decide)
    refine ⟨_, rfl, p, _, 1, _, rfl, rfl, hs, at31, _, rfl, p, _, 2, _, rfl, rfl, hs, at2, _, _, rfl, rfl, c7, _, _, rfl, rfl, _, _, rfl, rfl, _, _, rfl, rfl, ⟨by decide, by decide, bp⟩, .inl ⟨_, rfl, _, _, rfl, rfl, (show (0 : Int) < 2147483647 by decide), ?_⟩⟩
    have hx : ∀ z : Int, 0 ≤ z % 2147483647 := fun z => Int.emod_nonneg z (by decide)
    have hx2 : ∀ z : Int, z % 2147483647 < 2147483647 := fun z => Int.emod_lt_of_pos z (by decide)
    have c4 : ∀ z : Int, 0 ≤ z → z < 2147483647 → CMulW (z + (c + 1)) 40692 := fun z h1 h2 => mulW (k := 60) (j := 20) (by omega) (by decide) (by decide) (by decide)
    refine ⟨_, rfl, _, rfl, p, _, 2, _, rfl, rfl, hs, at2, _, _, rfl, rfl, _, _, rfl, rfl, c4 _ (hx _) (hx2 _), .inl ⟨_, rfl, _, _, rfl, rfl, (show (0 : Int) < 2147483629 by decide), _, rfl, _, _, rfl, rfl, mi, ?_⟩⟩
    obtain ⟨j, hj, ej⟩ := md (((b + 7919 * (c + 1) + 104729) ^ (5 : Int).toNat % 2147483647 + (c + 1)) * 40692 % 2147483629)
    have q := k j _ hj nx ⟨a, b, c + 1, upd_same, ha, hb, hb2, by omega, by omega⟩
    rw [← ej] at q
    exact q
theorem Nx.seqL {G H G' H' : Hp} {p a : Addr} {xs : List V} (n : Nx (· = p) G H G' H') (ne : a ≠ p) (h : SqL K H a xs) : SqL K H' a xs := by
  rcases h with (h | ⟨o, h⟩) | h
  · exact .inl (.inl (n.h _ _ ne h))
  · exact .inl (.inr ⟨o, n.h _ _ ne h⟩)
  · exact .inr h
/-- the pool at p, G what stands still beside it -/
structure PS (p : Addr) (G H : Hp) (n : Nat) : Prop where
  w : Same G H
  g : G p = none
  pl : PoolL H p n
theorem PS.ne {p : Addr} {G H : Hp} {n : Nat} (S : PS p G H n) : H p ≠ none := by
  obtain ⟨a, b, c, h, _⟩ := S.pl
  rw [h]
  simp
theorem PS.next {p : Addr} {G H G' H' : Hp} {n m : Nat} (S : PS p G H n) (nx : Nx (· = p) G H G' H') (h : PoolL H' p m) : PS p G' H' m := ⟨nx.w, nx.own p S.g S.ne, h⟩
theorem PS.mono {p : Addr} {G H : Hp} {n m : Nat} (S : PS p G H n) (l : n ≤ m) : PS p G H m := ⟨S.w, S.g, S.pl.mono l⟩
theorem PoolL.grow {p : Addr} {H H' : Hp} {n : Nat} (h : PoolL H p n) (e : Same H H') : PoolL H' p n := by
  obtain ⟨a, b, c, h1, h2⟩ := h
  exact ⟨a, b, c, e _ _ h1, h2⟩
theorem PoolL.upd {p q : Addr} {H : Hp} {n : Nat} {o : HO} (h : PoolL H p n) (ne : p ≠ q) : PoolL (L2.upd H q o) p n := by
  obtain ⟨a, b, c, h1, h2⟩ := h
  exact ⟨a, b, c, by rw [upd_ne ne]; exact h1, h2⟩
theorem PoolL.nf {p q : Addr} {H : Hp} {n : Nat} (h : PoolL H p n) (hq : H q = none) : p ≠ q := by
  obtain ⟨a, b, c, h1, h2⟩ := h
  exact ne_of_none h1 hq
/-- a new thing that stands still -/
theorem PS.new {p q : Addr} {G H : Hp} {n : Nat} {o : HO} (S : PS p G H n) (hq : H q = none) : PS p (L2.upd G q o) (L2.upd H q o) n := S.next (Nx.new S.w hq) (S.pl.upd (S.pl.nf hq))
abbrev NMAX : Nat := 1000000
def sp_l_one (K : PySem.W.Frag) : Sp := fun vs H Q _ => ∃ (p a : Addr) (xs : List V) (n : Nat) (G : Hp), vs = [.ref p, .ref a] ∧ SqL K G a xs ∧ 0 < xs.length ∧ xs.length ≤ 1000000 ∧ PS p G H n ∧ n ≤ NMAX ∧
  ∀ (j : Nat) x H', xs[j]? = some x → Nx (· = p) G H G H' → PoolL H' p (n + 1) → Q x H'
theorem ok_l_one (T : Tx K mg A) : DefOk P w K mg base 2 "_law_one" P_l_one (sp_l_one K) := by
  refine T.f_l_one.ok sc_l_one (fun vs H Q E ⟨_, _, _, _, _, e, _⟩ => by rw [e]; rfl) (fun f cdv AA outer s H vs Q E hr h => ⟨_, (pss_one (ps_ret (pe_ix ix_list (pv 1) (pe_cd (ok_l_take T) (lv hr) rfl (pa_cons (pv 0) (pa_cons (pe_callB call_len_seq rfl T.z_len PySem.boot_len (pa_cons (pv 1) pa_nil)) pa_nil))) (fun _ _ => rfl)))), ?_⟩)
  obtain ⟨p, a, xs, n, G, rfl, hs, l0, l1, S, hn, k⟩ := h
  refine ⟨_, rfl, _, rfl, _, rfl, a, xs, rfl, .inl (S.w.seq hs), p, xs.length, n, G, rfl, l0, l1, S.w, S.g, S.pl, by unfold NMAX at hn; omega, fun j H' hj nx hp' => ?_⟩
  have e : xs[j]? = some xs[j] := List.getElem?_eq_getElem hj
  exact ⟨a, xs, j, _, rfl, rfl, nx.w.seq hs, atI_nat e, k j _ H' e nx hp'⟩
def sp_l_mixed (K : PySem.W.Frag) : Sp := fun vs H Q _ => ∃ (p a : Addr) (ws : List Str) (n : Nat) (G : Hp), vs = [.ref p, .ref a] ∧ SqL K G a (ws.map V.str) ∧ ws.length ≤ 10 ∧ PS p G H n ∧ n ≤ NMAX ∧
  ∀ (us : List Str) L G' H', us.Perm ws → Nx (· = p) G H G' H' → SqL K G' L (us.map V.str) → PoolL H' p (n + 10) → Q (.ref L) H'
theorem seq_nat {j n : Nat} (h : j < n) : seqIndex? (j : Int) n = some j := by
  unfold seqIndex?
  have h0 : ¬ (j : Int) < 0 := by omega
  simp only [if_neg h0]
  rw [if_pos (by simp; omega), Int.toNat_natCast]
theorem map_eraseIdx {α β : Type} (f : α → β) : ∀ (l : List α) (k : Nat), (l.map f).eraseIdx k = (l.eraseIdx k).map f
  | [], _ => by simp
  | a :: l, 0 => rfl
  | a :: l, k + 1 => by
    show f a :: (l.map f).eraseIdx k = f a :: (l.eraseIdx k).map f
    rw [map_eraseIdx f l k]
theorem erase_perm {α : Type} : ∀ {l : List α} {k : Nat} {x : α}, l[k]? = some x → ([x] ++ l.eraseIdx k).Perm l
  | [], _, _, h => by simp at h
  | a :: l, 0, x, h => by cases h; exact List.Perm.refl _
  | a :: l, k + 1, x, h => (List.Perm.swap a x _).trans ((erase_perm (l := l) (k := k) (by simpa using h)).cons a)
theorem perm_step {ws left us : List Str} {k : Nat} {x : Str} (h : (us ++ left).Perm ws) (hk : left[k]? = some x) : ((us ++ [x]) ++ left.eraseIdx k).Perm ws := by
  refine List.Perm.trans ?_ h
  rw [List.append_assoc]
  refine List.Perm.append_left us ?_
  exact erase_perm hk
theorem ok_l_mixed (T : Tx K mg A) : DefOk P w K mg base 2 "_law_mixed" P_l_mixed (sp_l_mixed K) := by
  refine T.f_l_mixed.ok sc_l_mixed (fun vs H Q E ⟨_, _, _, _, _, e, _⟩ => by rw [e]; rfl) (fun f cdv AA outer s H vs Q E hr h => ⟨_, (pss_cons (ps_set (i := 2) sc_l_mixed.nd rfl (Or.inr rfl) (pe_callTy call_list_of rfl T.z_list (by decide +kernel) (pa_cons (pv 1) pa_nil))) (pss_one (ps_ret (pe_lc (own := [("_law_k", 3)]) rfl sc_l_mixed.nd (pi_range1 rfl T.z_range (pa_cons (pe_callB call_len_seq rfl T.z_len PySem.boot_len (pa_cons (pv 2) pa_nil)) pa_nil)) (blkOk_by (own := [("_law_k", 3)]) (N := N_l_mixed) (sc := defScope s_l_mixed) (by decide +kernel)) (fun _ _ _ _ _ => (pg_name (i := 3) sc_l_mixed.nd rfl (Or.inl rfl))) (fun _ _ _ _ _ => pts_nil) (fun _ _ _ _ _ => (pe_bmB PySem.F.plainAttrs_list PySem.F.slot_list_pop PySem.F.type_list_pop mt_popAt (pv 2) (pa_cons (pe_cd (ok_l_take T) (lv hr) rfl (pa_cons (pv 0) (pa_cons (pe_callB call_len_seqB rfl T.z_len PySem.boot_len (pa_cons (pv 2) pa_nil)) pa_nil))) pa_nil))))))), ?_⟩)
  obtain ⟨p, a, ws, n, G, rfl, hs, l1, ⟨w0, gp, hp⟩, hn, k⟩ := h
  unfold NMAX at hn
  refine ⟨_, rfl, a, _, rfl, .inl (w0.seq hs), fun q hq => ?_⟩
  obtain ⟨pa, pb, pc, hpe, hpool⟩ := hp
  have npq : p ≠ q := ne_of_none hpe hq
  refine ⟨_, rfl, q, _, rfl, .inl (SqL.of upd_same), _, rfl, by omega, by rw [List.length_map]; omega, fun L hL => ?_⟩
  rw [List.length_map]
  have nqL : q ≠ L := ne_of_none (show upd H q _ q = _ from upd_same) hL
  have npL : p ≠ L := ne_of_none (show upd H q (.lst (ws.map V.str)) p = _ by rw [upd_ne npq]; exact hpe) hL
  have hLH : H L = none := by rw [upd_ne nqL.symm] at hL; exact hL
  refine lc_it (walk_range (lo := 0) (n := ((ws.length : Nat) : Int).toNat)) (fun i H2 => ∃ us left, Nx (· = p) G H G H2 ∧ H2 q = some (.lst (left.map V.str)) ∧ H2 L = some (.lst (us.map V.str)) ∧ us.length = i ∧ left.length + i = ws.length ∧ (us ++ left).Perm ws ∧ PoolL H2 p (n + i))
    ⟨[], ws, ((Nx.refl w0).trans (Nx.newM w0 hq)).trans (Nx.newM (w0.new hq) hL), ?_, upd_same, rfl, rfl, List.Perm.refl _, ?_⟩ (fun _ _ _ _ => trivial) ?_ ?_
  · rw [upd_ne nqL]; exact upd_same
  · exact ⟨pa, pb, pc, by rw [upd_ne npL, upd_ne npq]; exact hpe, hpool⟩
  · rintro i z H2 H3 hi ⟨us, left, n2, hq2, hL2, hlu, hll, hpm, hp2⟩ ⟨rfl, rfl⟩
    have hi : i < ws.length := by simpa using hi
    have hlm : (left.map V.str).length = left.length := List.length_map ..
    refine ⟨rfl, _, rfl, .inl ⟨rfl, _, SqL.of hq2⟩, _, rfl, _, rfl, q, _, rfl, .inl (SqL.of hq2), p, (left.map V.str).length, n + i, G, rfl, by omega, by omega, n2.w, gp, hp2, by omega, fun j H5 hj nx hp5 => ?_⟩
    rw [hlm] at hj
    have e : left[j]? = some left[j] := List.getElem?_eq_getElem hj
    have em : (left.map V.str)[j]? = some (V.str left[j]) := by rw [List.getElem?_map, e]; rfl
    have hq5 := nx.h q _ npq.symm hq2
    have hL5 := nx.h L _ npL.symm hL2
    have sx : seqIndex? (j : Int) (left.map V.str).length = some j := seq_nat (by rw [hlm]; exact hj)
    have hL6 : upd H5 q (.lst ((left.map V.str).eraseIdx j)) L = some (.lst (us.map V.str)) := by rw [upd_ne nqL.symm]; exact hL5
    have n5 := n2.trans nx
    refine ⟨q, _, _, j, _, rfl, rfl, hq5, by omega, by omega, sx, em, us.map V.str, hL6, szl (by rw [List.length_map]; omega), us ++ [left[j]], left.eraseIdx j, ?_, ?_, ?_, ?_, ?_, perm_step hpm e, ?_⟩
    · exact (n5.wrL hq (w0.free hq)).wrL hLH (w0.free hLH)
    · rw [upd_ne nqL, upd_same, map_eraseIdx]
    · rw [upd_same, List.map_append]
      rfl
    · simp [hlu]
    · rw [List.length_eraseIdx_of_lt hj]
      omega
    · obtain ⟨a', b', c', q1, q2⟩ := hp5
      exact ⟨a', b', c', by rw [upd_ne npL, upd_ne npq]; exact q1, q2⟩
  · rintro H2 ⟨us, left, n2, hq2, hL2, hlu, hll, hpm, hp2⟩
    have e : ((ws.length : Nat) : Int).toNat = ws.length := by simp
    rw [e] at hlu hll hp2
    have l0 : left = [] := List.eq_nil_of_length_eq_zero (by omega)
    subst l0
    rw [List.append_nil] at hpm
    exact k us L _ _ hpm (n2.still hLH hL2 w0) (SqL.of upd_same) (hp2.mono (by omega))
end K25

/-! ## L2 -/
set_option Elab.async false
set_option linter.all false
set_option maxRecDepth 100000
set_option maxHeartbeats 8000000
/-! L2: the law's fractions. -/
set_option exponentiation.threshold 100000
namespace K25
open PySem L2
open PySem.Spec PyProof.Rows
variable {P : Program} {w : World} {K : PySem.W.Frag} {mg : Str → Option Value} {base : Heap} {A : Ad}
theorem ok_l_lowest (T : Tx K mg A) : DefOk P w K mg base 2 "_law_lowest" P_l_lowest sp_lowest := by
  refine T.f_l_lowest.ok sc_l_lowest (fun vs H Q E ⟨a, b, _, e, _⟩ => by rw [e]; rfl) (fun f cdv AA outer s H vs Q E hr h => ⟨_, (pss_cons (ps_par (i := 2) (j := 3) rfl sc_l_lowest.nd rfl rfl (by decide) rfl rfl (pa_cons (pe_callB call_abs rfl T.z_abs (by decide +kernel) (pa_cons (pv 0) pa_nil)) (pa_cons (pv 1) pa_nil)) (by rfl)) (pss_cons (ps_while PassesOwn.never (pt_cmpR op_gt (pv 3) pe_int (nomark _)) (pss_one (ps_par (i := 2) (j := 3) rfl sc_l_lowest.nd rfl rfl (by decide) rfl rfl (pa_cons (pv 3) (pa_cons (pe_op op_mod (pv 2) (pv 3)) pa_nil)) (by rfl)))) (pss_one (ps_ret (pe_tup (pa_cons (pe_op op_fdivW (pv 0) (pv 2)) (pa_cons (pe_op op_fdivW (pv 1) (pv 2)) pa_nil))))))), ?_⟩)
  obtain ⟨t, b, n, rfl, hB, hn, k⟩ := h
  have hb0 : (0 : Int) < b := hB.1
  refine ⟨_, rfl, t, rfl, _, rfl, _, _, rfl, ?_⟩
  refine while_by (fun σ H' => H' = H ∧ ∃ x y : Int, σ = [some (.int t), some (.int b), some (.int x), some (.int y)] ∧ 0 ≤ x ∧ 0 ≤ y ∧ Int.gcd x y = Int.gcd t b) (fun σ _ => match σ with | [_, _, _, some (.int y)] => y.toNat | _ => 0) ⟨rfl, _, b, rfl, ?_, by omega, gcd_abs t b⟩ ?_ ?_
  · show 0 ≤ if t < 0 then -t else t
    split <;> omega
  · rintro σ H' ⟨rfl, x, y, rfl, hx, hy, hg⟩
    refine ⟨_, rfl, _, _, rfl, rfl, _, rfl, ?_⟩
    by_cases z : 0 < y
    · refine iteT' (decide_eq_true z) ⟨_, rfl, _, rfl, _, rfl, _, _, rfl, rfl, z, _, _, rfl, ⟨rfl, y, x % y, rfl, hy, Int.emod_nonneg _ (by omega), ?_⟩, ?_⟩
      · rw [gcd_step x y hx z]; exact hg
      · show (x % y).toNat < y.toNat
        have := Int.emod_lt_of_pos x z
        have := Int.emod_nonneg x (show y ≠ 0 by omega)
        omega
    · have y0 : y = 0 := by omega
      subst y0
      have e : x = ((Int.gcd t b : Nat) : Int) := by rw [← hg, Int.gcd_zero_right]; omega
      subst e
      exact iteF' (decide_eq_false z) ⟨_, rfl, _, rfl, _, _, rfl, rfl, (gcd_div hB hn).1, _, rfl, _, rfl, _, _, rfl, rfl, (gcd_div hB hn).2, s2, fun p hp => k p hp⟩
  · rintro σ H' Q1 Q2 hq ⟨v, h1, x, y, h2, h3, k, h5, h6⟩
    exact ⟨v, h1, x, y, h2, h3, k, h5, hq _ _ h6⟩
theorem ok_l_less (T : Tx K mg A) : DefOk P w K mg base 1 "_law_less" P_l_less (sp_is_less K) := by
  refine T.f_l_less.ok sc_l_less (fun vs H Q E ⟨a, b, _, _, _, e, _⟩ => by rw [e]; rfl) (fun f cdv AA outer s H vs Q E hr h => ⟨_, (pss_one (ps_ret (pe_cmpR op_lt (pe_op op_mulW (pe_ix ix_tup (pv 0) pe_int (fun _ _ => rfl)) (pe_ix ix_tup (pv 1) pe_int (fun _ _ => rfl))) (pe_op op_mulW (pe_ix ix_tup (pv 1) pe_int (fun _ _ => rfl)) (pe_ix ix_tup (pv 0) pe_int (fun _ _ => rfl))) (nomark _)))), ?_⟩)
  obtain ⟨u, v, x, y, n, rfl, ⟨a, rfl, hx⟩, ⟨b, rfl, hy⟩, bx, bY, hn, k⟩ := h
  refine ⟨_, rfl, a, _, 0, _, rfl, rfl, hx, at0, _, rfl, b, _, 1, _, rfl, rfl, hy, at1, _, _, rfl, rfl, mulW bx.2.1 bY.2.2 (by omega) (by omega), ?_⟩
  exact ⟨_, rfl, b, _, 0, _, rfl, rfl, hy, at0, _, rfl, a, _, 1, _, rfl, rfl, hx, at1, _, _, rfl, rfl, mulW bY.2.1 bx.2.2 (by omega) (by omega), _, _, rfl, rfl, k⟩
theorem ok_l_minus (T : Tx K mg A) : DefOk P w K mg base 3 "_law_minus" P_l_minus (sp_minus K) := by
  refine T.f_l_minus.ok sc_l_minus (fun vs H Q E ⟨a, b, _, _, _, e, _⟩ => by rw [e]; rfl) (fun f cdv AA outer s H vs Q E hr h => ⟨_, (pss_one (ps_ret (pe_cd (ok_l_lowest T) (lv hr) rfl (pa_cons (pe_op op_sub (pe_op op_mulW (pe_ix ix_tup (pv 0) pe_int (fun _ _ => rfl)) (pe_ix ix_tup (pv 1) pe_int (fun _ _ => rfl))) (pe_op op_mulW (pe_ix ix_tup (pv 1) pe_int (fun _ _ => rfl)) (pe_ix ix_tup (pv 0) pe_int (fun _ _ => rfl)))) (pa_cons (pe_op op_mulW (pe_ix ix_tup (pv 0) pe_int (fun _ _ => rfl)) (pe_ix ix_tup (pv 1) pe_int (fun _ _ => rfl))) pa_nil))))), ?_⟩)
  obtain ⟨u, v, x, y, n, rfl, ⟨a, rfl, hx⟩, ⟨b, rfl, hy⟩, bx, bY, hn, k⟩ := h
  refine ⟨_, rfl, a, _, 0, _, rfl, rfl, hx, at0, _, rfl, b, _, 1, _, rfl, rfl, hy, at1, _, _, rfl, rfl, mulW bx.2.1 bY.2.2 (by omega) (by omega), ?_⟩
  refine ⟨_, rfl, b, _, 0, _, rfl, rfl, hy, at0, _, rfl, a, _, 1, _, rfl, rfl, hx, at1, _, _, rfl, rfl, mulW bY.2.1 bx.2.2 (by omega) (by omega), _, _, rfl, rfl, ?_⟩
  exact ⟨_, rfl, a, _, 1, _, rfl, rfl, hx, at1, _, rfl, b, _, 1, _, rfl, rfl, hy, at1, _, _, rfl, rfl, mulW bx.2.2 bY.2.2 (by omega) (by omega), _, _, _, rfl, minus_arg bx bY, by omega, fun p hp => k p hp⟩
def sp_l_plus (K : PySem.W.Frag) : Sp := fun vs H Q _ => ∃ (u v : V) (x y : Fr) (k : Nat), vs = [u, v] ∧ FrA K H u x ∧ FrA K H v y ∧ FrB k x ∧ FrB k y ∧ k ≤ 3900 ∧ ∀ p, H p = none → Q (.ref p) (upd H p (tupF (plusF x y)))
theorem ok_l_plus (T : Tx K mg A) : DefOk P w K mg base 3 "_law_plus" P_l_plus (sp_l_plus K) := by
  refine T.f_l_plus.ok sc_l_plus (fun vs H Q E ⟨a, b, _, _, _, e, _⟩ => by rw [e]; rfl) (fun f cdv AA outer s H vs Q E hr h => ⟨_, (pss_one (ps_ret (pe_cd (ok_l_lowest T) (lv hr) rfl (pa_cons (pe_op op_add (pe_op op_mulW (pe_ix ix_tup (pv 0) pe_int (fun _ _ => rfl)) (pe_ix ix_tup (pv 1) pe_int (fun _ _ => rfl))) (pe_op op_mulW (pe_ix ix_tup (pv 1) pe_int (fun _ _ => rfl)) (pe_ix ix_tup (pv 0) pe_int (fun _ _ => rfl)))) (pa_cons (pe_op op_mulW (pe_ix ix_tup (pv 0) pe_int (fun _ _ => rfl)) (pe_ix ix_tup (pv 1) pe_int (fun _ _ => rfl))) pa_nil))))), ?_⟩)
  obtain ⟨u, v, x, y, n, rfl, ⟨a, rfl, hx⟩, ⟨b, rfl, hy⟩, bx, bY, hn, k⟩ := h
  refine ⟨_, rfl, a, _, 0, _, rfl, rfl, hx, at0, _, rfl, b, _, 1, _, rfl, rfl, hy, at1, _, _, rfl, rfl, mulW bx.2.1 bY.2.2 (by omega) (by omega), ?_⟩
  refine ⟨_, rfl, b, _, 0, _, rfl, rfl, hy, at0, _, rfl, a, _, 1, _, rfl, rfl, hx, at1, _, _, rfl, rfl, mulW bY.2.1 bx.2.2 (by omega) (by omega), _, _, rfl, rfl, ?_⟩
  exact ⟨_, rfl, a, _, 1, _, rfl, rfl, hx, at1, _, rfl, b, _, 1, _, rfl, rfl, hy, at1, _, _, rfl, rfl, mulW bx.2.2 bY.2.2 (by omega) (by omega), _, _, _, rfl, plus_arg bx bY, by omega, fun p hp => k p hp⟩
def sp_l_keeps (K : PySem.W.Frag) : Sp := fun vs H Q _ => ∃ (v : V) (x : Fr) (w : Str) (n : Int) (k : Nat), vs = [v, .str w, .int n] ∧ FrA K H v x ∧ FrB k x ∧ k ≤ 3900 ∧ n.natAbs < 2 ^ 100 ∧ (LoW w ∨ UpW w) ∧ ∀ H', Same H H' → Q (.bl (keepsW x w n)) H'
theorem ok_l_keeps (T : Tx K mg A) : DefOk P w K mg base 1 "_law_keeps" P_l_keeps (sp_l_keeps K) := by
  refine T.f_l_keeps.ok sc_l_keeps (fun vs H Q E ⟨_, _, _, _, _, e, _⟩ => by rw [e]; rfl) (fun f cdv AA outer s H vs Q E hr h => ⟨_, (pss_cons (ps_par (i := 3) (j := 4) rfl sc_l_keeps.nd rfl rfl (by decide) rfl rfl (pa_cons (pe_ix ix_tup (pv 0) pe_int (fun _ _ => rfl)) (pa_cons (pe_op op_mulW (pv 2) (pe_ix ix_tup (pv 0) pe_int (fun _ _ => rfl))) pa_nil)) (by rfl)) (pss_cons (ps_if (pt_cmpR op_in_seq (pv 1) (pe_tup (pa_cons pe_str (pa_cons pe_str pa_nil))) (by rfl)) (pss_one (ps_ret (pe_or (pe_cmpR op_lt (pv 3) (pv 4) (nomark _)) (pe_one (pe_and (pe_cmpR op_eq (pv 1) pe_str (nomark _)) (pe_one (pe_cmpR op_eq (pv 3) (pv 4) (nomark _)))))))) pss_nil) (pss_one (ps_ret (pe_or (pe_cmpR op_gt (pv 3) (pv 4) (nomark _)) (pe_one (pe_and (pe_cmpR op_eq (pv 1) pe_str (nomark _)) (pe_one (pe_cmpR op_eq (pv 3) (pv 4) (nomark _)))))))))), ?_⟩)
  obtain ⟨v, x, z, n, j, rfl, ⟨a, rfl, hx⟩, hB, hj, hn, hw, k⟩ := h
  have cm : CMulW n x.2 := mulW hn hB.2.2 (by omega) (by omega)
  refine ⟨_, rfl, a, _, 0, _, rfl, rfl, hx, at0, _, rfl, _, rfl, a, _, 1, _, rfl, rfl, hx, at1, _, _, rfl, rfl, cm, _, _, rfl, ?_⟩
  refine ⟨_, rfl, s2, fun t ht => ?_⟩
  have e1 : Same H (upd H t (.tup [.str "upto", .str "below"])) := Same.new0 ht
  have q := k _ e1
  refine ⟨t, _, rfl, .inr (SqT.of upd_same), rfl, flat_strs ["upto", "below"], _, rfl, ?_⟩
  have ein : inV (.str z) (([("upto" : Str), "below"]).map V.str) = decide (z ∈ ([("upto" : Str), "below"])) := inV_str
  unfold keepsW keepsU at q
  rcases hw with (rfl | rfl) | (rfl | rfl)
  · -- from
    refine iteF' (by show inV (.str "from") (([("upto" : Str), "below"]).map V.str) = false; rw [ein]; exact decide_eq_false (by decide +kernel)) ?_
    rw [if_pos rfl] at q
    refine ⟨_, rfl, _, rfl, _, _, rfl, rfl, _, rfl, ?_⟩
    by_cases h1 : n * x.2 < x.1
    · refine iteT' (decide_eq_true h1) ?_
      have e : leF (n, 1) x = true := decide_eq_true (by show n * x.2 ≤ x.1 * 1; omega)
      rw [e] at q
      exact q
    · refine iteF' (decide_eq_false h1) ⟨_, rfl, rfl, _, rfl, iteT' (decide_eq_true rfl) ⟨_, rfl, _, rfl, rfl, ?_⟩⟩
      have e : leF (n, 1) x = decide (V.int x.1 = V.int (n * x.2)) := by
        rw [dec_int]
        show decide (n * x.2 ≤ x.1 * 1) = (x.1 == n * x.2)
        rw [Bool.eq_iff_iff]
        simp
        omega
      rw [e] at q
      exact q
  · -- above
    refine iteF' (by show inV (.str "above") (([("upto" : Str), "below"]).map V.str) = false; rw [ein]; exact decide_eq_false (by decide +kernel)) ?_
    rw [if_neg (by decide), if_pos rfl] at q
    refine ⟨_, rfl, _, rfl, _, _, rfl, rfl, _, rfl, ?_⟩
    by_cases h1 : n * x.2 < x.1
    · refine iteT' (decide_eq_true h1) ?_
      have e : ltF (n, 1) x = true := decide_eq_true (by show n * x.2 < x.1 * 1; omega)
      rw [e] at q
      exact q
    · refine iteF' (decide_eq_false h1) ⟨_, rfl, rfl, _, rfl, iteF' (str_ne (by decide)) ?_⟩
      have e : ltF (n, 1) x = false := decide_eq_false (by show ¬ n * x.2 < x.1 * 1; omega)
      rw [e] at q
      show Q (.bl (decide (V.str "above" = V.str "from"))) _
      rw [str_ne (by decide)]
      exact q
  · -- below
    refine iteT' (by show inV (.str "below") (([("upto" : Str), "below"]).map V.str) = true; rw [ein]; exact decide_eq_true (by decide +kernel)) ?_
    rw [if_neg (by decide), if_neg (by decide), if_neg (by decide)] at q
    refine ⟨_, rfl, _, rfl, _, _, rfl, rfl, _, rfl, ?_⟩
    by_cases h1 : x.1 < n * x.2
    · refine iteT' (decide_eq_true h1) ?_
      have e : ltF x (n, 1) = true := decide_eq_true (by show x.1 * 1 < n * x.2; omega)
      rw [e] at q
      exact q
    · refine iteF' (decide_eq_false h1) ⟨_, rfl, rfl, _, rfl, iteF' (str_ne (by decide)) ?_⟩
      have e : ltF x (n, 1) = false := decide_eq_false (by show ¬ x.1 * 1 < n * x.2; omega)
      rw [e] at q
      show Q (.bl (decide (V.str "below" = V.str "upto"))) _
      rw [str_ne (by decide)]
      exact q
  · -- upto
    refine iteT' (by show inV (.str "upto") (([("upto" : Str), "below"]).map V.str) = true; rw [ein]; exact decide_eq_true (by decide +kernel)) ?_
    rw [if_neg (by decide), if_neg (by decide), if_pos rfl] at q
    refine ⟨_, rfl, _, rfl, _, _, rfl, rfl, _, rfl, ?_⟩
    by_cases h1 : x.1 < n * x.2
    · refine iteT' (decide_eq_true h1) ?_
      have e : leF x (n, 1) = true := decide_eq_true (by show x.1 * 1 ≤ n * x.2; omega)
      rw [e] at q
      exact q
    · refine iteF' (decide_eq_false h1) ⟨_, rfl, rfl, _, rfl, iteT' (decide_eq_true rfl) ⟨_, rfl, _, rfl, rfl, ?_⟩⟩
      have e : leF x (n, 1) = decide (V.int x.1 = V.int (n * x.2)) := by
        rw [dec_int]
        show decide (x.1 * 1 ≤ n * x.2) = (x.1 == n * x.2)
        rw [Bool.eq_iff_iff]
        simp
        omega
      rw [e] at q
      exact q
end K25

/-! ## L3 -/
set_option Elab.async false
set_option linter.all false
set_option maxRecDepth 100000
set_option maxHeartbeats 8000000
/-! L3: cuts and arrows drawn. -/
set_option exponentiation.threshold 100000
namespace K25
open PySem L2
open PySem.Spec PyProof.Rows
variable {P : Program} {w : World} {K : PySem.W.Frag} {mg : Str → Option Value} {base : Heap} {A : Ad}
theorem s0 : 0 ≤ sizeLine := by decide
theorem s4 : 4 ≤ sizeLine := by decide
theorem s5 : 5 ≤ sizeLine := by decide
/-- one of texts -/
theorem get_str {ws : List Str} {j : Nat} {x : V} (h : (ws.map V.str)[j]? = some x) : ∃ c, c ∈ ws ∧ x = .str c := by
  obtain ⟨c, hc, rfl⟩ := get_map h
  exact ⟨c, List.mem_of_getElem? hc, rfl⟩
def sp_l_cut (K : PySem.W.Frag) : Sp := fun vs H Q _ => ∃ (p a : Addr) (clocks : List Str) (n : Nat) (G : Hp), vs = [.ref p, .ref a] ∧ SqL K G a (clocks.map V.str) ∧ 0 < clocks.length ∧ clocks.length ≤ 10 ∧ PS p G H n ∧ n + 3 ≤ NMAX ∧
  ∀ (c : Cut) G' H' v, CutOk clocks c → Nx (· = p) G H G' H' → Rp K G' (cutD c) v → PoolL H' p (n + 3) → Q v H'
theorem ok_l_cut (T : Tx K mg A) : DefOk P w K mg base 3 "_law_cut" P_l_cut (sp_l_cut K) := by
  refine T.f_l_cut.ok sc_l_cut (fun vs H Q E ⟨_, _, _, _, _, e, _⟩ => by rw [e]; rfl) (fun f cdv AA outer s H vs Q E hr h => ⟨_, (pss_one (ps_ret (pe_tup (pa_cons (pe_cd (ok_l_one T) (lv hr) rfl (pa_cons (pv 0) (pa_cons (pv 1) pa_nil))) (pa_cons (pe_cd (ok_l_one T) (lv hr) rfl (pa_cons (pv 0) (pa_cons (pe_lst (pa_cons pe_str (pa_cons pe_str (pa_cons pe_str (pa_cons pe_str pa_nil))))) pa_nil))) (pa_cons (pe_cd (ok_l_take T) (lv hr) rfl (pa_cons (pv 0) (pa_cons pe_int pa_nil))) pa_nil)))))), ?_⟩)
  obtain ⟨p, a, clocks, n, G, rfl, hs, l0, l1, S, hn, k⟩ := h
  refine ⟨_, rfl, _, rfl, p, a, _, n, G, rfl, hs, by rw [List.length_map]; omega, by rw [List.length_map]; omega, S, by omega, fun j x H1 hx n1 hp1 => ?_⟩
  obtain ⟨c, hc, rfl⟩ := get_str hx
  have S1 := S.next n1 hp1
  refine ⟨_, rfl, s4, fun q hq => ?_⟩
  have S2 := S1.new (o := .lst [.str "from", .str "above", .str "upto", .str "below"]) hq
  have n2 := n1.trans (Nx.new (o := .lst [.str "from", .str "above", .str "upto", .str "below"]) S1.w hq)
  refine ⟨p, q, _, n + 1, _, rfl, SqL.of upd_same, (by show 0 < 4; decide), (by show 4 ≤ 1000000; decide), S2, by omega, fun j2 x2 H3 hx2 n3 hp3 => ?_⟩
  obtain ⟨u, hu, rfl⟩ := get_str (ws := ["from", "above", "upto", "below"]) hx2
  have S3 := S2.next n3 hp3
  refine ⟨_, rfl, p, 5, n + 1 + 1, _, rfl, by decide, by decide, S3.w, S3.g, S3.pl, by unfold NMAX at hn; omega, fun m H4 hm n4 hp4 => ⟨s3, fun t ht => ?_⟩⟩
  have n5 := (n2.trans n3).trans n4
  have hu' : LoW u ∨ UpW u := by
    simp only [List.mem_cons, List.not_mem_nil, or_false] at hu
    rcases hu with rfl | rfl | rfl | rfl
    · exact .inl (.inl rfl)
    · exact .inl (.inr rfl)
    · exact .inr (.inr rfl)
    · exact .inr (.inl rfl)
  refine k (c, u, (m : Int)) _ _ _ ⟨hc, hu', by show (0 : Int) ≤ (m : Int); omega, by show (m : Int) < 5; omega⟩ (n5.trans (Nx.new n5.w ht)) ⟨t, _, rfl, SqT.of upd_same, RpA.cons rfl (RpA.cons rfl (RpA.cons rfl RpA.nil))⟩ ?_
  exact (hp4.upd (hp4.nf ht)).mono (by omega)
theorem sub_take {us sub : List Str} {i : Nat} {c : Str} (h : sub.Sublist (us.take i)) (hc : us[i]? = some c) : sub.Sublist (us.take (i + 1)) ∧ (sub ++ [c]).Sublist (us.take (i + 1)) := by
  rw [take_succ' hc]
  exact ⟨h.trans (List.sublist_append_left _ _), h.append (List.Sublist.refl _)⟩
/-- the signals that may be drawn -/
def sigsV : List V := [.str "s", .str "t", .non]
theorem good1 {c : Str} (h : c = "s" ∨ c = "t") : GoodName c := by
  rcases h with rfl | rfl <;> exact ⟨by decide +kernel, by decide +kernel, by decide +kernel⟩
def sp_l_arrow (K : PySem.W.Frag) : Sp := fun vs H Q _ => ∃ (p c l g : Addr) (clocks places : List Str) (n : Nat) (G : Hp), vs = [.ref p, .ref c, .ref l, .ref g] ∧ SqL K G c (clocks.map V.str) ∧ SqL K G l (places.map V.str) ∧ SqL K G g sigsV ∧
  clocks.length ≤ 3 ∧ clocks.Nodup ∧ 0 < places.length ∧ places.length ≤ 10 ∧ PS p G H n ∧ n + 40 ≤ NMAX ∧
  ∀ (a : Arr) G' H' v, ArrOk clocks places a → Nx (· = p) G H G' H' → Rp K G' (arrD a) v → PoolL H' p (n + 40) → Q v H'
theorem ok_l_arrow (T : Tx K mg A) : DefOk P w K mg base 4 "_law_arrow" P_l_arrow (sp_l_arrow K) := by
  refine T.f_l_arrow.ok sc_l_arrow (fun vs H Q E ⟨_, _, _, _, _, _, _, _, e, _⟩ => by rw [e]; rfl) (fun f cdv AA outer s H vs Q E hr h => ⟨_, (pss_cons (ps_setLc (i := 4) rfl sc_l_arrow.nd rfl rfl (sw_true rfl rfl rfl (by decide +kernel)) (own := [("_law_k", 6)]) (pi_range1 rfl T.z_range (pa_cons (pe_ifExp (pt_cmpR (op_neE hr) (pv 1) (pe_lst pa_nil) (nomark _)) (pe_cd (ok_l_one T) (lv hr) rfl (pa_cons (pv 0) (pa_cons (pe_lst (pa_cons pe_int (pa_cons pe_int (pa_cons pe_int (pa_cons pe_int pa_nil))))) pa_nil))) pe_int) pa_nil)) (blkOk_by (own := [("_law_k", 6)]) (N := N_l_arrow) (sc := defScope s_l_arrow) (by decide +kernel)) (fun _ _ _ _ _ => (pg_name (i := 6) sc_l_arrow.nd rfl (Or.inl rfl))) (fun _ _ _ _ _ => pts_nil) (fun _ _ _ _ _ => (pe_cd (ok_l_cut T) (lv hr) rfl (pa_cons (pv 0) (pa_cons (pv 1) pa_nil))))) (pss_cons (ps_setLc (i := 5) rfl sc_l_arrow.nd rfl rfl (sw_true rfl rfl rfl (by decide +kernel)) (own := [("_law_clock", 7)]) (pi_list (pe_cd (ok_l_mixed T) (lv hr) rfl (pa_cons (pv 0) (pa_cons (pv 1) pa_nil)))) (blkOk_by (own := [("_law_clock", 7)]) (N := N_l_arrow) (sc := defScope s_l_arrow) (by decide +kernel)) (fun _ _ _ _ _ => (pg_name (i := 7) sc_l_arrow.nd rfl (Or.inl rfl))) (fun _ _ _ _ _ => (pts_one (pt_cmpR op_lt (pe_cd (ok_l_take T) (lv hr) rfl (pa_cons (pv 0) (pa_cons pe_int pa_nil))) pe_int (nomark _)))) (fun _ _ _ _ _ => (pv 7))) (pss_one (ps_ret (pe_tup (pa_cons (pe_cd (ok_l_one T) (lv hr) rfl (pa_cons (pv 0) (pa_cons (pv 2) pa_nil))) (pa_cons (pe_cd (ok_l_one T) (lv hr) rfl (pa_cons (pv 0) (pa_cons (pv 3) pa_nil))) (pa_cons (pv 4) (pa_cons (pv 5) (pa_cons (pe_cd (ok_l_one T) (lv hr) rfl (pa_cons (pv 0) (pa_cons (pv 2) pa_nil))) pa_nil)))))))))), ?_⟩)
  obtain ⟨p, c, l, g, clocks, places, n, G, rfl, hc, hl, hg, lc, nc, l0, l1, S, hn, k⟩ := h
  -- how many cuts
  refine split_set (fun v H' => ∃ (cs : List Cut) (G' : Hp), Nx (· = p) G H G' H' ∧ Rp K G' (.lst (cs.map cutD)) v ∧ PoolL H' p (n + 7) ∧ cs.length ≤ 2 ∧ ∀ x ∈ cs, CutOk clocks x) (fun Qt hq => ?_) (fun v0 H1 ⟨cs, G1, n1, r1, hp1, lcs, hcs⟩ => ?_)
  · have main : ∀ (j : Nat) (G1 H1 : Hp), Nx (· = p) G H G1 H1 → PoolL H1 p (n + 1) → j ≤ 2 → (0 < j → 0 < clocks.length) → ∃ j' : Int, ([V.int (j : Nat)] : List V) = [.int j'] ∧ -(2 ^ 62) ≤ j' ∧ j' < 2 ^ 62 ∧ ∀ D, H1 D = none → ∃ W : Nat → Nat → Hp → Prop, (∃ m, W 0 m (upd H1 D (.lst []))) ∧ ∀ i m H, W i m H →
      ((Itr 0 j'.toNat).stop i H ∧ Qt (.ref D) H) ∨ ((Itr 0 j'.toNat).go i H ∧ ∃ Nx : Hp → Prop, (∀ H', Nx H' → ∃ m', m' < m ∧ W (i + 1) m' H') ∧ ∀ x H', (Itr 0 j'.toNat).yld i H x H' → gName 6 x (wipe [some (.ref p), some (.ref c), some (.ref l), some (.ref g), none, none, none, none] [6]) H' fun σ2 H2 => wipe σ2 [6] = wipe [some (.ref p), some (.ref c), some (.ref l), some (.ref g), none, none, none, none] [6] ∧ tYes σ2 H2 fun b H3 =>
        if b = true then tCall (sp_l_cut K) [] E0 (tCons (tVar 0) (tCons (tVar 1) tNil)) σ2 H3 fun y H4 => ∃ acc, H4 D = some (.lst acc) ∧ acc.length < sizeLine ∧ Nx (upd H4 D (.lst (acc ++ [y]))) else Nx H3) := by
      intro j G1 H1 n1 hp1 hj hj0
      have S1 := S.next n1 hp1
      refine ⟨(j : Int), rfl, by omega, by omega, fun D hD => ?_⟩
      have npD : p ≠ D := hp1.nf hD
      refine lc_map (G := G1) (walk_range (lo := 0) (n := (j : Int).toNat)) (· = p) (fun i acc G' H' => ∃ cs : List Cut, RpA K G' (cs.map cutD) acc ∧ PoolL H' p (n + 1 + 3 * i) ∧ cs.length = i ∧ ∀ x ∈ cs, CutOk clocks x) S1.w hD (by omega) npD.symm ⟨[], rfl, hp1.upd npD, rfl, fun x hx => by simp at hx⟩ (fun _ _ _ _ _ _ => trivial) ?_ ?_
      · rintro i acc G' H2 x H3 Qc hi la n2 hD2 gD ⟨cs, hr1, hp2, lcs, hcs⟩ ⟨rfl, rfl⟩ q
        have hi : i < j := by omega
        have S2 := S1.next n2 hp2
        refine ⟨rfl, _, rfl, _, rfl, p, c, clocks, _, G', rfl, (n1.g.trans n2.g).seq hc, hj0 (by omega), by omega, S2, by omega, fun cc G5 H5 v hcc n5 r5 hp5 => q v G5 H5 n5 ⟨cs ++ [cc], ?_, ?_, by simp [lcs], ?_⟩⟩
        · rw [List.map_append]
          exact RpA.snoc (hr1.mono n5.g) r5
        · exact (hp5.upd npD).mono (by omega)
        · intro x hx
          rcases List.mem_append.mp hx with h | h
          · exact hcs x h
          · rw [List.mem_singleton.mp h]; exact hcc
      · rintro acc G' H2 n2 la e2 hD2 ⟨cs, hr1, hp2, lcs, hcs⟩
        exact hq _ _ ⟨cs, _, n1.trans n2, ⟨D, acc, rfl, SqL.of upd_same, hr1.mono e2⟩, hp2.mono (by omega), by omega, hcs⟩
    refine ⟨_, rfl, s0, fun q hq' => ?_⟩
    have S1 := S.new (o := .lst []) hq'
    have n1 := Nx.new (M := (· = p)) (o := .lst []) S.w hq'
    refine ⟨c, q, clocks.map V.str, rfl, rfl, S1.w.seq (n1.g.seq hc), S1.w.seq (SqL.of upd_same), _, rfl, ?_⟩
    cases hcl : clocks with
    | nil =>
      subst hcl
      exact iteF' rfl (main 0 _ _ n1 (S1.pl.mono (by omega)) (by omega) (fun h => by omega))
    | cons c0 r0 =>
      rw [← hcl]
      have h0 : 0 < clocks.length := by rw [hcl]; simp
      refine iteT' (by rw [hcl]; rfl) ⟨_, rfl, s4, fun q2 hq2 => ?_⟩
      have S2 := S1.new (o := .lst [.int 0, .int 1, .int 1, .int 2]) hq2
      have n2 := n1.trans (Nx.new (o := .lst [.int 0, .int 1, .int 1, .int 2]) S1.w hq2)
      refine ⟨p, q2, _, n, _, rfl, SqL.of upd_same, (by show 0 < 4; decide), (by show 4 ≤ 1000000; decide), S2, by omega, fun j x H3 hx n3 hp3 => ?_⟩
      have n4 := n2.trans n3
      match j, hx with
      | 0, hx => cases hx; exact main 0 _ _ n4 hp3 (by omega) (fun h => by omega)
      | 1, hx => cases hx; exact main 1 _ _ n4 hp3 (by omega) (fun _ => h0)
      | 2, hx => cases hx; exact main 1 _ _ n4 hp3 (by omega) (fun _ => h0)
      | 3, hx => cases hx; exact main 2 _ _ n4 hp3 (by omega) (fun _ => h0)
      | j + 4, hx => simp at hx
  have S1 := S.next n1 hp1
  -- what is begun
  refine ⟨_, rfl, _, rfl, p, c, clocks, _, G1, rfl, n1.g.seq hc, by omega, S1, by omega, fun us L G2 H2 pm n2 hL hp2 => ?_⟩
  have S2 := S1.next n2 hp2
  have lus : us.length = clocks.length := pm.length_eq
  refine ⟨L, rfl, ⟨_, S2.w.seq hL⟩, fun D hD => ?_⟩
  have npD : p ≠ D := hp2.nf hD
  refine lc_it (walk_list (xs := us.map V.str)) (fun i H' => ∃ sub : List Str, Nx (· = p) G2 H2 G2 H' ∧ H' D = some (.lst (sub.map V.str)) ∧ sub.Sublist (us.take i) ∧ PoolL H' p (n + 17 + i)) ⟨[], Nx.newM S2.w hD, upd_same, List.nil_sublist _, (hp2.upd npD).mono (by omega)⟩ (fun i H' _ ⟨_, n3, _⟩ => n3.w.seq hL) ?_ ?_
  · rintro i x H3 H4 hi ⟨sub, n3, hD3, hsub, hp3⟩ ⟨rfl, hx⟩
    obtain ⟨u, hu, rfl⟩ := get_map hx
    have hi : i < us.length := by rw [List.length_map] at hi; exact hi
    have lsub : sub.length ≤ i := by
      have h1 := hsub.length_le
      rw [List.length_take] at h1
      omega
    refine ⟨rfl, _, rfl, p, 5, _, G2, rfl, by decide, by decide, n3.w, S2.g, hp3, by unfold NMAX at hn; omega, fun j H5 hj n5 hp5 => ⟨_, _, rfl, rfl, _, rfl, ?_⟩⟩
    have n6 := n3.trans n5
    have hD5 := n5.h D _ npD.symm hD3
    by_cases hj2 : (j : Int) < 2
    · refine iteT' (decide_eq_true hj2) ⟨_, rfl, sub.map V.str, hD5, szl (by rw [List.length_map]; omega), sub ++ [u], n6.wrL hD (S2.w.free hD), ?_, (sub_take hsub hu).2, (hp5.upd npD).mono (by omega)⟩
      rw [upd_same, List.map_append]
      rfl
    · exact iteF' (decide_eq_false hj2) ⟨sub, n6, hD5, (sub_take hsub hu).1, hp5.mono (by omega)⟩
  rintro H3 ⟨sub, n3, hD3, hsub, hp3⟩
  rw [List.length_map, List.take_length] at hsub
  rw [List.length_map] at hp3
  have n4 := ((n1.trans n2).trans (n3.still hD hD3 S2.w))
  have gD : G2 D = none := S2.w.free hD
  have S4 := S.next n4 hp3
  have hDs : SqL K (upd G2 D (.lst (sub.map V.str))) D (sub.map V.str) := SqL.of upd_same
  have r4 := (r1.mono n2.g).mono (Same.new0 (o := .lst (sub.map V.str)) gD)
  generalize upd G2 D (.lst (sub.map V.str)) = G4 at n4 S4 hDs r4
  have hsm : ∀ x ∈ sub, x ∈ clocks := fun x hx => pm.mem_iff.mp (hsub.subset hx)
  have hsn : sub.Nodup := hsub.nodup (pm.nodup_iff.mpr nc)
  have hsl : sub.length ≤ 3 := by have := hsub.length_le; omega
  -- the arrow
  refine ⟨_, rfl, _, rfl, p, l, _, _, G4, rfl, n4.g.seq hl, by rw [List.length_map]; omega, by rw [List.length_map]; omega, S4, by omega, fun j x H5 hx n5 hp5 => ?_⟩
  obtain ⟨src, hsrc, rfl⟩ := get_str hx
  have S5 := S4.next n5 hp5
  refine ⟨_, rfl, _, rfl, p, g, _, _, G4, rfl, n4.g.seq hg, by decide, by decide, S5, by omega, fun j2 x2 H6 hx2 n6 hp6 => ?_⟩
  have hsig : ∃ o, Rp K G4 (sigD o) x2 ∧ ∀ s, o = some s → GoodName s := by
    match j2, hx2 with
    | 0, hx => cases hx; exact ⟨some "s", rfl, fun s e => by cases e; exact good1 (.inl rfl)⟩
    | 1, hx => cases hx; exact ⟨some "t", rfl, fun s e => by cases e; exact good1 (.inr rfl)⟩
    | 2, hx => cases hx; exact ⟨none, rfl, fun s e => by cases e⟩
    | j + 3, hx => simp [sigsV] at hx
  obtain ⟨sig, rs, hsg⟩ := hsig
  have S6 := S5.next n6 hp6
  refine ⟨_, rfl, _, rfl, _, rfl, _, rfl, p, l, _, _, G4, rfl, n4.g.seq hl, by rw [List.length_map]; omega, by rw [List.length_map]; omega, S6, by omega, fun j3 x3 H7 hx3 n7 hp7 => ?_⟩
  obtain ⟨dst, hdst, rfl⟩ := get_str hx3
  have n8 := ((n4.trans n5).trans n6).trans n7
  refine ⟨s5, fun t ht => ?_⟩
  refine k ⟨src, sig, cs, sub, dst⟩ _ _ _ ⟨hsrc, hdst, hsg, hcs, lcs, hsm, hsn, hsl⟩ (n8.trans (Nx.new n8.w ht)) ⟨t, _, rfl, SqT.of upd_same, ?_⟩ ((hp7.upd (hp7.nf ht)).mono (by omega))
  have e9 := Same.new0 (o := .tup [.str src, x2, v0, .ref D, .str dst]) (n8.w.free ht)
  exact RpA.cons rfl (RpA.cons (rs.mono e9) (RpA.cons (r4.mono e9) (RpA.cons (Rp.mono e9 _ _ (lst_strs hDs)) (RpA.cons rfl RpA.nil))))
end K25

/-! ## L4 -/
set_option Elab.async false
set_option linter.all false
set_option maxRecDepth 100000
set_option maxHeartbeats 8000000
/-! L4: limits and watchers drawn. -/
set_option exponentiation.threshold 100000
namespace K25
open PySem L2
open PySem.Spec PyProof.Rows
variable {P : Program} {w : World} {K : PySem.W.Frag} {mg : Str → Option Value} {base : Heap} {A : Ad}
theorem valV_last {kvs : List (Key × V)} {k : Key} {v : V} (h : k ∉ kvs.map (·.1)) : valV (kvs ++ [(k, v)]) k = some v := by
  induction kvs with
  | nil => exact valV_pos rfl
  | cons p r ih =>
    rw [List.map_cons, List.mem_cons, not_or] at h
    show valV (p :: (r ++ [(k, v)])) k = some v
    rw [valV_neg (fun z => h.1 z.symm)]
    exact ih h.2
def sp_l_limits (K : PySem.W.Frag) : Sp := fun vs H Q _ => ∃ (p c l : Addr) (clocks places : List Str) (n : Nat) (G : Hp), vs = [.ref p, .ref c, .ref l] ∧ SqL K G c (clocks.map V.str) ∧ SqL K G l (places.map V.str) ∧
  clocks.length ≤ 3 ∧ clocks.Nodup ∧ places.length ≤ 4 ∧ places.Nodup ∧ PS p G H n ∧ n + 120 ≤ NMAX ∧
  ∀ (lims : List (Str × Lim)) G' H' d, lims.map (·.1) = places → (∀ q ∈ lims, LimOk clocks q.2) → Nx (· = p) G H G' H' → LimsA K G' d lims → PoolL H' p (n + 120) → Q (.ref d) H'
theorem ok_l_limits (T : Tx K mg A) : DefOk P w K mg base 4 "_law_limits" P_l_limits (sp_l_limits K) := by
  refine T.f_l_limits.ok sc_l_limits (fun vs H Q E ⟨_, _, _, _, _, _, _, e, _⟩ => by rw [e]; rfl) (fun f cdv AA outer s H vs Q E hr h => ⟨_, (pss_cons (ps_set (i := 3) sc_l_limits.nd rfl (Or.inl rfl) pe_dnewK) (pss_cons (ps_for PassesOwn.never rfl (pi_list (pv 2)) (pg_name (i := 4) sc_l_limits.nd rfl (Or.inl rfl)) (pss_cons (ps_setLc (i := 6) rfl sc_l_limits.nd rfl rfl (sw_true rfl rfl rfl (by decide +kernel)) (own := [("_law_clock", 5)]) (pi_list (pe_cd (ok_l_mixed T) (lv hr) rfl (pa_cons (pv 0) (pa_cons (pv 1) pa_nil)))) (blkOk_by (own := [("_law_clock", 5)]) (N := N_l_limits) (sc := defScope s_l_limits) (by decide +kernel)) (fun _ _ _ _ _ => (pg_name (i := 5) sc_l_limits.nd rfl (Or.inl rfl))) (fun _ _ _ _ _ => (pts_one (pt_cmpR op_eq (pe_cd (ok_l_take T) (lv hr) rfl (pa_cons (pv 0) (pa_cons pe_int pa_nil))) pe_int (nomark _)))) (fun _ _ _ _ _ => (pv 5))) (pss_cons (ps_dput (hu_of hr) (pv 3) (pv 4) pe_dnewK rfl) (pss_one (ps_for PassesOwn.never rfl (pi_list (pv 6)) (pg_name (i := 5) sc_l_limits.nd rfl (Or.inl rfl)) (pss_cons (ps_set (i := 7) sc_l_limits.nd rfl (Or.inl rfl) (pe_cd (ok_l_take T) (lv hr) rfl (pa_cons (pv 0) (pa_cons pe_int pa_nil)))) (pss_one (ps_dput (hu_of hr) (pe_dget (hu_of hr) (pv 3) (pv 4) (fun _ _ => rfl)) (pv 5) (pe_tup (pa_cons (pe_cd (ok_l_one T) (lv hr) rfl (pa_cons (pv 0) (pa_cons (pe_lst (pa_cons pe_str (pa_cons pe_str (pa_cons pe_str pa_nil)))) pa_nil))) (pa_cons (pv 7) pa_nil))) rfl)))))))) (pss_one (ps_ret (pv 3))))), ?_⟩)
  obtain ⟨p, c, l, clocks, places, n, G, rfl, hc, hl, lc, nc, lp, np, S, hn, k⟩ := h
  intro f hf
  have npf : p ≠ f := S.pl.nf hf
  refine ⟨_, rfl, l, rfl, ⟨_, (S.w.new hf).seq hl⟩, ?_⟩
  refine for_it (walk_list (xs := places.map V.str)) (fun i σ H' => ∃ kvs lims G' v4 v5 v6 v7, Nx (· = p) G H G' H' ∧ G' f = none ∧ H' f = some (.dK kvs) ∧ KvL K G' f kvs lims ∧ lims.map (·.1) = places.take i ∧ (∀ q ∈ lims, LimOk clocks q.2) ∧ PoolL H' p (n + 30 * i) ∧
    σ = [some (.ref p), some (.ref c), some (.ref l), some (.ref f), v4, v5, v6, v7]) ⟨[], [], G, none, none, none, none, Nx.newM S.w hf, S.w.free hf, upd_same, .nil, rfl, fun q hq => by simp at hq, (S.pl.upd npf).mono (by omega), rfl⟩ (fun i σ H' _ ⟨_, _, _, _, _, _, _, n1, _⟩ => (n1.g.trans n1.w).seq hl) ?_ ?_
  · rintro i x σ H1 H2' hi ⟨kvs, lims, G1, v4, v5, v6, v7, n1, g1f, h1f, hkv, hlk, hlo, hp1, rfl⟩ ⟨rfl, hx⟩
    obtain ⟨pl, hpl, rfl⟩ := get_map hx
    rw [List.length_map] at hi
    have S1 := S.next n1 hp1
    -- some
    refine ⟨_, rfl, _, rfl, p, c, clocks, _, G1, rfl, n1.g.seq hc, by omega, S1, by omega, fun us L G2 H2 pm n2 hL hp2 => ?_⟩
    have S2 := S1.next n2 hp2
    have lus : us.length = clocks.length := pm.length_eq
    refine ⟨L, rfl, ⟨_, S2.w.seq hL⟩, fun D hD => ?_⟩
    have npD : p ≠ D := hp2.nf hD
    refine lc_it (walk_list (xs := us.map V.str)) (fun i' H' => ∃ sub : List Str, Nx (· = p) G2 H2 G2 H' ∧ H' D = some (.lst (sub.map V.str)) ∧ sub.Sublist (us.take i') ∧ PoolL H' p (n + 30 * i + 10 + i')) ⟨[], Nx.newM S2.w hD, upd_same, List.nil_sublist _, (hp2.upd npD).mono (by omega)⟩ (fun i H' _ ⟨_, n3, _⟩ => n3.w.seq hL) ?_ ?_
    · rintro i' x H3 H4 hi' ⟨sub, n3, hD3, hsub, hp3⟩ ⟨rfl, hx⟩
      obtain ⟨u, hu, rfl⟩ := get_map hx
      have hi' : i' < us.length := by rw [List.length_map] at hi'; exact hi'
      have lsub : sub.length ≤ i' := by
        have h1 := hsub.length_le
        rw [List.length_take] at h1
        omega
      refine ⟨rfl, _, rfl, p, 4, _, G2, rfl, by decide, by decide, n3.w, S2.g, hp3, by unfold NMAX at hn; omega, fun j H5 hj n5 hp5 => ⟨rfl, _, rfl, ?_⟩⟩
      have n6 := n3.trans n5
      have hD5 := n5.h D _ npD.symm hD3
      cases hj2 : decide (V.int (j : Int) = V.int 0) with
      | true =>
        refine iteT' rfl ⟨_, rfl, sub.map V.str, hD5, szl (by rw [List.length_map]; omega), sub ++ [u], n6.wrL hD (S2.w.free hD), ?_, (sub_take hsub hu).2, (hp5.upd npD).mono (by omega)⟩
        rw [upd_same, List.map_append]
        rfl
      | false => exact iteF' rfl ⟨sub, n6, hD5, (sub_take hsub hu).1, hp5.mono (by omega)⟩
    rintro H3 ⟨sub, n3, hD3, hsub, hp3⟩
    rw [List.length_map, List.take_length] at hsub
    rw [List.length_map] at hp3
    have n12 := n1.trans n2
    have hDH : H D = none := by
      cases q : H D with
      | none => rfl
      | some o => exact absurd hD (n12.t D (by rw [q]; simp))
    have n4 := n12.trans (n3.still hD hD3 S2.w)
    have gD : G2 D = none := S2.w.free hD
    have S4 := S.next n4 hp3
    have hDs : SqL K (upd G2 D (.lst (sub.map V.str))) D (sub.map V.str) := SqL.of upd_same
    have e24 : Same G2 (upd G2 D (.lst (sub.map V.str))) := Same.new0 gD
    have nfD : f ≠ D := fun z => by
      have := n2.t f (by rw [h1f]; simp)
      rw [z] at this
      exact this hD
    have g4f : upd G2 D (.lst (sub.map V.str)) f = none := by rw [upd_ne nfD]; exact n2.own f g1f (by rw [h1f]; simp)
    have h3f : H3 f = some (.dK kvs) := n3.h f _ npf.symm (n2.h f _ npf.symm h1f)
    have hkv4 : KvL K (upd G2 D (.lst (sub.map V.str))) f kvs lims := Paired.imp (fun _ _ ⟨h1, z, h2, h3, h4⟩ => ⟨h1, z, h2, h3, h4.mono (n2.g.trans e24)⟩) hkv
    generalize upd G2 D (.lst (sub.map V.str)) = G4 at n4 S4 hDs g4f hkv4
    clear n3 hD3 e24 gD n12
    have hsm : ∀ x ∈ sub, x ∈ clocks := fun x hx => pm.mem_iff.mp (hsub.subset hx)
    have hsn : sub.Nodup := hsub.nodup (pm.nodup_iff.mpr nc)
    have hsl : sub.length ≤ 3 := by have := hsub.length_le; omega
    have lkv : kvs.length = i := by
      have h1 := Paired.len hkv4
      have h2 : (lims.map (·.1)).length = (places.take i).length := by rw [hlk]
      rw [List.length_map, List.length_take] at h2
      omega
    -- found[place] = {}
    intro e he
    have npe : p ≠ e := hp3.nf he
    have nfe : f ≠ e := ne_of_none h3f he
    have nin : (Sum.inr pl : Key) ∉ kvs.map (·.1) := by
      rw [hkv4.keys, hlk]
      exact not_inr fun z => nd_take np hpl z
    refine ⟨_, rfl, _, rfl, f, _, rfl, DPut.k (k := .inr pl) (by rw [upd_ne nfe]; exact h3f) (szl (by omega)), ?_⟩
    rw [putK_new _ (valV_not nin)]
    have heH : H e = none := by
      cases q : H e with
      | none => rfl
      | some o => exact absurd he (n4.t e (by rw [q]; simp))
    have g4e : G4 e = none := S4.w.free he
    have n5 : Nx (· = p) G H G4 (upd (upd H3 e (.dK [])) f (.dK (kvs ++ [(.inr pl, .ref e)]))) := (n4.wrL heH g4e).wrL hf g4f
    refine ⟨_, rfl, D, rfl, ⟨_, n5.w.seq hDs⟩, ?_⟩
    refine for_it (walk_list (xs := sub.map V.str)) (fun j σ H2 => ∃ ks lim G2 v5' v7', Nx (· = p) G H G2 H2 ∧ Same G4 G2 ∧ G2 f = none ∧ G2 e = none ∧ H2 f = some (.dK (kvs ++ [(.inr pl, .ref e)])) ∧ H2 e = some (.dK ks) ∧ KvB K G2 ks lim ∧ lim.map (·.1) = sub.take j ∧
      (∀ b ∈ lim, UpW b.2.1 ∧ 0 ≤ b.2.2 ∧ b.2.2 < 5) ∧ PoolL H2 p (n + 30 * i + 13 + 2 * j) ∧ σ = [some (.ref p), some (.ref c), some (.ref l), some (.ref f), some (.str pl), v5', some (.ref D), v7'])
      ⟨[], [], G4, _, _, n5, Same.refl _, g4f, g4e, upd_same, by rw [upd_ne nfe.symm, upd_same], .nil, rfl, fun b hb => by simp at hb, ((hp3.upd npe).upd npf).mono (by omega), rfl⟩ (fun j σ H2 _ ⟨_, _, _, _, _, n6, e6, _⟩ => (e6.trans n6.w).seq hDs) ?_ ?_
    · rintro j x σ H6 H7' hj ⟨ks, lim, G6, v5', v7', n6, e6, g6f, g6e, h6f, h6e, hkb, hlm, hlo6, hp6, rfl⟩ ⟨rfl, hx⟩
      obtain ⟨cc, hcc, rfl⟩ := get_map hx
      rw [List.length_map] at hj
      have S6 := S.next n6 hp6
      refine ⟨_, rfl, p, 5, _, G6, rfl, by decide, by decide, S6.w, S6.g, hp6, by unfold NMAX at hn; omega, fun m H7 hm n7 hp7 => ?_⟩
      have n67 := n6.trans n7
      have S7 := S6.next n7 hp7
      have h7f := n7.h f _ npf.symm h6f
      have h7e := n7.h e _ npe.symm h6e
      refine ⟨_, rfl, s3, fun q hq => ?_⟩
      have S8 := S7.new (o := .lst [.str "upto", .str "upto", .str "below"]) hq
      have n8 := n67.trans (Nx.new (o := .lst [.str "upto", .str "upto", .str "below"]) n67.w hq)
      have n8' := Nx.new (M := (· = p)) (o := .lst [.str "upto", .str "upto", .str "below"]) n67.w hq
      refine ⟨p, q, _, _, _, rfl, SqL.of upd_same, (by show 0 < 3; decide), (by show 3 ≤ 1000000; decide), S8, by omega, fun j2 x2 H9 hx2 n9 hp9 => ?_⟩
      obtain ⟨u, hu, rfl⟩ := get_str (ws := ["upto", "upto", "below"]) hx2
      have hu' : UpW u := by
        simp only [List.mem_cons, List.not_mem_nil, or_false] at hu
        rcases hu with rfl | rfl | rfl
        · exact .inr rfl
        · exact .inr rfl
        · exact .inl rfl
      have n89 := n8'.trans n9
      have nA := n67.trans n89
      have h9f := n89.h f _ npf.symm h7f
      have h9e := n89.h e _ npe.symm h7e
      have g9f := n89.own f g6f (by rw [h7f]; simp)
      have g9e := n89.own e g6e (by rw [h7e]; simp)
      refine ⟨_, rfl, s2, fun t ht => ?_⟩
      have nB := nA.trans (Nx.new (o := .tup [.str u, .int (m : Int)]) nA.w ht)
      have gB := Nx.new (M := (· = p)) (o := .tup [.str u, .int (m : Int)]) nA.w ht
      have hBf : upd H9 t (.tup [.str u, .int (m : Int)]) f = _ := gB.h f _ npf.symm h9f
      have hBe : upd H9 t (.tup [.str u, .int (m : Int)]) e = _ := gB.h e _ npe.symm h9e
      have gBf := gB.own f g9f (by rw [h9f]; simp)
      have gBe := gB.own e g9e (by rw [h9e]; simp)
      have lks : ks.length ≤ 3 := by
        have h1 := Paired.len hkb
        have h2 : (lim.map (·.1)).length = (sub.take j).length := by rw [hlm]
        rw [List.length_map, List.length_take] at h2
        omega
      have ninc : valV ks (.inr cc) = none := valV_not (by
        rw [hkb.keys, hlm]
        exact not_inr fun z => nd_take hsn hcc z)
      refine ⟨_, rfl, _, rfl, f, _, rfl, dget hBf (valV_last nin), _, rfl, e, _, rfl, DPut.k (k := .inr cc) hBe (szl (by omega)), ?_⟩
      rw [putK_new _ ninc]
      have eB : Same G6 _ := n89.g.trans gB.g
      refine ⟨ks ++ [(.inr cc, .ref t)], lim ++ [(cc, u, (m : Int))], _, _, _, nB.wrL heH gBe, e6.trans eB, gBf, gBe, by rw [upd_ne nfe]; exact hBf, upd_same, ?_, ?_, ?_, ?_, rfl⟩
      · exact Paired.snoc (hkb.mono eB) ⟨rfl, t, rfl, SqT.of upd_same⟩
      · rw [List.map_append, hlm, take_succ' hcc]
        rfl
      · intro b hb
        rcases List.mem_append.mp hb with h | h
        · exact hlo6 b h
        · rw [List.mem_singleton.mp h]
          exact ⟨hu', by show (0 : Int) ≤ (m : Int); omega, by show (m : Int) < 5; omega⟩
      · exact ((hp9.upd (hp9.nf ht)).upd npe).mono (by omega)
    rintro σ H6 ⟨ks, lim, G6, v5', v7', n6, e6, g6f, g6e, h6f, h6e, hkb, hlm, hlo6, hp6, rfl⟩
    rw [List.length_map] at hp6 hlm
    rw [List.take_length] at hlm
    have n7 := n6.still heH h6e S.w
    have e7 : Same G6 (upd G6 e (.dK ks)) := Same.new0 g6e
    have hmem : ∀ b ∈ lim, b.1 ∈ sub := fun b hb => by rw [← hlm]; exact List.mem_map.mpr ⟨b, hb, rfl⟩
    refine ⟨kvs ++ [(.inr pl, .ref e)], lims ++ [(pl, lim)], _, _, _, _, _, n7, by rw [upd_ne nfe]; exact g6f, h6f, ?_, ?_, ?_, hp6.mono (by omega), rfl⟩
    · exact Paired.snoc (Paired.imp (fun _ _ ⟨h1, z, h2, h3, h4⟩ => ⟨h1, z, h2, h3, h4.mono (e6.trans e7)⟩) hkv4) ⟨rfl, e, rfl, nfe.symm, ks, upd_same, hkb.mono e7⟩
    · rw [List.map_append, hlk, take_succ' hpl]
      rfl
    · intro q hq
      rcases List.mem_append.mp hq with h | h
      · exact hlo q h
      · rw [List.mem_singleton.mp h]
        refine ⟨by rw [hlm]; exact hsn, fun b hb => hsm _ (hmem b hb), fun b hb => (hlo6 b hb).1, fun b hb => (hlo6 b hb).2.1, fun b hb => (hlo6 b hb).2.2, ?_⟩
        have h2 : (lim.map (·.1)).length = sub.length := by rw [hlm]
        rw [List.length_map] at h2
        show lim.length ≤ 3
        omega
  rintro σ H1 ⟨kvs, lims, G1, v4, v5, v6, v7, n1, g1f, h1f, hkv, hlk, hlo, hp1, rfl⟩
  rw [List.length_map] at hlk hp1
  rw [List.take_length] at hlk
  exact ⟨_, rfl, k lims _ _ f hlk hlo (n1.still hf h1f S.w) ⟨kvs, upd_same, Paired.imp (fun _ _ ⟨h1, z, h2, h3, h4⟩ => ⟨h1, z, h2, h3, h4.mono (Same.new0 g1f)⟩) hkv⟩ (hp1.mono (by omega))⟩
end K25

/-! ## L5 -/
set_option Elab.async false
set_option linter.all false
set_option maxRecDepth 100000
set_option maxHeartbeats 8000000
/-! L5: watchers drawn and made. -/
set_option exponentiation.threshold 100000
namespace K25
open PySem L2
open PySem.Spec PyProof.Rows
variable {P : Program} {w : World} {K : PySem.W.Frag} {mg : Str → Option Value} {base : Heap} {A : Ad}
abbrev kS (s : Str) : Key := Sum.inr s
def wKvs (c d a e : Addr) : List (Key × V) := [(kS "clocks", .ref c), (kS "limits", .ref d), (kS "arrows", .ref a), (kS "ends", .ref e)]
theorem wKvs_merge (c d a e : Addr) : mergeK [] (wKvs c d a e) = wKvs c d a e := by
  show putK (putK (putK (putK [] (kS "clocks") (.ref c)) (kS "limits") (.ref d)) (kS "arrows") (.ref a)) (kS "ends") (.ref e) = _
  have h1 : putK [] (kS "clocks") (V.ref c) = [(kS "clocks", .ref c)] := putK_new _ rfl
  have h2 : putK [(kS "clocks", V.ref c)] (kS "limits") (.ref d) = [(kS "clocks", .ref c), (kS "limits", .ref d)] := putK_new _ (valV_not (not_inr (l := ["clocks"]) (c := "limits") (by decide +kernel)))
  have h3 : putK [(kS "clocks", V.ref c), (kS "limits", .ref d)] (kS "arrows") (.ref a) = [(kS "clocks", .ref c), (kS "limits", .ref d), (kS "arrows", .ref a)] := putK_new _ (valV_not (not_inr (l := ["clocks", "limits"]) (c := "arrows") (by decide +kernel)))
  have h4 : putK [(kS "clocks", V.ref c), (kS "limits", .ref d), (kS "arrows", .ref a)] (kS "ends") (.ref e) = [(kS "clocks", .ref c), (kS "limits", .ref d), (kS "arrows", .ref a), (kS "ends", .ref e)] := putK_new _ (valV_not (not_inr (l := ["clocks", "limits", "arrows"]) (c := "ends") (by decide +kernel)))
  rw [h1, h2, h3, h4]
  rfl
theorem wK_c (c d a e : Addr) : valV (wKvs c d a e) (kS "clocks") = some (.ref c) := valV_pos rfl
theorem wK_d (c d a e : Addr) : valV (wKvs c d a e) (kS "limits") = some (.ref d) := by
  unfold wKvs
  rw [valV_neg (show ¬ kS "clocks" = kS "limits" by decide +kernel)]
  exact valV_pos rfl
theorem wK_a (c d a e : Addr) : valV (wKvs c d a e) (kS "arrows") = some (.ref a) := by
  unfold wKvs
  rw [valV_neg (show ¬ kS "clocks" = kS "arrows" by decide +kernel), valV_neg (show ¬ kS "limits" = kS "arrows" by decide +kernel)]
  exact valV_pos rfl
theorem wK_e (c d a e : Addr) : valV (wKvs c d a e) (kS "ends") = some (.ref e) := by
  unfold wKvs
  rw [valV_neg (show ¬ kS "clocks" = kS "ends" by decide +kernel), valV_neg (show ¬ kS "limits" = kS "ends" by decide +kernel), valV_neg (show ¬ kS "arrows" = kS "ends" by decide +kernel)]
  exact valV_pos rfl
/-- the law's dict of a watcher -/
def LawW (K : PySem.W.Frag) (G : Hp) (x : Addr) (W : Wt) : Prop := ∃ c d a e, G x = some (.dK (wKvs c d a e)) ∧ ArgsA K G W c d a e
theorem LawW.mono {G G' : Hp} {x : Addr} {W : Wt} (h : LawW K G x W) (s : Same G G') : LawW K G' x W := by
  obtain ⟨c, d, a, e, h1, h2⟩ := h
  exact ⟨c, d, a, e, s _ _ h1, h2.mono s⟩
theorem good_clock {c : Str} (h : c ∈ (["x", "y", "lamp"] : List Str)) : GoodName c := by
  simp only [List.mem_cons, List.not_mem_nil, or_false] at h
  rcases h with rfl | rfl | rfl <;> exact ⟨by decide +kernel, by decide +kernel, by decide +kernel⟩
theorem good_place {c : Str} (h : c ∈ (["p", "q", "shut", "abcdefgh"] : List Str)) : GoodName c := by
  simp only [List.mem_cons, List.not_mem_nil, or_false] at h
  rcases h with rfl | rfl | rfl | rfl <;> exact ⟨by decide +kernel, by decide +kernel, by decide +kernel⟩
theorem take_map_str (us : List Str) (j : Nat) (h : j ≤ us.length) : cutV (us.map V.str) none (some (j : Int)) = (us.take j).map V.str := by
  rw [cut_take _ _ (by rw [List.length_map]; exact h), List.map_take]
def sp_l_watcher (K : PySem.W.Frag) : Sp := fun vs H Q _ => ∃ (p g : Addr) (n : Nat) (G : Hp), vs = [.ref p, .int 3, .ref g] ∧ SqL K G g sigsV ∧ PS p G H n ∧ n + 500 ≤ NMAX ∧
  ∀ (W : Wt) G' H' x, WtOk W → Nx (· = p) G H G' H' → LawW K G' x W → PoolL H' p (n + 500) → Q (.ref x) H'
theorem ok_l_watcher (T : Tx K mg A) : DefOk P w K mg base 5 "_law_watcher" P_l_watcher (sp_l_watcher K) := by
  refine T.f_l_watcher.ok sc_l_watcher (fun vs H Q E ⟨_, _, _, _, e, _⟩ => by rw [e]; rfl) (fun f cdv AA outer s H vs Q E hr h => ⟨_, (pss_cons (ps_set (i := 3) sc_l_watcher.nd rfl (Or.inr rfl) (pe_slice sl_list (pe_cd (ok_l_mixed T) (lv hr) rfl (pa_cons (pv 0) (pa_cons (pe_lst (pa_cons pe_str (pa_cons pe_str (pa_cons pe_str pa_nil)))) pa_nil))) po_none (po_some (pe_cd (ok_l_take T) (lv hr) rfl (pa_cons (pv 0) (pa_cons (pe_op op_add (pv 1) pe_int) pa_nil)))))) (pss_cons (ps_set (i := 4) sc_l_watcher.nd rfl (Or.inr rfl) (pe_slice sl_list (pe_cd (ok_l_mixed T) (lv hr) rfl (pa_cons (pv 0) (pa_cons (pe_lst (pa_cons pe_str (pa_cons pe_str (pa_cons pe_str (pa_cons pe_str pa_nil))))) pa_nil))) po_none (po_some (pe_op op_add pe_int (pe_cd (ok_l_take T) (lv hr) rfl (pa_cons (pv 0) (pa_cons pe_int pa_nil))))))) (pss_cons (ps_setLc (i := 5) rfl sc_l_watcher.nd rfl rfl (sw_true rfl rfl rfl (by decide +kernel)) (own := [("_law_k", 7)]) (pi_range1 rfl T.z_range (pa_cons (pe_op op_add pe_int (pe_cd (ok_l_take T) (lv hr) rfl (pa_cons (pv 0) (pa_cons pe_int pa_nil)))) pa_nil)) (blkOk_by (own := [("_law_k", 7)]) (N := N_l_watcher) (sc := defScope s_l_watcher) (by decide +kernel)) (fun _ _ _ _ _ => (pg_name (i := 7) sc_l_watcher.nd rfl (Or.inl rfl))) (fun _ _ _ _ _ => pts_nil) (fun _ _ _ _ _ => (pe_cd (ok_l_arrow T) (lv hr) rfl (pa_cons (pv 0) (pa_cons (pv 3) (pa_cons (pv 4) (pa_cons (pv 2) pa_nil))))))) (pss_cons (ps_set (i := 6) sc_l_watcher.nd rfl (Or.inl rfl) (pe_slice sl_list (pe_cd (ok_l_mixed T) (lv hr) rfl (pa_cons (pv 0) (pa_cons (pv 4) pa_nil))) po_none (po_some (pe_cd (ok_l_take T) (lv hr) rfl (pa_cons (pv 0) (pa_cons (pe_op op_add (pe_callB call_len_seq rfl T.z_len PySem.boot_len (pa_cons (pv 4) pa_nil)) pe_int) pa_nil)))))) (pss_one (ps_ret (pe_disp (pps_cons pe_str (pv 3) (pps_cons pe_str (pe_cd (ok_l_limits T) (lv hr) rfl (pa_cons (pv 0) (pa_cons (pv 3) (pa_cons (pv 4) pa_nil)))) (pps_cons pe_str (pv 5) (pps_cons pe_str (pv 6) pps_nil)))) (by rfl) (by rfl) (fun z => by cases z) (by decide)))))))), ?_⟩)
  obtain ⟨p, g, n, G, rfl, hg, S, hn, k⟩ := h
  -- the clocks
  refine ⟨_, rfl, s3, fun q1 hq1 => ?_⟩
  have n1 := Nx.new (M := (· = p)) (o := .lst [.str "x", .str "y", .str "lamp"]) S.w hq1
  have S1 := S.new (o := .lst [.str "x", .str "y", .str "lamp"]) hq1
  refine ⟨p, q1, ["x", "y", "lamp"], n, _, rfl, SqL.of upd_same, (by decide), S1, by omega, fun us L1 G2 H2 pm1 n2 hL1 hp2 => ?_⟩
  have S2 := S1.next n2 hp2
  have l1 : us.length = 3 := pm1.length_eq
  refine ⟨_, rfl, _, rfl, _, _, rfl, rfl, p, 4, _, G2, rfl, by decide, by decide, S2.w, S2.g, hp2, by unfold NMAX at hn; omega, fun j1 H3 hj1 n3 hp3 => ⟨_, rfl, L1, _, rfl, (S2.next n3 hp3).w.seq hL1, fun c hc => ?_⟩⟩
  have S3 := S2.next n3 hp3
  rw [take_map_str us j1 (by omega)]
  have n4 := ((n1.trans n2).trans n3).trans (Nx.new (M := (· = p)) (o := .lst ((us.take j1).map V.str)) S3.w hc)
  have S4 := S3.new (o := .lst ((us.take j1).map V.str)) hc
  have hC : SqL K (upd G2 c (.lst ((us.take j1).map V.str))) c ((us.take j1).map V.str) := SqL.of upd_same
  have cN : (us.take j1).Nodup := (List.take_sublist _ _).nodup (pm1.nodup_iff.mpr (by decide +kernel))
  have cG : ∀ s ∈ us.take j1, GoodName s := fun s hs => good_clock (pm1.mem_iff.mp (List.mem_of_mem_take hs))
  have cL : (us.take j1).length ≤ 3 := by rw [List.length_take]; omega
  generalize us.take j1 = clocks at hC cN cG cL n4 S4 ⊢
  generalize upd G2 c (.lst (clocks.map V.str)) = G4 at n4 S4 hC
  generalize upd H3 c (.lst (clocks.map V.str)) = H4 at n4 S4 ⊢
  clear n3 hp3 S3 n2 hp2 S2 hL1 n1 S1 hc
  -- the places
  refine ⟨_, rfl, s4, fun q2 hq2 => ?_⟩
  have n5 := n4.trans (Nx.new (M := (· = p)) (o := .lst [.str "p", .str "q", .str "shut", .str "abcdefgh"]) S4.w hq2)
  have e5 : Same G4 (upd G4 q2 (.lst [.str "p", .str "q", .str "shut", .str "abcdefgh"])) := Same.new0 (S4.w.free hq2)
  have S5 := S4.new (o := .lst [.str "p", .str "q", .str "shut", .str "abcdefgh"]) hq2
  refine ⟨p, q2, ["p", "q", "shut", "abcdefgh"], _, _, rfl, SqL.of upd_same, (by decide), S5, by omega, fun us2 L2 G6 H6 pm2 n6 hL2 hp6 => ?_⟩
  have S6 := S5.next n6 hp6
  have l2 : us2.length = 4 := pm2.length_eq
  refine ⟨_, rfl, p, 4, _, G6, rfl, by decide, by decide, S6.w, S6.g, hp6, by unfold NMAX at hn; omega, fun j2 H7 hj2 n7 hp7 => ⟨_, _, rfl, rfl, _, rfl, L2, _, rfl, (S6.next n7 hp7).w.seq hL2, fun l hl => ?_⟩⟩
  have S7 := S6.next n7 hp7
  have ej : (1 : Int) + (j2 : Int) = ((1 + j2 : Nat) : Int) := by omega
  show tSeq _ _ _ _ (upd H7 l (.lst (cutV (us2.map V.str) none (some (1 + (j2 : Int))))))
  rw [ej, take_map_str us2 (1 + j2) (by omega)]
  have n8 := ((n5.trans n6).trans n7).trans (Nx.new (M := (· = p)) (o := .lst ((us2.take (1 + j2)).map V.str)) S7.w hl)
  have e8 : Same G4 (upd G6 l (.lst ((us2.take (1 + j2)).map V.str))) := (e5.trans n6.g).trans (Same.new0 (S7.w.free hl))
  have S8 := S7.new (o := .lst ((us2.take (1 + j2)).map V.str)) hl
  have hPl : SqL K (upd G6 l (.lst ((us2.take (1 + j2)).map V.str))) l ((us2.take (1 + j2)).map V.str) := SqL.of upd_same
  have pN : (us2.take (1 + j2)).Nodup := (List.take_sublist _ _).nodup (pm2.nodup_iff.mpr (by decide +kernel))
  have pG : ∀ s ∈ us2.take (1 + j2), GoodName s := fun s hs => good_place (pm2.mem_iff.mp (List.mem_of_mem_take hs))
  have pL : (us2.take (1 + j2)).length ≤ 4 := by rw [List.length_take]; omega
  have p0 : 0 < (us2.take (1 + j2)).length := by rw [List.length_take]; omega
  generalize us2.take (1 + j2) = places at hPl pN pG pL p0 n8 S8 e8 ⊢
  generalize upd G6 l (.lst (places.map V.str)) = G8 at n8 S8 hPl e8
  generalize upd H7 l (.lst (places.map V.str)) = H8 at n8 S8 ⊢
  clear n7 hp7 S7 n6 hp6 S6 hL2 n5 S5 hl hq2 e5
  -- the arrows
  have hC8 := e8.seq hC
  refine ⟨_, rfl, p, 6, _, G8, rfl, by decide, by decide, S8.w, S8.g, S8.pl, by unfold NMAX at hn; omega, fun j3 H9 hj3 n9 hp9 => ⟨_, _, rfl, rfl, _, rfl, by omega, by omega, fun D hD => ?_⟩⟩
  have S9 := S8.next n9 hp9
  have npD : p ≠ D := hp9.nf hD
  refine lc_map (G := G8) (walk_range (lo := 0) (n := (1 + (j3 : Int)).toNat)) (· = p) (fun i acc G' H' => ∃ as : List Arr, RpA K G' (as.map arrD) acc ∧ PoolL H' p (n + 10 + 1 + 10 + 1 + 1 + 40 * i) ∧ as.length = i ∧ ∀ x ∈ as, ArrOk clocks places x) S9.w hD (by omega) npD.symm ⟨[], rfl, hp9.upd npD, rfl, fun x hx => by simp at hx⟩ (fun _ _ _ _ _ _ => trivial) ?_ ?_
  · rintro i acc G' H2 x H3 Qc hi la n2 hD2 gD ⟨as, hr1, hp2, las, has⟩ ⟨rfl, rfl⟩ q
    have hi : i < 1 + j3 := by omega
    have S2 := S9.next n2 hp2
    refine ⟨rfl, _, rfl, _, rfl, _, rfl, _, rfl, p, c, l, g, clocks, places, _, G', rfl, n2.g.seq hC8, n2.g.seq hPl, (n8.g.trans n2.g).seq hg, cL, cN, p0, by omega, S2, by omega, fun aa G5 H5 v haa n5 r5 hp5 => q v G5 H5 n5 ⟨as ++ [aa], ?_, ?_, by simp [las], ?_⟩⟩
    · rw [List.map_append]
      exact RpA.snoc (hr1.mono n5.g) r5
    · exact (hp5.upd npD).mono (by omega)
    · intro x hx
      rcases List.mem_append.mp hx with h | h
      · exact has x h
      · rw [List.mem_singleton.mp h]; exact haa
  rintro acc GA HA nA la eA hDA ⟨as, hr1, hpA, las, has⟩
  have las' : as.length = 1 + j3 := by omega
  have nB := (n8.trans n9).trans nA
  have SA := S9.next nA hpA
  have rA : Rp K (upd GA D (.lst acc)) (.lst (as.map arrD)) (.ref D) := ⟨D, acc, rfl, SqL.of upd_same, hr1.mono eA⟩
  have hCA := nA.g.seq hC8
  have hPA := nA.g.seq hPl
  have SA := SA.mono (m := n + 270) (by omega)
  have hpA := SA.pl
  generalize upd GA D (.lst acc) = GB at nB SA rA hCA hPA
  clear nA hr1 eA hDA hD S9 n9 hp9
  -- the ends
  refine ⟨_, rfl, _, rfl, p, l, places, _, GB, rfl, hPA, by omega, SA, by omega, fun us3 L3 GC HC pm3 nC hL3 hpC => ?_⟩
  have SC := SA.next nC hpC
  have l3 : us3.length = places.length := pm3.length_eq
  refine ⟨_, rfl, _, rfl, l, _, rfl, .inl (SC.w.seq (nC.g.seq hPA)), _, _, rfl, rfl, p, places.length + 1, _, GC, ?_, by omega, by omega, SC.w, SC.g, hpC, by unfold NMAX at hn; omega, fun j4 HD hj4 nD hpD => ⟨_, rfl, L3, _, rfl, (SC.next nD hpD).w.seq hL3, fun e he => ?_⟩⟩
  · rw [List.length_map]
    rfl
  have SD := SC.next nD hpD
  rw [take_map_str us3 j4 (by omega)]
  have nE := ((nB.trans nC).trans nD).trans (Nx.new (M := (· = p)) (o := .lst ((us3.take j4).map V.str)) SD.w he)
  have eE : Same GB (upd GC e (.lst ((us3.take j4).map V.str))) := nC.g.trans (Same.new0 (SD.w.free he))
  have SE := SD.new (o := .lst ((us3.take j4).map V.str)) he
  have hE : SqL K (upd GC e (.lst ((us3.take j4).map V.str))) e ((us3.take j4).map V.str) := SqL.of upd_same
  have eN : (us3.take j4).Nodup := (List.take_sublist _ _).nodup (pm3.nodup_iff.mpr pN)
  have eP : ∀ s ∈ us3.take j4, s ∈ places := fun s hs => pm3.mem_iff.mp (List.mem_of_mem_take hs)
  have eL : (us3.take j4).length ≤ 4 := by rw [List.length_take]; omega
  generalize us3.take j4 = ends at hE eN eP eL nE SE eE ⊢
  generalize upd GC e (.lst (ends.map V.str)) = GE at nE SE hE eE
  generalize upd HD e (.lst (ends.map V.str)) = HE at nE SE ⊢
  clear nD hpD SD nC hpC SC hL3 he
  -- the dict
  intro x hx
  have npx : p ≠ x := SE.pl.nf hx
  have nX := nE.trans (Nx.newM (o := .dK []) SE.w hx)
  have nX' := Nx.newM (M := (· = p)) (o := .dK []) SE.w hx
  have SX := SE.next nX' (SE.pl.upd npx)
  have SX := SX.mono (m := n + 281) (by omega)
  have gxE : GE x = none := SE.w.free hx
  refine ⟨_, rfl, _, rfl, _, rfl, _, rfl, p, c, l, clocks, places, n + 281, GE, rfl, eE.seq hCA, eE.seq hPA, cL, cN, pL, pN, SX, by omega, fun lims GF HF d hlk hlo nF hd hpF => ?_⟩
  refine ⟨_, rfl, _, rfl, nF.h x _ npx.symm upd_same, wKvs c d D e, rfl, (by show 4 ≤ 15; decide), ?_⟩
  rw [wKvs_merge]
  have gxF : GF x = none := nF.own x gxE (by rw [upd_same]; simp)
  have hxH : H x = none := by
    cases q : H x with
    | none => rfl
    | some o => exact absurd hx (nE.t x (by rw [q]; simp))
  have nG := (nX.trans nF).wrL (o := .dK (wKvs c d D e)) hxH gxF
  have nH := nG.still hxH upd_same S.w
  have eF : Same GF (upd GF x (.dK (wKvs c d D e))) := Same.new0 gxF
  have eG := nF.g.trans eF
  have epl : (⟨clocks, lims, as, ends⟩ : Wt).places = places := hlk
  have eln : lims.length = places.length := by rw [← hlk, List.length_map]
  refine k ⟨clocks, lims, as, ends⟩ _ _ x ?_ nH ⟨c, d, D, e, upd_same, (eE.trans eG).seq hCA, hd.mono eF, rA.mono (eE.trans eG), eG.seq hE⟩ ((hpF.upd npx).mono (by omega))
  exact ⟨cN, cG, cL, by rw [epl]; exact pN, by rw [epl]; exact pG, by show lims.length ≤ 4; omega, by show 0 < lims.length; omega, hlo, by rw [epl]; exact has, by show as.length ≤ 6; omega, by show 0 < as.length; omega, eN, by rw [epl]; exact eP, eL⟩
/-! ### made -/
def sp_l_made (K : PySem.W.Frag) (CW : Addr) : Sp := fun vs H Q _ => ∃ (d : Addr) (W : Wt) (G : Hp), vs = [.ref d] ∧ Same G H ∧ LawW K G d W ∧ WtOk W ∧ ∀ G' H' x, Nx M0 G H G' H' → WatA K CW G' x W → Q (.ref x) H'
theorem ok_l_made (T : Tx K mg A) : DefOk P w K mg base 10 "_law_made" P_l_made (sp_l_made K A.Watcher) := by
  refine T.f_l_made.ok sc_l_made (fun vs H Q E ⟨_, _, _, e, _⟩ => by rw [e]; rfl) (fun f cdv AA outer s H vs Q E hr h => ⟨_, (pss_one (ps_ret (pe_mk (ok_Watcher T) (lv hr) rfl T.g_Watcher (pa_cons (pe_dget (hu_of hr) (pv 0) pe_str (fun _ _ => rfl)) (pa_cons (pe_dget (hu_of hr) (pv 0) pe_str (fun _ _ => rfl)) (pa_cons (pe_dget (hu_of hr) (pv 0) pe_str (fun _ _ => rfl)) (pa_cons (pe_dget (hu_of hr) (pv 0) pe_str (fun _ _ => rfl)) pa_nil))))))), ?_⟩)
  obtain ⟨x, W, G, rfl, w0, ⟨c, d, a, e, gx, ar⟩, ok, k⟩ := h
  have hx := w0 _ _ gx
  refine ⟨_, rfl, x, _, rfl, dget hx (wK_c c d a e), _, rfl, x, _, rfl, dget hx (wK_d c d a e), _, rfl, x, _, rfl, dget hx (wK_a c d a e), _, rfl, x, _, rfl, dget hx (wK_e c d a e), fun y dy hy hdy ne => ?_⟩
  have ms := made_same (C := A.Watcher) w0 hy hdy ne
  refine ⟨y, dy, c, d, a, e, G, W, rfl, ms, w0.free hy, upd_same, ar, ok, fun G' H' fs n4 gy hwd hy4 => ⟨rfl, ?_⟩⟩
  exact k _ _ y (made w0 hy hdy ne n4 gy hy4) ⟨dy, fs, upd_same, hwd.mono (Same.new0 gy)⟩
end K25

/-! ## L6 -/
set_option Elab.async false
set_option linter.all false
set_option maxRecDepth 100000
set_option maxHeartbeats 8000000
/-! L6: the law's own walk: held, begin. -/
set_option exponentiation.threshold 100000
namespace K25
open PySem L2
open PySem.Spec PyProof.Rows
variable {P : Program} {w : World} {K : PySem.W.Frag} {mg : Str → Option Value} {base : Heap} {A : Ad}
def lawIn (bs : List (Str × Fr)) (t : Fr) (e : Cut) : Bool := keepsW (minusF t (getF bs e.1)) e.2.1 e.2.2
def heldB (W : Wt) (p : Str) (bs : List (Str × Fr)) (t : Fr) : Bool := ((W.lims.lookup p).getD []).all (lawIn bs t)
theorem dget_lock {H H' : Hp} {a e : Addr} {ks kvs : List (Key × V)} {od : Obj} {c : Str} {v : V} (ha : H a = some (.dK ks)) (he : H e = some (.dK kvs)) (s : Same (del H e) H') (f : H' e = some (.frz od (.dK kvs))) (hv : valV ks (.inr c) = some v) : DGet H' a (.str c) (some v) := by
  by_cases q : a = e
  · subst q
    rw [he] at ha
    cases ha
    exact dget_frz f hv
  · exact dget (s _ _ (by rw [del_ne q]; exact ha)) hv
theorem all_false {α : Type} {l : List α} {p : α → Bool} {i : Nat} {x : α} (h : l[i]? = some x) (hp : p x = false) : l.all p = false := by
  cases q : l.all p with
  | false => rfl
  | true =>
    rw [List.all_eq_true] at q
    rw [q x (List.mem_of_getElem? h)] at hp
    cases hp
theorem all_take {α : Type} {l : List α} {p : α → Bool} {i : Nat} {x : α} (h : l[i]? = some x) (hp : p x = true) (ht : (l.take i).all p = true) : (l.take (i + 1)).all p = true := by
  rw [take_succ' h, List.all_append, ht]
  simp [hp]
def sp_l_held (K : PySem.W.Frag) : Sp := fun vs H Q _ => ∃ (x b : Addr) (v : V) (p : Str) (W : Wt) (bs : List (Str × Fr)) (t : Fr) (k : Nat), vs = [.ref x, .str p, .ref b, v] ∧ LawW K H x W ∧ WtOk W ∧ p ∈ W.places ∧ BegA K H b bs ∧ (∀ c ∈ W.clocks, c ∈ bs.map (·.1)) ∧ FrA K H v t ∧ FrB k t ∧ (∀ b ∈ bs, FrB k b.2) ∧ k ≤ 1900 ∧
  ∀ H', Same H H' → Q (.bl (heldB W p bs t)) H'
theorem ok_l_held (T : Tx K mg A) : DefOk P w K mg base 4 "_law_held" P_l_held (sp_l_held K) := by
  refine T.f_l_held.ok sc_l_held (fun vs H Q E ⟨_, _, _, _, _, _, _, _, e, _⟩ => by rw [e]; rfl) (fun f cdv AA outer s H vs Q E hr h => ⟨_, (pss_cons (ps_lock (ps_for PassesOwn.never rfl (pi_keys (pe_dget (hu_of hr) (pe_dget (hu_of hr) (pv 0) pe_str (fun _ _ => rfl)) (pv 1) (fun _ _ => rfl))) (pg_name (i := 4) sc_l_held.nd rfl (Or.inl rfl)) (pss_cons (ps_asg (pe_dget (hu_of hr) (pe_dget (hu_of hr) (pe_dget (hu_of hr) (pv 0) pe_str (fun _ _ => rfl)) (pv 1) (fun _ _ => rfl)) (pv 4) (fun _ _ => rfl)) (pg_tup rfl (pgs_cons (pg_name (i := 5) sc_l_held.nd rfl (Or.inl rfl)) (pgs_cons (pg_name (i := 6) sc_l_held.nd rfl (Or.inl rfl)) pgs_nil)))) (pss_one (ps_if (pt_not (pt_val (pe_cd (ok_l_keeps T) (lv hr) rfl (pa_cons (pe_cd (ok_l_minus T) (lv hr) rfl (pa_cons (pv 3) (pa_cons (pe_dget (hu_of hr) (pv 2) (pv 4) (fun _ _ => rfl)) pa_nil))) (pa_cons (pv 5) (pa_cons (pv 6) pa_nil)))))) (pss_one (ps_ret pe_bl)) pss_nil))))) (pss_one (ps_ret pe_bl))), ?_⟩)
  obtain ⟨x, b, v, p, W, bs, t, n, rfl, ⟨c, d, a, e0, hx, ar⟩, ok, hp, hb, hc, ft, bt, hB, hn, k⟩ := h
  obtain ⟨kvs, hd, hkv⟩ := ar.d
  obtain ⟨i, hi, hpi⟩ := List.getElem_of_mem hp
  have hWi : ∃ l, W.lims[i]? = some (p, l) := by
    unfold Wt.places at hi hpi
    rw [List.length_map] at hi
    refine ⟨(W.lims[i]).2, ?_⟩
    rw [List.getElem?_eq_getElem hi]
    rw [List.getElem_map] at hpi
    rw [← hpi]
  obtain ⟨l, hl⟩ := hWi
  have lo := ok.lm _ (List.mem_of_getElem? hl)
  simp only at lo
  have hheld : heldB W p bs t = l.all (lawIn bs t) := by
    unfold heldB
    rw [look_nd ok.pn hl]
    rfl
  obtain ⟨v1, hv1, hv2, e, rfl, ne, ks, he, hks⟩ := Paired.val (f := fun b : Str × Lim => b.1) (F := fun v b => ∃ e, v = .ref e ∧ e ≠ d ∧ LimA K H e b.2) hkv ok.pn hl
  simp only at hv1 hv2 hks
  have hlk : ks.length = l.length := Paired.len hks
  have hks2 := hks.del he
  refine ⟨e, _, he, trivial, fun od => ?_⟩
  have f0 : upd H e (.frz od (.dK ks)) e = some (.frz od (.dK ks)) := upd_same
  have w0 : Same (del H e) (upd H e (.frz od (.dK ks))) := del_upd
  refine ⟨_, rfl, x, _, rfl, dget_lock hx he w0 f0 (wK_d c d a e0), _, rfl, d, _, rfl, dget_lock hd he w0 f0 hv2, e, od, rfl, .inl ⟨ks, f0, ?_⟩⟩
  refine for_it (walk_keys (d := e) (o := od) (kvs := ks)) (fun j σ H2 => Same (del H e) H2 ∧ H2 e = some (.frz od (.dK ks)) ∧ (l.take j).all (lawIn bs t) = true ∧ ∃ v4 v5 v6, σ = [some (.ref x), some (.str p), some (.ref b), some v, v4, v5, v6]) ⟨w0, f0, rfl, none, none, none, rfl⟩ (fun j σ H2 _ ⟨_, q, _⟩ => q) ?_ ?_
  · rintro j y σ H2 H3 hj ⟨w2, f2, ht, v4, v5, v6, rfl⟩ ⟨rfl, k1, u1, hk1, rfl⟩
    obtain ⟨⟨cc, bb⟩, hb1, hk, a1, hv, hs1⟩ := Paired.get hks2 hk1
    simp only at hk hv hs1
    subst hk
    subst hv
    have hm := List.mem_of_getElem? hb1
    have hval := valV_of (hks.nd lo.nd) hk1
    obtain ⟨v2, hg, hf⟩ := hb.lockd (od := od) he (hc cc (lo.c _ hm))
    have hs2 := seqT w2 hs1
    refine ⟨_, rfl, x, _, rfl, dget_lock hx he w2 f2 (wK_d c d a e0), _, rfl, d, _, rfl, dget_lock hd he w2 f2 hv2, _, rfl, e, _, rfl, dget_frz f2 hval, a1, _, rfl, hs2, rfl, _, _, rfl, _, _, rfl, rfl, ?_⟩
    obtain ⟨ta, rfl, hta⟩ := ft
    have ft2 : FrA K H3 (.ref ta) t := ⟨ta, rfl, seqT w2 (seqT_del he hta)⟩
    have hB2 := hB _ (getF_mem (hc cc (lo.c _ hm)))
    simp only at hB2
    refine ⟨_, rfl, _, rfl, _, rfl, b, _, rfl, hg _ w2 f2, _, v2, t, _, n, rfl, ft2, hf.mono w2, bt, hB2, by omega, fun q hq => ?_⟩
    have w3 := w2.new (o := tupF (minusF t (getF bs cc))) hq
    have f3 : upd H3 q (tupF (minusF t (getF bs cc))) e = some (.frz od (.dK ks)) := by rw [upd_ne (ne_of_none f2 hq)]; exact f2
    refine ⟨_, rfl, _, rfl, .ref q, _, bb.1, bb.2, n + n + 1, rfl, FrA.of upd_same, minusF_B bt hB2, by omega, n5_lt (lo.n0 _ hm) (lo.n5 _ hm), .inr (lo.w _ hm), fun H5 e5 => ⟨_, rfl, ?_⟩⟩
    have el : lawIn bs t (cc, bb) = keepsW (minusF t (getF bs cc)) bb.1 bb.2 := rfl
    cases hq2 : keepsW (minusF t (getF bs cc)) bb.1 bb.2 with
    | true => exact iteF' rfl ⟨w3.trans e5, e5 _ _ f3, all_take hb1 (el.trans hq2) ht, _, _, _, rfl⟩
    | false =>
      refine iteT' rfl ⟨e5 _ _ f3, ?_⟩
      have q := k _ (unlock (w3.trans e5) he)
      rw [hheld, all_false hb1 (el.trans hq2)] at q
      exact q
  · rintro σ H2 ⟨w2, f2, ht, v4, v5, v6, rfl⟩
    refine ⟨f2, ?_⟩
    have q := k _ (unlock w2 he)
    rw [hlk, List.take_length] at ht
    rw [hheld, ht] at q
    exact q
/-! ### begin -/
theorem mergeK_nd : ∀ {more acc : List (Key × V)}, ((acc ++ more).map (·.1)).Nodup → mergeK acc more = acc ++ more
  | [], acc, _ => by simp [mergeK]
  | (k, v) :: more, acc, h => by
    have nin : k ∉ acc.map (·.1) := fun z => by
      rw [List.map_append, List.nodup_append] at h
      exact h.2.2 k z k (by simp) rfl
    show mergeK (putK acc k v) more = _
    rw [putK_new _ (valV_not nin), mergeK_nd (by simpa using h)]
    simp
/-- the law's stand -/
def LawSt (K : PySem.W.Frag) (G : Hp) (v : V) (st : Std) : Prop := ∃ a b, v = .ref a ∧ SqT K G a [.str st.1, .ref b] ∧ BegA K G b st.2
theorem LawSt.mono {G G' : Hp} {v : V} {st : Std} (h : LawSt K G v st) (e : Same G G') : LawSt K G' v st := by
  obtain ⟨a, b, h1, h2, h3⟩ := h
  exact ⟨a, b, h1, seqT e h2, h3.mono e⟩
def OptL (K : PySem.W.Frag) (G : Hp) (v : V) : Option Std → Prop
  | none => v = .non
  | some st => LawSt K G v st
theorem OptL.mono {G G' : Hp} {v : V} : ∀ {o : Option Std}, OptL K G v o → Same G G' → OptL K G' v o
  | none, h, _ => h
  | some _, h, e => LawSt.mono h e
def sp_l_begin (K : PySem.W.Frag) : Sp := fun vs H Q _ => ∃ (x : Addr) (W : Wt) (G : Hp), vs = [.ref x] ∧ Same G H ∧ LawW K G x W ∧ WtOk W ∧ ∀ G' H' v, Nx M0 G H G' H' → LawSt K G' v (W.pl0, zerosF W) → Q v H'
theorem ok_l_begin (T : Tx K mg A) : DefOk P w K mg base 1 "_law_begin" P_l_begin (sp_l_begin K) := by
  refine T.f_l_begin.ok sc_l_begin (fun vs H Q E ⟨_, _, _, e, _⟩ => by rw [e]; rfl) (fun f cdv AA outer s H vs Q E hr h => ⟨_, (pss_one (ps_ret (pe_tup (pa_cons (pe_ix ix_list (pe_callTy (call_list_dK rfl) rfl T.z_list (by decide +kernel) (pa_cons (pe_dget (hu_of hr) (pv 0) pe_str (fun _ _ => rfl)) pa_nil)) pe_int (fun _ _ => rfl)) (pa_cons (pe_callTy (call_dictP rfl) rfl T.z_dict (by decide +kernel) (pa_cons (pe_lc (own := [("_law_clock", 1)]) rfl sc_l_begin.nd (pi_list (pe_dget (hu_of hr) (pv 0) pe_str (fun _ _ => rfl))) (blkOk_by (own := [("_law_clock", 1)]) (N := N_l_begin) (sc := defScope s_l_begin) (by decide +kernel)) (fun _ _ _ _ _ => (pg_name (i := 1) sc_l_begin.nd rfl (Or.inl rfl))) (fun _ _ _ _ _ => pts_nil) (fun _ _ _ _ _ => (pe_tup (pa_cons (pv 1) (pa_cons (pe_tup (pa_cons pe_int (pa_cons pe_int pa_nil))) pa_nil))))) pa_nil)) pa_nil))))), ?_⟩)
  obtain ⟨x, W, G, rfl, w0, ⟨c, d, a, e0, gx, ar⟩, ok, k⟩ := h
  have hx := w0 _ _ gx
  obtain ⟨kvs, gd, hkv⟩ := ar.d
  have cl := ok.cl
  refine ⟨_, rfl, x, _, rfl, dget hx (wK_d c d a e0), _, kvs, rfl, w0 _ _ gd, fun q hq => ⟨q, _, 0, _, rfl, rfl, SqL.of upd_same, (?_ : _ = some (V.str W.pl0)), ?_⟩⟩
  · rw [keys_list hkv]
    have q := ok.pl0.1
    show atI (W.places.map V.str) 0 = _
    cases hp : W.places with
    | nil => rw [hp] at q; cases q
    | cons p r =>
      rw [hp] at q
      cases q
      simp [atI, ixN]
  have n1 : Nx M0 G H G (upd H q (.lst (kvs.map fun kv => kV kv.1))) := Nx.grow w0 (Same.new0 hq)
  generalize upd H q (.lst (kvs.map fun kv => kV kv.1)) = H1 at n1
  refine ⟨_, rfl, x, _, rfl, dget (n1.w _ _ gx) (wK_c c d a e0), c, rfl, ⟨_, n1.w.seq ar.c⟩, fun L hL => ?_⟩
  refine lc_map (G := G) (walk_list (xs := W.clocks.map V.str)) M0 (fun i acc G' H' => ∃ (ps : List Addr) (kv : List (Key × V)), acc = ps.map V.ref ∧ Paired (fun p kv => SqT K G' p [kV kv.1, kv.2]) ps kv ∧ KvF K G' kv ((W.clocks.take i).map fun c => (c, (0, 1)))) n1.w hL (by rw [List.length_map]; omega) (fun z => z) ⟨[], [], rfl, .nil, .nil⟩
    (fun i acc G' H' n2 _ => (n2.g.trans n2.w).seq ar.c) ?_ ?_
  · rintro i acc G' H2 z H3 Qc hi la n2 hD gD ⟨ps, kv, rfl, hp1, hp2⟩ ⟨rfl, hz⟩ qq
    obtain ⟨cc, hcc, rfl⟩ := get_map hz
    refine ⟨rfl, _, rfl, s2, fun t1 ht1 => ⟨s2, fun t2 ht2 => ?_⟩⟩
    have n3 := Nx.new (M := M0) (o := .tup [.int 0, .int 1]) n2.w ht1
    have n4 := n3.trans (Nx.new (o := .tup [.str cc, .ref t1]) n3.w ht2)
    refine qq _ _ _ n4 ⟨ps ++ [t2], kv ++ [(.inr cc, .ref t1)], by simp, ?_, ?_⟩
    · exact Paired.snoc (Paired.imp (fun _ _ h => seqT n4.g h) hp1) (SqT.of upd_same)
    · rw [map_take_snoc hcc]
      exact Paired.snoc (hp2.mono n4.g) ⟨rfl, t1, rfl, seqT (Same.new0 (n3.w.free ht2)) (SqT.of upd_same)⟩
  intro acc G' H2 n2 la e2 hD ⟨ps, kv, e1, hp1, hp2⟩
  subst e1
  rw [List.length_map, List.take_length] at hp2
  have kn : (kv.map (·.1)).Nodup := by
    rw [hp2.keys]
    have q := zeros_keys W
    unfold zerosF at q
    rw [q]
    exact nd_inr ok.cn
  refine ⟨L, ps, kv, rfl, n2.w.seq (SqL.of upd_same), Paired.imp (fun _ _ h => seqT n2.w (seqT e2 h)) hp1, fun b hb => ⟨s2, fun t ht => ?_⟩⟩
  rw [mergeK_nd (acc := []) kn, List.nil_append] at ht ⊢
  have n3 := (n1.trans n2).trans (Nx.new (o := .dK kv) n2.w hb)
  have n4 := n3.trans (Nx.new (o := .tup [.str W.pl0, .ref b]) n3.w ht)
  refine k _ _ _ n4 ⟨t, b, rfl, SqT.of upd_same, BegA.mono ⟨kv, upd_same, hp2.mono (e2.trans (Same.new0 (n2.w.free hb)))⟩ (Same.new0 (n3.w.free ht))⟩
end K25

/-! ## L7 -/
set_option Elab.async false
set_option linter.all false
set_option maxRecDepth 100000
set_option maxHeartbeats 8000000
/-! L7: the law's step and walk. -/
set_option exponentiation.threshold 100000
namespace K25
open PySem L2
open PySem.Spec PyProof.Rows
variable {P : Program} {w : World} {K : PySem.W.Frag} {mg : Str → Option Value} {base : Heap} {A : Ad}
theorem getF_worths {bs : List (Str × Fr)} {c : Str} (t : Fr) (h : c ∈ bs.map (·.1)) : getF (worthsF bs t) c = minusF t (getF bs c) := by
  unfold getF worthsF
  induction bs with
  | nil => simp at h
  | cons p r ih =>
    obtain ⟨c', b'⟩ := p
    by_cases e : c = c'
    · subst e; simp [List.lookup]
    · have q : (c == c') = false := by simpa using e
      rw [List.map_cons, List.mem_cons] at h
      simp only [List.map_cons, List.lookup, q]
      exact ih (h.resolve_left e)
theorem keepsW_up {x : Fr} {u : Str} {n : Int} (h : UpW u) : keepsW x u n = keepsU x u n := by
  unfold keepsW
  rcases h with rfl | rfl
  · rw [if_neg (by decide +kernel), if_neg (by decide +kernel)]
  · rw [if_neg (by decide +kernel), if_neg (by decide +kernel)]
theorem lookup_held {W : Wt} {p : Str} : W.held.lookup p = (W.lims.lookup p).map (heldL W.clocks) := by
  unfold Wt.held
  generalize W.lims = l
  induction l with
  | nil => rfl
  | cons q r ih =>
    obtain ⟨p', l'⟩ := q
    by_cases e : p = p'
    · subst e; simp [List.lookup]
    · have q : (p == p') = false := by simpa using e
      simp only [List.map_cons, List.lookup, q]
      exact ih
theorem heldB_eq {W : Wt} {p : Str} {bs : List (Str × Fr)} {t : Fr} (ok : WtOk W) (hc : ∀ c ∈ W.clocks, c ∈ bs.map (·.1)) : heldB W p bs t = limB W p (worthsF bs t) := by
  unfold heldB limB
  rw [lookup_held]
  cases hl : W.lims.lookup p with
  | none => rfl
  | some l =>
    have lo := ok.lm _ (look_mem hl)
    simp only at lo
    show l.all (lawIn bs t) = (heldL W.clocks l).all _
    have e1 : ∀ e ∈ l, lawIn bs t e = keepsU (getF (worthsF bs t) e.1) e.2.1 e.2.2 := fun e he => by
      unfold lawIn
      rw [keepsW_up (lo.w e he), getF_worths t (hc _ (lo.c e he))]
    have e2 : ∀ e, e ∈ heldL W.clocks l ↔ e ∈ l := fun e => ⟨fun h => look_mem (held_in h).2, fun h => by
      obtain ⟨i, hi, rfl⟩ := List.getElem_of_mem h
      have hlk : l.lookup (l[i]).1 = some (l[i]).2 := look_nd lo.nd (i := i) (by rw [List.getElem?_eq_getElem hi])
      exact List.mem_filterMap.mpr ⟨_, lo.c _ h, by rw [hlk]; rfl⟩⟩
    rw [Bool.eq_iff_iff, List.all_eq_true, List.all_eq_true]
    exact ⟨fun h e he => by rw [← e1 e ((e2 e).mp he)]; exact h e ((e2 e).mp he), fun h e he => by rw [e1 e he]; exact h e ((e2 e).mpr he)⟩
theorem pass_eq {bs : List (Str × Fr)} {t : Fr} {c : Cut} (h : c.1 ∈ bs.map (·.1)) : passB (worthsF bs t) c = lawIn bs t c := by
  unfold passB lawIn
  rw [getF_worths t h]
def sp_l_step (K : PySem.W.Frag) : Sp := fun vs H Q _ => ∃ (x : Addr) (sv v : V) (i : Nat) (W : Wt) (st : Std) (a : Arr) (t : Fr) (k : Nat) (G : Hp), vs = [.ref x, sv, .int i, v] ∧ Same G H ∧ LawW K G x W ∧ WtOk W ∧ LawSt K G sv st ∧ StOk W k st ∧ st.1 ∈ W.places ∧ W.arrs[i]? = some a ∧
  FrA K G v t ∧ FrB k t ∧ k ≤ 1900 ∧ ∀ G' H' v', Nx M0 G H G' H' → OptL K G' v' (goneS W st a t) → Q v' H'
theorem ok_l_step (T : Tx K mg A) : DefOk P w K mg base 5 "_law_step" P_l_step (sp_l_step K) := by
  refine T.f_l_step.ok sc_l_step (fun vs H Q E ⟨_, _, _, _, _, _, _, _, _, _, e, _⟩ => by rw [e]; rfl) (fun f cdv AA outer s H vs Q E hr h => ⟨_, (pss_cons (ps_asg (pv 1) (pg_tup rfl (pgs_cons (pg_name (i := 4) sc_l_step.nd rfl (Or.inl rfl)) (pgs_cons (pg_name (i := 5) sc_l_step.nd rfl (Or.inl rfl)) pgs_nil)))) (pss_cons (ps_asg (pe_ix ix_list (pe_dget (hu_of hr) (pv 0) pe_str (fun _ _ => rfl)) (pv 2) (fun _ _ => rfl)) (pg_tup rfl (pgs_cons (pg_name (i := 6) sc_l_step.nd rfl (Or.inl rfl)) (pgs_cons (pg_name (i := 7) sc_l_step.nd rfl (Or.inl rfl)) (pgs_cons (pg_name (i := 8) sc_l_step.nd rfl (Or.inl rfl)) (pgs_cons (pg_name (i := 9) sc_l_step.nd rfl (Or.inl rfl)) (pgs_cons (pg_name (i := 10) sc_l_step.nd rfl (Or.inl rfl)) pgs_nil))))))) (pss_cons (ps_if (PW.pt (pw_or (pt_cmpR op_ne (pv 6) (pv 4) (nomark _)) (pw_or1 (pt_not (pt_val (pe_cd (ok_l_held T) (lv hr) rfl (pa_cons (pv 0) (pa_cons (pv 4) (pa_cons (pv 5) (pa_cons (pv 3) pa_nil)))))))))) (pss_one (ps_ret pe_non)) pss_nil) (pss_cons (ps_for PassesOwn.never rfl (pi_list (pv 8)) (pg_tup rfl (pgs_cons (pg_name (i := 11) sc_l_step.nd rfl (Or.inl rfl)) (pgs_cons (pg_name (i := 12) sc_l_step.nd rfl (Or.inl rfl)) (pgs_cons (pg_name (i := 13) sc_l_step.nd rfl (Or.inl rfl)) pgs_nil)))) (pss_one (ps_if (pt_not (pt_val (pe_cd (ok_l_keeps T) (lv hr) rfl (pa_cons (pe_cd (ok_l_minus T) (lv hr) rfl (pa_cons (pv 3) (pa_cons (pe_dget (hu_of hr) (pv 5) (pv 11) (fun _ _ => rfl)) pa_nil))) (pa_cons (pv 12) (pa_cons (pv 13) pa_nil)))))) (pss_one (ps_ret pe_non)) pss_nil))) (pss_cons (ps_set (i := 14) sc_l_step.nd rfl (Or.inl rfl) (pe_callTy call_dict_copy rfl T.z_dict (by decide +kernel) (pa_cons (pv 5) pa_nil))) (pss_cons (ps_for PassesOwn.never rfl (pi_list (pv 9)) (pg_name (i := 11) sc_l_step.nd rfl (Or.inl rfl)) (pss_one (ps_dput (hu_of hr) (pv 14) (pv 11) (pv 3) rfl))) (pss_one (ps_ret (pe_ifExp (pt_val (pe_cd (ok_l_held T) (lv hr) rfl (pa_cons (pv 0) (pa_cons (pv 10) (pa_cons (pv 14) (pa_cons (pv 3) pa_nil)))))) (pe_tup (pa_cons (pv 10) (pa_cons (pv 14) pa_nil))) pe_non))))))))), ?_⟩)
  obtain ⟨x, sv, v, i, W, st, a, t, n, G, rfl, w0, lw, ok, ⟨sa, b, rfl, gsa, gb⟩, so, spl, hi, ft, bt, hn, k⟩ := h
  have cl := ok.cl
  have sl : st.2.length = W.clocks.length := by rw [← so.c, List.length_map]
  have ao := ok.ar a (List.mem_of_getElem? hi)
  have lw' := lw
  obtain ⟨c, d, aa, e0, gx, ar⟩ := lw'
  obtain ⟨aa', xs, ea, hxs, rxs⟩ := ar.a
  cases ea
  obtain ⟨xi, hxi, rxi⟩ := rxs.get (i := i) (d := arrD a) (by rw [List.getElem?_map, hi]; rfl)
  obtain ⟨tr, trx, rfl, gtr, x0, r0, rfl, h0, x1, r1, rfl, h1, x2, r2, rfl, h2, x3, r3, rfl, h3, x4, r4, rfl, h4, rfl⟩ := rxi
  cases h0
  cases h4
  obtain ⟨ac, xc, rfl, hac, hxc⟩ := h2
  obtain ⟨ab, xb, rfl, hab, hxb⟩ := h3
  rw [hxb.strs_inv] at hab
  have wk : ∀ z ∈ W.clocks, z ∈ st.2.map (·.1) := fun z hz => by rw [so.c]; exact hz
  refine ⟨_, rfl, sa, _, rfl, seqT w0 gsa, rfl, _, _, rfl, _, _, rfl, rfl, ?_⟩
  refine ⟨_, rfl, x, _, rfl, dget (w0 _ _ gx) (wK_a c d aa e0), _, rfl, aa, xs, (i : Int), _, rfl, rfl, w0.seq hxs, atI_nat hxi, tr, _, rfl, seqT w0 gtr, rfl, _, _, rfl, _, _, rfl, _, _, rfl, _, _, rfl, _, _, rfl, rfl, ?_⟩
  have stop : ∀ H', Same H H' → goneS W st a t = none → Q .non H' := fun H' e z => k G H' .non (Nx.grow w0 e) (by rw [z]; rfl)
  by_cases hsrc : a.src = st.1
  rotate_left
  · have e : decide (V.str a.src = V.str st.1) = false := str_ne hsrc
    refine ⟨_, rfl, _, rfl, rfl, _, rfl, iteT' (by rw [e]; rfl) (stop _ (Same.refl _) ?_)⟩
    unfold goneS
    exact if_neg fun z => hsrc z.1
  have e : decide (V.str a.src = V.str st.1) = true := decide_eq_true (by rw [hsrc])
  refine ⟨_, rfl, _, rfl, rfl, _, rfl, iteF' (by rw [e]; rfl) ?_⟩
  have h1eq : heldB W st.1 st.2 t = limB W a.src (worthsF st.2 t) := by rw [hsrc]; exact heldB_eq ok wk
  refine ⟨_, rfl, _, rfl, _, rfl, _, rfl, x, b, v, st.1, W, st.2, t, n, rfl, lw.mono w0, ok, spl, gb.mono w0, wk, ft.mono w0, bt, so.b, hn, fun H1 e1 => ⟨_, rfl, ?_⟩⟩
  rw [h1eq]
  cases hlim : limB W a.src (worthsF st.2 t) with
  | false =>
    refine iteT' rfl (stop _ e1 ?_)
    unfold goneS
    exact if_neg fun z => by rw [hlim] at z; cases z.2
  | true =>
  refine iteF' rfl ?_
  have w1 := w0.trans e1
  -- the cuts
  have lc : xc.length = a.cuts.length := by rw [hxc.len, List.length_map]
  refine ⟨_, rfl, ac, rfl, ⟨xc, w1.seq hac⟩, ?_⟩
  refine for_it (walk_list (xs := xc)) (fun j σ H2 => Same H H2 ∧ (a.cuts.take j).all (lawIn st.2 t) = true ∧ ∃ v11 v12 v13, σ = [some (.ref x), some (.ref sa), some (.int i), some v, some (.str st.1), some (.ref b), some (.str a.src), some x1, some (.ref ac), some (.ref ab), some (.str a.dst), v11, v12, v13, none]) ⟨e1, rfl, none, none, none, rfl⟩ (fun j σ H2 _ ⟨e2, _⟩ => (w0.trans e2).seq hac) ?_ ?_
  · rintro j z σ H2 H3 hj ⟨e2, hall, v11, v12, v13, rfl⟩ ⟨rfl, hz⟩
    have w2 := w0.trans e2
    obtain ⟨dz, hdz, rdz⟩ := hxc.get' hz
    obtain ⟨cc, hcc, rfl⟩ := get_map hdz
    have co := ao.cuts cc (List.mem_of_getElem? hcc)
    obtain ⟨tz, xz, rfl, gtz, y0, s0', rfl, q0, y1, s1', rfl, q1, y2, s2', rfl, q2, rfl⟩ := rdz
    cases q0
    cases q1
    cases q2
    obtain ⟨v2, hg, hf⟩ := (gb.mono w2).look (wk _ co.c)
    have hB2 := so.b _ (getF_mem (wk _ co.c))
    refine ⟨tz, _, rfl, seqT w2 gtz, rfl, _, _, rfl, _, _, rfl, _, _, rfl, rfl, ?_⟩
    refine ⟨_, rfl, _, rfl, _, rfl, b, _, rfl, hg, v, v2, t, _, n, rfl, ft.mono w2, hf, bt, hB2, by omega, fun q hq => ?_⟩
    have e3 := e2.new (o := tupF (minusF t (getF st.2 cc.1))) hq
    refine ⟨_, rfl, _, rfl, .ref q, _, cc.2.1, cc.2.2, n + n + 1, rfl, FrA.of upd_same, minusF_B bt hB2, by omega, n5_lt co.n0 co.n5, co.w, fun H5 e5 => ⟨_, rfl, ?_⟩⟩
    have el : lawIn st.2 t cc = keepsW (minusF t (getF st.2 cc.1)) cc.2.1 cc.2.2 := rfl
    cases hq2 : keepsW (minusF t (getF st.2 cc.1)) cc.2.1 cc.2.2 with
    | true => exact iteF' rfl ⟨e3.trans e5, all_take hcc (el.trans hq2) hall, _, _, _, rfl⟩
    | false =>
      refine iteT' rfl (stop _ (e3.trans e5) ?_)
      unfold goneS
      rw [if_pos ⟨hsrc, hlim⟩]
      refine if_neg fun z => ?_
      have q := all_false (p := passB (worthsF st.2 t)) hcc (by rw [pass_eq (wk _ co.c)]; exact el.trans hq2)
      rw [q] at z
      cases z
  rintro σ H2 ⟨e2, hall, v11, v12, v13, rfl⟩
  rw [lc, List.take_length] at hall
  have hcut : a.cuts.all (passB (worthsF st.2 t)) = true := by
    rw [List.all_eq_true] at hall ⊢
    intro z hz
    rw [pass_eq (wk _ (ao.cuts z hz).c)]
    exact hall z hz
  have n2 : Nx M0 G H G H2 := Nx.grow w0 e2
  -- later
  obtain ⟨bks, gb1, gb2⟩ := gb
  refine ⟨_, rfl, b, bks, rfl, .inl (n2.w _ _ gb1), fun p hp => ?_⟩
  have np := n2.trans (Nx.newM (o := .dK bks) n2.w hp)
  have hfree : H p = none := by
    cases z : H p with
    | none => rfl
    | some o => exact absurd hp (n2.t p (by rw [z]; simp))
  have gp : G p = none := n2.w.free hp
  refine ⟨_, rfl, ab, rfl, ⟨_, np.w.seq hab⟩, ?_⟩
  refine for_it (walk_list (xs := a.beg.map V.str)) (fun j σ H2 => ∃ kvs2 z, Nx M0 G H G H2 ∧ H2 p = some (.dK kvs2) ∧ KvF K G kvs2 (setB st.2 (a.beg.take j) t) ∧ σ = [some (.ref x), some (.ref sa), some (.int i), some v, some (.str st.1), some (.ref b), some (.str a.src), some x1, some (.ref ac), some (.ref ab), some (.str a.dst), z, v12, v13, some (.ref p)])
    ⟨bks, v11, np, upd_same, by rw [List.take_zero, setB_nil]; exact gb2, rfl⟩ (fun j σ H2 _ ⟨_, _, n3, _⟩ => n3.w.seq hab) ?_ ?_
  · rintro j z σ H3 H4 hj ⟨kvs2, z0, n3, hp2, hk2, rfl⟩ ⟨rfl, hz⟩
    obtain ⟨cc, hcc, rfl⟩ := get_map hz
    have hl2 : kvs2.length = st.2.length := by rw [putK_len hk2]; unfold setB; rw [List.length_map]
    refine ⟨_, rfl, _, rfl, _, rfl, p, _, rfl, DPut.k (k := .inr cc) hp2 (szl (by omega)), _, _, n3.wrL hfree gp, upd_same, ?_, rfl⟩
    rw [take_succ' hcc, setB_snoc]
    exact hk2.put (by rw [setB_keys, so.c]; exact ao.beg _ (List.mem_of_getElem? hcc)) ft
  rintro σ H3 ⟨kvs2, z0, n3, hp2, hk2, rfl⟩
  rw [List.length_map, List.take_length] at hk2
  have n4 := n3.still hfree hp2 w0
  have gB : BegA K (upd G p (.dK kvs2)) p (setB st.2 a.beg t) := ⟨kvs2, upd_same, hk2.mono (Same.new0 gp)⟩
  generalize upd G p (.dK kvs2) = G4 at n4 gB
  have sB := setB_B (l := a.beg) bt so.b
  have sk : (setB st.2 a.beg t).map (·.1) = W.clocks := by rw [setB_keys]; exact so.c
  have wk2 : ∀ z ∈ W.clocks, z ∈ (setB st.2 a.beg t).map (·.1) := fun z hz => by rw [sk]; exact hz
  refine ⟨_, rfl, _, rfl, _, rfl, _, rfl, x, p, v, a.dst, W, _, t, n, rfl, (lw.mono n4.g).mono n4.w, ok, ao.dst, gB.mono n4.w, wk2, (ft.mono n4.g).mono n4.w, bt, sB, hn, fun H5 e5 => ⟨_, rfl, ?_⟩⟩
  rw [heldB_eq ok wk2]
  have n5 := n4.growG e5
  cases hl2 : limB W a.dst (worthsF (setB st.2 a.beg t) t) with
  | true =>
    refine iteT' rfl ⟨_, rfl, _, rfl, s2, fun q hq => k _ _ _ (n5.trans (Nx.new (o := .tup [.str a.dst, .ref p]) n5.w hq)) ?_⟩
    unfold goneS
    rw [if_pos ⟨hsrc, hlim⟩, if_pos hcut, if_pos hl2]
    exact ⟨q, p, rfl, SqT.of upd_same, gB.mono (Same.new0 (n5.w.free hq))⟩
  | false =>
    refine iteF' rfl (k _ _ _ n5 ?_)
    unfold goneS
    rw [if_pos ⟨hsrc, hlim⟩, if_pos hcut, if_neg (by rw [hl2]; decide)]
    rfl
/-! ### walked -/
def lawGo (W : Wt) : Option Std → Fr → List Stp → Option Std
  | o, _, [] => o
  | none, _, _ :: _ => none
  | some st, now, s :: r => if ltF s.2 now = true then none else lawGo W (stepS W (some st) s) s.2 r
def walkL (W : Wt) (ps : List Stp) : Option Std := lawGo W (firstS W) (0, 1) ps
theorem lawGo_none {W : Wt} {now : Fr} : ∀ ps : List Stp, lawGo W none now ps = none
  | [] => rfl
  | _ :: _ => rfl
theorem goneS_place {W : Wt} {st st' : Std} {a : Arr} {t : Fr} (h : goneS W st a t = some st') : st'.1 = a.dst := by
  unfold goneS at h
  split at h
  · split at h
    · split at h
      · cases h; rfl
      · cases h
    · cases h
  · cases h
def sp_l_walked (K : PySem.W.Frag) : Sp := fun vs H Q _ => ∃ (x p : Addr) (W : Wt) (ps : List Stp) (k : Nat) (G : Hp), vs = [.ref x, .ref p] ∧ Same G H ∧ LawW K G x W ∧ WtOk W ∧ PairsA K G p ps ∧ (∀ s ∈ ps, s.1 < W.arrs.length ∧ FrB k s.2) ∧ 1 ≤ k ∧ k ≤ 1900 ∧
  ∀ G' H' v', Nx M0 G H G' H' → OptL K G' v' (walkL W ps) → Q v' H'
theorem ok_l_walked (T : Tx K mg A) : DefOk P w K mg base 6 "_law_walked" P_l_walked (sp_l_walked K) := by
  refine T.f_l_walked.ok sc_l_walked (fun vs H Q E ⟨_, _, _, _, _, _, e, _⟩ => by rw [e]; rfl) (fun f cdv AA outer s H vs Q E hr h => ⟨_, (pss_cons (ps_par (i := 2) (j := 3) rfl sc_l_walked.nd rfl rfl (by decide) rfl rfl (pa_cons (pe_cd (ok_l_begin T) (lv hr) rfl (pa_cons (pv 0) pa_nil)) (pa_cons (pe_tup (pa_cons pe_int (pa_cons pe_int pa_nil))) pa_nil)) (by rfl)) (pss_cons (ps_if (pt_not (pt_val (pe_cd (ok_l_held T) (lv hr) rfl (pa_cons (pv 0) (pa_cons (pe_ix ix_tup (pv 2) pe_int (fun _ _ => rfl)) (pa_cons (pe_ix ix_tup (pv 2) pe_int (fun _ _ => rfl)) (pa_cons (pv 3) pa_nil))))))) (pss_one (ps_ret pe_non)) pss_nil) (pss_cons (ps_for PassesOwn.never rfl (pi_list (pv 1)) (pg_tup rfl (pgs_cons (pg_name (i := 4) sc_l_walked.nd rfl (Or.inl rfl)) (pgs_cons (pg_name (i := 5) sc_l_walked.nd rfl (Or.inl rfl)) pgs_nil))) (pss_cons (ps_if (PW.pt (pw_or (pt_cmpR op_isN (pv 2) pe_non (nomark _)) (pw_or1 (pt_val (pe_cd (ok_l_less T) (lv hr) rfl (pa_cons (pv 5) (pa_cons (pv 3) pa_nil))))))) (pss_one (ps_ret pe_non)) pss_nil) (pss_one (ps_par (i := 2) (j := 3) rfl sc_l_walked.nd rfl rfl (by decide) rfl rfl (pa_cons (pe_cd (ok_l_step T) (lv hr) rfl (pa_cons (pv 0) (pa_cons (pv 2) (pa_cons (pv 4) (pa_cons (pv 5) pa_nil))))) (pa_cons (pv 5) pa_nil)) (by rfl))))) (pss_one (ps_ret (pv 2)))))), ?_⟩)
  obtain ⟨x, p, W, ps, n, G, rfl, w0, lw, ok, ⟨xs, gp, hxs⟩, hps, hn1, hn, k⟩ := h
  have hlen : xs.length = ps.length := Paired.len hxs
  refine ⟨_, rfl, x, W, G, rfl, w0, lw, ok, fun G1 H1 sv n1 ls => ⟨s2, fun q hq => ⟨_, _, rfl, ?_⟩⟩⟩
  have n2 := n1.trans (Nx.new (o := .tup [.int 0, .int 1]) n1.w hq)
  have e2 := Same.new0 (o := .tup [.int 0, .int 1]) (n1.w.free hq)
  have hq2 : FrA K (upd G1 q (.tup [.int 0, .int 1])) (.ref q) (0, 1) := ⟨q, rfl, SqT.of upd_same⟩
  have ls2 := ls.mono e2
  generalize upd G1 q (.tup [.int 0, .int 1]) = G2 at n2 hq2 ls2
  generalize upd H1 q (.tup [.int 0, .int 1]) = H2 at n2
  obtain ⟨sa, b, rfl, gsa, gb⟩ := ls2
  have zk : ∀ z ∈ W.clocks, z ∈ (zerosF W).map (·.1) := fun z hz => by rw [zeros_keys]; exact hz
  refine ⟨_, rfl, _, rfl, sa, _, 0, _, rfl, rfl, seqT n2.w gsa, at0, _, rfl, sa, _, 1, _, rfl, rfl, seqT n2.w gsa, at1, _, rfl, x, b, .ref q, W.pl0, W, zerosF W, (0, 1), n, rfl, (lw.mono n2.g).mono n2.w, ok, ok.pl0.2, gb.mono n2.w, zk, hq2.mono n2.w, zero_B hn1, fun b hb => zeros_B hn1 hb, hn, fun H3 e3 => ⟨_, rfl, ?_⟩⟩
  have n3 := n2.growG e3
  rw [heldB_eq ok zk]
  have hfs : firstS W = if limB W W.pl0 (worthsF (zerosF W) (0, 1)) = true then some (W.pl0, zerosF W) else none := rfl
  cases hl : limB W W.pl0 (worthsF (zerosF W) (0, 1)) with
  | false =>
    refine iteT' rfl (k _ _ _ n3 ?_)
    unfold walkL
    rw [hfs, if_neg (by rw [hl]; decide), lawGo_none]
    rfl
  | true =>
  rw [if_pos hl] at hfs
  refine iteF' rfl ?_
  refine ⟨_, rfl, p, rfl, ⟨_, (n3.g.trans n3.w).seq gp⟩, ?_⟩
  refine for_it (walk_list (xs := xs)) (fun i σ H4 => ∃ G4 o sv now nv z u, Nx M0 G H G4 H4 ∧ OptL K G4 sv o ∧ (∀ st, o = some st → StOk W n st ∧ st.1 ∈ W.places) ∧ FrA K G4 nv now ∧ FrB n now ∧ walkL W ps = lawGo W o now (ps.drop i) ∧ σ = [some (.ref x), some (.ref p), some sv, some nv, z, u])
    ⟨G2, some (W.pl0, zerosF W), _, (0, 1), _, none, none, n3, ⟨sa, b, rfl, gsa, gb⟩, fun st e => by cases e; exact ⟨⟨zeros_keys W, fun b hb => zeros_B hn1 hb⟩, ok.pl0.2⟩, hq2, zero_B hn1, by unfold walkL; rw [hfs, List.drop_zero], rfl⟩ (fun i σ H4 _ ⟨_, _, _, _, _, _, _, n4, _⟩ => (n4.g.trans n4.w).seq gp) ?_ ?_
  · rintro i zz σ H4 H5 hi ⟨G4, o, sv, now, nv, z, u, n4, ho, hst, hnv, hnB, hw, rfl⟩ ⟨rfl, hzz⟩
    obtain ⟨⟨j, t⟩, hs, aa, tv, rfl, h1, h2⟩ := Paired.get hxs hzz
    simp only at h1 h2
    obtain ⟨hj, bt⟩ := hps _ (List.mem_of_getElem? hs)
    simp only at hj bt
    have hd : ps.drop i = (j, t) :: ps.drop (i + 1) := by
      obtain ⟨hlt, e⟩ := List.getElem?_eq_some_iff.mp hs
      rw [List.drop_eq_getElem_cons hlt, e]
    rw [hd] at hw
    have gg := n4.g.trans n4.w
    refine ⟨aa, _, rfl, seqT gg h1, rfl, _, _, rfl, _, _, rfl, rfl, ?_⟩
    cases o with
    | none =>
      cases ho
      exact ⟨_, rfl, rfl, _, rfl, iteT' rfl (k _ _ _ n4 (by rw [hw]; rfl))⟩
    | some st =>
      have ho' := ho
      obtain ⟨sa4, b4, rfl, gsa4, gb4⟩ := ho'
      refine ⟨_, rfl, rfl, _, rfl, iteF' rfl ?_⟩
      refine ⟨_, rfl, _, rfl, tv, nv, t, now, n, rfl, h2.mono gg, hnv.mono n4.w, bt, hnB, by omega, ?_⟩
      have hw' : walkL W ps = if ltF t now = true then none else lawGo W (stepS W (some st) (j, t)) t (ps.drop (i + 1)) := hw
      refine ⟨_, rfl, ?_⟩
      cases hlt : ltF t now with
      | true =>
        refine iteT' rfl (k _ _ _ n4 ?_)
        rw [hw', if_pos hlt]
        rfl
      | false =>
        rw [if_neg (by rw [hlt]; decide)] at hw'
        refine iteF' rfl ?_
        obtain ⟨a, ha⟩ : ∃ a, W.arrs[j]? = some a := ⟨_, List.getElem?_eq_getElem hj⟩
        have hes : stepS W (some st) (j, t) = goneS W st a t := by
          show (W.arrs[j]?).bind _ = _
          rw [ha]
          rfl
        obtain ⟨so, spl⟩ := hst st rfl
        refine ⟨_, rfl, _, rfl, _, rfl, _, rfl, x, .ref sa4, tv, j, W, st, a, t, n, G4, rfl, n4.w, lw.mono n4.g, ok, ho, so, spl, ha, h2.mono n4.g, bt, hn, fun G6 H6 v' n6 ho6 => ?_⟩
        refine ⟨_, rfl, _, _, rfl, G6, goneS W st a t, v', t, tv, _, _, n4.trans n6, ho6, fun st' e => ⟨so.gone bt e, ?_⟩, (h2.mono n4.g).mono n6.g, bt, by rw [hw', hes], rfl⟩
        rw [goneS_place e]
        exact (ok.ar a (List.mem_of_getElem? ha)).dst
  rintro σ H4 ⟨G4, o, sv, now, nv, z, u, n4, ho, hst, hnv, hnB, hw, rfl⟩
  have hd : ps.drop xs.length = [] := List.drop_of_length_le (by omega)
  rw [hd] at hw
  have hw : walkL W ps = o := by
    rw [hw]
    cases o <;> rfl
  exact ⟨_, rfl, k _ _ _ n4 (by rw [hw]; exact ho)⟩
end K25

/-! ## L8 -/
set_option Elab.async false
set_option linter.all false
set_option maxRecDepth 100000
set_option maxHeartbeats 8000000
/-! L8: a run drawn. -/
set_option exponentiation.threshold 100000
namespace K25
open PySem L2
open PySem.Spec PyProof.Rows
variable {P : Program} {w : World} {K : PySem.W.Frag} {mg : Str → Option Value} {base : Heap} {A : Ad}
theorem s1 : 1 ≤ sizeLine := by decide
theorem s7 : 7 ≤ sizeLine := by decide
theorem Nx.fresh0 {M : Addr → Prop} {G H G' H' : Hp} {a : Addr} (n : Nx M G H G' H') (h : H' a = none) : H a = none := by
  cases q : H a with
  | none => rfl
  | some o => exact absurd h (n.t a (by rw [q]; simp))
theorem Nx.p0 {M : Addr → Prop} {G H G' H' : Hp} (w : Same G H) (n : Nx M0 G H G' H') : Nx M G H G' H' := (Nx.refl w).trans0 n
theorem StOk.mono {W : Wt} {k j : Nat} {st : Std} (h : StOk W k st) (l : k ≤ j) : StOk W j st := ⟨h.c, fun b hb => (h.b b hb).mono l⟩
theorem lowF_nn {t b : Int} (h : 0 ≤ t) : 0 ≤ (lowF t b).1 := Int.ediv_nonneg h (by omega)
theorem plusF_nn {x y : Fr} (hx : 0 ≤ x.1) (hy : 0 ≤ y.1) (h1 : 0 < x.2) (h2 : 0 < y.2) : 0 ≤ (plusF x y).1 :=
  lowF_nn (Int.add_nonneg (Int.mul_nonneg hx (Int.le_of_lt h2)) (Int.mul_nonneg hy (Int.le_of_lt h1)))
/-- a list of steps that may be joined -/
def PairsM (K : PySem.W.Frag) (G : Hp) (p : Addr) (ps : List Stp) : Prop := ∃ xs, G p = some (.lst xs) ∧ Paired (StpV K G) xs ps
theorem PairsM.a {G : Hp} {p : Addr} {ps : List Stp} (h : PairsM K G p ps) : PairsA K G p ps := by
  obtain ⟨xs, h1, h2⟩ := h
  exact ⟨xs, SqL.of h1, h2⟩
theorem PairsM.mono {G G' : Hp} {p : Addr} {ps : List Stp} (h : PairsM K G p ps) (e : Same G G') : PairsM K G' p ps := by
  obtain ⟨xs, h1, h2⟩ := h
  exact ⟨xs, e _ _ h1, Paired.imp (fun _ _ z => z.mono e) h2⟩
structure StpOk (W : Wt) (k : Nat) (s : Stp) : Prop where
  n : s.1 < W.arrs.length
  b : FrB k s.2
theorem StpOk.mono {W : Wt} {k j : Nat} {s : Stp} (h : StpOk W k s) (l : k ≤ j) : StpOk W j s := ⟨h.n, h.b.mono l⟩
/-- what may come next: a number, a time, a stand -/
def TripV (K : PySem.W.Frag) (W : Wt) (k : Nat) (G : Hp) (v : V) : Prop := ∃ (t : Addr) (u z : V) (m : Nat) (tm : Fr) (st : Std), v = .ref t ∧ SqT K G t [.int m, u, z] ∧ m < W.arrs.length ∧ FrA K G u tm ∧ FrB k tm ∧ 0 ≤ tm.1 ∧ LawSt K G z st ∧ StOk W k st ∧ st.1 ∈ W.places
theorem TripV.mono {W : Wt} {k : Nat} {G G' : Hp} {v : V} (h : TripV K W k G v) (e : Same G G') : TripV K W k G' v := by
  obtain ⟨t, u, z, m, tm, st, h1, h2, h3, h4, h5, h6, h7, h8⟩ := h
  exact ⟨t, u, z, m, tm, st, h1, seqT e h2, h3, h4.mono e, h5, h6, h7.mono e, h8⟩
theorem rep_le {u : V} (kb : Bool) : [u].length * ((if kb then (1 : Int) else 0).toNat) ≤ sizeLine := by
  have h : ((if kb then (1 : Int) else 0).toNat) ≤ 1 := by cases kb <;> decide
  exact Nat.le_trans (Nat.mul_le_mul_left 1 h) s1
theorem rep_len {u : V} (kb : Bool) : (List.replicate ((if kb then (1 : Int) else 0).toNat) [u]).flatten.length ≤ 1 := by
  cases kb with
  | true => exact Nat.le_refl 1
  | false => exact Nat.zero_le 1
def sp_l_drawn_run (K : PySem.W.Frag) : Sp := fun vs H Q _ => ∃ (p x : Addr) (W : Wt) (n : Nat) (G : Hp), vs = [.ref p, .ref x, .int 6] ∧ LawW K G x W ∧ WtOk W ∧ PS p G H n ∧ n + 10 ≤ NMAX ∧
  ∀ (ps : List Stp) G' H' L, (∀ s ∈ ps, StpOk W 30 s ∧ 0 ≤ s.2.1) → ps.length ≤ 6 → Nx (· = p) G H G' H' → PairsM K G' L ps → PoolL H' p (n + 10) → Q (.ref L) H'
theorem ok_l_drawn_run (T : Tx K mg A) : DefOk P w K mg base 6 "_law_drawn_run" P_l_drawn_run (sp_l_drawn_run K) := by
  refine T.f_l_drawn_run.ok sc_l_drawn_run (fun vs H Q E ⟨_, _, _, _, _, e, _⟩ => by rw [e]; rfl) (fun f cdv AA outer s H vs Q E hr h => ⟨_, (pss_cons (ps_par3 (i := 3) (j := 4) (l := 5) rfl sc_l_drawn_run.nd rfl rfl rfl (by decide) (by decide) (by decide) rfl rfl rfl (pa_cons (pe_cd (ok_l_begin T) (lv hr) rfl (pa_cons (pv 1) pa_nil)) (pa_cons (pe_tup (pa_cons pe_int (pa_cons pe_int pa_nil))) (pa_cons (pe_lst pa_nil) pa_nil))) (by rfl)) (pss_cons (ps_if (pt_not (pt_val (pe_cd (ok_l_held T) (lv hr) rfl (pa_cons (pv 1) (pa_cons (pe_ix ix_tup (pv 3) pe_int (fun _ _ => rfl)) (pa_cons (pe_ix ix_tup (pv 3) pe_int (fun _ _ => rfl)) (pa_cons (pv 4) pa_nil))))))) (pss_one (ps_ret (pv 5))) pss_nil) (pss_cons (ps_for PassesOwn.never rfl (pi_range1 rfl T.z_range (pa_cons (pe_cd (ok_l_take T) (lv hr) rfl (pa_cons (pv 0) (pa_cons (pe_op op_add (pv 2) pe_int) pa_nil))) pa_nil)) (pg_name (i := 6) sc_l_drawn_run.nd rfl (Or.inl rfl)) (pss_cons (ps_set (i := 7) sc_l_drawn_run.nd rfl (Or.inl rfl) (pe_lst pa_nil)) (pss_cons (ps_for PassesOwn.never rfl (pi_list (pe_lst (pa_cons (pe_tup (pa_cons pe_int (pa_cons pe_int pa_nil))) (pa_cons (pe_tup (pa_cons pe_int (pa_cons pe_int pa_nil))) (pa_cons (pe_tup (pa_cons pe_int (pa_cons pe_int pa_nil))) (pa_cons (pe_tup (pa_cons pe_int (pa_cons pe_int pa_nil))) (pa_cons (pe_tup (pa_cons pe_int (pa_cons pe_int pa_nil))) (pa_cons (pe_tup (pa_cons pe_int (pa_cons pe_int pa_nil))) (pa_cons (pe_tup (pa_cons pe_int (pa_cons pe_int pa_nil))) pa_nil))))))))) (pg_name (i := 8) sc_l_drawn_run.nd rfl (Or.inl rfl)) (pss_cons (ps_set (i := 9) sc_l_drawn_run.nd rfl (Or.inl rfl) (pe_cd (ok_l_plus T) (lv hr) rfl (pa_cons (pv 4) (pa_cons (pv 8) pa_nil)))) (pss_one (ps_for PassesOwn.never rfl (pi_range1 rfl T.z_range (pa_cons (pe_callB call_len_seq rfl T.z_len PySem.boot_len (pa_cons (pe_dget (hu_of hr) (pv 1) pe_str (fun _ _ => rfl)) pa_nil)) pa_nil)) (pg_name (i := 10) sc_l_drawn_run.nd rfl (Or.inl rfl)) (pss_cons (ps_set (i := 11) sc_l_drawn_run.nd rfl (Or.inl rfl) (pe_cd (ok_l_step T) (lv hr) rfl (pa_cons (pv 1) (pa_cons (pv 3) (pa_cons (pv 10) (pa_cons (pv 9) pa_nil)))))) (pss_one (ps_expr (pe_bm PySem.F.plainAttrs_list PySem.F.slot_list_extend PySem.F.type_list_extend mt_extend (pv 7) (pa_cons (pe_op op_rep (pe_lst (pa_cons (pe_tup (pa_cons (pv 10) (pa_cons (pv 9) (pa_cons (pv 11) pa_nil)))) pa_nil)) (pe_callTy call_int1 rfl T.z_int (by decide +kernel) (pa_cons (pe_cmpR op_notN (pv 11) pe_non (nomark _)) pa_nil))) pa_nil))))))))) (pss_one (ps_if (pt_cmpR (op_neE hr) (pv 7) (pe_lst pa_nil) (nomark _)) (pss_cons (ps_asg (pe_cd (ok_l_one T) (lv hr) rfl (pa_cons (pv 0) (pa_cons (pv 7) pa_nil))) (pg_tup rfl (pgs_cons (pg_name (i := 10) sc_l_drawn_run.nd rfl (Or.inl rfl)) (pgs_cons (pg_name (i := 4) sc_l_drawn_run.nd rfl (Or.inl rfl)) (pgs_cons (pg_name (i := 3) sc_l_drawn_run.nd rfl (Or.inl rfl)) pgs_nil))))) (pss_one (ps_expr (pe_bm PySem.F.plainAttrs_list PySem.F.slot_list_append PySem.F.type_list_append mt_append (pv 5) (pa_cons (pe_tup (pa_cons (pv 10) (pa_cons (pv 4) pa_nil))) pa_nil))))) pss_nil))))) (pss_one (ps_ret (pv 5)))))), ?_⟩)
  obtain ⟨p, x, W, n, G, rfl, lw, ok, S, hn, k⟩ := h
  have alen := ok.al
  have lw0 := lw
  obtain ⟨wc, wd, wa, we, gx, ar⟩ := lw0
  obtain ⟨wa', wxs, ea, hwx, rwx⟩ := ar.a
  cases ea
  have wlen : wxs.length = W.arrs.length := by rw [rwx.len, List.length_map]
  refine ⟨_, rfl, x, W, G, rfl, S.w, lw, ok, fun G1 H1 sv n1' ls => ⟨s2, fun q hq => ⟨s0, fun fd hfd => ⟨_, _, _, rfl, ?_⟩⟩⟩⟩
  have n1 := n1'.p0 (M := (· = p)) S.w
  have pl1 := S.pl.grow n1'.same
  have n2 := n1.trans (Nx.new (o := .tup [.int 0, .int 1]) n1.w hq)
  have pl2 := pl1.upd (o := .tup [.int 0, .int 1]) (pl1.nf hq)
  have hq2 : FrA K (upd G1 q (.tup [.int 0, .int 1])) (.ref q) (0, 1) := ⟨q, rfl, SqT.of upd_same⟩
  have ls2 := ls.mono (Same.new0 (o := .tup [.int 0, .int 1]) (n1.w.free hq))
  generalize upd G1 q (.tup [.int 0, .int 1]) = G2 at n2 hq2 ls2
  generalize upd H1 q (.tup [.int 0, .int 1]) = H2 at n2 pl2 hfd ⊢
  have n3 := n2.trans (Nx.newM (o := .lst []) n2.w hfd)
  have npf := pl2.nf hfd
  have pl3 := pl2.upd (o := .lst []) npf
  have gf : G2 fd = none := n2.w.free hfd
  have hfdH : H fd = none := n2.fresh0 hfd
  have hf3 : upd H2 fd (.lst []) fd = some (.lst []) := upd_same
  generalize upd H2 fd (.lst []) = H3 at n3 pl3 hf3 ⊢
  clear n2 pl2 hfd n1 pl1 hq n1'
  have ls20 := ls2
  obtain ⟨sa, b, rfl, gsa, gb⟩ := ls2
  have zk : ∀ z ∈ W.clocks, z ∈ (zerosF W).map (·.1) := fun z hz => by rw [zeros_keys]; exact hz
  refine ⟨_, rfl, _, rfl, sa, _, 0, _, rfl, rfl, seqT n3.w gsa, at0, _, rfl, sa, _, 1, _, rfl, rfl, seqT n3.w gsa, at1, _, rfl, x, b, .ref q, W.pl0, W, zerosF W, (0, 1), 1, rfl, (lw.mono n3.g).mono n3.w, ok, ok.pl0.2, gb.mono n3.w, zk, hq2.mono n3.w, zero_B (by decide), fun b hb => zeros_B (by decide) hb, by decide, fun H4 e4 => ⟨_, rfl, ?_⟩⟩
  have n4 := n3.growG e4
  have pl4 := pl3.grow e4
  have hf4 := e4 _ _ hf3
  cases heldB W W.pl0 (zerosF W) (0, 1) with
  | false =>
    exact iteT' rfl ⟨_, rfl, k [] _ _ fd (fun s hs => by simp at hs) (by simp) (n4.still hfdH hf4 S.w) ⟨[], upd_same, .nil⟩ (pl4.mono (by omega))⟩
  | true =>
  refine iteF' rfl ?_
  refine ⟨_, rfl, _, rfl, _, _, rfl, rfl, p, 7, n, G2, rfl, by decide, by decide, n4.w, n4.own p S.g S.ne, pl4, by unfold NMAX at hn; omega, fun jt H5 hjt n5' hp5 => ⟨_, rfl, by omega, by omega, ?_⟩⟩
  have n5 := n4.trans n5'
  have hf5 := n5'.h fd _ npf.symm hf4
  refine for_it (walk_range (lo := 0) (n := ((jt : Nat) : Int).toNat)) (fun i σ H' => ∃ (ps : List Stp) (acc : List V) (G' : Hp) (st : Std) (now : Fr) (sv nv : V) (v6 v7 v8 v9 v10 v11 : Option V), Nx (· = p) G H G' H' ∧ G' fd = none ∧ H' fd = some (.lst acc) ∧ Paired (StpV K G') acc ps ∧ ps.length ≤ i ∧ (∀ s ∈ ps, StpOk W (1 + 4 * i) s ∧ 0 ≤ s.2.1) ∧
    LawSt K G' sv st ∧ StOk W (1 + 4 * i) st ∧ st.1 ∈ W.places ∧ FrA K G' nv now ∧ FrB (1 + 4 * i) now ∧ 0 ≤ now.1 ∧ PoolL H' p (n + 1 + i) ∧ σ = [some (.ref p), some (.ref x), some (.int 6), some sv, some nv, some (.ref fd), v6, v7, v8, v9, v10, v11])
    ⟨[], [], G2, (W.pl0, zerosF W), (0, 1), _, _, none, none, none, none, none, none, n5, gf, hf5, .nil, Nat.le_refl _, fun s hs => by simp at hs, ls20, ⟨zeros_keys W, fun b hb => zeros_B (by decide) hb⟩, ok.pl0.2, hq2, zero_B (by decide), by decide, hp5, rfl⟩ (fun _ _ _ _ _ => trivial) ?_ ?_
  · clear n5 hf5 hp5 n5' n4 pl4 hf4 e4 n3 pl3 hf3 hq2 gf ls20 gsa gb
    rintro i z σ H5' H5 hi ⟨ps, acc, G4, st, now, sv, nv, v6, v7, v8, v9, v10, v11, n4, gf, hf4, hps, lps, hpo, hst, so, spl, hnv, hnB, hn0, pl4, rfl⟩ ⟨rfl, rfl⟩
    have hi7 : i < 7 := by omega
    have S4 := S.next n4 pl4
    -- some = []
    refine ⟨s0, fun sm hsm => ?_⟩
    have nps : p ≠ sm := pl4.nf hsm
    have nfs : fd ≠ sm := ne_of_none hf4 hsm
    have n5 := n4.trans (Nx.newM (o := .lst []) n4.w hsm)
    have hsmH : H sm = none := n4.fresh0 hsm
    have gsm : G4 sm = none := n4.w.free hsm
    have pl0 := pl4.upd (o := .lst []) nps
    have hf5 : upd H5 sm (.lst []) fd = some (.lst acc) := by rw [upd_ne nfs]; exact hf4
    have hs5 : upd H5 sm (.lst []) sm = some (.lst []) := upd_same
    generalize upd H5 sm (.lst []) = H6 at n5 pl0 hf5 hs5 ⊢
    have q0 := Nx.refl (M := (· = p)) n5.w
    refine ⟨s2, fun t1 ht1 => ?_⟩
    have b1 := Nx.new (M := (· = p)) (o := HO.tup [.int 0, .int 1]) q0.w ht1
    have q1 := q0.trans b1
    have pl1 := (PoolL.upd (o := HO.tup [.int 0, .int 1]) pl0 (pl0.nf ht1))
    refine ⟨s2, fun t2 ht2 => ?_⟩
    have b2 := Nx.new (M := (· = p)) (o := HO.tup [.int 1, .int 1]) q1.w ht2
    have q2 := q1.trans b2
    have pl2 := (PoolL.upd (o := HO.tup [.int 1, .int 1]) pl1 (pl1.nf ht2))
    refine ⟨s2, fun t3 ht3 => ?_⟩
    have b3 := Nx.new (M := (· = p)) (o := HO.tup [.int 2, .int 1]) q2.w ht3
    have q3 := q2.trans b3
    have pl3 := (PoolL.upd (o := HO.tup [.int 2, .int 1]) pl2 (pl2.nf ht3))
    refine ⟨s2, fun t4 ht4 => ?_⟩
    have b4 := Nx.new (M := (· = p)) (o := HO.tup [.int 1, .int 2]) q3.w ht4
    have q4 := q3.trans b4
    have pl4 := (PoolL.upd (o := HO.tup [.int 1, .int 2]) pl3 (pl3.nf ht4))
    refine ⟨s2, fun t5 ht5 => ?_⟩
    have b5 := Nx.new (M := (· = p)) (o := HO.tup [.int 3, .int 2]) q4.w ht5
    have q5 := q4.trans b5
    have pl5 := (PoolL.upd (o := HO.tup [.int 3, .int 2]) pl4 (pl4.nf ht5))
    refine ⟨s2, fun t6 ht6 => ?_⟩
    have b6 := Nx.new (M := (· = p)) (o := HO.tup [.int 7, .int 3]) q5.w ht6
    have q6 := q5.trans b6
    have pl6 := (PoolL.upd (o := HO.tup [.int 7, .int 3]) pl5 (pl5.nf ht6))
    refine ⟨s2, fun t7 ht7 => ?_⟩
    have b7 := Nx.new (M := (· = p)) (o := HO.tup [.int 4, .int 1]) q6.w ht7
    have q7 := q6.trans b7
    have pl7 := (PoolL.upd (o := HO.tup [.int 4, .int 1]) pl6 (pl6.nf ht7))
    refine ⟨s7, fun fl hfl => ?_⟩
    have b8 := Nx.new (M := (· = p)) (o := .lst [.ref t1, .ref t2, .ref t3, .ref t4, .ref t5, .ref t6, .ref t7]) q7.w hfl
    have q8 := q7.trans b8
    have pl8 := PoolL.upd (o := .lst [.ref t1, .ref t2, .ref t3, .ref t4, .ref t5, .ref t6, .ref t7]) pl7 (pl7.nf hfl)
    have e8 := b8.g
    have e7 := b7.g.trans e8
    have e6 := b6.g.trans e7
    have e5 := b5.g.trans e6
    have e4 := b4.g.trans e5
    have e3 := b3.g.trans e4
    have e2 := b2.g.trans e3
    have hfs : Paired (FrA K (upd (upd (upd (upd (upd (upd (upd (upd G4 t1 (HO.tup [.int 0, .int 1])) t2 (HO.tup [.int 1, .int 1])) t3 (HO.tup [.int 2, .int 1])) t4 (HO.tup [.int 1, .int 2])) t5 (HO.tup [.int 3, .int 2])) t6 (HO.tup [.int 7, .int 3])) t7 (HO.tup [.int 4, .int 1])) fl (.lst [.ref t1, .ref t2, .ref t3, .ref t4, .ref t5, .ref t6, .ref t7])))
        [V.ref t1, .ref t2, .ref t3, .ref t4, .ref t5, .ref t6, .ref t7] [((0, 1) : Fr), (1, 1), (2, 1), (1, 2), (3, 2), (7, 3), (4, 1)] :=
      .cons ((FrA.of (f := (0, 1)) upd_same).mono e2) (.cons ((FrA.of (f := (1, 1)) upd_same).mono e3) (.cons ((FrA.of (f := (2, 1)) upd_same).mono e4) (.cons ((FrA.of (f := (1, 2)) upd_same).mono e5) (.cons ((FrA.of (f := (3, 2)) upd_same).mono e6) (.cons ((FrA.of (f := (7, 3)) upd_same).mono e7) (.cons ((FrA.of (f := (4, 1)) upd_same).mono e8) .nil))))))
    have hfl8 : SqL K _ fl _ := SqL.of (K := K) (show upd (upd (upd (upd (upd (upd (upd (upd G4 t1 (HO.tup [.int 0, .int 1])) t2 (HO.tup [.int 1, .int 1])) t3 (HO.tup [.int 2, .int 1])) t4 (HO.tup [.int 1, .int 2])) t5 (HO.tup [.int 3, .int 2])) t6 (HO.tup [.int 7, .int 3])) t7 (HO.tup [.int 4, .int 1])) fl (.lst [.ref t1, .ref t2, .ref t3, .ref t4, .ref t5, .ref t6, .ref t7]) fl = _ from upd_same)
    have n8 := n5.trans q8
    have hf8 := q8.h fd _ npf.symm hf5
    have hs8 := q8.h sm _ nps.symm hs5
    have gf8 := q8.own fd gf (by rw [hf5]; simp)
    have gs8 := q8.own sm gsm (by rw [hs5]; simp)
    have g48 := q8.g
    clear b1 b2 b3 b4 b5 b6 b7 b8 q0 q1 q2 q3 q4 q5 q6 q7 q8 e2 e3 e4 e5 e6 e7 e8 pl1 pl2 pl3 pl4 pl5 pl6 pl7 ht1 ht2 ht3 ht4 ht5 ht6 ht7 n5 hf5 hs5
    generalize upd (upd (upd (upd (upd (upd (upd (upd G4 t1 (HO.tup [.int 0, .int 1])) t2 (HO.tup [.int 1, .int 1])) t3 (HO.tup [.int 2, .int 1])) t4 (HO.tup [.int 1, .int 2])) t5 (HO.tup [.int 3, .int 2])) t6 (HO.tup [.int 7, .int 3])) t7 (HO.tup [.int 4, .int 1])) fl (.lst [.ref t1, .ref t2, .ref t3, .ref t4, .ref t5, .ref t6, .ref t7]) = G8 at hfs hfl8 n8 gf8 gs8 g48
    generalize upd (upd (upd (upd (upd (upd (upd (upd H6 t1 (HO.tup [.int 0, .int 1])) t2 (HO.tup [.int 1, .int 1])) t3 (HO.tup [.int 2, .int 1])) t4 (HO.tup [.int 1, .int 2])) t5 (HO.tup [.int 3, .int 2])) t6 (HO.tup [.int 7, .int 3])) t7 (HO.tup [.int 4, .int 1])) fl (HO.lst [.ref t1, .ref t2, .ref t3, .ref t4, .ref t5, .ref t6, .ref t7]) = H8 at n8 hf8 hs8 pl8 ⊢
    have fsB : ∀ f ∈ [((0, 1) : Fr), (1, 1), (2, 1), (1, 2), (3, 2), (7, 3), (4, 1)], FrB 3 f ∧ 0 ≤ f.1 := fun f hf => by
      simp only [List.mem_cons, List.not_mem_nil, or_false] at hf
      rcases hf with rfl | rfl | rfl | rfl | rfl | rfl | rfl <;> exact ⟨⟨by decide, by decide, by decide⟩, by decide⟩
    generalize [((0, 1) : Fr), (1, 1), (2, 1), (1, 2), (3, 2), (7, 3), (4, 1)] = fs at hfs fsB
    have lxs : [V.ref t1, .ref t2, .ref t3, .ref t4, .ref t5, .ref t6, .ref t7].length = 7 := rfl
    generalize [V.ref t1, .ref t2, .ref t3, .ref t4, .ref t5, .ref t6, .ref t7] = xs at hfs hfl8 lxs ⊢
    -- the ways
    refine ⟨fl, rfl, ⟨_, n8.w.seq hfl8⟩, ?_⟩
    refine for_it (walk_list (xs := xs)) (fun j σ H2 => ∃ (G2 : Hp) (acc2 : List V) (v8 v9 v10 v11 : Option V), Nx (· = p) G H G2 H2 ∧ Same G8 G2 ∧ G2 fd = none ∧ H2 fd = some (.lst acc) ∧ G2 sm = none ∧ H2 sm = some (.lst acc2) ∧ acc2.length ≤ 6 * j ∧ (∀ v ∈ acc2, TripV K W (1 + 4 * (i + 1)) G2 v) ∧ PoolL H2 p (n + 1 + i) ∧
      σ = [some (.ref p), some (.ref x), some (.int 6), some sv, some nv, some (.ref fd), some (.int (0 + (i : Nat))), some (.ref sm), v8, v9, v10, v11]) ⟨G8, [], _, _, _, _, n8, Same.refl _, gf8, hf8, gs8, hs8, by simp, fun v hv => by simp at hv, pl8, rfl⟩ (fun j σ H2 _ ⟨_, _, _, _, _, _, n9, e9, _⟩ => (e9.trans n9.w).seq hfl8) ?_ ?_
    · rintro j z σ H9' H9 hj ⟨G9, acc2, v8, v9, v10, v11, n9, e9, gf9, hf9, gs9, hs9, la2, ha2, pl9, rfl⟩ ⟨rfl, hz⟩
      obtain ⟨fa, hfa, rfa⟩ := Paired.get hfs hz
      obtain ⟨faB, fa0⟩ := fsB fa (List.mem_of_getElem? hfa)
      have hnv9 := (hnv.mono g48).mono e9
      refine ⟨_, rfl, _, rfl, nv, z, now, fa, 1 + 4 * i + 3, rfl, hnv9.mono n9.w, (rfa.mono e9).mono n9.w, hnB.mono (by omega), faB.mono (by omega), by omega, fun tm htm => ?_⟩
      have tB : FrB (1 + 4 * (i + 1)) (plusF now fa) := (plusF_B hnB faB).mono (by omega)
      have t0 : 0 ≤ (plusF now fa).1 := plusF_nn hn0 fa0 hnB.1 faB.1
      have bA := Nx.new (M := (· = p)) (o := tupF (plusF now fa)) n9.w htm
      have nA := n9.trans bA
      have plA := pl9.upd (o := tupF (plusF now fa)) (pl9.nf htm)
      have hfA := bA.h fd _ npf.symm hf9
      have hsA := bA.h sm _ nps.symm hs9
      have gfA := bA.own fd gf9 (by rw [hf9]; simp)
      have gsA := bA.own sm gs9 (by rw [hs9]; simp)
      have tmA : FrA K (upd G9 tm (tupF (plusF now fa))) (.ref tm) (plusF now fa) := FrA.of upd_same
      have eA := e9.trans bA.g
      have haA : ∀ v ∈ acc2, TripV K W (1 + 4 * (i + 1)) (upd G9 tm (tupF (plusF now fa))) v := fun v hv => (ha2 v hv).mono bA.g
      clear bA
      generalize upd G9 tm (tupF (plusF now fa)) = GA at nA gfA gsA tmA eA haA
      generalize upd H9 tm (tupF (plusF now fa)) = HA at nA plA hfA hsA ⊢
      generalize plusF now fa = time at tB t0 tmA
      clear n9 e9 gf9 hf9 gs9 hs9 pl9 ha2 hnv9 htm
      have e4A := g48.trans eA
      refine ⟨_, rfl, x, _, rfl, dget (nA.w _ _ (nA.g _ _ gx)) (wK_a wc wd wa we), wa, wxs, rfl, .inl ((nA.g.trans nA.w).seq hwx), _, rfl, by omega, by omega, ?_⟩
      refine for_it (walk_range (lo := 0) (n := ((wxs.length : Nat) : Int).toNat)) (fun m σ H2 => ∃ (G2 : Hp) (acc3 : List V) (v10 v11 : Option V), Nx (· = p) G H G2 H2 ∧ Same GA G2 ∧ G2 fd = none ∧ H2 fd = some (.lst acc) ∧ G2 sm = none ∧ H2 sm = some (.lst acc3) ∧ acc3.length ≤ 6 * j + m ∧ (∀ v ∈ acc3, TripV K W (1 + 4 * (i + 1)) G2 v) ∧ PoolL H2 p (n + 1 + i) ∧
        σ = [some (.ref p), some (.ref x), some (.int 6), some sv, some nv, some (.ref fd), some (.int (0 + (i : Nat))), some (.ref sm), some z, some (.ref tm), v10, v11]) ⟨GA, acc2, _, _, nA, Same.refl _, gfA, hfA, gsA, hsA, by omega, haA, plA, rfl⟩ (fun _ _ _ _ _ => trivial) ?_ ?_
      · rintro m zz σ HB' HB hm ⟨GB, acc3, v10, v11, nB, eB, gfB, hfB, gsB, hsB, la3, ha3, plB, rfl⟩ ⟨rfl, rfl⟩
        have hmW : m < W.arrs.length := by omega
        obtain ⟨a, ha⟩ : ∃ a, W.arrs[m]? = some a := ⟨_, List.getElem?_eq_getElem hmW⟩
        have ez : (V.int (0 + (m : Nat))) = V.int ((m : Nat) : Int) := by rw [Int.zero_add]
        have so' := so.mono (j := 1 + 4 * (i + 1)) (by omega)
        refine ⟨_, rfl, _, rfl, _, rfl, _, rfl, x, sv, .ref tm, m, W, st, a, time, 1 + 4 * (i + 1), GB, by show [V.ref x, sv, V.int (0 + (m : Nat)), V.ref tm] ++ [] = _; rw [ez]; rfl, nB.w, lw.mono nB.g, ok, (hst.mono e4A).mono eB, so', spl, ha, tmA.mono eB, tB, by omega, fun GC HC lv nC' ho => ?_⟩
        have nC := nB.trans0 nC'
        have plC := plB.grow nC'.same
        have hfC := nC'.same _ _ hfB
        have hsC := nC'.same _ _ hsB
        have gfC := nC'.own fd gfB (by rw [hfB]; simp)
        have gsC := nC'.own sm gsB (by rw [hsB]; simp)
        refine ⟨_, rfl, .inl ⟨rfl, _, SqL.of hsC⟩, _, rfl, _, rfl, _, rfl, s3, fun u1 hu1 => ⟨s1, fun u2 hu2 => ?_⟩⟩
        have bD := Nx.new (M := (· = p)) (o := .tup [.int (0 + (m : Nat)), .ref tm, lv]) nC.w hu1
        have bE := bD.trans (Nx.newM (M := (· = p)) (o := .lst [.ref u1]) bD.w hu2)
        have plD := plC.upd (o := .tup [.int (0 + (m : Nat)), .ref tm, lv]) (plC.nf hu1)
        have plE := plD.upd (o := .lst [.ref u1]) (plD.nf hu2)
        have hu2E : upd (upd HC u1 (.tup [.int (0 + (m : Nat)), .ref tm, lv])) u2 (.lst [.ref u1]) u2 = some (.lst [.ref u1]) := upd_same
        refine ⟨_, rfl, rfl, .inr ⟨_, rfl, ?_⟩⟩
        have fin : ∀ (kb : Bool) (zs : List V), (kb = true → TripV K W (1 + 4 * (i + 1)) (upd GC u1 (.tup [.int (0 + (m : Nat)), .ref tm, lv])) (.ref u1)) → rRep (.ref u2) (.int (if kb then 1 else 0)) (upd (upd HC u1 (.tup [.int (0 + (m : Nat)), .ref tm, lv])) u2 (.lst [.ref u1])) (fun y H' => rExtend (.ref sm) [y] H' fun _ H2 => ∃ (G2 : Hp) (acc3 : List V) (v10 v11 : Option V), Nx (· = p) G H G2 H2 ∧ Same GA G2 ∧ G2 fd = none ∧ H2 fd = some (.lst acc) ∧ G2 sm = none ∧ H2 sm = some (.lst acc3) ∧ acc3.length ≤ 6 * j + (m + 1) ∧ (∀ v ∈ acc3, TripV K W (1 + 4 * (i + 1)) G2 v) ∧ PoolL H2 p (n + 1 + i) ∧
            [some (.ref p), some (.ref x), some (.int 6), some sv, some nv, some (.ref fd), some (.int (0 + (i : Nat))), some (.ref sm), some z, some (.ref tm), some (V.int (0 + (m : Nat))), some lv] = [some (.ref p), some (.ref x), some (.int 6), some sv, some nv, some (.ref fd), some (.int (0 + (i : Nat))), some (.ref sm), some z, some (.ref tm), v10, v11]) := by
          intro kb zs htr
          refine ⟨u2, _, _, rfl, rfl, hu2E, by cases kb <;> decide, by cases kb <;> decide, rep_le kb, fun r hr => ?_⟩
          have bF := bE.trans (Nx.newM (M := (· = p)) (o := .lst (List.replicate (if kb then (1 : Int) else 0).toNat [V.ref u1]).flatten) bE.w hr)
          have plF := plE.upd (o := .lst (List.replicate (if kb then (1 : Int) else 0).toNat [V.ref u1]).flatten) (plE.nf hr)
          have hsF := bF.h sm _ nps.symm hsC
          have hfF := bF.h fd _ npf.symm hfC
          have gsF := bF.own sm gsC (by rw [hsC]; simp)
          have gfF := bF.own fd gfC (by rw [hfC]; simp)
          have nF := nC.trans bF
          have hl3 : (List.replicate (if kb then (1 : Int) else 0).toNat [V.ref u1]).flatten.length ≤ 1 := rep_len kb
          refine ⟨sm, r, acc3, _, rfl, rfl, hsF, upd_same, sz (by omega), ?_⟩
          refine ⟨_, acc3 ++ (List.replicate (if kb then (1 : Int) else 0).toNat [V.ref u1]).flatten, _, _, nF.wrL hsmH gsF, (eB.trans nC'.g).trans bF.g, gfF, by rw [upd_ne nfs]; exact hfF, gsF, upd_same, by rw [List.length_append]; omega, fun v hv => ?_, plF.upd nps, rfl⟩
          rcases List.mem_append.mp hv with h | h
          · exact ((ha3 v h).mono nC'.g).mono bF.g
          · cases kb with
            | false => simp at h
            | true =>
              have e1 : v = .ref u1 := by simpa using h
              rw [e1]
              exact htr rfl
        cases hg : goneS W st a time with
        | none =>
          rw [hg] at ho
          cases ho
          exact fin false [] (fun z => by cases z)
        | some st' =>
          rw [hg] at ho
          have ho' := ho
          obtain ⟨la, lb, rfl, _, _⟩ := ho'
          refine fin true [] (fun _ => ⟨u1, .ref tm, .ref la, m, time, st', rfl, ?_, hmW, ((tmA.mono eB).mono nC'.g).mono bD.g, tB, t0, ho.mono bD.g, so'.gone tB hg, ?_⟩)
          · rw [ez]
            exact SqT.of upd_same
          · rw [goneS_place hg]
            exact (ok.ar a (List.mem_of_getElem? ha)).dst
      · rintro σ HB ⟨GB, acc3, v10, v11, nB, eB, gfB, hfB, gsB, hsB, la3, ha3, plB, rfl⟩
        have hl : ((wxs.length : Nat) : Int).toNat = wxs.length := by omega
        rw [hl] at la3
        exact ⟨GB, acc3, _, _, _, _, nB, eA.trans eB, gfB, hfB, gsB, hsB, by omega, ha3, plB, rfl⟩
    rintro σ H9 ⟨G9, acc2, v8, v9, v10, v11, n9, e9, gf9, hf9, gs9, hs9, la2, ha2, pl9, rfl⟩
    rw [lxs] at la2
    have e49 := g48.trans e9
    refine ⟨_, rfl, s0, fun em hem => ?_⟩
    have bA := Nx.newM (M := (· = p)) (o := .lst []) n9.w hem
    have nA := n9.trans bA
    have plA := pl9.upd (o := .lst []) (pl9.nf hem)
    have hfA := bA.h fd _ npf.symm hf9
    have hsA := bA.h sm _ nps.symm hs9
    refine ⟨sm, em, acc2, rfl, rfl, SqL.of hsA, SqL.of upd_same, _, rfl, ?_⟩
    generalize upd H9 em (.lst []) = HA at nA plA hfA hsA ⊢
    clear bA
    have keep : ∃ (ps : List Stp) (acc : List V) (G' : Hp) (st : Std) (now : Fr) (sv' nv' : V) (v6 v7 v8' v9' v10' v11' : Option V), Nx (· = p) G H G' HA ∧ G' fd = none ∧ HA fd = some (.lst acc) ∧ Paired (StpV K G') acc ps ∧ ps.length ≤ i + 1 ∧ (∀ s ∈ ps, StpOk W (1 + 4 * (i + 1)) s ∧ 0 ≤ s.2.1) ∧
        LawSt K G' sv' st ∧ StOk W (1 + 4 * (i + 1)) st ∧ st.1 ∈ W.places ∧ FrA K G' nv' now ∧ FrB (1 + 4 * (i + 1)) now ∧ 0 ≤ now.1 ∧ PoolL HA p (n + 1 + (i + 1)) ∧ [some (.ref p), some (.ref x), some (.int 6), some sv, some nv, some (.ref fd), some (V.int (0 + (i : Nat))), some (.ref sm), v8, v9, v10, v11] = [some (.ref p), some (.ref x), some (.int 6), some sv', some nv', some (.ref fd), v6, v7, v8', v9', v10', v11'] :=
      ⟨ps, acc, G9, st, now, sv, nv, _, _, _, _, _, _, nA, gf9, hfA, Paired.imp (fun _ _ h => h.mono e49) hps, by omega, fun s hs => ⟨(hpo s hs).1.mono (by omega), (hpo s hs).2⟩, hst.mono e49, so.mono (by omega), spl, hnv.mono e49, hnB.mono (by omega), hn0, plA.mono (by omega), rfl⟩
    cases hc : acc2 with
    | nil => exact iteF' rfl keep
    | cons c0 r0 =>
      rw [← hc]
      clear keep
      refine iteT' (by rw [hc]; rfl) ?_
      have nB := nA.still hsmH hsA S.w
      have eB : Same G9 (upd G9 sm (.lst acc2)) := Same.new0 gs9
      have gfB : upd G9 sm (.lst acc2) fd = none := by rw [upd_ne nfs]; exact gf9
      have SB := S.next nB plA
      refine ⟨_, rfl, _, rfl, p, sm, acc2, _, _, rfl, SqL.of upd_same, by rw [hc]; simp, by omega, SB, by omega, fun j2 y HC hy nC' plC => ?_⟩
      obtain ⟨tt, u, zz, m, tm, st', rfl, htt, hm, hu, huB, hu0, hzz, so', spl'⟩ := (ha2 y (List.mem_of_getElem? hy)).mono eB
      refine ⟨tt, _, rfl, seqT nC'.w (seqT (Same.refl _) htt), rfl, _, _, rfl, _, _, rfl, _, _, rfl, rfl, ?_⟩
      have nC := nB.trans nC'
      have hfC := nC'.h fd _ npf.symm hfA
      refine ⟨_, rfl, .inl ⟨rfl, _, SqL.of hfC⟩, _, rfl, _, rfl, s2, fun t ht => ?_⟩
      have bD := Nx.new (M := (· = p)) (o := .tup [.int m, u]) nC.w ht
      have nD := nC.trans bD
      have plD := plC.upd (o := .tup [.int m, u]) (plC.nf ht)
      have hfD := bD.h fd _ npf.symm hfC
      have gfD := bD.own fd gfB (by rw [hfC]; simp)
      have lacc : acc.length ≤ 7 := by have := Paired.len hps; omega
      refine ⟨fd, acc, .ref t, rfl, rfl, hfD, szl (by omega), ?_⟩
      have eD := (e49.trans eB).trans bD.g
      refine ⟨ps ++ [(m, tm)], acc ++ [.ref t], _, st', tm, zz, u, _, _, _, _, _, _, nD.wrL hfdH gfD, gfD, upd_same, ?_, by simp; omega, ?_, hzz.mono bD.g, so', spl', hu.mono bD.g, huB, hu0, (plD.upd npf).mono (by omega), rfl⟩
      · exact Paired.snoc (Paired.imp (fun _ _ h => h.mono eD) hps) ⟨t, u, rfl, SqT.of upd_same, hu.mono bD.g⟩
      · intro s hs
        rcases List.mem_append.mp hs with h | h
        · exact ⟨(hpo s h).1.mono (by omega), (hpo s h).2⟩
        · rw [List.mem_singleton.mp h]
          exact ⟨⟨hm, huB⟩, hu0⟩
  rintro σ H6 ⟨ps, acc, G4, st, now, sv, nv, v6, v7, v8, v9, v10, v11, n6, gf6, hf6, hps, lps, hpo, hst, so, spl, hnv, hnB, hn0, pl6, rfl⟩
  have hj : ((jt : Nat) : Int).toNat = jt := by omega
  rw [hj] at lps hpo pl6
  exact ⟨_, rfl, k ps _ _ fd (fun s hs => ⟨(hpo s hs).1.mono (by omega), (hpo s hs).2⟩) (by omega) (n6.still hfdH hf6 S.w) ⟨acc, upd_same, Paired.imp (fun _ _ h => h.mono (Same.new0 gf6)) hps⟩ (pl6.mono (by omega))⟩
end K25

/-! ## L9 -/
set_option Elab.async false
set_option linter.all false
set_option maxRecDepth 100000
set_option maxHeartbeats 8000000
/-! L9: wide, bent. -/
set_option exponentiation.threshold 100000
namespace K25
open PySem L2
open PySem.Spec PyProof.Rows
variable {P : Program} {w : World} {K : PySem.W.Frag} {mg : Str → Option Value} {base : Heap} {A : Ad}
theorem s6 : 6 ≤ sizeLine := by decide
def WideD (f : Fr) (d : D) : Prop := ∃ m : Int, (m = 1 ∨ m = 2) ∧ (d = .tup [.int (f.1 * m), .int (f.2 * m)] ∨ d = .lst [.int (f.1 * m), .int (f.2 * m)])
def sp_l_wide (K : PySem.W.Frag) : Sp := fun vs H Q _ => ∃ (p : Addr) (v : V) (f : Fr) (k n : Nat) (G : Hp), vs = [.ref p, v] ∧ FrA K G v f ∧ FrB k f ∧ k ≤ 3900 ∧ PS p G H n ∧ n + 2 ≤ NMAX ∧ ∀ d G' H' u, WideD f d → Nx (· = p) G H G' H' → Rp K G' d u → PoolL H' p (n + 2) → Q u H'
theorem ok_l_wide (T : Tx K mg A) : DefOk P w K mg base 3 "_law_wide" P_l_wide (sp_l_wide K) := by
  refine T.f_l_wide.ok sc_l_wide (fun vs H Q E ⟨_, _, _, _, _, _, e, _⟩ => by rw [e]; rfl) (fun f cdv AA outer s H vs Q E hr h => ⟨_, (pss_cons (ps_set (i := 2) sc_l_wide.nd rfl (Or.inl rfl) (pe_cd (ok_l_one T) (lv hr) rfl (pa_cons (pv 0) (pa_cons (pe_lst (pa_cons pe_int (pa_cons pe_int (pa_cons pe_int pa_nil)))) pa_nil)))) (pss_one (ps_ret (pe_cd (ok_l_one T) (lv hr) rfl (pa_cons (pv 0) (pa_cons (pe_lst (pa_cons (pe_tup (pa_cons (pe_op op_mulW (pe_ix ix_tup (pv 1) pe_int (fun _ _ => rfl)) (pv 2)) (pa_cons (pe_op op_mulW (pe_ix ix_tup (pv 1) pe_int (fun _ _ => rfl)) (pv 2)) pa_nil))) (pa_cons (pe_lst (pa_cons (pe_op op_mulW (pe_ix ix_tup (pv 1) pe_int (fun _ _ => rfl)) (pv 2)) (pa_cons (pe_op op_mulW (pe_ix ix_tup (pv 1) pe_int (fun _ _ => rfl)) (pv 2)) pa_nil))) pa_nil))) pa_nil)))))), ?_⟩)
  obtain ⟨p, v, f, k, n, G, rfl, ⟨a, rfl, gf⟩, fB, hk, S, hn, kk⟩ := h
  refine ⟨_, rfl, s3, fun q hq => ?_⟩
  have S1 := S.new (o := .lst [.int 1, .int 1, .int 2]) hq
  have n1 := Nx.new (M := (· = p)) (o := .lst [.int 1, .int 1, .int 2]) S.w hq
  refine ⟨p, q, _, n, _, rfl, SqL.of upd_same, (by show 0 < 3; decide), (by show 3 ≤ 1000000; decide), S1, by omega, fun j x H2 hx n2' hp2 => ?_⟩
  have hm : ∃ m : Int, x = .int m ∧ (m = 1 ∨ m = 2) := by
    match j, hx with
    | 0, hx => cases hx; exact ⟨1, rfl, .inl rfl⟩
    | 1, hx => cases hx; exact ⟨1, rfl, .inl rfl⟩
    | 2, hx => cases hx; exact ⟨2, rfl, .inr rfl⟩
    | j + 3, hx => simp at hx
  obtain ⟨m, rfl, hm⟩ := hm
  have n2 := n1.trans n2'
  have S2 := S.next n2 hp2
  have mb : m.natAbs < 2 ^ 2 := by rcases hm with rfl | rfl <;> decide
  have c1 : CMulW f.1 m := mulW fB.2.1 mb (by omega) (by omega)
  have c2 : CMulW f.2 m := mulW fB.2.2 mb (by omega) (by omega)
  have g2 := seqT (n2.g.trans n2.w) gf
  refine ⟨_, rfl, _, rfl, a, _, 0, _, rfl, rfl, g2, at0, _, rfl, _, _, rfl, rfl, c1, _, rfl, a, _, 1, _, rfl, rfl, g2, at1, _, rfl, _, _, rfl, rfl, c2, s2, fun t ht => ?_⟩
  have S3 := S2.new (o := .tup [.int (f.1 * m), .int (f.2 * m)]) ht
  have n3 := n2.trans (Nx.new (M := (· = p)) (o := .tup [.int (f.1 * m), .int (f.2 * m)]) n2.w ht)
  have g3 := seqT (n3.g.trans n3.w) gf
  refine ⟨_, rfl, a, _, 0, _, rfl, rfl, g3, at0, _, rfl, _, _, rfl, rfl, c1, _, rfl, a, _, 1, _, rfl, rfl, g3, at1, _, rfl, _, _, rfl, rfl, c2, s2, fun l hl => ⟨s2, fun b hb => ?_⟩⟩
  have m4 := Nx.new (M := (· = p)) (o := .lst [.int (f.1 * m), .int (f.2 * m)]) n3.w hl
  have S4 := S3.new (o := .lst [.int (f.1 * m), .int (f.2 * m)]) hl
  have n4 := n3.trans m4
  have m5 := Nx.new (M := (· = p)) (o := .lst [.ref t, .ref l]) n4.w hb
  have S5 := S4.new (o := .lst [.ref t, .ref l]) hb
  have n5 := n4.trans m5
  refine ⟨p, b, _, n + 1, _, rfl, SqL.of upd_same, (by show 0 < 2; decide), (by show 2 ≤ 1000000; decide), S5, by omega, fun j2 x2 H6 hx2 n6' hp6 => ?_⟩
  match j2, hx2 with
  | 0, hx => cases hx; exact kk _ _ _ _ ⟨m, hm, .inl rfl⟩ (n5.trans n6') ⟨t, _, rfl, seqT (m4.g.trans m5.g) (SqT.of upd_same), RpA.cons rfl (RpA.cons rfl RpA.nil)⟩ hp6
  | 1, hx => cases hx; exact kk _ _ _ _ ⟨m, hm, .inr rfl⟩ (n5.trans n6') ⟨l, _, rfl, m5.g.seq (SqL.of upd_same), RpA.cons rfl (RpA.cons rfl RpA.nil)⟩ hp6
  | j + 2, hx => simp at hx
/-! ### bent -/
theorem atI_neg1 {α : Type} {xs : List α} {v : α} (h : xs[xs.length - 1]? = some v) (h0 : 0 < xs.length) : atI xs (-1) = some v := by
  unfold atI ixN
  rw [if_neg (by omega), if_pos (by omega)]
  have e : (-1 + (xs.length : Int)).toNat = xs.length - 1 := by omega
  show xs[(-1 + (xs.length : Int)).toNat]? = some v
  rw [e]
  exact h
theorem cut_drop (xs : List V) (i : Nat) (h : i ≤ xs.length) : cutV xs (some (i : Int)) none = xs.drop i := by
  unfold cutV
  rw [HT.sIx_none, HT.sIx_nat, Nat.min_eq_left h]
  exact List.take_of_length_le (by rw [List.length_drop]; omega)
theorem Paired.app {α β : Type} {F : α → β → Prop} : ∀ {xs zs : List α} {ys ws : List β}, Paired F xs ys → Paired F zs ws → Paired F (xs ++ zs) (ys ++ ws)
  | _, _, _, _, .nil, h => h
  | _, _, _, _, .cons r t, h => .cons r (Paired.app t h)
theorem Paired.take {α β : Type} {F : α → β → Prop} : ∀ (n : Nat) {xs : List α} {ys : List β}, Paired F xs ys → Paired F (xs.take n) (ys.take n)
  | 0, _, _, _ => .nil
  | _ + 1, _, _, .nil => .nil
  | n + 1, _, _, .cons r t => .cons r (Paired.take n t)
theorem Paired.drop {α β : Type} {F : α → β → Prop} : ∀ (n : Nat) {xs : List α} {ys : List β}, Paired F xs ys → Paired F (xs.drop n) (ys.drop n)
  | 0, _, _, h => h
  | _ + 1, _, _, .nil => .nil
  | n + 1, _, _, .cons r t => Paired.drop n t
theorem Paired.rev {α β : Type} {F : α → β → Prop} : ∀ {xs : List α} {ys : List β}, Paired F xs ys → Paired F xs.reverse ys.reverse
  | _, _, .nil => .nil
  | _, _, .cons r t => by
    rw [List.reverse_cons, List.reverse_cons]
    exact (Paired.rev t).snoc r
theorem StpV.mk {G : Hp} {aa : Addr} {u : V} {m : Nat} {f : Fr} (h : SqT K G aa [.int (m : Nat), u]) (h2 : FrA K G u f) : StpV K G (.ref aa) (m, f) := ⟨aa, u, rfl, h, h2⟩
theorem StpV.pairs {G G' : Hp} {xs : List V} {ps : List Stp} (h : Paired (StpV K G) xs ps) (e : Same G G') : Paired (StpV K G') xs ps := Paired.imp (fun _ _ z => z.mono e) h
def sp_l_bent (K : PySem.W.Frag) : Sp := fun vs H Q _ => ∃ (p x L : Addr) (W : Wt) (ps : List Stp) (k n : Nat) (G : Hp), vs = [.ref p, .ref x, .ref L] ∧ LawW K G x W ∧ WtOk W ∧ PairsM K G L ps ∧ (∀ s ∈ ps, StpOk W k s) ∧ 1 ≤ k ∧ k ≤ 1000 ∧ ps.length ≤ 100 ∧ PS p G H n ∧ n + 10 ≤ NMAX ∧
  ∀ (ps' : List Stp) G' H' L', (∀ s ∈ ps', StpOk W (k + 4) s) → ps'.length ≤ ps.length + 1 → Nx (· = p) G H G' H' → PairsM K G' L' ps' → PoolL H' p (n + 10) → Q (.ref L') H'
theorem ok_l_bent (T : Tx K mg A) : DefOk P w K mg base 4 "_law_bent" P_l_bent (sp_l_bent K) := by
  refine T.f_l_bent.ok sc_l_bent (fun vs H Q E ⟨_, _, _, _, _, _, _, _, e, _⟩ => by rw [e]; rfl) (fun f cdv AA outer s H vs Q E hr h => ⟨_, (pss_cons (ps_if (pt_cmpR (op_eqE hr) (pv 2) (pe_lst pa_nil) (nomark _)) (pss_one (ps_ret (pe_lst (pa_cons (pe_tup (pa_cons (pe_cd (ok_l_take T) (lv hr) rfl (pa_cons (pv 0) (pa_cons (pe_callB call_len_seq rfl T.z_len PySem.boot_len (pa_cons (pe_dget (hu_of hr) (pv 1) pe_str (fun _ _ => rfl)) pa_nil)) pa_nil))) (pa_cons (pe_tup (pa_cons (pe_cd (ok_l_take T) (lv hr) rfl (pa_cons (pv 0) (pa_cons pe_int pa_nil))) (pa_cons (pe_op op_add pe_int (pe_cd (ok_l_take T) (lv hr) rfl (pa_cons (pv 0) (pa_cons pe_int pa_nil)))) pa_nil))) pa_nil))) pa_nil)))) pss_nil) (pss_cons (ps_par (i := 3) (j := 4) rfl sc_l_bent.nd rfl rfl (by decide) rfl rfl (pa_cons (pe_cd (ok_l_take T) (lv hr) rfl (pa_cons (pv 0) (pa_cons pe_int pa_nil))) (pa_cons (pe_cd (ok_l_take T) (lv hr) rfl (pa_cons (pv 0) (pa_cons (pe_callB call_len_seq rfl T.z_len PySem.boot_len (pa_cons (pv 2) pa_nil)) pa_nil))) pa_nil)) (by rfl)) (pss_cons (ps_asg (pe_ix ix_list (pv 2) (pv 4) (fun _ _ => rfl)) (pg_tup rfl (pgs_cons (pg_name (i := 5) sc_l_bent.nd rfl (Or.inl rfl)) (pgs_cons (pg_name (i := 6) sc_l_bent.nd rfl (Or.inl rfl)) pgs_nil)))) (pss_cons (ps_if (pt_cmpR op_eq (pv 3) pe_int (nomark _)) (pss_cons (ps_set (i := 7) sc_l_bent.nd rfl (Or.inr rfl) (pe_cd (ok_l_one T) (lv hr) rfl (pa_cons (pv 0) (pa_cons (pe_lst (pa_cons (pe_tup (pa_cons pe_int (pa_cons pe_int pa_nil))) (pa_cons (pe_tup (pa_cons (pe_un un_neg pe_int) (pa_cons pe_int pa_nil))) (pa_cons (pe_tup (pa_cons pe_int (pa_cons pe_int pa_nil))) (pa_cons (pe_tup (pa_cons (pe_un un_neg pe_int) (pa_cons pe_int pa_nil))) (pa_cons (pe_tup (pa_cons pe_int (pa_cons pe_int pa_nil))) (pa_cons (pe_tup (pa_cons (pe_un un_neg pe_int) (pa_cons pe_int pa_nil))) pa_nil))))))) pa_nil)))) (pss_one (ps_ret (pe_op op_cat (pe_op op_cat (pe_slice sl_list (pv 2) po_none (po_some (pv 4))) (pe_lst (pa_cons (pe_tup (pa_cons (pv 5) (pa_cons (pe_cd (ok_l_plus T) (lv hr) rfl (pa_cons (pv 6) (pa_cons (pv 7) pa_nil))) pa_nil))) pa_nil))) (pe_slice sl_list (pv 2) (po_some (pe_op op_add (pv 4) pe_int)) po_none))))) pss_nil) (pss_cons (ps_if (pt_cmpR op_eq (pv 3) pe_int (nomark _)) (pss_one (ps_ret (pe_op op_cat (pe_op op_cat (pe_slice sl_list (pv 2) po_none (po_some (pv 4))) (pe_lst (pa_cons (pe_tup (pa_cons (pe_cd (ok_l_take T) (lv hr) rfl (pa_cons (pv 0) (pa_cons (pe_callB call_len_seq rfl T.z_len PySem.boot_len (pa_cons (pe_dget (hu_of hr) (pv 1) pe_str (fun _ _ => rfl)) pa_nil)) pa_nil))) (pa_cons (pv 6) pa_nil))) pa_nil))) (pe_slice sl_list (pv 2) (po_some (pe_op op_add (pv 4) pe_int)) po_none)))) pss_nil) (pss_cons (ps_if (pt_cmpR op_eq (pv 3) pe_int (nomark _)) (pss_one (ps_ret (pe_op op_cat (pe_slice sl_list (pv 2) po_none (po_some (pv 4))) (pe_slice sl_list (pv 2) (po_some (pe_op op_add (pv 4) pe_int)) po_none)))) pss_nil) (pss_cons (ps_if (pt_cmpR op_eq (pv 3) pe_int (nomark _)) (pss_one (ps_ret (pe_op op_cat (pe_op op_cat (pe_slice sl_list (pv 2) po_none (po_some (pv 4))) (pe_lst (pa_cons (pe_ix ix_list (pv 2) (pv 4) (fun _ _ => rfl)) pa_nil))) (pe_slice sl_list (pv 2) (po_some (pv 4)) po_none)))) pss_nil) (pss_cons (ps_if (pt_cmpR op_eq (pv 3) pe_int (nomark _)) (pss_one (ps_ret (pe_revL (pv 2)))) pss_nil) (pss_cons (ps_if (pt_cmpR op_eq (pv 3) pe_int (nomark _)) (pss_one (ps_ret (pe_op op_cat (pv 2) (pe_lst (pa_cons (pe_tup (pa_cons (pe_cd (ok_l_take T) (lv hr) rfl (pa_cons (pv 0) (pa_cons (pe_callB call_len_seq rfl T.z_len PySem.boot_len (pa_cons (pe_dget (hu_of hr) (pv 1) pe_str (fun _ _ => rfl)) pa_nil)) pa_nil))) (pa_cons (pe_cd (ok_l_plus T) (lv hr) rfl (pa_cons (pe_ix ix_tup (pe_ix ix_list (pv 2) (pe_un un_neg pe_int) (fun _ _ => rfl)) pe_int (fun _ _ => rfl)) (pa_cons (pe_tup (pa_cons (pe_cd (ok_l_take T) (lv hr) rfl (pa_cons (pv 0) (pa_cons pe_int pa_nil))) (pa_cons pe_int pa_nil))) pa_nil))) pa_nil))) pa_nil))))) pss_nil) (pss_cons (ps_set (i := 7) sc_l_bent.nd rfl (Or.inr rfl) (pe_cd (ok_l_one T) (lv hr) rfl (pa_cons (pv 0) (pa_cons (pe_lst (pa_cons (pe_tup (pa_cons pe_int (pa_cons pe_int pa_nil))) (pa_cons (pe_tup (pa_cons pe_int (pa_cons pe_int pa_nil))) (pa_cons (pe_tup (pa_cons pe_int (pa_cons pe_int pa_nil))) pa_nil)))) pa_nil)))) (pss_one (ps_ret (pe_op op_cat (pe_slice sl_list (pv 2) po_none (po_some (pv 4))) (pe_lc (own := [("_law_k", 8), ("_law_moment", 9)]) rfl sc_l_bent.nd (pi_list (pe_slice sl_list (pv 2) (po_some (pv 4)) po_none)) (blkOk_by (own := [("_law_k", 8), ("_law_moment", 9)]) (N := N_l_bent) (sc := defScope s_l_bent) (by decide +kernel)) (fun _ _ _ _ _ => (pg_tupB (n := 2) rfl (pgs_cons (pg_name (i := 8) sc_l_bent.nd rfl (Or.inl rfl)) (pgs_cons (pg_name (i := 9) sc_l_bent.nd rfl (Or.inl rfl)) pgs_nil)))) (fun _ _ _ _ _ => pts_nil) (fun _ _ _ _ _ => (pe_tup (pa_cons (pv 8) (pa_cons (pe_cd (ok_l_plus T) (lv hr) rfl (pa_cons (pv 9) (pa_cons (pv 7) pa_nil))) pa_nil)))))))))))))))))), ?_⟩)
  obtain ⟨p, x, L, W, ps, k, n, G, rfl, lw, ok, ⟨xs, gL, hxs⟩, hps, hk1, hk, hlen, S, hn, kk⟩ := h
  have lx : xs.length = ps.length := Paired.len hxs
  have a0 := ok.a0
  have alen := ok.al
  obtain ⟨wc, wd, wa, we, gx, ar⟩ := lw
  obtain ⟨wa', wxs, ea, hwx, rwx⟩ := ar.a
  cases ea
  have wlen : wxs.length = W.arrs.length := by rw [rwx.len, List.length_map]
  have hps4 : ∀ s ∈ ps, StpOk W (k + 4) s := fun s hs => (hps s hs).mono (by omega)
  -- how it ends
  have fin : ∀ (ps' : List Stp) (G' H' : Hp) (L' : Addr) (zs : List V), (∀ s ∈ ps', StpOk W (k + 4) s) → ps'.length ≤ ps.length + 1 → Nx (· = p) G H G' H' → H' L' = none → PoolL H' p (n + 10) → Paired (StpV K G') zs ps' → Q (.ref L') (upd H' L' (.lst zs)) := fun ps' G' H' L' zs h1 h2 nx hL hp hz =>
    kk ps' _ _ L' h1 h2 (nx.trans (Nx.new nx.w hL)) ⟨zs, upd_same, StpV.pairs hz (Same.new0 (nx.w.free hL))⟩ (hp.upd (hp.nf hL))
  refine ⟨_, rfl, s0, fun z0 hz0 => ?_⟩
  have n0 := Nx.new (M := (· = p)) (o := .lst []) S.w hz0
  have pl0 := S.pl.upd (o := .lst []) (S.pl.nf hz0)
  have g0 := n0.g
  refine ⟨L, z0, xs, rfl, rfl, n0.w.seq (n0.g.seq (SqL.of gL)), SqL.of upd_same, _, rfl, ?_⟩
  generalize upd G z0 (.lst []) = G0 at n0 g0
  generalize upd H z0 (.lst []) = H0 at n0 pl0 ⊢
  have gL0 := g0 _ _ gL
  have gx0 := g0 _ _ gx
  have hwx0 := g0.seq hwx
  have hxs0 := StpV.pairs hxs g0
  cases hc : xs with
  | nil =>
    have ps0 : ps = [] := List.eq_nil_of_length_eq_zero (by rw [← lx, hc]; rfl)
    refine iteT' rfl ?_
    refine ⟨_, rfl, _, rfl, x, _, rfl, dget (n0.w _ _ gx0) (wK_a wc wd wa we), wa, wxs, rfl, .inl (n0.w.seq hwx0), p, wxs.length, n, G0, rfl, by omega, by omega, n0.w, n0.own p S.g S.ne, pl0, by unfold NMAX at hn; omega, fun j1 H1 hj1 c1 hp1 => ?_⟩
    have n1 := n0.trans c1
    have e1 := c1.g
    have pl1 := hp1
    refine ⟨_, rfl, p, 9, _, G0, rfl, by decide, by decide, n1.w, n1.own p S.g S.ne, pl1, by unfold NMAX at hn; omega, fun j2 H2 hj2 c2 hp2 => ?_⟩
    have n2 := n1.trans c2
    have e2 := c2.g
    have pl2 := hp2
    refine ⟨_, rfl, p, 3, _, G0, rfl, by decide, by decide, n2.w, n2.own p S.g S.ne, pl2, by unfold NMAX at hn; omega, fun j3 H3 hj3 c3 hp3 => ⟨_, _, rfl, rfl, s2, fun t ht => ?_⟩⟩
    have n3 := n2.trans c3
    have e3 := c3.g
    have pl3 := hp3
    have m4 := Nx.new (M := (· = p)) (o := .tup [.int (j2 : Nat), .int (1 + (j3 : Nat))]) n3.w ht
    have n4 := n3.trans m4
    have e4 := m4.g
    have pl4 := pl3.upd (o := .tup [.int (j2 : Nat), .int (1 + (j3 : Nat))]) (pl3.nf ht)
    refine ⟨s2, fun u hu => ⟨s1, fun l hl => ?_⟩⟩
    have m5 := Nx.new (M := (· = p)) (o := .tup [.int (j1 : Nat), .ref t]) n4.w hu
    have n5 := n4.trans m5
    have e5 := m5.g
    have pl5 := pl4.upd (o := .tup [.int (j1 : Nat), .ref t]) (pl4.nf hu)
    refine fin [(j1, ((j2 : Int), 1 + (j3 : Int)))] _ _ l [.ref u] ?_ (by simp) n5 hl (pl5.mono (by omega)) (.cons ⟨u, .ref t, rfl, SqT.of upd_same, t, rfl, seqT e5 (SqT.of upd_same)⟩ .nil)
    intro s hs
    rw [List.mem_singleton.mp hs]
    refine ⟨by show j1 < _; omega, FrB.mono (k := 4) ⟨by show (0 : Int) < 1 + (j3 : Int); omega, by show ((j2 : Nat) : Int).natAbs < 2 ^ 4; omega, by show (1 + ((j3 : Nat) : Int)).natAbs < 2 ^ 4; omega⟩ (by omega)⟩
  | cons c0 r0 =>
  have hx0 : 0 < xs.length := by rw [hc]; simp
  rw [← hc]
  refine iteF' (by rw [hc]; rfl) ?_
  refine ⟨_, rfl, p, 7, n, G0, rfl, by decide, by decide, n0.w, n0.own p S.g S.ne, pl0, by unfold NMAX at hn; omega, fun way H1 hway c1 hp1 => ?_⟩
  have n1 := n0.trans c1
  refine ⟨_, rfl, _, rfl, L, _, rfl, .inl (n1.w.seq (SqL.of gL0)), p, xs.length, _, G0, rfl, by omega, by omega, n1.w, n1.own p S.g S.ne, hp1, by unfold NMAX at hn; omega, fun at_ H2 hat c2 pl2 => ⟨_, _, rfl, ?_⟩⟩
  have n2 := n1.trans c2
  obtain ⟨y, hy⟩ : ∃ y, xs[at_]? = some y := ⟨_, List.getElem?_eq_getElem hat⟩
  obtain ⟨⟨m, tm⟩, hs, ta, tv, rfl, r1, r2⟩ := Paired.get hxs0 hy
  simp only at r1 r2
  have hso := hps _ (List.mem_of_getElem? hs)
  have hm := hso.n
  have htB := hso.b
  simp only at hm htB
  refine ⟨_, rfl, _, rfl, L, xs, (at_ : Int), _, rfl, rfl, n2.w.seq (SqL.of gL0), atI_nat hy, ta, _, rfl, seqT n2.w r1, rfl, _, _, rfl, _, _, rfl, rfl, ?_⟩
  have ecut1 : cutV xs none (some (at_ : Int)) = xs.take at_ := cut_take xs at_ (by omega)
  have ecut2 : cutV xs (some ((at_ : Int) + 1)) none = xs.drop (at_ + 1) := by
    have e : (at_ : Int) + 1 = ((at_ + 1 : Nat) : Int) := by omega
    rw [e]
    exact cut_drop xs (at_ + 1) (by omega)
  have ecut3 : cutV xs (some (at_ : Int)) none = xs.drop at_ := cut_drop xs at_ (by omega)
  have lt1 : (xs.take at_).length ≤ 100 := by rw [List.length_take]; omega
  have ld1 : (xs.drop (at_ + 1)).length ≤ 100 := by rw [List.length_drop]; omega
  have ld0 : (xs.drop at_).length ≤ 100 := by rw [List.length_drop]; omega
  have h1 := Paired.take at_ hxs0
  have h2 := Paired.drop (at_ + 1) hxs0
  have h3 := Paired.drop at_ hxs0
  have q1 : ∀ s ∈ ps.take at_, StpOk W (k + 4) s := fun s hs => hps4 s (List.mem_of_mem_take hs)
  have q2 : ∀ s ∈ ps.drop (at_ + 1), StpOk W (k + 4) s := fun s hs => hps4 s (List.mem_of_mem_drop hs)
  have q3 : ∀ s ∈ ps.drop at_, StpOk W (k + 4) s := fun s hs => hps4 s (List.mem_of_mem_drop hs)
  have lp1 : (ps.take at_).length = at_ := by rw [List.length_take]; omega
  have lp2 : (ps.drop (at_ + 1)).length = ps.length - (at_ + 1) := List.length_drop ..
  have lp3 : (ps.drop at_).length = ps.length - at_ := List.length_drop ..
  have mid : ∀ {A B : List Stp} {s : Stp}, (∀ z ∈ A, StpOk W (k + 4) z) → StpOk W (k + 4) s → (∀ z ∈ B, StpOk W (k + 4) z) → ∀ z ∈ (A ++ [s]) ++ B, StpOk W (k + 4) z := fun hA hs hB z hz => by
    rcases List.mem_append.mp hz with h | h
    · rcases List.mem_append.mp h with h | h
      · exact hA z h
      · rw [List.mem_singleton.mp h]; exact hs
    · exact hB z h
  have dci : ∀ j : Int, decide (V.int (way : Int) = V.int j) = ((way : Int) == j) := fun j => dec_int
  refine ⟨_, rfl, rfl, _, rfl, ?_⟩
  by_cases hw0 : (way : Int) = 0
  · refine iteT' (by rw [dci]; exact beq_iff_eq.mpr hw0) ?_
    refine ⟨_, rfl, s2, fun t1 ht1 => ?_⟩
    have m3 := Nx.new (M := (· = p)) (o := .tup [.int 1, .int 2]) n2.w ht1
    have n3 := n2.trans m3
    have e3 := m3.g
    have pl3 := pl2.upd (o := .tup [.int 1, .int 2]) (pl2.nf ht1)
    refine ⟨_, rfl, s2, fun t2 ht2 => ?_⟩
    have m4 := Nx.new (M := (· = p)) (o := .tup [.int (-1), .int 2]) n3.w ht2
    have n4 := n3.trans m4
    have e4 := m4.g
    have pl4 := pl3.upd (o := .tup [.int (-1), .int 2]) (pl3.nf ht2)
    refine ⟨s2, fun t3 ht3 => ?_⟩
    have m5 := Nx.new (M := (· = p)) (o := .tup [.int 1, .int 3]) n4.w ht3
    have n5 := n4.trans m5
    have e5 := m5.g
    have pl5 := pl4.upd (o := .tup [.int 1, .int 3]) (pl4.nf ht3)
    refine ⟨_, rfl, s2, fun t4 ht4 => ?_⟩
    have m6 := Nx.new (M := (· = p)) (o := .tup [.int (-1), .int 1]) n5.w ht4
    have n6 := n5.trans m6
    have e6 := m6.g
    have pl6 := pl5.upd (o := .tup [.int (-1), .int 1]) (pl5.nf ht4)
    refine ⟨s2, fun t5 ht5 => ?_⟩
    have m7 := Nx.new (M := (· = p)) (o := .tup [.int 1, .int 1]) n6.w ht5
    have n7 := n6.trans m7
    have e7 := m7.g
    have pl7 := pl6.upd (o := .tup [.int 1, .int 1]) (pl6.nf ht5)
    refine ⟨_, rfl, s2, fun t6 ht6 => ?_⟩
    have m8 := Nx.new (M := (· = p)) (o := .tup [.int (-2), .int 1]) n7.w ht6
    have n8 := n7.trans m8
    have e8 := m8.g
    have pl8 := pl7.upd (o := .tup [.int (-2), .int 1]) (pl7.nf ht6)
    refine ⟨s6, fun fl hfl => ?_⟩
    have m9 := Nx.new (M := (· = p)) (o := .lst [.ref t1, .ref t2, .ref t3, .ref t4, .ref t5, .ref t6]) n8.w hfl
    have n9 := n8.trans m9
    have e9 := m9.g
    have pl9 := pl8.upd (o := .lst [.ref t1, .ref t2, .ref t3, .ref t4, .ref t5, .ref t6]) (pl8.nf hfl)
    refine ⟨p, fl, _, _, _, rfl, SqL.of upd_same, (by show 0 < 6; decide), (by show 6 ≤ 1000000; decide), ⟨n9.w, n9.own p S.g S.ne, pl9⟩, by omega, fun jf fv Hf hfv cf hpf => ?_⟩
    have n10 := n9.trans cf
    have e10 := cf.g
    have pl10 := hpf
    have hfar : ∃ ff : Fr, FrA K (upd (upd (upd (upd (upd (upd (upd G0 t1 (HO.tup [.int 1, .int 2])) t2 (HO.tup [.int (-1), .int 2])) t3 (HO.tup [.int 1, .int 3])) t4 (HO.tup [.int (-1), .int 1])) t5 (HO.tup [.int 1, .int 1])) t6 (HO.tup [.int (-2), .int 1])) fl (HO.lst [.ref t1, .ref t2, .ref t3, .ref t4, .ref t5, .ref t6])) fv ff ∧ FrB 3 ff := by
      match jf, hfv with
      | 0, hx => cases hx; exact ⟨(1, 2), (FrA.of (f := (1, 2)) upd_same).mono ((((((e4.trans e5).trans e6).trans e7).trans e8).trans e9).trans e10), ⟨by decide, by decide, by decide⟩⟩
      | 1, hx => cases hx; exact ⟨(-1, 2), (FrA.of (f := (-1, 2)) upd_same).mono (((((e5.trans e6).trans e7).trans e8).trans e9).trans e10), ⟨by decide, by decide, by decide⟩⟩
      | 2, hx => cases hx; exact ⟨(1, 3), (FrA.of (f := (1, 3)) upd_same).mono ((((e6.trans e7).trans e8).trans e9).trans e10), ⟨by decide, by decide, by decide⟩⟩
      | 3, hx => cases hx; exact ⟨(-1, 1), (FrA.of (f := (-1, 1)) upd_same).mono (((e7.trans e8).trans e9).trans e10), ⟨by decide, by decide, by decide⟩⟩
      | 4, hx => cases hx; exact ⟨(1, 1), (FrA.of (f := (1, 1)) upd_same).mono ((e8.trans e9).trans e10), ⟨by decide, by decide, by decide⟩⟩
      | 5, hx => cases hx; exact ⟨(-2, 1), (FrA.of (f := (-2, 1)) upd_same).mono (e9.trans e10), ⟨by decide, by decide, by decide⟩⟩
      | jf + 6, hx => simp at hx
    obtain ⟨ff, rff, ffB⟩ := hfar
    refine ⟨_, rfl, _, rfl, _, rfl, L, _, rfl, n10.w.seq ((((((((e3.trans e4).trans e5).trans e6).trans e7).trans e8).trans e9).trans e10).seq (SqL.of gL0)), fun qa hqa => ?_⟩
    rw [ecut1]
    have m11 := Nx.new (M := (· = p)) (o := .lst (xs.take at_)) n10.w hqa
    have n11 := n10.trans m11
    have e11 := m11.g
    have pl11 := pl10.upd (o := .lst (xs.take at_)) (pl10.nf hqa)
    refine ⟨_, rfl, _, rfl, _, rfl, tv, fv, tm, ff, k + 3, rfl, (r2.mono ((((((((e3.trans e4).trans e5).trans e6).trans e7).trans e8).trans e9).trans e10).trans e11)).mono n11.w, (rff.mono e11).mono n11.w, htB.mono (by omega), ffB.mono (by omega), by omega, fun tt htt => ?_⟩
    have m12 := Nx.new (M := (· = p)) (o := tupF (plusF tm ff)) n11.w htt
    have n12 := n11.trans m12
    have e12 := m12.g
    have pl12 := pl11.upd (o := tupF (plusF tm ff)) (pl11.nf htt)
    refine ⟨s2, fun uu huu => ?_⟩
    have m13 := Nx.new (M := (· = p)) (o := .tup [.int (m : Nat), .ref tt]) n12.w huu
    have n13 := n12.trans m13
    have e13 := m13.g
    have pl13 := pl12.upd (o := .tup [.int (m : Nat), .ref tt]) (pl12.nf huu)
    refine ⟨s1, fun ll hll => ?_⟩
    have m14 := Nx.new (M := (· = p)) (o := .lst [.ref uu]) n13.w hll
    have n14 := n13.trans m14
    have e14 := m14.g
    have pl14 := pl13.upd (o := .lst [.ref uu]) (pl13.nf hll)
    refine ⟨qa, ll, _, _, rfl, rfl, n14.w _ _ (((e12.trans e13).trans e14) _ _ upd_same), upd_same, sz (by simp; omega), fun cc hcc => ?_⟩
    have m15 := Nx.new (M := (· = p)) (o := .lst (xs.take at_ ++ [.ref uu])) n14.w hcc
    have n15 := n14.trans m15
    have e15 := m15.g
    have pl15 := pl14.upd (o := .lst (xs.take at_ ++ [.ref uu])) (pl14.nf hcc)
    refine ⟨_, rfl, _, rfl, _, _, rfl, rfl, _, rfl, L, _, rfl, n15.w.seq (((((((((((((e3.trans e4).trans e5).trans e6).trans e7).trans e8).trans e9).trans e10).trans e11).trans e12).trans e13).trans e14).trans e15).seq (SqL.of gL0)), fun qb hqb => ?_⟩
    rw [ecut2]
    have m16 := Nx.new (M := (· = p)) (o := .lst (xs.drop (at_ + 1))) n15.w hqb
    have n16 := n15.trans m16
    have e16 := m16.g
    have pl16 := pl15.upd (o := .lst (xs.drop (at_ + 1))) (pl15.nf hqb)
    refine ⟨cc, qb, _, _, rfl, rfl, n16.w _ _ (e16 _ _ upd_same), upd_same, sz (by simp; omega), fun rr hrr => ?_⟩
    exact fin ((ps.take at_ ++ [(m, plusF tm ff)]) ++ ps.drop (at_ + 1)) _ _ rr _ (mid q1 ⟨hm, (plusF_B htB ffB).mono (by omega)⟩ q2) (by simp; omega) n16 hrr (pl16.mono (by omega)) (Paired.app (Paired.app (StpV.pairs h1 (((((((((((((e3.trans e4).trans e5).trans e6).trans e7).trans e8).trans e9).trans e10).trans e11).trans e12).trans e13).trans e14).trans e15).trans e16)) (.cons ((StpV.mk (f := plusF tm ff) (SqT.of upd_same) ((FrA.of (f := plusF tm ff) upd_same).mono e13)).mono ((e14.trans e15).trans e16)) .nil)) (StpV.pairs h2 (((((((((((((e3.trans e4).trans e5).trans e6).trans e7).trans e8).trans e9).trans e10).trans e11).trans e12).trans e13).trans e14).trans e15).trans e16)))
  refine iteF' (by rw [dci]; exact beq_eq_false_iff_ne.mpr hw0) ?_
  refine ⟨_, rfl, rfl, _, rfl, ?_⟩
  by_cases hw1 : (way : Int) = 1
  · refine iteT' (by rw [dci]; exact beq_iff_eq.mpr hw1) ?_
    refine ⟨_, rfl, _, rfl, _, rfl, L, _, rfl, n2.w.seq (SqL.of gL0), fun qa hqa => ?_⟩
    rw [ecut1]
    have m3 := Nx.new (M := (· = p)) (o := .lst (xs.take at_)) n2.w hqa
    have n3 := n2.trans m3
    have e3 := m3.g
    have pl3 := pl2.upd (o := .lst (xs.take at_)) (pl2.nf hqa)
    refine ⟨_, rfl, _, rfl, x, _, rfl, dget (n3.w _ _ (e3 _ _ gx0)) (wK_a wc wd wa we), wa, wxs, rfl, .inl (n3.w.seq (e3.seq hwx0)), p, wxs.length, _, _, rfl, by omega, by omega, n3.w, n3.own p S.g S.ne, pl3, by unfold NMAX at hn; omega, fun m2 Hm hm2 cm hpm => ?_⟩
    have n4 := n3.trans cm
    have e4 := cm.g
    have pl4 := hpm
    refine ⟨_, rfl, s2, fun uu huu => ?_⟩
    have m5 := Nx.new (M := (· = p)) (o := .tup [.int (m2 : Nat), tv]) n4.w huu
    have n5 := n4.trans m5
    have e5 := m5.g
    have pl5 := pl4.upd (o := .tup [.int (m2 : Nat), tv]) (pl4.nf huu)
    refine ⟨s1, fun ll hll => ?_⟩
    have m6 := Nx.new (M := (· = p)) (o := .lst [.ref uu]) n5.w hll
    have n6 := n5.trans m6
    have e6 := m6.g
    have pl6 := pl5.upd (o := .lst [.ref uu]) (pl5.nf hll)
    refine ⟨qa, ll, _, _, rfl, rfl, n6.w _ _ (((e4.trans e5).trans e6) _ _ upd_same), upd_same, sz (by simp; omega), fun cc hcc => ?_⟩
    have m7 := Nx.new (M := (· = p)) (o := .lst (xs.take at_ ++ [.ref uu])) n6.w hcc
    have n7 := n6.trans m7
    have e7 := m7.g
    have pl7 := pl6.upd (o := .lst (xs.take at_ ++ [.ref uu])) (pl6.nf hcc)
    refine ⟨_, rfl, _, rfl, _, _, rfl, rfl, _, rfl, L, _, rfl, n7.w.seq (((((e3.trans e4).trans e5).trans e6).trans e7).seq (SqL.of gL0)), fun qb hqb => ?_⟩
    rw [ecut2]
    have m8 := Nx.new (M := (· = p)) (o := .lst (xs.drop (at_ + 1))) n7.w hqb
    have n8 := n7.trans m8
    have e8 := m8.g
    have pl8 := pl7.upd (o := .lst (xs.drop (at_ + 1))) (pl7.nf hqb)
    refine ⟨cc, qb, _, _, rfl, rfl, n8.w _ _ (e8 _ _ upd_same), upd_same, sz (by simp; omega), fun rr hrr => ?_⟩
    exact fin ((ps.take at_ ++ [(m2, tm)]) ++ ps.drop (at_ + 1)) _ _ rr _ (mid q1 ⟨by show m2 < _; omega, htB.mono (by omega)⟩ q2) (by simp; omega) n8 hrr (pl8.mono (by omega)) (Paired.app (Paired.app (StpV.pairs h1 (((((e3.trans e4).trans e5).trans e6).trans e7).trans e8)) (.cons ((StpV.mk (SqT.of upd_same) (r2.mono ((e3.trans e4).trans e5))).mono ((e6.trans e7).trans e8)) .nil)) (StpV.pairs h2 (((((e3.trans e4).trans e5).trans e6).trans e7).trans e8)))
  refine iteF' (by rw [dci]; exact beq_eq_false_iff_ne.mpr hw1) ?_
  refine ⟨_, rfl, rfl, _, rfl, ?_⟩
  by_cases hw2 : (way : Int) = 2
  · refine iteT' (by rw [dci]; exact beq_iff_eq.mpr hw2) ?_
    refine ⟨_, rfl, _, rfl, _, rfl, L, _, rfl, n2.w.seq (SqL.of gL0), fun qa hqa => ?_⟩
    rw [ecut1]
    have m3 := Nx.new (M := (· = p)) (o := .lst (xs.take at_)) n2.w hqa
    have n3 := n2.trans m3
    have e3 := m3.g
    have pl3 := pl2.upd (o := .lst (xs.take at_)) (pl2.nf hqa)
    refine ⟨_, rfl, _, rfl, _, _, rfl, rfl, _, rfl, L, _, rfl, n3.w.seq (e3.seq (SqL.of gL0)), fun qb hqb => ?_⟩
    rw [ecut2]
    have m4 := Nx.new (M := (· = p)) (o := .lst (xs.drop (at_ + 1))) n3.w hqb
    have n4 := n3.trans m4
    have e4 := m4.g
    have pl4 := pl3.upd (o := .lst (xs.drop (at_ + 1))) (pl3.nf hqb)
    refine ⟨qa, qb, _, _, rfl, rfl, n4.w _ _ (e4 _ _ upd_same), upd_same, sz (by omega), fun rr hrr => ?_⟩
    exact fin (ps.take at_ ++ ps.drop (at_ + 1)) _ _ rr _ (fun z hz => (List.mem_append.mp hz).elim (q1 z) (q2 z)) (by simp; omega) n4 hrr (pl4.mono (by omega)) (Paired.app (StpV.pairs h1 (e3.trans e4)) (StpV.pairs h2 (e3.trans e4)))
  refine iteF' (by rw [dci]; exact beq_eq_false_iff_ne.mpr hw2) ?_
  refine ⟨_, rfl, rfl, _, rfl, ?_⟩
  by_cases hw3 : (way : Int) = 3
  · refine iteT' (by rw [dci]; exact beq_iff_eq.mpr hw3) ?_
    refine ⟨_, rfl, _, rfl, _, rfl, L, _, rfl, n2.w.seq (SqL.of gL0), fun qa hqa => ?_⟩
    rw [ecut1]
    have m3 := Nx.new (M := (· = p)) (o := .lst (xs.take at_)) n2.w hqa
    have n3 := n2.trans m3
    have e3 := m3.g
    have pl3 := pl2.upd (o := .lst (xs.take at_)) (pl2.nf hqa)
    refine ⟨_, rfl, _, rfl, L, xs, (at_ : Int), _, rfl, rfl, n3.w.seq (e3.seq (SqL.of gL0)), atI_nat hy, s1, fun ll hll => ?_⟩
    have m4 := Nx.new (M := (· = p)) (o := .lst [.ref ta]) n3.w hll
    have n4 := n3.trans m4
    have e4 := m4.g
    have pl4 := pl3.upd (o := .lst [.ref ta]) (pl3.nf hll)
    refine ⟨qa, ll, _, _, rfl, rfl, n4.w _ _ (e4 _ _ upd_same), upd_same, sz (by simp; omega), fun cc hcc => ?_⟩
    have m5 := Nx.new (M := (· = p)) (o := .lst (xs.take at_ ++ [.ref ta])) n4.w hcc
    have n5 := n4.trans m5
    have e5 := m5.g
    have pl5 := pl4.upd (o := .lst (xs.take at_ ++ [.ref ta])) (pl4.nf hcc)
    refine ⟨_, rfl, _, rfl, _, rfl, L, _, rfl, n5.w.seq (((e3.trans e4).trans e5).seq (SqL.of gL0)), fun qb hqb => ?_⟩
    rw [ecut3]
    have m6 := Nx.new (M := (· = p)) (o := .lst (xs.drop at_)) n5.w hqb
    have n6 := n5.trans m6
    have e6 := m6.g
    have pl6 := pl5.upd (o := .lst (xs.drop at_)) (pl5.nf hqb)
    refine ⟨cc, qb, _, _, rfl, rfl, n6.w _ _ (e6 _ _ upd_same), upd_same, sz (by simp; omega), fun rr hrr => ?_⟩
    exact fin ((ps.take at_ ++ [(m, tm)]) ++ ps.drop at_) _ _ rr _ (mid q1 ⟨hm, htB.mono (by omega)⟩ q3) (by simp; omega) n6 hrr (pl6.mono (by omega)) (Paired.app (Paired.app (StpV.pairs h1 (((e3.trans e4).trans e5).trans e6)) (.cons ((StpV.mk r1 r2).mono (((e3.trans e4).trans e5).trans e6)) .nil)) (StpV.pairs h3 (((e3.trans e4).trans e5).trans e6)))
  refine iteF' (by rw [dci]; exact beq_eq_false_iff_ne.mpr hw3) ?_
  refine ⟨_, rfl, rfl, _, rfl, ?_⟩
  by_cases hw4 : (way : Int) = 4
  · refine iteT' (by rw [dci]; exact beq_iff_eq.mpr hw4) ?_
    refine ⟨_, rfl, L, xs, rfl, n2.w.seq (SqL.of gL0), fun rr hrr => ?_⟩
    exact fin ps.reverse _ _ rr _ (fun z hz => hps4 z (List.mem_reverse.mp hz)) (by simp) n2 hrr (pl2.mono (by omega)) (Paired.rev hxs0)
  refine iteF' (by rw [dci]; exact beq_eq_false_iff_ne.mpr hw4) ?_
  refine ⟨_, rfl, rfl, _, rfl, ?_⟩
  by_cases hw5 : (way : Int) = 5
  · refine iteT' (by rw [dci]; exact beq_iff_eq.mpr hw5) ?_
    refine ⟨_, rfl, _, rfl, _, rfl, x, _, rfl, dget (n2.w _ _ gx0) (wK_a wc wd wa we), wa, wxs, rfl, .inl (n2.w.seq hwx0), p, wxs.length, _, G0, rfl, by omega, by omega, n2.w, n2.own p S.g S.ne, pl2, by unfold NMAX at hn; omega, fun m2 Hm hm2 cm hpm => ?_⟩
    have n3 := n2.trans cm
    have e3 := cm.g
    have pl3 := hpm
    obtain ⟨y2, hy2⟩ : ∃ y2, xs[xs.length - 1]? = some y2 := ⟨_, List.getElem?_eq_getElem (by omega)⟩
    obtain ⟨⟨m3, tm3⟩, hs3, ta3, tv3, rfl, r31, r32⟩ := Paired.get hxs0 hy2
    simp only at r31 r32
    have hso3 := hps _ (List.mem_of_getElem? hs3)
    have hB3 := hso3.b
    simp only at hB3
    have hl3 : atI xs (-1) = some (.ref ta3) := atI_neg1 hy2 (by omega)
    refine ⟨_, rfl, _, rfl, L, xs, -1, _, rfl, rfl, n3.w.seq (e3.seq (SqL.of gL0)), hl3, ta3, _, 1, _, rfl, rfl, seqT n3.w (seqT e3 r31), at1, ?_⟩
    refine ⟨_, rfl, p, 5, _, _, rfl, by decide, by decide, n3.w, n3.own p S.g S.ne, pl3, by unfold NMAX at hn; omega, fun m4 H4 hm4 c4 hp4 => ⟨s2, fun tf htf => ?_⟩⟩
    have n4 := n3.trans c4
    have e4 := c4.g
    have pl4 := hp4
    have m5 := Nx.new (M := (· = p)) (o := .tup [.int (m4 : Nat), .int 2]) n4.w htf
    have n5 := n4.trans m5
    have e5 := m5.g
    have pl5 := pl4.upd (o := .tup [.int (m4 : Nat), .int 2]) (pl4.nf htf)
    refine ⟨tv3, .ref tf, tm3, ((m4 : Int), 2), k + 3, rfl, (r32.mono ((e3.trans e4).trans e5)).mono n5.w, FrA.mono ⟨tf, rfl, SqT.of upd_same⟩ n5.w, hB3.mono (by omega), FrB.mono (k := 3) ⟨by show (0 : Int) < 2; decide, by show ((m4 : Nat) : Int).natAbs < 2 ^ 3; omega, by show (2 : Int).natAbs < 2 ^ 3; decide⟩ (by omega), by omega, fun tt htt => ?_⟩
    have m6 := Nx.new (M := (· = p)) (o := tupF (plusF tm3 ((m4 : Int), 2))) n5.w htt
    have n6 := n5.trans m6
    have e6 := m6.g
    have pl6 := pl5.upd (o := tupF (plusF tm3 ((m4 : Int), 2))) (pl5.nf htt)
    refine ⟨s2, fun uu huu => ?_⟩
    have m7 := Nx.new (M := (· = p)) (o := .tup [.int (m2 : Nat), .ref tt]) n6.w huu
    have n7 := n6.trans m7
    have e7 := m7.g
    have pl7 := pl6.upd (o := .tup [.int (m2 : Nat), .ref tt]) (pl6.nf huu)
    refine ⟨s1, fun ll hll => ?_⟩
    have m8 := Nx.new (M := (· = p)) (o := .lst [.ref uu]) n7.w hll
    have n8 := n7.trans m8
    have e8 := m8.g
    have pl8 := pl7.upd (o := .lst [.ref uu]) (pl7.nf hll)
    refine ⟨L, ll, _, _, rfl, rfl, n8.w _ _ ((((((e3.trans e4).trans e5).trans e6).trans e7).trans e8) _ _ gL0), upd_same, sz (by simp; omega), fun rr hrr => ?_⟩
    refine fin (ps ++ [(m2, plusF tm3 ((m4 : Int), 2))]) _ _ rr _ ?_ (by simp) n8 hrr (pl8.mono (by omega)) (Paired.app (StpV.pairs hxs0 (((((e3.trans e4).trans e5).trans e6).trans e7).trans e8)) (.cons ((StpV.mk (SqT.of upd_same) ((FrA.of (f := plusF tm3 ((m4 : Int), 2)) upd_same).mono e7)).mono e8) .nil))
    intro z hz
    rcases List.mem_append.mp hz with h | h
    · exact hps4 z h
    · rw [List.mem_singleton.mp h]
      exact ⟨by show m2 < _; omega, (plusF_B (j := 3) (y := ((m4 : Int), 2)) hB3 ⟨by show (0 : Int) < 2; decide, by show ((m4 : Nat) : Int).natAbs < 2 ^ 3; omega, by show (2 : Int).natAbs < 2 ^ 3; decide⟩).mono (by omega)⟩
  refine iteF' (by rw [dci]; exact beq_eq_false_iff_ne.mpr hw5) ?_
  refine ⟨_, rfl, s2, fun t1 ht1 => ?_⟩
  have m3 := Nx.new (M := (· = p)) (o := .tup [.int 1, .int 2]) n2.w ht1
  have n3 := n2.trans m3
  have e3 := m3.g
  have pl3 := pl2.upd (o := .tup [.int 1, .int 2]) (pl2.nf ht1)
  refine ⟨s2, fun t2 ht2 => ?_⟩
  have m4 := Nx.new (M := (· = p)) (o := .tup [.int 1, .int 1]) n3.w ht2
  have n4 := n3.trans m4
  have e4 := m4.g
  have pl4 := pl3.upd (o := .tup [.int 1, .int 1]) (pl3.nf ht2)
  refine ⟨s2, fun t3 ht3 => ?_⟩
  have m5 := Nx.new (M := (· = p)) (o := .tup [.int 1, .int 3]) n4.w ht3
  have n5 := n4.trans m5
  have e5 := m5.g
  have pl5 := pl4.upd (o := .tup [.int 1, .int 3]) (pl4.nf ht3)
  refine ⟨s3, fun fl hfl => ?_⟩
  have m6 := Nx.new (M := (· = p)) (o := .lst [.ref t1, .ref t2, .ref t3]) n5.w hfl
  have n6 := n5.trans m6
  have e6 := m6.g
  have pl6 := pl5.upd (o := .lst [.ref t1, .ref t2, .ref t3]) (pl5.nf hfl)
  refine ⟨p, fl, _, _, _, rfl, SqL.of upd_same, (by show 0 < 3; decide), (by show 3 ≤ 1000000; decide), ⟨n6.w, n6.own p S.g S.ne, pl6⟩, by omega, fun jf fv Hf hfv cf hpf => ?_⟩
  have n7 := n6.trans cf
  have e7 := cf.g
  have pl7 := hpf
  have hfar : ∃ ff : Fr, FrA K (upd (upd (upd (upd G0 t1 (HO.tup [.int 1, .int 2])) t2 (HO.tup [.int 1, .int 1])) t3 (HO.tup [.int 1, .int 3])) fl (HO.lst [.ref t1, .ref t2, .ref t3])) fv ff ∧ FrB 3 ff := by
    match jf, hfv with
    | 0, hx => cases hx; exact ⟨(1, 2), (FrA.of (f := (1, 2)) upd_same).mono (((e4.trans e5).trans e6).trans e7), ⟨by decide, by decide, by decide⟩⟩
    | 1, hx => cases hx; exact ⟨(1, 1), (FrA.of (f := (1, 1)) upd_same).mono ((e5.trans e6).trans e7), ⟨by decide, by decide, by decide⟩⟩
    | 2, hx => cases hx; exact ⟨(1, 3), (FrA.of (f := (1, 3)) upd_same).mono (e6.trans e7), ⟨by decide, by decide, by decide⟩⟩
    | jf + 3, hx => simp at hx
  obtain ⟨ff, rff, ffB⟩ := hfar
  refine ⟨_, rfl, _, rfl, _, rfl, L, _, rfl, n7.w.seq (((((e3.trans e4).trans e5).trans e6).trans e7).seq (SqL.of gL0)), fun qa hqa => ?_⟩
  rw [ecut1]
  have m8 := Nx.new (M := (· = p)) (o := .lst (xs.take at_)) n7.w hqa
  have n8 := n7.trans m8
  have e8 := m8.g
  have pl8 := pl7.upd (o := .lst (xs.take at_)) (pl7.nf hqa)
  refine ⟨_, rfl, _, rfl, _, rfl, L, _, rfl, n8.w.seq ((((((e3.trans e4).trans e5).trans e6).trans e7).trans e8).seq (SqL.of gL0)), fun qb hqb => ?_⟩
  rw [ecut3]
  have m9 := Nx.new (M := (· = p)) (o := .lst (xs.drop at_)) n8.w hqb
  have n9 := n8.trans m9
  have e9 := m9.g
  have pl9 := pl8.upd (o := .lst (xs.drop at_)) (pl8.nf hqb)
  refine ⟨qb, rfl, ⟨_, SqL.of upd_same⟩, fun D hD => ?_⟩
  have npD : p ≠ D := pl9.nf hD
  have hqb' : SqL K _ qb (xs.drop at_) := SqL.of (n9.w _ _ upd_same)
  refine lc_map (walk_list (xs := xs.drop at_)) (· = p) (fun i acc G' H' => Paired (StpV K G') acc (((ps.drop at_).take i).map fun s => (s.1, plusF s.2 ff)) ∧ PoolL H' p (n + 3)) n9.w hD (by omega) npD.symm ⟨.nil, (pl9.upd npD).mono (by omega)⟩ (fun i acc G' H' nx _ => nx.w.seq (nx.g.seq (SqL.of upd_same))) ?_ ?_
  · rintro i acc G' H8 z H9 Qc hi la nx hD2 gD ⟨hI, hpI⟩ ⟨rfl, hz⟩ q
    obtain ⟨⟨mi, ti⟩, hsi, ai, ui, rfl, w1, w2⟩ := Paired.get h3 hz
    simp only at w1 w2
    have hbi := hps _ (List.mem_of_mem_drop (List.mem_of_getElem? hsi))
    have hbB := hbi.b
    simp only at hbB
    have eg := ((((((e3.trans e4).trans e5).trans e6).trans e7).trans e8).trans e9).trans nx.g
    refine ⟨ai, _, rfl, seqT nx.w (seqT eg w1), rfl, _, _, rfl, _, _, rfl, rfl, rfl, _, rfl, _, rfl, _, rfl, ui, fv, ti, ff, k + 3, rfl, (w2.mono eg).mono nx.w, ((rff.mono (e8.trans e9)).mono nx.g).mono nx.w, hbB.mono (by omega), ffB.mono (by omega), by omega, fun tt htt => ⟨s2, fun uu huu => ?_⟩⟩
    have ma := Nx.new (M := (· = p)) (o := tupF (plusF ti ff)) nx.w htt
    have mb := ma.trans (Nx.new (M := (· = p)) (o := .tup [.int (mi : Nat), .ref tt]) ma.w huu)
    refine q _ _ _ mb ⟨?_, ?_⟩
    · rw [map_take_snoc hsi]
      exact Paired.snoc (StpV.pairs hI mb.g) ⟨uu, .ref tt, rfl, SqT.of upd_same, (FrA.of (f := plusF ti ff) upd_same).mono (Same.new0 (ma.w.free huu))⟩
    · exact ((hpI.upd (hpI.nf htt)).upd ((hpI.upd (o := tupF (plusF ti ff)) (hpI.nf htt)).nf huu)).upd npD
  intro acc G' H8 nx la eDD hD2 ⟨hI, hpI⟩
  have lI : (xs.drop at_).length = (ps.drop at_).length := by rw [List.length_drop, List.length_drop, lx]
  rw [lI, List.take_length] at hI
  have nn := n9.trans nx
  refine ⟨qa, D, _, _, rfl, rfl, nx.w _ _ (nx.g _ _ (e9 _ _ upd_same)), nx.w _ _ upd_same, sz (by omega), fun rr hrr => ?_⟩
  refine fin (ps.take at_ ++ (ps.drop at_).map fun s => (s.1, plusF s.2 ff)) _ _ rr _ ?_ (by simp; omega) nn hrr (hpI.mono (by omega)) (Paired.app (StpV.pairs h1 (((((((e3.trans e4).trans e5).trans e6).trans e7).trans e8).trans e9).trans nx.g)) (StpV.pairs hI eDD))
  intro z hz
  rcases List.mem_append.mp hz with h | h
  · exact q1 z h
  · obtain ⟨s0, hs0, rfl⟩ := List.mem_map.mp h
    have o0 := hps s0 (List.mem_of_mem_drop hs0)
    exact ⟨o0.n, (plusF_B o0.b ffB).mono (by omega)⟩
end K25

/-! ## L10 -/
set_option Elab.async false
set_option linter.all false
set_option maxRecDepth 100000
set_option maxHeartbeats 8000000
/-! L10: odd runs. -/
set_option exponentiation.threshold 100000
namespace K25
open PySem L2
open PySem.Spec PyProof.Rows
variable {P : Program} {w : World} {K : PySem.W.Frag} {mg : Str → Option Value} {base : Heap} {A : Ad}
def fracD (f : Fr) : D := .tup [.int f.1, .int f.2]
def stepD (s : Stp) : D := .tup [.int (s.1 : Nat), fracD s.2]
def odd1 : List D := [.non, .int (5), .str "ab", .emp, .bl true, .lst [.non], .lst [.tup []], .lst [.tup [.int (0)]], .lst [.int (5)], .lst [.str "ab"], .lst [.emp], .lst [.lst []]]
def odd2 (n : Nat) : List D := [.bl true, .bl false, .non, .str "0", .int (-1), .int (n : Nat), .lst [.int (0)], .tup [.int (0), .int (1)]]
def odd3 : List D := [.int (5), .int (0), .non, .str "1", .tup [.int (1), .int (0)], .tup [.int (1), .int (-1)], .tup [.int (-1), .int (1)], .tup [.int (1)], .tup [.int (1), .int (1), .int (1)], .tup [.bl true, .int (1)], .tup [.int (1), .bl true], .tup [.str "1", .int (1)], .lst [.lst [.int (1)], .int (1)], .emp]
def oddR (ps : List Stp) (o : D) : D := .lst (ps.map stepD ++ [.tup [o, fracD (lastF ps)]])
def oddL (ps : List Stp) (o : D) : D := .lst (.tup [.int 0, o] :: ps.map stepD)
def odd4 (ps : List Stp) : List D := [.lst (ps.map stepD ++ [.tup [.int 0, fracD (lastF ps), .int 0]]), .lst (ps.map stepD ++ [.non]), .lst [.lst (ps.map stepD)], .tup [.non]]
def oddsD (n : Nat) (ps : List Stp) : List D := ((odd1 ++ (odd2 n).map (oddR ps)) ++ odd3.map (oddL ps)) ++ odd4 ps
theorem FrA.rp {G : Hp} {v : V} {f : Fr} (h : FrA K G v f) : Rp K G (fracD f) v := by
  obtain ⟨a, rfl, h2⟩ := h
  exact ⟨a, _, rfl, h2, RpA.cons rfl (RpA.cons rfl RpA.nil)⟩
theorem StpV.rp {G : Hp} {v : V} {s : Stp} (h : StpV K G v s) : Rp K G (stepD s) v := by
  obtain ⟨a, u, rfl, h2, h3⟩ := h
  exact ⟨a, _, rfl, h2, RpA.cons rfl (RpA.cons h3.rp RpA.nil)⟩
theorem pairs_rp {G : Hp} : ∀ {xs : List V} {ps : List Stp}, Paired (StpV K G) xs ps → RpA K G (ps.map stepD) xs
  | _, _, .nil => RpA.nil
  | _, _, .cons r t => RpA.cons r.rp (pairs_rp t)
theorem gn {i : Nat} {v : V} {σ : L2.St} {H : Hp} {N : L2.St → Hp → Prop} (h : N (σ.set i (some v)) H) : gName i v σ H N := h
def sp_l_odd_runs (K : PySem.W.Frag) : Sp := fun vs H Q _ => ∃ (pv : V) (x L : Addr) (W : Wt) (ps : List Stp) (G : Hp), vs = [pv, .ref x, .ref L] ∧ Same G H ∧ LawW K G x W ∧ WtOk W ∧ PairsM K G L ps ∧ ps.length ≤ 100 ∧
  ∀ G' H' O xs, Nx M0 G H G' H' → SqL K G' O xs → RpA K G' (oddsD W.arrs.length ps) xs → Q (.ref O) H'
theorem ok_l_odd_runs (T : Tx K mg A) : DefOk P w K mg base 1 "_law_odd_runs" P_l_odd_runs (sp_l_odd_runs K) := by
  refine T.f_l_odd_runs.ok sc_l_odd_runs (fun vs H Q E ⟨_, _, _, _, _, _, e, _⟩ => by rw [e]; rfl) (fun f cdv AA outer s H vs Q E hr h => ⟨_, (pss_cons (ps_set (i := 3) sc_l_odd_runs.nd rfl (Or.inl rfl) (pe_lst (pa_cons pe_non (pa_cons pe_int (pa_cons pe_str (pa_cons pe_dnewK (pa_cons pe_bl (pa_cons (pe_lst (pa_cons pe_non pa_nil)) (pa_cons (pe_lst (pa_cons (pe_tup pa_nil) pa_nil)) (pa_cons (pe_lst (pa_cons (pe_tup (pa_cons pe_int pa_nil)) pa_nil)) (pa_cons (pe_lst (pa_cons pe_int pa_nil)) (pa_cons (pe_lst (pa_cons pe_str pa_nil)) (pa_cons (pe_lst (pa_cons pe_dnewK pa_nil)) (pa_cons (pe_lst (pa_cons (pe_lst pa_nil) pa_nil)) pa_nil)))))))))))))) (pss_cons (ps_set (i := 4) sc_l_odd_runs.nd rfl (Or.inl rfl) (pe_ifExp (pt_cmpR (op_neE hr) (pv 2) (pe_lst pa_nil) (nomark _)) (pe_ix ix_tup (pe_ix ix_list (pv 2) (pe_un un_neg pe_int) (fun _ _ => rfl)) pe_int (fun _ _ => rfl)) (pe_tup (pa_cons pe_int (pa_cons pe_int pa_nil))))) (pss_cons (ps_for PassesOwn.never rfl (pi_list (pe_lst (pa_cons pe_bl (pa_cons pe_bl (pa_cons pe_non (pa_cons pe_str (pa_cons (pe_un un_neg pe_int) (pa_cons (pe_callB call_len_seq rfl T.z_len PySem.boot_len (pa_cons (pe_dget (hu_of hr) (pv 1) pe_str (fun _ _ => rfl)) pa_nil)) (pa_cons (pe_lst (pa_cons pe_int pa_nil)) (pa_cons (pe_tup (pa_cons pe_int (pa_cons pe_int pa_nil))) pa_nil)))))))))) (pg_name (i := 5) sc_l_odd_runs.nd rfl (Or.inl rfl)) (pss_one (ps_expr (pe_bm PySem.F.plainAttrs_list PySem.F.slot_list_append PySem.F.type_list_append mt_append (pv 3) (pa_cons (pe_op op_cat (pv 2) (pe_lst (pa_cons (pe_tup (pa_cons (pv 5) (pa_cons (pv 4) pa_nil))) pa_nil))) pa_nil))))) (pss_cons (ps_for PassesOwn.never rfl (pi_list (pe_lst (pa_cons pe_int (pa_cons pe_int (pa_cons pe_non (pa_cons pe_str (pa_cons (pe_tup (pa_cons pe_int (pa_cons pe_int pa_nil))) (pa_cons (pe_tup (pa_cons pe_int (pa_cons (pe_un un_neg pe_int) pa_nil))) (pa_cons (pe_tup (pa_cons (pe_un un_neg pe_int) (pa_cons pe_int pa_nil))) (pa_cons (pe_tup (pa_cons pe_int pa_nil)) (pa_cons (pe_tup (pa_cons pe_int (pa_cons pe_int (pa_cons pe_int pa_nil)))) (pa_cons (pe_tup (pa_cons pe_bl (pa_cons pe_int pa_nil))) (pa_cons (pe_tup (pa_cons pe_int (pa_cons pe_bl pa_nil))) (pa_cons (pe_tup (pa_cons pe_str (pa_cons pe_int pa_nil))) (pa_cons (pe_lst (pa_cons (pe_lst (pa_cons pe_int pa_nil)) (pa_cons pe_int pa_nil))) (pa_cons pe_dnewK pa_nil)))))))))))))))) (pg_name (i := 5) sc_l_odd_runs.nd rfl (Or.inl rfl)) (pss_one (ps_expr (pe_bm PySem.F.plainAttrs_list PySem.F.slot_list_append PySem.F.type_list_append mt_append (pv 3) (pa_cons (pe_op op_cat (pe_lst (pa_cons (pe_tup (pa_cons pe_int (pa_cons (pv 5) pa_nil))) pa_nil)) (pv 2)) pa_nil))))) (pss_one (ps_ret (pe_op op_cat (pv 3) (pe_lst (pa_cons (pe_op op_cat (pv 2) (pe_lst (pa_cons (pe_tup (pa_cons pe_int (pa_cons (pv 4) (pa_cons pe_int pa_nil)))) pa_nil))) (pa_cons (pe_op op_cat (pv 2) (pe_lst (pa_cons pe_non pa_nil))) (pa_cons (pe_lst (pa_cons (pv 2) pa_nil)) (pa_cons (pe_tup (pa_cons pe_non pa_nil)) pa_nil)))))))))))), ?_⟩)
  obtain ⟨pv, x, L, W, ps, G0, rfl, w0, lw, ok, ⟨xs, gL0, hxs0⟩, hlen, kk⟩ := h
  have lx : xs.length = ps.length := Paired.len hxs0
  obtain ⟨wc, wd, wa, we, gx0, ar⟩ := lw
  obtain ⟨wa', wxs, ea, hwx0, rwx⟩ := ar.a
  cases ea
  have wlen : wxs.length = W.arrs.length := by rw [rwx.len, List.length_map]
  have n0 := Nx.refl (M := M0) w0
  refine fun a1 ha1 => ?_
  have m1 := Nx.new (M := M0) (o := .dK []) n0.w ha1
  have n1 := n0.trans m1
  have e1 := m1.g
  refine ⟨(show 1 ≤ sizeLine by decide), fun a2 ha2 => ?_⟩
  have m2 := Nx.new (M := M0) (o := .lst [.non]) n1.w ha2
  have n2 := n1.trans m2
  have e2 := m2.g
  refine ⟨(show 0 ≤ sizeLine by decide), fun a3 ha3 => ?_⟩
  have m3 := Nx.new (M := M0) (o := .tup []) n2.w ha3
  have n3 := n2.trans m3
  have e3 := m3.g
  refine ⟨(show 1 ≤ sizeLine by decide), fun a4 ha4 => ?_⟩
  have m4 := Nx.new (M := M0) (o := .lst [.ref a3]) n3.w ha4
  have n4 := n3.trans m4
  have e4 := m4.g
  refine ⟨(show 1 ≤ sizeLine by decide), fun a5 ha5 => ?_⟩
  have m5 := Nx.new (M := M0) (o := .tup [.int (0)]) n4.w ha5
  have n5 := n4.trans m5
  have e5 := m5.g
  refine ⟨(show 1 ≤ sizeLine by decide), fun a6 ha6 => ?_⟩
  have m6 := Nx.new (M := M0) (o := .lst [.ref a5]) n5.w ha6
  have n6 := n5.trans m6
  have e6 := m6.g
  refine ⟨(show 1 ≤ sizeLine by decide), fun a7 ha7 => ?_⟩
  have m7 := Nx.new (M := M0) (o := .lst [.int (5)]) n6.w ha7
  have n7 := n6.trans m7
  have e7 := m7.g
  refine ⟨(show 1 ≤ sizeLine by decide), fun a8 ha8 => ?_⟩
  have m8 := Nx.new (M := M0) (o := .lst [.str "ab"]) n7.w ha8
  have n8 := n7.trans m8
  have e8 := m8.g
  refine fun a9 ha9 => ?_
  have m9 := Nx.new (M := M0) (o := .dK []) n8.w ha9
  have n9 := n8.trans m9
  have e9 := m9.g
  refine ⟨(show 1 ≤ sizeLine by decide), fun a10 ha10 => ?_⟩
  have m10 := Nx.new (M := M0) (o := .lst [.ref a9]) n9.w ha10
  have n10 := n9.trans m10
  have e10 := m10.g
  refine ⟨(show 0 ≤ sizeLine by decide), fun a11 ha11 => ?_⟩
  have m11 := Nx.new (M := M0) (o := .lst []) n10.w ha11
  have n11 := n10.trans m11
  have e11 := m11.g
  refine ⟨(show 1 ≤ sizeLine by decide), fun a12 ha12 => ?_⟩
  have m12 := Nx.new (M := M0) (o := .lst [.ref a11]) n11.w ha12
  have n12 := n11.trans m12
  have e12 := m12.g
  refine ⟨(show 12 ≤ sizeLine by decide), fun O hO => ?_⟩
  have r1 : RpA K (upd (upd (upd (upd (upd (upd (upd (upd (upd (upd (upd (upd G0 a1 (HO.dK [])) a2 (HO.lst [.non])) a3 (HO.tup [])) a4 (HO.lst [.ref a3])) a5 (HO.tup [.int (0)])) a6 (HO.lst [.ref a5])) a7 (HO.lst [.int (5)])) a8 (HO.lst [.str "ab"])) a9 (HO.dK [])) a10 (HO.lst [.ref a9])) a11 (HO.lst [])) a12 (HO.lst [.ref a11])) odd1 [.non, .int (5), .str "ab", .ref a1, .bl true, .ref a2, .ref a4, .ref a6, .ref a7, .ref a8, .ref a10, .ref a12] := (RpA.cons rfl (RpA.cons rfl (RpA.cons rfl (RpA.cons ⟨a1, rfl, ((((((((((e2.trans e3).trans e4).trans e5).trans e6).trans e7).trans e8).trans e9).trans e10).trans e11).trans e12) _ _ upd_same⟩ (RpA.cons rfl (RpA.cons ⟨a2, _, rfl, (((((((((e3.trans e4).trans e5).trans e6).trans e7).trans e8).trans e9).trans e10).trans e11).trans e12).seq (SqL.of upd_same), (RpA.cons rfl RpA.nil)⟩ (RpA.cons ⟨a4, _, rfl, (((((((e5.trans e6).trans e7).trans e8).trans e9).trans e10).trans e11).trans e12).seq (SqL.of upd_same), (RpA.cons ⟨a3, _, rfl, seqT ((((((((e4.trans e5).trans e6).trans e7).trans e8).trans e9).trans e10).trans e11).trans e12) (SqT.of upd_same), RpA.nil⟩ RpA.nil)⟩ (RpA.cons ⟨a6, _, rfl, (((((e7.trans e8).trans e9).trans e10).trans e11).trans e12).seq (SqL.of upd_same), (RpA.cons ⟨a5, _, rfl, seqT ((((((e6.trans e7).trans e8).trans e9).trans e10).trans e11).trans e12) (SqT.of upd_same), (RpA.cons rfl RpA.nil)⟩ RpA.nil)⟩ (RpA.cons ⟨a7, _, rfl, ((((e8.trans e9).trans e10).trans e11).trans e12).seq (SqL.of upd_same), (RpA.cons rfl RpA.nil)⟩ (RpA.cons ⟨a8, _, rfl, (((e9.trans e10).trans e11).trans e12).seq (SqL.of upd_same), (RpA.cons rfl RpA.nil)⟩ (RpA.cons ⟨a10, _, rfl, (e11.trans e12).seq (SqL.of upd_same), (RpA.cons ⟨a9, rfl, ((e10.trans e11).trans e12) _ _ upd_same⟩ RpA.nil)⟩ (RpA.cons ⟨a12, _, rfl, (Same.refl _).seq (SqL.of upd_same), (RpA.cons ⟨a11, _, rfl, e12.seq (SqL.of upd_same), RpA.nil⟩ RpA.nil)⟩ RpA.nil))))))))))))
  have oN := n12.trans (Nx.newM (o := .lst [.non, .int (5), .str "ab", .ref a1, .bl true, .ref a2, .ref a4, .ref a6, .ref a7, .ref a8, .ref a10, .ref a12]) n12.w hO)
  have gO := n12.w.free hO
  have hOH := n12.fresh0 hO
  have h1O : upd (upd (upd (upd (upd (upd (upd (upd (upd (upd (upd (upd (upd H a1 (HO.dK [])) a2 (HO.lst [.non])) a3 (HO.tup [])) a4 (HO.lst [.ref a3])) a5 (HO.tup [.int (0)])) a6 (HO.lst [.ref a5])) a7 (HO.lst [.int (5)])) a8 (HO.lst [.str "ab"])) a9 (HO.dK [])) a10 (HO.lst [.ref a9])) a11 (HO.lst [])) a12 (HO.lst [.ref a11])) O (HO.lst [.non, .int (5), .str "ab", .ref a1, .bl true, .ref a2, .ref a4, .ref a6, .ref a7, .ref a8, .ref a10, .ref a12]) O = some (.lst [.non, .int (5), .str "ab", .ref a1, .bl true, .ref a2, .ref a4, .ref a6, .ref a7, .ref a8, .ref a10, .ref a12]) := upd_same
  have eA := (((((((((((e1.trans e2).trans e3).trans e4).trans e5).trans e6).trans e7).trans e8).trans e9).trans e10).trans e11).trans e12)
  have la1 : ([.non, .int (5), .str "ab", .ref a1, .bl true, .ref a2, .ref a4, .ref a6, .ref a7, .ref a8, .ref a10, .ref a12] : List V).length = 12 := rfl
  generalize (upd (upd (upd (upd (upd (upd (upd (upd (upd (upd (upd (upd G0 a1 (HO.dK [])) a2 (HO.lst [.non])) a3 (HO.tup [])) a4 (HO.lst [.ref a3])) a5 (HO.tup [.int (0)])) a6 (HO.lst [.ref a5])) a7 (HO.lst [.int (5)])) a8 (HO.lst [.str "ab"])) a9 (HO.dK [])) a10 (HO.lst [.ref a9])) a11 (HO.lst [])) a12 (HO.lst [.ref a11])) = GA at oN gO r1 eA
  generalize upd (upd (upd (upd (upd (upd (upd (upd (upd (upd (upd (upd (upd H a1 (HO.dK [])) a2 (HO.lst [.non])) a3 (HO.tup [])) a4 (HO.lst [.ref a3])) a5 (HO.tup [.int (0)])) a6 (HO.lst [.ref a5])) a7 (HO.lst [.int (5)])) a8 (HO.lst [.str "ab"])) a9 (HO.dK [])) a10 (HO.lst [.ref a9])) a11 (HO.lst [])) a12 (HO.lst [.ref a11])) O (HO.lst [.non, .int (5), .str "ab", .ref a1, .bl true, .ref a2, .ref a4, .ref a6, .ref a7, .ref a8, .ref a10, .ref a12]) = HA at oN h1O ⊢
  generalize ([.non, .int (5), .str "ab", .ref a1, .bl true, .ref a2, .ref a4, .ref a6, .ref a7, .ref a8, .ref a10, .ref a12] : List V) = as at r1 h1O la1
  clear n0
  -- the last time
  refine gn ?_
  dsimp only
  refine split_set (fun v H' => ∃ G', Nx M0 G0 H G' H' ∧ Same GA G' ∧ G' O = none ∧ H' O = some (.lst as) ∧ FrA K G' v (lastF ps)) (fun Qt hq => ?_) (fun tv HB ⟨GB, nB, eAB, gOB, hOB, rtv⟩ => ?_)
  · refine ⟨_, rfl, s0, fun em hem => ?_⟩
    have m1 := Nx.new (M := M0) (o := .lst []) oN.w hem
    have n1 := oN.trans m1
    have h1 := m1.same _ _ h1O
    have g1 := m1.own O gO (by rw [h1O]; simp)
    have eL := eA.trans m1.g
    refine ⟨L, em, xs, rfl, rfl, n1.w.seq (eL.seq (SqL.of gL0)), n1.w.seq (SqL.of upd_same), _, rfl, ?_⟩
    cases hc : ps.getLast? with
    | none =>
      have e0 : ps = [] := by simpa using hc
      subst e0
      cases hxs0
      refine iteF' rfl ⟨s2, fun t ht => hq _ _ ?_⟩
      have m2 := Nx.new (M := M0) (o := .tup [.int 0, .int 1]) n1.w ht
      exact ⟨_, n1.trans m2, m1.g.trans m2.g, m2.own O g1 (by rw [h1]; simp), m2.same _ _ h1, t, rfl, SqT.of upd_same⟩
    | some st =>
      obtain ⟨l0, rfl⟩ := List.getLast?_eq_some_iff.mp hc
      obtain ⟨zs, z, rfl, q1, aa, u, rfl, q2, q3⟩ := Paired.snocI hxs0
      have el : lastF (l0 ++ [st]) = st.2 := by unfold lastF; rw [hc]; rfl
      refine iteT' (by simp) ⟨_, rfl, _, rfl, L, _, -1, _, rfl, rfl, n1.w.seq (eL.seq (SqL.of gL0)), atI_last _ _, aa, _, 1, _, rfl, rfl, seqT n1.w (seqT eL q2), at1, hq _ _ ⟨_, n1, m1.g, g1, h1, ?_⟩⟩
      rw [el]
      exact q3.mono eL
  have eB := eA.trans eAB
  have r1 := r1.mono eAB
  clear oN gO h1O eA eAB
  have n0 := nB
  -- behind the run
  have gx0' := gx0
  have gx0 := eB _ _ gx0
  have hwx0' := hwx0
  have hwx0 := eB.seq hwx0
  refine ⟨_, rfl, _, rfl, x, _, rfl, dget (n0.w _ _ ((Same.refl _) _ _ gx0)) (wK_a wc wd wa we), wa, wxs, rfl, .inl (n0.w.seq ((Same.refl _).seq hwx0)), (show 1 ≤ sizeLine by decide), fun b1 hb1 => ?_⟩
  have m1 := Nx.new (M := M0) (o := .lst [.int (0)]) n0.w hb1
  have n1 := n0.trans m1
  have e1 := m1.g
  refine ⟨(show 2 ≤ sizeLine by decide), fun b2 hb2 => ?_⟩
  have m2 := Nx.new (M := M0) (o := .tup [.int (0), .int (1)]) n1.w hb2
  have n2 := n1.trans m2
  have e2 := m2.g
  have gLB := eB _ _ gL0
  have hxsB := StpV.pairs hxs0 eB
  refine ⟨(show 8 ≤ sizeLine by decide), fun fl hfl => ?_⟩
  have r2 : RpA K (upd (upd GB b1 (HO.lst [.int (0)])) b2 (HO.tup [.int (0), .int (1)])) (odd2 W.arrs.length) [.bl true, .bl false, .non, .str "0", .int (-1), .int (wxs.length : Nat), .ref b1, .ref b2] := (RpA.cons rfl (RpA.cons rfl (RpA.cons rfl (RpA.cons rfl (RpA.cons rfl (RpA.cons (by show V.int _ = V.int _; rw [wlen]) (RpA.cons ⟨b1, _, rfl, e2.seq (SqL.of upd_same), (RpA.cons rfl RpA.nil)⟩ (RpA.cons ⟨b2, _, rfl, seqT (Same.refl _) (SqT.of upd_same), (RpA.cons rfl (RpA.cons rfl RpA.nil))⟩ RpA.nil))))))))
  have m3 := Nx.new (M := M0) (o := .lst [.bl true, .bl false, .non, .str "0", .int (-1), .int (wxs.length : Nat), .ref b1, .ref b2]) n2.w hfl
  have n3 := n2.trans m3
  have e3 := m3.g
  have r2 := r2.mono e3
  have hfl' : SqL K (upd (upd (upd GB b1 (HO.lst [.int (0)])) b2 (HO.tup [.int (0), .int (1)])) fl (HO.lst [.bl true, .bl false, .non, .str "0", .int (-1), .int (wxs.length : Nat), .ref b1, .ref b2])) fl [.bl true, .bl false, .non, .str "0", .int (-1), .int (wxs.length : Nat), .ref b1, .ref b2] := SqL.of upd_same
  have eC := ((e1.trans e2).trans e3)
  have hOC : (upd (upd (upd HB b1 (HO.lst [.int (0)])) b2 (HO.tup [.int (0), .int (1)])) fl (HO.lst [.bl true, .bl false, .non, .str "0", .int (-1), .int (wxs.length : Nat), .ref b1, .ref b2])) O = some (.lst as) := (show Same HB (upd (upd (upd HB b1 (HO.lst [.int (0)])) b2 (HO.tup [.int (0), .int (1)])) fl (HO.lst [.bl true, .bl false, .non, .str "0", .int (-1), .int (wxs.length : Nat), .ref b1, .ref b2])) from (m1.same.trans (m2.same.trans (m3.same)))) _ _ hOB
  have gOC : (upd (upd (upd GB b1 (HO.lst [.int (0)])) b2 (HO.tup [.int (0), .int (1)])) fl (HO.lst [.bl true, .bl false, .non, .str "0", .int (-1), .int (wxs.length : Nat), .ref b1, .ref b2])) O = none := (show Nx M0 _ _ _ _ from m1.trans (m2.trans (m3))).own O gOB (by rw [hOB]; simp)
  have nC := n3
  clear n1 e1 m1 n2 e2 m2 n3 e3 m3
  generalize (upd (upd (upd GB b1 (HO.lst [.int (0)])) b2 (HO.tup [.int (0), .int (1)])) fl (HO.lst [.bl true, .bl false, .non, .str "0", .int (-1), .int (wxs.length : Nat), .ref b1, .ref b2])) = GC at nC r2 hfl' eC gOC
  generalize (upd (upd (upd HB b1 (HO.lst [.int (0)])) b2 (HO.tup [.int (0), .int (1)])) fl (HO.lst [.bl true, .bl false, .non, .str "0", .int (-1), .int (wxs.length : Nat), .ref b1, .ref b2])) = HC at nC hOC ⊢
  have lv : ([.bl true, .bl false, .non, .str "0", .int (-1), .int (wxs.length : Nat), .ref b1, .ref b2] : List V).length = 8 := rfl
  generalize ([.bl true, .bl false, .non, .str "0", .int (-1), .int (wxs.length : Nat), .ref b1, .ref b2] : List V) = ls at r2 hfl' lv ⊢
  refine ⟨fl, rfl, ⟨_, nC.w.seq hfl'⟩, ?_⟩
  refine for_it (walk_list (xs := ls)) (fun j σ H2 => ∃ (G2 : Hp) (acc : List V) (v5 : Option V), Nx M0 G0 H G2 H2 ∧ Same GC G2 ∧ G2 O = none ∧ H2 O = some (.lst acc) ∧ acc.length = 12 + j ∧ RpA K G2 (odd1 ++ (((odd2 W.arrs.length)).take j).map (oddR ps)) acc ∧ σ = [some pv, some (.ref x), some (.ref L), some (.ref O), some tv, v5])
    ⟨GC, as, none, nC, Same.refl _, gOC, hOC, by omega, by rw [List.take_zero, List.map_nil, List.append_nil]; exact r1.mono eC, rfl⟩ (fun j σ H2 _ ⟨_, _, _, n2, e2, _⟩ => (e2.trans n2.w).seq hfl') ?_ ?_
  · rintro j z σ H2 H3 hj ⟨G2, acc, v5, n2, e2, g2, h2, la, ra, rfl⟩ ⟨rfl, hz⟩
    obtain ⟨dz, hdz, rdz⟩ := r2.get' hz
    have eg := eC.trans e2
    refine ⟨_, rfl, .inl ⟨rfl, _, SqL.of h2⟩, _, rfl, _, rfl, _, rfl, s2, fun t ht => ⟨s1, fun l hl => ?_⟩⟩
    have m3 := Nx.new (M := M0) (o := .tup [z, tv]) n2.w ht
    have m4 := m3.trans (Nx.new (M := M0) (o := .lst [.ref t]) m3.w hl)
    have n4 := n2.trans m4
    have hL4 := n4.w _ _ (m4.g _ _ (eg _ _ gLB))
    refine ⟨L, l, xs, _, rfl, rfl, hL4, upd_same, sz (by simp; omega), fun r hr => ?_⟩
    have m5 := m4.trans (Nx.new (M := M0) (o := .lst (xs ++ [V.ref t])) n4.w hr)
    have n5 := n2.trans m5
    have h5 := m5.same _ _ h2
    have g5 := m5.own O g2 (by rw [h2]; simp)
    have ljk : j < 8 := by omega
    refine ⟨O, acc, .ref r, rfl, rfl, h5, szl (by omega), ?_⟩
    refine ⟨_, acc ++ [.ref r], _, n5.wrL hOH g5, e2.trans m5.g, g5, upd_same, by rw [List.length_append, la]; rfl, ?_, rfl⟩
    rw [map_take_snoc hdz, ← List.append_assoc]
    refine RpA.snoc (ra.mono m5.g) ⟨r, _, rfl, SqL.of upd_same, ?_⟩
    have e45 := (Nx.new (M := M0) (o := .lst (xs ++ [V.ref t])) n4.w hr).g
    have e34 := (Nx.new (M := M0) (o := .lst [.ref t]) m3.w hl).g
    have rX : RpA K _ (ps.map stepD) xs := (pairs_rp hxsB).mono (eg.trans m5.g)
    exact RpA.snoc rX ⟨t, _, rfl, seqT (e34.trans e45) (SqT.of upd_same), RpA.cons ((rdz.mono e2).mono m5.g) (RpA.cons ((rtv.rp.mono eg).mono m5.g) RpA.nil)⟩
  rintro σ HD ⟨GD, accD, v5D, nD, eCD, gOD, hOD, laD, rD, rfl⟩
  rw [lv] at laD rD
  rw [List.take_of_length_le (by show 8 ≤ 8; omega)] at rD
  have eD := eC.trans eCD
  have r1 := rD
  have rtv := rtv.mono eD
  have gLB := eD _ _ gLB
  have hxsB := StpV.pairs hxsB eD
  have gx0 := eD _ _ gx0
  have hwx0 := eD.seq hwx0
  have la1 := laD
  clear hOB gOB nB nC hOC gOC n0 eC r2 hfl' lv
  clear ls
  generalize accD = as at r1 hOD la1
  have n0 := nD
  refine ⟨(show 2 ≤ sizeLine by decide), fun c1 hc1 => ?_⟩
  have m1 := Nx.new (M := M0) (o := .tup [.int (1), .int (0)]) n0.w hc1
  have n1 := n0.trans m1
  have e1 := m1.g
  refine ⟨_, rfl, (show 2 ≤ sizeLine by decide), fun c2 hc2 => ?_⟩
  have m2 := Nx.new (M := M0) (o := .tup [.int (1), .int (-1)]) n1.w hc2
  have n2 := n1.trans m2
  have e2 := m2.g
  refine ⟨_, rfl, (show 2 ≤ sizeLine by decide), fun c3 hc3 => ?_⟩
  have m3 := Nx.new (M := M0) (o := .tup [.int (-1), .int (1)]) n2.w hc3
  have n3 := n2.trans m3
  have e3 := m3.g
  refine ⟨(show 1 ≤ sizeLine by decide), fun c4 hc4 => ?_⟩
  have m4 := Nx.new (M := M0) (o := .tup [.int (1)]) n3.w hc4
  have n4 := n3.trans m4
  have e4 := m4.g
  refine ⟨(show 3 ≤ sizeLine by decide), fun c5 hc5 => ?_⟩
  have m5 := Nx.new (M := M0) (o := .tup [.int (1), .int (1), .int (1)]) n4.w hc5
  have n5 := n4.trans m5
  have e5 := m5.g
  refine ⟨(show 2 ≤ sizeLine by decide), fun c6 hc6 => ?_⟩
  have m6 := Nx.new (M := M0) (o := .tup [.bl true, .int (1)]) n5.w hc6
  have n6 := n5.trans m6
  have e6 := m6.g
  refine ⟨(show 2 ≤ sizeLine by decide), fun c7 hc7 => ?_⟩
  have m7 := Nx.new (M := M0) (o := .tup [.int (1), .bl true]) n6.w hc7
  have n7 := n6.trans m7
  have e7 := m7.g
  refine ⟨(show 2 ≤ sizeLine by decide), fun c8 hc8 => ?_⟩
  have m8 := Nx.new (M := M0) (o := .tup [.str "1", .int (1)]) n7.w hc8
  have n8 := n7.trans m8
  have e8 := m8.g
  refine ⟨(show 1 ≤ sizeLine by decide), fun c9 hc9 => ?_⟩
  have m9 := Nx.new (M := M0) (o := .lst [.int (1)]) n8.w hc9
  have n9 := n8.trans m9
  have e9 := m9.g
  refine ⟨(show 2 ≤ sizeLine by decide), fun c10 hc10 => ?_⟩
  have m10 := Nx.new (M := M0) (o := .lst [.ref c9, .int (1)]) n9.w hc10
  have n10 := n9.trans m10
  have e10 := m10.g
  refine fun c11 hc11 => ?_
  have m11 := Nx.new (M := M0) (o := .dK []) n10.w hc11
  have n11 := n10.trans m11
  have e11 := m11.g
  refine ⟨(show 14 ≤ sizeLine by decide), fun fl hfl => ?_⟩
  have r2 : RpA K (upd (upd (upd (upd (upd (upd (upd (upd (upd (upd (upd GD c1 (HO.tup [.int (1), .int (0)])) c2 (HO.tup [.int (1), .int (-1)])) c3 (HO.tup [.int (-1), .int (1)])) c4 (HO.tup [.int (1)])) c5 (HO.tup [.int (1), .int (1), .int (1)])) c6 (HO.tup [.bl true, .int (1)])) c7 (HO.tup [.int (1), .bl true])) c8 (HO.tup [.str "1", .int (1)])) c9 (HO.lst [.int (1)])) c10 (HO.lst [.ref c9, .int (1)])) c11 (HO.dK [])) odd3 [.int (5), .int (0), .non, .str "1", .ref c1, .ref c2, .ref c3, .ref c4, .ref c5, .ref c6, .ref c7, .ref c8, .ref c10, .ref c11] := (RpA.cons rfl (RpA.cons rfl (RpA.cons rfl (RpA.cons rfl (RpA.cons ⟨c1, _, rfl, seqT (((((((((e2.trans e3).trans e4).trans e5).trans e6).trans e7).trans e8).trans e9).trans e10).trans e11) (SqT.of upd_same), (RpA.cons rfl (RpA.cons rfl RpA.nil))⟩ (RpA.cons ⟨c2, _, rfl, seqT ((((((((e3.trans e4).trans e5).trans e6).trans e7).trans e8).trans e9).trans e10).trans e11) (SqT.of upd_same), (RpA.cons rfl (RpA.cons rfl RpA.nil))⟩ (RpA.cons ⟨c3, _, rfl, seqT (((((((e4.trans e5).trans e6).trans e7).trans e8).trans e9).trans e10).trans e11) (SqT.of upd_same), (RpA.cons rfl (RpA.cons rfl RpA.nil))⟩ (RpA.cons ⟨c4, _, rfl, seqT ((((((e5.trans e6).trans e7).trans e8).trans e9).trans e10).trans e11) (SqT.of upd_same), (RpA.cons rfl RpA.nil)⟩ (RpA.cons ⟨c5, _, rfl, seqT (((((e6.trans e7).trans e8).trans e9).trans e10).trans e11) (SqT.of upd_same), (RpA.cons rfl (RpA.cons rfl (RpA.cons rfl RpA.nil)))⟩ (RpA.cons ⟨c6, _, rfl, seqT ((((e7.trans e8).trans e9).trans e10).trans e11) (SqT.of upd_same), (RpA.cons rfl (RpA.cons rfl RpA.nil))⟩ (RpA.cons ⟨c7, _, rfl, seqT (((e8.trans e9).trans e10).trans e11) (SqT.of upd_same), (RpA.cons rfl (RpA.cons rfl RpA.nil))⟩ (RpA.cons ⟨c8, _, rfl, seqT ((e9.trans e10).trans e11) (SqT.of upd_same), (RpA.cons rfl (RpA.cons rfl RpA.nil))⟩ (RpA.cons ⟨c10, _, rfl, e11.seq (SqL.of upd_same), (RpA.cons ⟨c9, _, rfl, (e10.trans e11).seq (SqL.of upd_same), (RpA.cons rfl RpA.nil)⟩ (RpA.cons rfl RpA.nil))⟩ (RpA.cons ⟨c11, rfl, (Same.refl _) _ _ upd_same⟩ RpA.nil))))))))))))))
  have m12 := Nx.new (M := M0) (o := .lst [.int (5), .int (0), .non, .str "1", .ref c1, .ref c2, .ref c3, .ref c4, .ref c5, .ref c6, .ref c7, .ref c8, .ref c10, .ref c11]) n11.w hfl
  have n12 := n11.trans m12
  have e12 := m12.g
  have r2 := r2.mono e12
  have hfl' : SqL K (upd (upd (upd (upd (upd (upd (upd (upd (upd (upd (upd (upd GD c1 (HO.tup [.int (1), .int (0)])) c2 (HO.tup [.int (1), .int (-1)])) c3 (HO.tup [.int (-1), .int (1)])) c4 (HO.tup [.int (1)])) c5 (HO.tup [.int (1), .int (1), .int (1)])) c6 (HO.tup [.bl true, .int (1)])) c7 (HO.tup [.int (1), .bl true])) c8 (HO.tup [.str "1", .int (1)])) c9 (HO.lst [.int (1)])) c10 (HO.lst [.ref c9, .int (1)])) c11 (HO.dK [])) fl (HO.lst [.int (5), .int (0), .non, .str "1", .ref c1, .ref c2, .ref c3, .ref c4, .ref c5, .ref c6, .ref c7, .ref c8, .ref c10, .ref c11])) fl [.int (5), .int (0), .non, .str "1", .ref c1, .ref c2, .ref c3, .ref c4, .ref c5, .ref c6, .ref c7, .ref c8, .ref c10, .ref c11] := SqL.of upd_same
  have eC := (((((((((((e1.trans e2).trans e3).trans e4).trans e5).trans e6).trans e7).trans e8).trans e9).trans e10).trans e11).trans e12)
  have hOC : (upd (upd (upd (upd (upd (upd (upd (upd (upd (upd (upd (upd HD c1 (HO.tup [.int (1), .int (0)])) c2 (HO.tup [.int (1), .int (-1)])) c3 (HO.tup [.int (-1), .int (1)])) c4 (HO.tup [.int (1)])) c5 (HO.tup [.int (1), .int (1), .int (1)])) c6 (HO.tup [.bl true, .int (1)])) c7 (HO.tup [.int (1), .bl true])) c8 (HO.tup [.str "1", .int (1)])) c9 (HO.lst [.int (1)])) c10 (HO.lst [.ref c9, .int (1)])) c11 (HO.dK [])) fl (HO.lst [.int (5), .int (0), .non, .str "1", .ref c1, .ref c2, .ref c3, .ref c4, .ref c5, .ref c6, .ref c7, .ref c8, .ref c10, .ref c11])) O = some (.lst as) := (show Same HD (upd (upd (upd (upd (upd (upd (upd (upd (upd (upd (upd (upd HD c1 (HO.tup [.int (1), .int (0)])) c2 (HO.tup [.int (1), .int (-1)])) c3 (HO.tup [.int (-1), .int (1)])) c4 (HO.tup [.int (1)])) c5 (HO.tup [.int (1), .int (1), .int (1)])) c6 (HO.tup [.bl true, .int (1)])) c7 (HO.tup [.int (1), .bl true])) c8 (HO.tup [.str "1", .int (1)])) c9 (HO.lst [.int (1)])) c10 (HO.lst [.ref c9, .int (1)])) c11 (HO.dK [])) fl (HO.lst [.int (5), .int (0), .non, .str "1", .ref c1, .ref c2, .ref c3, .ref c4, .ref c5, .ref c6, .ref c7, .ref c8, .ref c10, .ref c11])) from (m1.same.trans (m2.same.trans (m3.same.trans (m4.same.trans (m5.same.trans (m6.same.trans (m7.same.trans (m8.same.trans (m9.same.trans (m10.same.trans (m11.same.trans (m12.same))))))))))))) _ _ hOD
  have gOC : (upd (upd (upd (upd (upd (upd (upd (upd (upd (upd (upd (upd GD c1 (HO.tup [.int (1), .int (0)])) c2 (HO.tup [.int (1), .int (-1)])) c3 (HO.tup [.int (-1), .int (1)])) c4 (HO.tup [.int (1)])) c5 (HO.tup [.int (1), .int (1), .int (1)])) c6 (HO.tup [.bl true, .int (1)])) c7 (HO.tup [.int (1), .bl true])) c8 (HO.tup [.str "1", .int (1)])) c9 (HO.lst [.int (1)])) c10 (HO.lst [.ref c9, .int (1)])) c11 (HO.dK [])) fl (HO.lst [.int (5), .int (0), .non, .str "1", .ref c1, .ref c2, .ref c3, .ref c4, .ref c5, .ref c6, .ref c7, .ref c8, .ref c10, .ref c11])) O = none := (show Nx M0 _ _ _ _ from m1.trans (m2.trans (m3.trans (m4.trans (m5.trans (m6.trans (m7.trans (m8.trans (m9.trans (m10.trans (m11.trans (m12)))))))))))).own O gOD (by rw [hOD]; simp)
  have nC := n12
  clear n1 e1 m1 n2 e2 m2 n3 e3 m3 n4 e4 m4 n5 e5 m5 n6 e6 m6 n7 e7 m7 n8 e8 m8 n9 e9 m9 n10 e10 m10 n11 e11 m11 n12 e12 m12
  generalize (upd (upd (upd (upd (upd (upd (upd (upd (upd (upd (upd (upd GD c1 (HO.tup [.int (1), .int (0)])) c2 (HO.tup [.int (1), .int (-1)])) c3 (HO.tup [.int (-1), .int (1)])) c4 (HO.tup [.int (1)])) c5 (HO.tup [.int (1), .int (1), .int (1)])) c6 (HO.tup [.bl true, .int (1)])) c7 (HO.tup [.int (1), .bl true])) c8 (HO.tup [.str "1", .int (1)])) c9 (HO.lst [.int (1)])) c10 (HO.lst [.ref c9, .int (1)])) c11 (HO.dK [])) fl (HO.lst [.int (5), .int (0), .non, .str "1", .ref c1, .ref c2, .ref c3, .ref c4, .ref c5, .ref c6, .ref c7, .ref c8, .ref c10, .ref c11])) = GC at nC r2 hfl' eC gOC
  generalize (upd (upd (upd (upd (upd (upd (upd (upd (upd (upd (upd (upd HD c1 (HO.tup [.int (1), .int (0)])) c2 (HO.tup [.int (1), .int (-1)])) c3 (HO.tup [.int (-1), .int (1)])) c4 (HO.tup [.int (1)])) c5 (HO.tup [.int (1), .int (1), .int (1)])) c6 (HO.tup [.bl true, .int (1)])) c7 (HO.tup [.int (1), .bl true])) c8 (HO.tup [.str "1", .int (1)])) c9 (HO.lst [.int (1)])) c10 (HO.lst [.ref c9, .int (1)])) c11 (HO.dK [])) fl (HO.lst [.int (5), .int (0), .non, .str "1", .ref c1, .ref c2, .ref c3, .ref c4, .ref c5, .ref c6, .ref c7, .ref c8, .ref c10, .ref c11])) = HC at nC hOC ⊢
  have lv : ([.int (5), .int (0), .non, .str "1", .ref c1, .ref c2, .ref c3, .ref c4, .ref c5, .ref c6, .ref c7, .ref c8, .ref c10, .ref c11] : List V).length = 14 := rfl
  generalize ([.int (5), .int (0), .non, .str "1", .ref c1, .ref c2, .ref c3, .ref c4, .ref c5, .ref c6, .ref c7, .ref c8, .ref c10, .ref c11] : List V) = ls at r2 hfl' lv ⊢
  refine ⟨fl, rfl, ⟨_, nC.w.seq hfl'⟩, ?_⟩
  refine for_it (walk_list (xs := ls)) (fun j σ H2 => ∃ (G2 : Hp) (acc : List V) (v5 : Option V), Nx M0 G0 H G2 H2 ∧ Same GC G2 ∧ G2 O = none ∧ H2 O = some (.lst acc) ∧ acc.length = 20 + j ∧ RpA K G2 ((odd1 ++ (odd2 W.arrs.length).map (oddR ps)) ++ ((odd3).take j).map (oddL ps)) acc ∧ σ = [some pv, some (.ref x), some (.ref L), some (.ref O), some tv, v5])
    ⟨GC, as, v5D, nC, Same.refl _, gOC, hOC, by omega, by rw [List.take_zero, List.map_nil, List.append_nil]; exact r1.mono eC, rfl⟩ (fun j σ H2 _ ⟨_, _, _, n2, e2, _⟩ => (e2.trans n2.w).seq hfl') ?_ ?_
  · rintro j z σ H2 H3 hj ⟨G2, acc, v5, n2, e2, g2, h2, la, ra, rfl⟩ ⟨rfl, hz⟩
    obtain ⟨dz, hdz, rdz⟩ := r2.get' hz
    have eg := eC.trans e2
    refine ⟨_, rfl, .inl ⟨rfl, _, SqL.of h2⟩, _, rfl, s2, fun t ht => ⟨s1, fun l hl => ?_⟩⟩
    have m3 := Nx.new (M := M0) (o := .tup [.int 0, z]) n2.w ht
    have m4 := m3.trans (Nx.new (M := M0) (o := .lst [.ref t]) m3.w hl)
    have n4 := n2.trans m4
    have hL4 := n4.w _ _ (m4.g _ _ (eg _ _ gLB))
    refine ⟨_, rfl, l, L, _, xs, rfl, rfl, upd_same, hL4, sz (by simp; omega), fun r hr => ?_⟩
    have m5 := m4.trans (Nx.new (M := M0) (o := .lst ([V.ref t] ++ xs)) n4.w hr)
    have n5 := n2.trans m5
    have h5 := m5.same _ _ h2
    have g5 := m5.own O g2 (by rw [h2]; simp)
    have ljk : j < 14 := by omega
    refine ⟨O, acc, .ref r, rfl, rfl, h5, szl (by omega), ?_⟩
    refine ⟨_, acc ++ [.ref r], _, n5.wrL hOH g5, e2.trans m5.g, g5, upd_same, by rw [List.length_append, la]; rfl, ?_, rfl⟩
    rw [map_take_snoc hdz, ← List.append_assoc]
    refine RpA.snoc (ra.mono m5.g) ⟨r, _, rfl, SqL.of upd_same, ?_⟩
    have e45 := (Nx.new (M := M0) (o := .lst ([V.ref t] ++ xs)) n4.w hr).g
    have e34 := (Nx.new (M := M0) (o := .lst [.ref t]) m3.w hl).g
    have rX : RpA K _ (ps.map stepD) xs := (pairs_rp hxsB).mono (eg.trans m5.g)
    exact RpA.cons ⟨t, _, rfl, seqT (e34.trans e45) (SqT.of upd_same), RpA.cons rfl (RpA.cons ((rdz.mono e2).mono m5.g) RpA.nil)⟩ rX
  rintro σ HE ⟨GE, accE, v5E, nE, eCE, gOE, hOE, laE, rE, rfl⟩
  rw [lv] at laE rE
  rw [List.take_of_length_le (by show 14 ≤ 14; omega)] at rE
  have eE := eC.trans eCE
  have rtv := rtv.mono eE
  have gLB := eE _ _ gLB
  have hxsB := StpV.pairs hxsB eE
  -- the last four
  have hLE := nE.w _ _ gLB
  refine ⟨_, rfl, _, rfl, _, rfl, s3, fun t1 ht1 => ⟨s1, fun t2 ht2 => ?_⟩⟩
  have m1 := Nx.new (M := M0) (o := .tup [.int 0, tv, .int 0]) nE.w ht1
  have m2' := Nx.new (M := M0) (o := .lst [.ref t1]) m1.w ht2
  have m2 := m1.trans m2'
  refine ⟨L, t2, xs, _, rfl, rfl, m2.w _ _ (m2.g _ _ gLB), upd_same, sz (by simp; omega), fun u1 hu1 => ?_⟩
  have m3' := Nx.new (M := M0) (o := .lst (xs ++ [.ref t1])) m2.w hu1
  have m3 := m2.trans m3'
  refine ⟨_, rfl, s1, fun t3 ht3 => ?_⟩
  have m4' := Nx.new (M := M0) (o := .lst [.non]) m3.w ht3
  have m4 := m3.trans m4'
  refine ⟨L, t3, xs, _, rfl, rfl, m4.w _ _ (m4.g _ _ gLB), upd_same, sz (by simp; omega), fun u2 hu2 => ?_⟩
  have m5' := Nx.new (M := M0) (o := .lst (xs ++ [.non])) m4.w hu2
  have m5 := m4.trans m5'
  refine ⟨_, rfl, s1, fun u3 hu3 => ?_⟩
  have m6' := Nx.new (M := M0) (o := .lst [.ref L]) m5.w hu3
  have m6 := m5.trans m6'
  refine ⟨s1, fun u4 hu4 => ?_⟩
  have m7' := Nx.new (M := M0) (o := .tup [.non]) m6.w hu4
  have m7 := m6.trans m7'
  refine ⟨s4, fun l4 hl4 => ?_⟩
  have m8' := Nx.new (M := M0) (o := .lst [.ref u1, .ref u2, .ref u3, .ref u4]) m7.w hl4
  have m8 := m7.trans m8'
  refine ⟨O, l4, accE, _, rfl, rfl, m8.same _ _ hOE, upd_same, sz (by simp; omega), fun R hR => ?_⟩
  have m9' := Nx.new (M := M0) (o := .lst (accE ++ [.ref u1, .ref u2, .ref u3, .ref u4])) m8.w hR
  have m9 := m8.trans m9'
  refine kk _ _ R _ (nE.trans m9) (SqL.of upd_same) ?_
  have rX := pairs_rp hxsB
  have c8 := m9'.g
  have c7 := m8'.g.trans c8
  have c6 := m7'.g.trans c7
  have c5 := m6'.g.trans c6
  have c4 := m5'.g.trans c5
  have c3 := m4'.g.trans c4
  have c2 := m3'.g.trans c3
  have c1 := m2'.g.trans c2
  have c0 := m1.g.trans c1
  refine RpA.app (rE.mono c0) (RpA.cons ⟨u1, _, rfl, c3.seq (SqL.of upd_same), RpA.snoc (rX.mono c0) ⟨t1, _, rfl, seqT c1 (SqT.of upd_same), RpA.cons rfl (RpA.cons (rtv.rp.mono c0) (RpA.cons rfl RpA.nil))⟩⟩ (RpA.cons ⟨u2, _, rfl, c5.seq (SqL.of upd_same), RpA.snoc (rX.mono c0) rfl⟩
    (RpA.cons ⟨u3, _, rfl, c6.seq (SqL.of upd_same), RpA.cons ⟨L, xs, rfl, c0.seq (SqL.of gLB), rX.mono c0⟩ RpA.nil⟩ (RpA.cons ⟨u4, _, rfl, seqT c7 (SqT.of upd_same), RpA.cons rfl RpA.nil⟩ RpA.nil))))
end K25

/-! ## L11 -/
set_option Elab.async false
set_option linter.all false
set_option maxRecDepth 100000
set_option maxHeartbeats 8000000
/-! L11: same. -/
set_option exponentiation.threshold 100000
namespace K25
open PySem L2
open PySem.Spec PyProof.Rows RZ
variable {P : Program} {w : World} {K : PySem.W.Frag} {mg : Str → Option Value} {base : Heap} {A : Ad}
def rEqS : R2 := fun x y H Q => rEq x y H Q ∨ rEqDA x y H Q
theorem op_eqS {X : Cx} {k : Nat} (hr : Room k X.A) : OpR X (compareOp .Eq) rEqS := by
  intro pins s σ H x y v u Q I rx ry h
  rcases h with h | h
  · exact op_eq pins s σ H x y v u Q I rx ry h
  · exact op_eq_dictA hr.units0 pins s σ H x y v u Q I rx ry h
theorem kany3 {a S T U : String} {b c d : Bool} (k : kitB a S = some b) (k' : kitB a T = some c) (k'' : kitB a U = some d) : PySem.W.kitAny K (.type a) [.type S, .type T, .type U] = some (b || (c || d)) := by
  cases b with
  | true => exact kitAny_cons (kit_ty k) (fun z => by cases z) (fun _ => rfl)
  | false => exact kitAny_cons (kit_ty k) (fun _ => (by rw [Bool.false_or]; exact kany2 k' k'')) (fun z => by cases z)
theorem walk_zipT {a b : Addr} {xs ys : List V} {n : Nat} (hn : n = min xs.length ys.length) : Walk (ItzT K a b) n (fun H => SqT K H a xs ∧ SqT K H b ys) (YPair (fun i => xs[i]?) (fun i => ys[i]?)) := by
  subst hn
  refine ⟨fun i _ hi q => ?_, fun _ q => ⟨xs, ys, q.1, q.2, by omega⟩, fun i H v H' _ q y => ?_⟩
  · have h1 : i < xs.length := by omega
    have h2 : i < ys.length := by omega
    exact ⟨xs, ys, xs[i], ys[i], q.1, q.2, by simp [h1], by simp [h2]⟩
  · obtain ⟨T, x, z, h1, h2, h3, h4, h5⟩ := y
    exact ⟨T, x, z, h1, h2, h3, h4 xs q.1, h5 ys q.2⟩
def sp_l_same (K : PySem.W.Frag) (n : Nat) : Sp := fun vs H Q _ => ∃ (u v : V) (d : D), vs = [u, v] ∧ Rp K H d u ∧ Rp K H d v ∧ d.dep ≤ n ∧ d.wid ∧ ∀ H', Same H H' → Q (.bl true) H'
theorem ok_l_same0 (T : Tx K mg A) : DefOk P w K mg base 1 "_law_same" P_l_same (sp_l_same K 0) := by
  refine T.f_l_same.ok sc_l_same (fun vs H Q E ⟨_, _, _, e, _⟩ => by rw [e]; rfl) (fun f cdv AA outer s H vs Q E hr h => ⟨_, (pss_cons (ps_if (pt_val (pe_callB call_isiT rfl T.z_isinstance (by decide +kernel) (pa_cons (pv 1) (pa_cons (pe_tup (pa_cons (pe_bltn (v := .ty "list") rfl T.z_list (by decide +kernel) rfl) (pa_cons (pe_bltn (v := .ty "tuple") rfl T.z_tuple (by decide +kernel) rfl) pa_nil))) pa_nil)))) (pss_cons (ps_if (PW.pt (pw_or (pt_cmpR op_ne (pe_callB call_isi rfl T.z_isinstance (by decide +kernel) (pa_cons (pv 0) (pa_cons (pe_bltn (v := .ty "list") rfl T.z_list (by decide +kernel) rfl) pa_nil))) (pe_callB call_isi rfl T.z_isinstance (by decide +kernel) (pa_cons (pv 1) (pa_cons (pe_bltn (v := .ty "list") rfl T.z_list (by decide +kernel) rfl) pa_nil))) (nomark _)) (pw_or1 (pt_cmpR op_ne (pe_callB call_isi rfl T.z_isinstance (by decide +kernel) (pa_cons (pv 0) (pa_cons (pe_bltn (v := .ty "tuple") rfl T.z_tuple (by decide +kernel) rfl) pa_nil))) (pe_callB call_isi rfl T.z_isinstance (by decide +kernel) (pa_cons (pv 1) (pa_cons (pe_bltn (v := .ty "tuple") rfl T.z_tuple (by decide +kernel) rfl) pa_nil))) (nomark _))))) (pss_one (ps_ret pe_bl)) pss_nil) (pss_one (ps_ret (pe_and (pe_cmpR op_eq (pe_callB call_len_seq rfl T.z_len PySem.boot_len (pa_cons (pv 0) pa_nil)) (pe_callB call_len_seq rfl T.z_len PySem.boot_len (pa_cons (pv 1) pa_nil)) (nomark _)) (pe_one (pe_callB (cr_all rfl) rfl T.z_all (by decide +kernel) (pa_cons (pe_lc (own := [("_law_x", 2), ("_law_y", 3)]) rfl sc_l_same.nd (pi_zipA rfl T.z_zip (pa_cons (pv 0) (pa_cons (pv 1) pa_nil))) (blkOk_by (own := [("_law_x", 2), ("_law_y", 3)]) (N := N_l_same) (sc := defScope s_l_same) (by decide +kernel)) (fun _ _ _ _ _ => (pg_tupB (n := 2) rfl (pgs_cons (pg_name (i := 2) sc_l_same.nd rfl (Or.inl rfl)) (pgs_cons (pg_name (i := 3) sc_l_same.nd rfl (Or.inl rfl)) pgs_nil)))) (fun _ _ _ _ _ => pts_nil) (fun _ _ _ _ _ => pe_never)) pa_nil))))))) pss_nil) (pss_cons (ps_if (pt_val (pe_callB call_isi rfl T.z_isinstance (by decide +kernel) (pa_cons (pv 1) (pa_cons (pe_bltn (v := .ty "int") rfl T.z_int (by decide +kernel) rfl) pa_nil)))) (pss_one (ps_ret (pe_and (pe_callB call_isi rfl T.z_isinstance (by decide +kernel) (pa_cons (pv 0) (pa_cons (pe_bltn (v := .ty "int") rfl T.z_int (by decide +kernel) rfl) pa_nil))) (pe_and (pe_cmpR op_eq (pe_callB call_isi rfl T.z_isinstance (by decide +kernel) (pa_cons (pv 0) (pa_cons (pe_bltn (v := .ty "bool") rfl T.z_bool (by decide +kernel) rfl) pa_nil))) (pe_callB call_isi rfl T.z_isinstance (by decide +kernel) (pa_cons (pv 1) (pa_cons (pe_bltn (v := .ty "bool") rfl T.z_bool (by decide +kernel) rfl) pa_nil))) (nomark _)) (pe_one (pe_cmpR (op_eqS hr) (pv 0) (pv 1) (nomark _))))))) pss_nil) (pss_one (ps_ret (pe_and (pe_cmpR op_isBl (pe_callB call_isiT rfl T.z_isinstance (by decide +kernel) (pa_cons (pv 0) (pa_cons (pe_tup (pa_cons (pe_bltn (v := .ty "int") rfl T.z_int (by decide +kernel) rfl) (pa_cons (pe_bltn (v := .ty "list") rfl T.z_list (by decide +kernel) rfl) (pa_cons (pe_bltn (v := .ty "tuple") rfl T.z_tuple (by decide +kernel) rfl) pa_nil)))) pa_nil))) pe_bl (nomark _)) (pe_one (pe_cmpR (op_eqS hr) (pv 0) (pv 1) (nomark _)))))))), ?_⟩)
  obtain ⟨u, v, d, rfl, hu, hv, hdep, hwid, k⟩ := h
  refine ⟨_, rfl, s2, fun p1 hp1 => ⟨_, p1, _, _, _, _, rfl, upd_same, .cons (.ty _) (.cons (.ty _) .nil), (hv.mono (Same.new0 hp1)).tyx, kany2 (kb_list d) (kb_tuple d), _, rfl, ?_⟩⟩
  have e1 : Same H (upd H p1 (.tup [.ty "list", .ty "tuple"])) := Same.new0 hp1
  generalize upd H p1 (.tup [.ty "list", .ty "tuple"]) = H1 at e1 ⊢
  clear hp1
  cases d with
  | lst ds => exact absurd hdep (Nat.not_succ_le_zero _)
  | tup ds => exact absurd hdep (Nat.not_succ_le_zero _)
  | int i =>
    cases hu
    cases hv
    have t1 : TyX K H1 (.int i) (.type (D.int i).ty) := Rp.tyx (d := .int i) rfl
    refine iteF' rfl ?_
    refine ⟨_, rfl, _, _, _, _, _, rfl, .ty _, t1, kit_ty (kb_int (.int i)), _, rfl, iteT' rfl ?_⟩
    refine ⟨_, rfl, _, _, _, _, _, rfl, .ty _, t1, kit_ty (kb_int (.int i)), _, rfl, iteT' rfl ?_⟩
    refine ⟨_, rfl, _, _, _, _, _, rfl, .ty _, t1, kit_ty (kb_bool (.int i)), _, rfl, _, _, _, _, _, rfl, .ty _, t1, kit_ty (kb_bool (.int i)), rfl, _, rfl, iteT' (decide_eq_true rfl) ?_⟩
    refine ⟨_, rfl, _, rfl, .inl ⟨rfl, ?_⟩⟩
    rw [decide_eq_true rfl]
    exact k _ e1
  | bl c =>
    cases hu
    cases hv
    have t1 : TyX K H1 (.bl c) (.type (D.bl c).ty) := Rp.tyx (d := .bl c) rfl
    refine iteF' rfl ?_
    refine ⟨_, rfl, _, _, _, _, _, rfl, .ty _, t1, kit_ty (kb_int (.bl c)), _, rfl, iteT' rfl ?_⟩
    refine ⟨_, rfl, _, _, _, _, _, rfl, .ty _, t1, kit_ty (kb_int (.bl c)), _, rfl, iteT' rfl ?_⟩
    refine ⟨_, rfl, _, _, _, _, _, rfl, .ty _, t1, kit_ty (kb_bool (.bl c)), _, rfl, _, _, _, _, _, rfl, .ty _, t1, kit_ty (kb_bool (.bl c)), rfl, _, rfl, iteT' (decide_eq_true rfl) ?_⟩
    refine ⟨_, rfl, _, rfl, .inl ⟨rfl, ?_⟩⟩
    rw [decide_eq_true rfl]
    exact k _ e1
  | non =>
    cases hu
    cases hv
    have t1 : ∀ H2, TyX K H2 (.non) (.type (D.non).ty) := fun H2 => Rp.tyx (d := .non) rfl
    refine iteF' rfl ?_
    refine ⟨_, rfl, _, _, _, _, _, rfl, .ty _, t1 _, kit_ty (kb_int (.non)), _, rfl, iteF' rfl ?_⟩
    refine ⟨_, rfl, s3, fun p3 hp3 => ⟨_, p3, _, _, _, _, rfl, upd_same, .cons (.ty _) (.cons (.ty _) (.cons (.ty _) .nil)), t1 _, kany3 (kb_int (.non)) (kb_list (.non)) (kb_tuple (.non)), ?_⟩⟩
    refine ⟨_, _, rfl, rfl, _, rfl, iteT' rfl ?_⟩
    refine ⟨_, rfl, _, rfl, .inl ⟨rfl, ?_⟩⟩
    rw [decide_eq_true rfl]
    exact k _ (e1.new hp3)
  | str z =>
    cases hu
    cases hv
    have t1 : ∀ H2, TyX K H2 (.str z) (.type (D.str z).ty) := fun H2 => Rp.tyx (d := .str z) rfl
    refine iteF' rfl ?_
    refine ⟨_, rfl, _, _, _, _, _, rfl, .ty _, t1 _, kit_ty (kb_int (.str z)), _, rfl, iteF' rfl ?_⟩
    refine ⟨_, rfl, s3, fun p3 hp3 => ⟨_, p3, _, _, _, _, rfl, upd_same, .cons (.ty _) (.cons (.ty _) (.cons (.ty _) .nil)), t1 _, kany3 (kb_int (.str z)) (kb_list (.str z)) (kb_tuple (.str z)), ?_⟩⟩
    refine ⟨_, _, rfl, rfl, _, rfl, iteT' rfl ?_⟩
    refine ⟨_, rfl, _, rfl, .inl ⟨rfl, ?_⟩⟩
    rw [decide_eq_true rfl]
    exact k _ (e1.new hp3)
  | emp =>
    obtain ⟨a, rfl, ha⟩ := hu
    obtain ⟨b, rfl, hb⟩ := hv
    have t1 : ∀ H2, Same H H2 → TyX K H2 (.ref a) (.type D.emp.ty) := fun H2 e => Rp.tyx (d := .emp) ⟨a, rfl, e _ _ ha⟩
    have t2 : ∀ H2, Same H H2 → TyX K H2 (.ref b) (.type D.emp.ty) := fun H2 e => Rp.tyx (d := .emp) ⟨b, rfl, e _ _ hb⟩
    refine iteF' rfl ?_
    refine ⟨_, rfl, _, _, _, _, _, rfl, .ty _, t2 _ e1, kit_ty (kb_int .emp), _, rfl, iteF' rfl ?_⟩
    refine ⟨_, rfl, s3, fun p3 hp3 => ⟨_, p3, _, _, _, _, rfl, upd_same, .cons (.ty _) (.cons (.ty _) (.cons (.ty _) .nil)), t1 _ (e1.new hp3), kany3 (kb_int .emp) (kb_list .emp) (kb_tuple .emp), ?_⟩⟩
    refine ⟨_, _, rfl, rfl, _, rfl, iteT' rfl ?_⟩
    have e3 := e1.new (o := .tup [.ty "int", .ty "list", .ty "tuple"]) hp3
    exact ⟨_, rfl, _, rfl, .inr ⟨a, b, [], [], rfl, rfl, e3 _ _ ha, e3 _ _ hb, rfl, fun p hp => by simp at hp, k _ e3⟩⟩

theorem ok_l_same (T : Tx K mg A) : ∀ n, DefOk P w K mg base (n + 1) "_law_same" P_l_same (sp_l_same K n)
  | 0 => ok_l_same0 T
  | n + 1 => by
    have IH := ok_l_same T n
    refine T.f_l_same.ok sc_l_same (fun vs H Q E ⟨_, _, _, e, _⟩ => by rw [e]; rfl) (fun f cdv AA outer s H vs Q E hr h => ⟨_, (pss_cons (ps_if (pt_val (pe_callB call_isiT rfl T.z_isinstance (by decide +kernel) (pa_cons (pv 1) (pa_cons (pe_tup (pa_cons (pe_bltn (v := .ty "list") rfl T.z_list (by decide +kernel) rfl) (pa_cons (pe_bltn (v := .ty "tuple") rfl T.z_tuple (by decide +kernel) rfl) pa_nil))) pa_nil)))) (pss_cons (ps_if (PW.pt (pw_or (pt_cmpR op_ne (pe_callB call_isi rfl T.z_isinstance (by decide +kernel) (pa_cons (pv 0) (pa_cons (pe_bltn (v := .ty "list") rfl T.z_list (by decide +kernel) rfl) pa_nil))) (pe_callB call_isi rfl T.z_isinstance (by decide +kernel) (pa_cons (pv 1) (pa_cons (pe_bltn (v := .ty "list") rfl T.z_list (by decide +kernel) rfl) pa_nil))) (nomark _)) (pw_or1 (pt_cmpR op_ne (pe_callB call_isi rfl T.z_isinstance (by decide +kernel) (pa_cons (pv 0) (pa_cons (pe_bltn (v := .ty "tuple") rfl T.z_tuple (by decide +kernel) rfl) pa_nil))) (pe_callB call_isi rfl T.z_isinstance (by decide +kernel) (pa_cons (pv 1) (pa_cons (pe_bltn (v := .ty "tuple") rfl T.z_tuple (by decide +kernel) rfl) pa_nil))) (nomark _))))) (pss_one (ps_ret pe_bl)) pss_nil) (pss_one (ps_ret (pe_and (pe_cmpR op_eq (pe_callB call_len_seq rfl T.z_len PySem.boot_len (pa_cons (pv 0) pa_nil)) (pe_callB call_len_seq rfl T.z_len PySem.boot_len (pa_cons (pv 1) pa_nil)) (nomark _)) (pe_one (pe_callB (cr_all rfl) rfl T.z_all (by decide +kernel) (pa_cons (pe_lc (own := [("_law_x", 2), ("_law_y", 3)]) rfl sc_l_same.nd (pi_zipA rfl T.z_zip (pa_cons (pv 0) (pa_cons (pv 1) pa_nil))) (blkOk_by (own := [("_law_x", 2), ("_law_y", 3)]) (N := N_l_same) (sc := defScope s_l_same) (by decide +kernel)) (fun _ _ _ _ _ => (pg_tupB (n := 2) rfl (pgs_cons (pg_name (i := 2) sc_l_same.nd rfl (Or.inl rfl)) (pgs_cons (pg_name (i := 3) sc_l_same.nd rfl (Or.inl rfl)) pgs_nil)))) (fun _ _ _ _ _ => pts_nil) (fun _ _ _ _ _ => (pe_cd IH hr rfl (pa_cons (pv 2) (pa_cons (pv 3) pa_nil))))) pa_nil))))))) pss_nil) (pss_cons (ps_if (pt_val (pe_callB call_isi rfl T.z_isinstance (by decide +kernel) (pa_cons (pv 1) (pa_cons (pe_bltn (v := .ty "int") rfl T.z_int (by decide +kernel) rfl) pa_nil)))) (pss_one (ps_ret (pe_and (pe_callB call_isi rfl T.z_isinstance (by decide +kernel) (pa_cons (pv 0) (pa_cons (pe_bltn (v := .ty "int") rfl T.z_int (by decide +kernel) rfl) pa_nil))) (pe_and (pe_cmpR op_eq (pe_callB call_isi rfl T.z_isinstance (by decide +kernel) (pa_cons (pv 0) (pa_cons (pe_bltn (v := .ty "bool") rfl T.z_bool (by decide +kernel) rfl) pa_nil))) (pe_callB call_isi rfl T.z_isinstance (by decide +kernel) (pa_cons (pv 1) (pa_cons (pe_bltn (v := .ty "bool") rfl T.z_bool (by decide +kernel) rfl) pa_nil))) (nomark _)) (pe_one (pe_cmpR (op_eqS hr) (pv 0) (pv 1) (nomark _))))))) pss_nil) (pss_one (ps_ret (pe_and (pe_cmpR op_isBl (pe_callB call_isiT rfl T.z_isinstance (by decide +kernel) (pa_cons (pv 0) (pa_cons (pe_tup (pa_cons (pe_bltn (v := .ty "int") rfl T.z_int (by decide +kernel) rfl) (pa_cons (pe_bltn (v := .ty "list") rfl T.z_list (by decide +kernel) rfl) (pa_cons (pe_bltn (v := .ty "tuple") rfl T.z_tuple (by decide +kernel) rfl) pa_nil)))) pa_nil))) pe_bl (nomark _)) (pe_one (pe_cmpR (op_eqS hr) (pv 0) (pv 1) (nomark _)))))))), ?_⟩)
    obtain ⟨u, v, d, rfl, hu, hv, hdep, hwid, k⟩ := h
    refine ⟨_, rfl, s2, fun p1 hp1 => ⟨_, p1, _, _, _, _, rfl, upd_same, .cons (.ty _) (.cons (.ty _) .nil), (hv.mono (Same.new0 hp1)).tyx, kany2 (kb_list d) (kb_tuple d), _, rfl, ?_⟩⟩
    have e1 : Same H (upd H p1 (.tup [.ty "list", .ty "tuple"])) := Same.new0 hp1
    generalize upd H p1 (.tup [.ty "list", .ty "tuple"]) = H1 at e1 ⊢
    clear hp1
    cases d with
    | lst ds =>
      obtain ⟨a, xs, rfl, hxs, hrx⟩ := hu
      obtain ⟨b, ys, rfl, hys, hry⟩ := hv
      have hu1 : Rp K H1 (.lst ds) (.ref a) := Rp.mono e1 _ _ ⟨a, xs, rfl, hxs, hrx⟩
      have hv1 : Rp K H1 (.lst ds) (.ref b) := Rp.mono e1 _ _ ⟨b, ys, rfl, hys, hry⟩
      have lx := hrx.len
      have ly := hry.len
      have hwid1 : ds.length ≤ 1000 := hwid.1
      refine iteT' rfl ?_
      refine ⟨_, rfl, _, _, _, _, _, rfl, .ty _, hu1.tyx, kit_ty (kb_list (.lst ds)), _, rfl, _, _, _, _, _, rfl, .ty _, hv1.tyx, kit_ty (kb_list (.lst ds)), rfl, _, rfl, iteF' (by simp) ?_⟩
      refine ⟨_, rfl, _, _, _, _, _, rfl, .ty _, hu1.tyx, kit_ty (kb_tuple (.lst ds)), _, rfl, _, _, _, _, _, rfl, .ty _, hv1.tyx, kit_ty (kb_tuple (.lst ds)), rfl, _, rfl, iteF' (by simp) ?_⟩
      have hxs1 : SqL K H1 a xs := e1.seq hxs
      have hys1 : SqL K H1 b ys := e1.seq hys
      refine ⟨_, rfl, a, xs, rfl, .inl hxs1, _, rfl, b, ys, rfl, .inl hys1, rfl, _, rfl, iteT' (decide_eq_true (by rw [lx, ly])) ?_⟩
      refine ⟨_, rfl, _, rfl, a, b, xs, ys, rfl, .inl ⟨hxs1, hys1, fun D hD => ?_⟩⟩
      have hn : ds.length = min xs.length ys.length := by omega
      refine lc_bools (walk_zip (K := K) (a := a) (b := b) hn) (fun _ => true) hD hwid1 (fun H4 e4 => ⟨e4.seq hxs1, e4.seq hys1⟩) (fun _ _ _ _ y => YPair.same y) (fun j y H4 H5 Qc hj e4 yy q => ?_) (fun H4 e4 hL4 => ?_)
      · obtain ⟨T1, x1, x2, rfl, hT, rfl, g1, g2⟩ := yy
        obtain ⟨d1, hd1, rd1⟩ := hrx.get' g1
        obtain ⟨d2, hd2, rd2⟩ := hry.get' g2
        rw [hd1] at hd2
        cases hd2
        have e5 := ((e1.trans e4).new (o := .tup [x1, x2]) hT)
        refine ⟨T1, _, rfl, SqT.of upd_same, rfl, _, _, rfl, _, _, rfl, rfl, rfl, _, rfl, _, rfl, x1, x2, d1, rfl, rd1.mono e5, rd2.mono e5, Nat.le_of_succ_le_succ (Nat.le_trans (Nat.succ_le_succ (dep_get hd1)) hdep), wid_get hwid.2 hd1, fun H6 e6 => q H6 e6⟩
      · refine ⟨D, _, rfl, SqL.of hL4, ?_⟩
        rw [all_true]
        exact k _ (e1.trans e4)
    | tup ds =>
      obtain ⟨a, xs, rfl, hxs, hrx⟩ := hu
      obtain ⟨b, ys, rfl, hys, hry⟩ := hv
      have hu1 : Rp K H1 (.tup ds) (.ref a) := Rp.mono e1 _ _ ⟨a, xs, rfl, hxs, hrx⟩
      have hv1 : Rp K H1 (.tup ds) (.ref b) := Rp.mono e1 _ _ ⟨b, ys, rfl, hys, hry⟩
      have lx := hrx.len
      have ly := hry.len
      have hwid1 : ds.length ≤ 1000 := hwid.1
      refine iteT' rfl ?_
      refine ⟨_, rfl, _, _, _, _, _, rfl, .ty _, hu1.tyx, kit_ty (kb_list (.tup ds)), _, rfl, _, _, _, _, _, rfl, .ty _, hv1.tyx, kit_ty (kb_list (.tup ds)), rfl, _, rfl, iteF' (by simp) ?_⟩
      refine ⟨_, rfl, _, _, _, _, _, rfl, .ty _, hu1.tyx, kit_ty (kb_tuple (.tup ds)), _, rfl, _, _, _, _, _, rfl, .ty _, hv1.tyx, kit_ty (kb_tuple (.tup ds)), rfl, _, rfl, iteF' (by simp) ?_⟩
      have hxs1 : SqT K H1 a xs := seqT e1 hxs
      have hys1 : SqT K H1 b ys := seqT e1 hys
      refine ⟨_, rfl, a, xs, rfl, .inr hxs1, _, rfl, b, ys, rfl, .inr hys1, rfl, _, rfl, iteT' (decide_eq_true (by rw [lx, ly])) ?_⟩
      refine ⟨_, rfl, _, rfl, a, b, xs, ys, rfl, .inr ⟨hxs1, hys1, fun D hD => ?_⟩⟩
      have hn : ds.length = min xs.length ys.length := by omega
      refine lc_bools (walk_zipT (K := K) (a := a) (b := b) hn) (fun _ => true) hD hwid1 (fun H4 e4 => ⟨seqT e4 hxs1, seqT e4 hys1⟩) (fun _ _ _ _ y => YPair.same y) (fun j y H4 H5 Qc hj e4 yy q => ?_) (fun H4 e4 hL4 => ?_)
      · obtain ⟨T1, x1, x2, rfl, hT, rfl, g1, g2⟩ := yy
        obtain ⟨d1, hd1, rd1⟩ := hrx.get' g1
        obtain ⟨d2, hd2, rd2⟩ := hry.get' g2
        rw [hd1] at hd2
        cases hd2
        have e5 := ((e1.trans e4).new (o := .tup [x1, x2]) hT)
        refine ⟨T1, _, rfl, SqT.of upd_same, rfl, _, _, rfl, _, _, rfl, rfl, rfl, _, rfl, _, rfl, x1, x2, d1, rfl, rd1.mono e5, rd2.mono e5, Nat.le_of_succ_le_succ (Nat.le_trans (Nat.succ_le_succ (dep_get hd1)) hdep), wid_get hwid.2 hd1, fun H6 e6 => q H6 e6⟩
      · refine ⟨D, _, rfl, SqL.of hL4, ?_⟩
        rw [all_true]
        exact k _ (e1.trans e4)
    | int i =>
      cases hu
      cases hv
      have t1 : TyX K H1 (.int i) (.type (D.int i).ty) := Rp.tyx (d := .int i) rfl
      refine iteF' rfl ?_
      refine ⟨_, rfl, _, _, _, _, _, rfl, .ty _, t1, kit_ty (kb_int (.int i)), _, rfl, iteT' rfl ?_⟩
      refine ⟨_, rfl, _, _, _, _, _, rfl, .ty _, t1, kit_ty (kb_int (.int i)), _, rfl, iteT' rfl ?_⟩
      refine ⟨_, rfl, _, _, _, _, _, rfl, .ty _, t1, kit_ty (kb_bool (.int i)), _, rfl, _, _, _, _, _, rfl, .ty _, t1, kit_ty (kb_bool (.int i)), rfl, _, rfl, iteT' (decide_eq_true rfl) ?_⟩
      refine ⟨_, rfl, _, rfl, .inl ⟨rfl, ?_⟩⟩
      rw [decide_eq_true rfl]
      exact k _ e1
    | bl c =>
      cases hu
      cases hv
      have t1 : TyX K H1 (.bl c) (.type (D.bl c).ty) := Rp.tyx (d := .bl c) rfl
      refine iteF' rfl ?_
      refine ⟨_, rfl, _, _, _, _, _, rfl, .ty _, t1, kit_ty (kb_int (.bl c)), _, rfl, iteT' rfl ?_⟩
      refine ⟨_, rfl, _, _, _, _, _, rfl, .ty _, t1, kit_ty (kb_int (.bl c)), _, rfl, iteT' rfl ?_⟩
      refine ⟨_, rfl, _, _, _, _, _, rfl, .ty _, t1, kit_ty (kb_bool (.bl c)), _, rfl, _, _, _, _, _, rfl, .ty _, t1, kit_ty (kb_bool (.bl c)), rfl, _, rfl, iteT' (decide_eq_true rfl) ?_⟩
      refine ⟨_, rfl, _, rfl, .inl ⟨rfl, ?_⟩⟩
      rw [decide_eq_true rfl]
      exact k _ e1
    | non =>
      cases hu
      cases hv
      have t1 : ∀ H2, TyX K H2 (.non) (.type (D.non).ty) := fun H2 => Rp.tyx (d := .non) rfl
      refine iteF' rfl ?_
      refine ⟨_, rfl, _, _, _, _, _, rfl, .ty _, t1 _, kit_ty (kb_int (.non)), _, rfl, iteF' rfl ?_⟩
      refine ⟨_, rfl, s3, fun p3 hp3 => ⟨_, p3, _, _, _, _, rfl, upd_same, .cons (.ty _) (.cons (.ty _) (.cons (.ty _) .nil)), t1 _, kany3 (kb_int (.non)) (kb_list (.non)) (kb_tuple (.non)), ?_⟩⟩
      refine ⟨_, _, rfl, rfl, _, rfl, iteT' rfl ?_⟩
      refine ⟨_, rfl, _, rfl, .inl ⟨rfl, ?_⟩⟩
      rw [decide_eq_true rfl]
      exact k _ (e1.new hp3)
    | str z =>
      cases hu
      cases hv
      have t1 : ∀ H2, TyX K H2 (.str z) (.type (D.str z).ty) := fun H2 => Rp.tyx (d := .str z) rfl
      refine iteF' rfl ?_
      refine ⟨_, rfl, _, _, _, _, _, rfl, .ty _, t1 _, kit_ty (kb_int (.str z)), _, rfl, iteF' rfl ?_⟩
      refine ⟨_, rfl, s3, fun p3 hp3 => ⟨_, p3, _, _, _, _, rfl, upd_same, .cons (.ty _) (.cons (.ty _) (.cons (.ty _) .nil)), t1 _, kany3 (kb_int (.str z)) (kb_list (.str z)) (kb_tuple (.str z)), ?_⟩⟩
      refine ⟨_, _, rfl, rfl, _, rfl, iteT' rfl ?_⟩
      refine ⟨_, rfl, _, rfl, .inl ⟨rfl, ?_⟩⟩
      rw [decide_eq_true rfl]
      exact k _ (e1.new hp3)
    | emp =>
      obtain ⟨a, rfl, ha⟩ := hu
      obtain ⟨b, rfl, hb⟩ := hv
      have t1 : ∀ H2, Same H H2 → TyX K H2 (.ref a) (.type D.emp.ty) := fun H2 e => Rp.tyx (d := .emp) ⟨a, rfl, e _ _ ha⟩
      have t2 : ∀ H2, Same H H2 → TyX K H2 (.ref b) (.type D.emp.ty) := fun H2 e => Rp.tyx (d := .emp) ⟨b, rfl, e _ _ hb⟩
      refine iteF' rfl ?_
      refine ⟨_, rfl, _, _, _, _, _, rfl, .ty _, t2 _ e1, kit_ty (kb_int .emp), _, rfl, iteF' rfl ?_⟩
      refine ⟨_, rfl, s3, fun p3 hp3 => ⟨_, p3, _, _, _, _, rfl, upd_same, .cons (.ty _) (.cons (.ty _) (.cons (.ty _) .nil)), t1 _ (e1.new hp3), kany3 (kb_int .emp) (kb_list .emp) (kb_tuple .emp), ?_⟩⟩
      refine ⟨_, _, rfl, rfl, _, rfl, iteT' rfl ?_⟩
      have e3 := e1.new (o := .tup [.ty "int", .ty "list", .ty "tuple"]) hp3
      exact ⟨_, rfl, _, rfl, .inr ⟨a, b, [], [], rfl, rfl, e3 _ _ ha, e3 _ _ hb, rfl, fun p hp => by simp at hp, k _ e3⟩⟩

end K25

/-! ## L12 -/
set_option Elab.async false
set_option linter.all false
set_option maxRecDepth 100000
set_option maxHeartbeats 8000000
/-! L12: met, and promises where no guard is held. -/
set_option exponentiation.threshold 100000
namespace K25
open PySem L2
open PySem.Spec PyProof.Rows
open LamX (CodeO Tabs TabS ExtN GivesTo tLam LamS lamCx lamEnv)
variable {P : Program} {w : World} {K : PySem.W.Frag} {mg : Str → Option Value} {base : Heap} {A : Ad}
/-! ### met -/
/-- what is let out, and what is made of it -/
def metE (K : PySem.W.Frag) (CB : Addr) (Q : VK) : XK := fun cls d H' => PySem.W.exmOne K cls (.ref CB) = some true ∧ cls = .ref CB ∧ ∃ (dd : Addr) (fs : List (Str × V)) (v : V), d = some dd ∧ H' dd = some (.xd fs) ∧ fs.lookup ("thing" : Str) = some v ∧ ∀ t, H' t = none → Q (.ref t) (upd H' t (.tup [.str "run", v]))
def TMet (K : PySem.W.Frag) (CB : Addr) : (XK → Hp → VK → Prop) → Hp → VK → Prop := fun tl H Q => tl (metE K CB Q) H (fun v H1 => 2 ≤ sizeLine ∧ ∀ t, H1 t = none → Q (.ref t) (upd H1 t (.tup [.str "told", v])))
theorem takes_len {X : Cx} {W : WX} {n : Nat} (tk : Takes X W) (h : X.N.length = n := by rfl) : Takes X (fun cls d σ' H' => σ'.length = n → W cls d σ' H') := fun u s' ⟨a, B, sI, pins, σ, H, cls, d, e, I, nb, up, sky, na, os, ag, z⟩ =>
  tk u s' ⟨a, B, sI, pins, σ, H, cls, d, e, I, nb, up, sky, na, os, ag, z (I.len.trans h)⟩
theorem set1 {σ : L2.St} {v : V} (h : σ.length = 2) : (σ.set 1 (some v))[1]? = some (some v) := by
  rw [List.getElem?_set_self (by omega)]
theorem met_gives {X : Cx} {g CB : Addr} {cdg : Value} {q : Str} (hme : X.mg "BadRun" = some (.ref CB)) (xf : XfC X.K CB) (hno : PySem.W.findIn X.K (.ref CB) "thing" = some none) :
    GivesTo X N_l_met "_law_met" (defScope s_l_met) g cdg (defBody s_l_met) "_law_ask" q (TMet X.K CB) := by
  intro f c' s H Q tl act hc h
  refine ⟨_, pss_one (ps_try_as (X := (cxOf C8.CX0 X.prog X.w X.K X.mg X.base N_l_met "_law_met" (defScope s_l_met) g cdg X.A X.stack s H C8.E0).nox) (c := .ref CB) (i := 1)
      (tb := fun W D σ H => ∃ Ech : XK, (∀ cls d σ' H', Ech cls d H' → σ'.length = 2 → W cls d σ' H') ∧ σ[0]? = some (some (.ref f)) ∧ H c' = some (CodeO c' q) ∧ tl Ech H (fun v H1 => 2 ≤ sizeLine ∧ ∀ t, H1 t = none → D.rt (.ref t) (upd H1 t (.tup [.str "told", v]))))
      (ts := fun a cls d => tRet (tTup (tCons (tC (.str "run")) (tCons (tXf a cls d CB "thing" (tVar 1)) tNil)))) (Wout := fun _ _ _ _ => False)
      rfl rfl sc_l_met.nd rfl rfl ⟨rfl, by decide, .inl hme⟩ takes0 (fun W pn xe tk _ => ?_) (fun a oe cls d pn hz hf => pss_one (ps_ret (pe_tup (pa_cons pe_str (pa_cons (pe_xf xf hno hz hf (pv 1)) pa_nil)))))), ?_⟩
  · refine ⟨fun pins s' σ H' D I h' => ?_⟩
    obtain ⟨Ech, hW, h1, h2, h3⟩ := h'
    exact (pss_one (ps_ret (pe_tup (pa_cons pe_str (pa_cons (act (fun cls d σ' H' => σ'.length = 2 → W cls d σ' H') pn xe Ech _ _ (takes_len tk) hW) pa_nil))))).run pins s' σ H' D I ⟨h1, h2, h3⟩
  · refine ⟨metE X.K CB Q, fun cls d σ' H' ⟨e1, e2, dd, fs, v, e3, e4, e5, e6⟩ hl => ⟨true, e1, fun _ a ha => ?_, fun z => by cases z⟩, rfl, hc, h⟩
    exact ⟨.ref a, set1 hl, rfl, e2, dd, fs, v, e3, e4, e5, s2, fun t ht => e6 t ht⟩
end K25

/-! ## P1 -/
set_option Elab.async false
set_option linter.all false
set_option maxRecDepth 100000
set_option maxHeartbeats 4000000
/-! P1: the plain law: lowered times, rising walks, odd things. -/
namespace K25
open PySem L2
theorem lowF_mul {c t b : Int} (hc : 0 < c) : lowF (c * t) (c * b) = lowF t b := by
  unfold lowF
  have e : ((Int.gcd (c * t) (c * b) : Nat) : Int) = c * (Int.gcd t b : Nat) := by
    rw [Int.gcd_mul_left, Int.natCast_mul]
    congr 1
    omega
  rw [e, Int.mul_ediv_mul_of_pos _ _ hc, Int.mul_ediv_mul_of_pos _ _ hc]
theorem low_split {t b : Int} (hb : 0 < b) : ∃ g : Int, 0 < g ∧ t = g * (lowF t b).1 ∧ b = g * (lowF t b).2 :=
  ⟨(Int.gcd t b : Nat), gcd_pos hb, (Int.mul_ediv_cancel' (Int.gcd_dvd_left t b)).symm, (Int.mul_ediv_cancel' (Int.gcd_dvd_right t b)).symm⟩
def low (f : Fr) : Fr := lowF f.1 f.2
theorem low_pos {f : Fr} (h : 0 < f.2) : 0 < (low f).2 := lowF_pos h
theorem low_low {f : Fr} (h : 0 < f.2) : low (low f) = low f := by
  obtain ⟨g, hg, h1, h2⟩ := low_split (t := f.1) h
  have e : low f = lowF (g * (lowF f.1 f.2).1) (g * (lowF f.1 f.2).2) := by
    show lowF f.1 f.2 = _
    rw [← h1, ← h2]
  rw [lowF_mul hg] at e
  exact e.symm
theorem minus_low {x y : Fr} (hx : 0 < x.2) (hy : 0 < y.2) : minusF (low x) (low y) = minusF x y := by
  obtain ⟨g, hg, h1, h2⟩ := low_split (t := x.1) hx
  obtain ⟨k, hk, h3, h4⟩ := low_split (t := y.1) hy
  show lowF ((lowF x.1 x.2).1 * (lowF y.1 y.2).2 - (lowF y.1 y.2).1 * (lowF x.1 x.2).2) ((lowF x.1 x.2).2 * (lowF y.1 y.2).2) = lowF (x.1 * y.2 - y.1 * x.2) (x.2 * y.2)
  rw [← lowF_mul (c := g * k) (Int.mul_pos hg hk)]
  generalize lowF x.1 x.2 = a at h1 h2
  generalize lowF y.1 y.2 = b at h3 h4
  have e1 : x.1 * y.2 - y.1 * x.2 = g * k * (a.1 * b.2 - b.1 * a.2) := by
    rw [h1, h2, h3, h4, Int.mul_sub]
    have q1 : g * a.1 * (k * b.2) = g * k * (a.1 * b.2) := by ac_rfl
    have q2 : k * b.1 * (g * a.2) = g * k * (b.1 * a.2) := by ac_rfl
    rw [q1, q2]
  have e2 : x.2 * y.2 = g * k * (a.2 * b.2) := by
    rw [h2, h4]
    ac_rfl
  rw [e1, e2]
theorem lt_low {x y : Fr} (hx : 0 < x.2) (hy : 0 < y.2) : ltF (low x) (low y) = ltF x y := by
  obtain ⟨g, hg, h1, h2⟩ := low_split (t := x.1) hx
  obtain ⟨k, hk, h3, h4⟩ := low_split (t := y.1) hy
  show decide ((lowF x.1 x.2).1 * (lowF y.1 y.2).2 < (lowF y.1 y.2).1 * (lowF x.1 x.2).2) = decide (x.1 * y.2 < y.1 * x.2)
  generalize lowF x.1 x.2 = a at h1 h2
  generalize lowF y.1 y.2 = b at h3 h4
  have q1 : x.1 * y.2 = (g * k) * (a.1 * b.2) := by rw [h1, h4]; ac_rfl
  have q2 : y.1 * x.2 = (g * k) * (b.1 * a.2) := by rw [h3, h2]; ac_rfl
  rw [q1, q2]
  have hp := Int.mul_pos hg hk
  rw [Bool.eq_iff_iff, decide_eq_true_iff, decide_eq_true_iff]
  exact ⟨fun h => Int.mul_lt_mul_of_pos_left h hp, fun h => Int.lt_of_mul_lt_mul_left h (Int.le_of_lt hp)⟩
/-! ### stands -/
def lowB (bs : List (Str × Fr)) : List (Str × Fr) := bs.map fun b => (b.1, low b.2)
def lowSt (st : Std) : Std := (st.1, lowB st.2)
def PosB (bs : List (Str × Fr)) : Prop := ∀ b ∈ bs, 0 < b.2.2
theorem worths_low {bs : List (Str × Fr)} {t : Fr} (ht : 0 < t.2) (hb : PosB bs) : worthsF (lowB bs) (low t) = worthsF bs t := by
  unfold worthsF lowB
  rw [List.map_map]
  exact List.map_congr_left fun b h => by
    show (b.1, minusF (low t) (low b.2)) = _
    rw [minus_low ht (hb b h)]
theorem setB_low (bs : List (Str × Fr)) (l : List Str) (t : Fr) : setB (lowB bs) l (low t) = lowB (setB bs l t) := by
  unfold setB lowB
  rw [List.map_map, List.map_map]
  refine List.map_congr_left fun b _ => ?_
  show (b.1, if b.1 ∈ l then low t else low b.2) = (b.1, low (if b.1 ∈ l then t else b.2))
  split <;> rfl
theorem setB_pos {bs : List (Str × Fr)} {l : List Str} {t : Fr} (ht : 0 < t.2) (hb : PosB bs) : PosB (setB bs l t) := fun b h => by
  obtain ⟨c, hc, rfl⟩ := List.mem_map.mp h
  show 0 < (if _ then t else c.2).2
  split
  · exact ht
  · exact hb c hc
theorem gone_low {W : Wt} {st : Std} {a : Arr} {t : Fr} (ht : 0 < t.2) (hb : PosB st.2) : goneS W (lowSt st) a (low t) = (goneS W st a t).map lowSt := by
  unfold goneS lowSt
  simp only [worths_low ht hb, setB_low, worths_low ht (setB_pos (l := a.beg) ht hb)]
  split
  · split
    · split <;> rfl
    · rfl
  · rfl
theorem gone_pos {W : Wt} {st st' : Std} {a : Arr} {t : Fr} (ht : 0 < t.2) (hb : PosB st.2) (h : goneS W st a t = some st') : PosB st'.2 := by
  unfold goneS at h
  split at h
  · split at h
    · split at h
      · cases h
        exact setB_pos ht hb
      · cases h
    · cases h
  · cases h
theorem step_low {W : Wt} {o : Option Std} {s : Stp} (hs : 0 < s.2.2) (hb : ∀ st, o = some st → PosB st.2) : stepS W (o.map lowSt) (lowS s) = (stepS W o s).map lowSt := by
  cases o with
  | none => rfl
  | some st =>
    show (W.arrs[s.1]?).bind (fun a => goneS W (lowSt st) a (low s.2)) = ((W.arrs[s.1]?).bind fun a => goneS W st a s.2).map lowSt
    cases W.arrs[s.1]? with
    | none => rfl
    | some a => exact gone_low hs (hb st rfl)
theorem step_pos {W : Wt} {o : Option Std} {s : Stp} (hs : 0 < s.2.2) (hb : ∀ st, o = some st → PosB st.2) : ∀ st, stepS W o s = some st → PosB st.2 := fun st h => by
  cases o with
  | none => cases h
  | some st0 =>
    have h : (W.arrs[s.1]?).bind (fun a => goneS W st0 a s.2) = some st := h
    cases q : W.arrs[s.1]? with
    | none => rw [q] at h; cases h
    | some a => rw [q] at h; exact gone_pos hs (hb st0 rfl) h
theorem fold_low {W : Wt} : ∀ (ps : List Stp) (o : Option Std), (∀ s ∈ ps, 0 < s.2.2) → (∀ st, o = some st → PosB st.2) → (ps.map lowS).foldl (stepS W) (o.map lowSt) = (ps.foldl (stepS W) o).map lowSt
  | [], _, _, _ => rfl
  | s :: r, o, h, hb => by
    have hs := h s (List.mem_cons_self ..)
    rw [List.map_cons, List.foldl_cons, List.foldl_cons, step_low hs hb]
    exact fold_low r _ (fun z hz => h z (List.mem_cons_of_mem _ hz)) (step_pos hs hb)
theorem zeros_low (W : Wt) : lowB (zerosF W) = zerosF W := by
  unfold lowB zerosF
  rw [List.map_map]
  exact List.map_congr_left fun c _ => by
    show (c, low (0, 1)) = (c, (0, 1))
    have e : low ((0, 1) : Fr) = (0, 1) := by decide
    rw [e]
theorem zeros_pos (W : Wt) : PosB (zerosF W) := fun b h => by
  obtain ⟨c, _, rfl⟩ := List.mem_map.mp h
  show (0 : Int) < 1
  decide
theorem first_low (W : Wt) : (firstS W).map lowSt = firstS W := by
  unfold firstS
  split
  · show some (W.pl0, lowB (zerosF W)) = _
    rw [zeros_low]
  · rfl
theorem first_pos (W : Wt) : ∀ st, firstS W = some st → PosB st.2 := fun st h => by
  unfold firstS at h
  split at h
  · cases h
    exact zeros_pos W
  · cases h
theorem walk_low {W : Wt} {ps : List Stp} (h : ∀ s ∈ ps, 0 < s.2.2) : walkS W (ps.map lowS) = (walkS W ps).map lowSt := by
  unfold walkS
  have q := fold_low (W := W) ps (firstS W) h (first_pos W)
  rw [first_low] at q
  exact q
/-! ### rising -/
def risFrom : Fr → List Fr → Bool
  | _, [] => true
  | now, t :: r => !ltF t now && risFrom t r
theorem ris_from : ∀ (t : Fr) (r : List Fr), risingB (t :: r) = risFrom t r
  | _, [] => rfl
  | t, u :: r => by
    show (!((t, u) :: ((u :: r).zip r)).any fun p => ltF p.2 p.1) = _
    rw [List.any_cons, Bool.not_or]
    have ih := ris_from u r
    unfold risingB at ih
    have ih' : (!((u :: r).zip r).any fun p => ltF p.2 p.1) = risFrom u r := ih
    rw [ih']
    rfl
theorem ris_low : ∀ (fs : List Fr), (∀ f ∈ fs, 0 < f.2) → risingB (fs.map low) = risingB fs := fun fs h => by
  cases fs with
  | nil => rfl
  | cons t r =>
    rw [List.map_cons, ris_from, ris_from]
    have go : ∀ (r : List Fr) (t : Fr), 0 < t.2 → (∀ f ∈ r, 0 < f.2) → risFrom (low t) (r.map low) = risFrom t r := by
      intro r
      induction r with
      | nil => intros; rfl
      | cons u r ih =>
        intro t ht hr
        have hu := hr u (List.mem_cons_self ..)
        show (!ltF (low u) (low t) && risFrom (low u) (r.map low)) = _
        rw [lt_low hu ht, ih u hu fun f hf => hr f (List.mem_cons_of_mem _ hf)]
        rfl
    exact go r t (h t (List.mem_cons_self ..)) fun f hf => h f (List.mem_cons_of_mem _ hf)
theorem fold_none {W : Wt} : ∀ ps : List Stp, ps.foldl (stepS W) none = none
  | [] => rfl
  | _ :: r => fold_none r
theorem lawGo_eq {W : Wt} : ∀ (ps : List Stp) (o : Option Std) (now : Fr), lawGo W o now ps = if risFrom now (ps.map (·.2)) = true then ps.foldl (stepS W) o else none
  | [], o, now => by cases o <;> rfl
  | s :: r, none, now => by
    show none = _
    rw [fold_none]
    split <;> rfl
  | s :: r, some st, now => by
    show (if ltF s.2 now = true then none else lawGo W (stepS W (some st) s) s.2 r) = if (!ltF s.2 now && risFrom s.2 (r.map (·.2))) = true then r.foldl (stepS W) (stepS W (some st) s) else none
    rw [lawGo_eq r]
    cases ltF s.2 now with
    | true => rfl
    | false => rfl
theorem walkL_eq {W : Wt} {ps : List Stp} (h0 : ∀ s ∈ ps, 0 ≤ s.2.1) : walkL W ps = if risingB (ps.map (·.2)) = true then walkS W ps else none := by
  unfold walkL walkS
  rw [lawGo_eq]
  cases ps with
  | nil => rfl
  | cons s r =>
    rw [List.map_cons, ris_from]
    have e : ltF s.2 (0, 1) = false := decide_eq_false (by
      have := h0 s (List.mem_cons_self ..)
      show ¬ s.2.1 * 1 < 0 * s.2.2
      omega)
    show (if (!ltF s.2 (0, 1) && risFrom s.2 (r.map (·.2))) = true then _ else _) = _
    rw [e]
    rfl
/-- a thing handed as the run ps -/
theorem run_eq {W : Wt} {ps ss : List Stp} {d : D} (hl : d.isL = true) (hss : stpsO W.arrs.length d.items = some ss) (e : ss.map lowS = ps.map lowS) (hp : ∀ s ∈ ps, 0 < s.2.2 ∧ 0 ≤ s.2.1) :
    runOf W d = if (walkL W ps).isSome = true then some (ps.map lowS) else none := by
  unfold runOf
  rw [hl, if_pos rfl, hss]
  show (if risingB ((ss.map lowS).map (·.2)) = true ∧ (walkS W (ss.map lowS)).isSome = true then some (ss.map lowS) else none) = _
  rw [e]
  have e2 : (ps.map lowS).map (·.2) = (ps.map (·.2)).map low := by rw [List.map_map, List.map_map]; rfl
  rw [e2, ris_low _ (fun f hf => by obtain ⟨s, hs, rfl⟩ := List.mem_map.mp hf; exact (hp s hs).1), walk_low fun s hs => (hp s hs).1, walkL_eq fun s hs => (hp s hs).2]
  cases risingB (ps.map (·.2)) with
  | false => rfl
  | true =>
    simp only [if_true, true_and]
    cases walkS W ps <;> rfl
theorem run_walk {W : Wt} {ps : List Stp} {st : Std} (hp : ∀ s ∈ ps, 0 < s.2.2 ∧ 0 ≤ s.2.1) (h : walkL W ps = some st) : walkS W (ps.map lowS) = some (lowSt st) := by
  rw [walk_low fun s hs => (hp s hs).1]
  rw [walkL_eq fun s hs => (hp s hs).2] at h
  split at h
  · rw [h]; rfl
  · cases h
theorem last_low {ps : List Stp} (hp : ∀ s ∈ ps, 0 < s.2.2) : lastF (ps.map lowS) = low (lastF ps) := by
  unfold lastF
  rw [List.getLast?_map]
  cases ps.getLast? with
  | none => exact (by decide : ((0, 1) : Fr) = low (0, 1))
  | some s => rfl
theorem last_pos {ps : List Stp} (hp : ∀ s ∈ ps, 0 < s.2.2) : 0 < (lastF ps).2 := by
  unfold lastF
  cases h : ps.getLast? with
  | none => exact (by decide : (0 : Int) < 1)
  | some s => exact hp s (List.mem_of_getLast? h)
/-! ### odd things -/
theorem stpsO_none {n : Nat} {ds : List D} {d : D} (h : d ∈ ds) (hd : d.stp n = none) : stpsO n ds = none := by
  cases q : stpsO n ds with
  | none => rfl
  | some ss =>
    have z := stpsO_all (n := n) ds
    rw [q] at z
    have z := z.symm
    rw [show (some ss).isSome = true from rfl, List.all_eq_true] at z
    have z := z d h
    rw [hd] at z
    cases z
def Odd (n : Nat) (d : D) : Prop := d.isL = false ∨ stpsO n d.items = none
theorem odd_run {W : Wt} {d : D} (h : Odd W.arrs.length d) : runOf W d = none := by
  unfold runOf
  rcases h with h | h
  · rw [h]; rfl
  · rw [h]
    cases d.isL <;> rfl
theorem odd_lst {n : Nat} {ds : List D} {d : D} (h : d ∈ ds) (hd : d.stp n = none) : Odd n (.lst ds) := .inr (stpsO_none h hd)
theorem frac_stp {n : Nat} {i : Int} {f : Fr} (hi : ¬ (0 ≤ i ∧ i < n)) : D.stp n (.tup [.int i, fracD f]) = none := by
  show (match (fracD f).frac with | some f => if 0 ≤ f.1 ∧ 0 ≤ i ∧ i < n then some (i.toNat, f) else none | none => none) = none
  split
  · exact if_neg fun z => hi z.2
  · rfl
theorem odd_all {n : Nat} {ps : List Stp} : ∀ d ∈ oddsD n ps, Odd n d := by
  intro d hd
  unfold oddsD at hd
  rcases List.mem_append.mp hd with hd | hd
  · rcases List.mem_append.mp hd with hd | hd
    · rcases List.mem_append.mp hd with hd | hd
      · simp only [odd1, List.mem_cons, List.not_mem_nil, or_false] at hd
        rcases hd with rfl | rfl | rfl | rfl | rfl | rfl | rfl | rfl | rfl | rfl | rfl | rfl
        · exact .inl rfl
        · exact .inl rfl
        · exact .inl rfl
        · exact .inl rfl
        · exact .inl rfl
        · exact odd_lst (List.mem_cons_self ..) rfl
        · exact odd_lst (List.mem_cons_self ..) rfl
        · exact odd_lst (List.mem_cons_self ..) rfl
        · exact odd_lst (List.mem_cons_self ..) rfl
        · exact odd_lst (List.mem_cons_self ..) rfl
        · exact odd_lst (List.mem_cons_self ..) rfl
        · exact odd_lst (List.mem_cons_self ..) rfl
      · obtain ⟨o, ho, rfl⟩ := List.mem_map.mp hd
        refine odd_lst (List.mem_append_right _ (List.mem_cons_self ..)) ?_
        simp only [odd2, List.mem_cons, List.not_mem_nil, or_false] at ho
        rcases ho with rfl | rfl | rfl | rfl | rfl | rfl | rfl | rfl
        · rfl
        · rfl
        · rfl
        · rfl
        · exact frac_stp (by omega)
        · exact frac_stp (by omega)
        · rfl
        · rfl
    · obtain ⟨o, ho, rfl⟩ := List.mem_map.mp hd
      refine odd_lst (List.mem_cons_self ..) ?_
      simp only [odd3, List.mem_cons, List.not_mem_nil, or_false] at ho
      rcases ho with rfl | rfl | rfl | rfl | rfl | rfl | rfl | rfl | rfl | rfl | rfl | rfl | rfl | rfl
      · rfl
      · rfl
      · rfl
      · rfl
      · rfl
      · rfl
      · show (if (0 : Int) ≤ -1 ∧ (0 : Int) ≤ 0 ∧ (0 : Int) < n then some ((0 : Int).toNat, ((-1, 1) : Fr)) else none) = none
        exact if_neg fun z => absurd z.1 (by decide)
      · rfl
      · rfl
      · rfl
      · rfl
      · rfl
      · rfl
      · rfl
  · simp only [odd4, List.mem_cons, List.not_mem_nil, or_false] at hd
    rcases hd with rfl | rfl | rfl | rfl
    · exact odd_lst (List.mem_append_right _ (List.mem_cons_self ..)) (by rfl)
    · exact odd_lst (List.mem_append_right _ (List.mem_cons_self ..)) rfl
    · refine odd_lst (List.mem_cons_self ..) ?_
      show stpI n (ps.map stepD) = none
      match ps with
      | [] => rfl
      | [_] => rfl
      | _ :: _ :: _ :: _ => exact stpI_len (by simp)
      | [_, _] => rfl
    · exact .inr (stpsO_none (List.mem_cons_self ..) rfl)
end K25

/-! ## P2 -/
set_option Elab.async false
set_option linter.all false
set_option maxRecDepth 100000
set_option maxHeartbeats 4000000
/-! P2: what is handed; how long it is shown. -/
set_option exponentiation.threshold 100000
namespace K25
open PySem L2
/-! ### small things, shown -/
mutual
def D.sm : D → Prop
  | .int i => i.natAbs < 2 ^ 100
  | .lst ds => D.smA ds
  | .tup ds => D.smA ds
  | _ => False
def D.smA : List D → Prop
  | [] => True
  | d :: ds => d.sm ∧ D.smA ds
end
mutual
def D.cst : D → Nat
  | .lst ds => D.cstA ds + 10
  | .tup ds => D.cstA ds + 10
  | _ => 110
def D.cstA : List D → Nat
  | [] => 0
  | d :: ds => d.cst + 2 + D.cstA ds
end
theorem textFrom_le : ∀ (ts : List Str) (k : Nat) (acc : Str), (textFrom k acc ts).length ≤ acc.length + piled ts
  | [], k, acc => Nat.le_refl _
  | t :: ts, k, acc => by
    have ih := textFrom_le ts (k + 1) (acc ++ (if k > 0 then ", " else "" : String) ++ t)
    have e : (acc ++ (Str.ofString (if k > 0 then ", " else "" : String)) ++ t).length ≤ acc.length + 2 + t.length := by
      rw [Str.length_append, Str.length_append]
      have : (Str.ofString (if k > 0 then ", " else "" : String)).length ≤ 2 := by
        split <;> decide +kernel
      omega
    rw [piled_cons]
    exact Nat.le_trans ih (by
      have := Nat.add_le_add_right e (piled ts)
      refine Nat.le_trans this ?_
      omega)
theorem listText_le (ts : List Str) : (listText ts).length ≤ piled ts + 2 := by
  unfold listText
  rw [Str.length_append]
  have h := textFrom_le ts 0 "["
  have h1 : (Str.ofString "[").length = 1 := by decide +kernel
  have h2 : (Str.ofString "]").length = 1 := by decide +kernel
  rw [h1] at h
  rw [h2]
  omega
theorem tupleText_le (ts : List Str) : (tupleText ts).length ≤ piled ts + 3 := by
  unfold tupleText
  rw [Str.length_append, Str.length_append]
  have h1 : (Str.ofString "(").length = 1 := by decide +kernel
  have h2 : (Str.ofString (if ts.length == 1 then ",)" else ")" : String)).length ≤ 2 := by
    split <;> decide +kernel
  have h3 : (Str.join ", " ts).length ≤ piled ts := by
    cases ts with
    | nil => exact (by decide +kernel : (Str.join ", " []).length ≤ 0)
    | cons t r =>
      have := join_length_add (t :: r) (by simp)
      omega
  rw [h1]
  omega
mutual
theorem shown_le : ∀ {d : D}, d.sm → d.py.shown.length ≤ d.cst
  | .int i, h => by
    show (Str.ofString (toString i)).length ≤ 110
    have q := int_text_length_le (a := i) (k := 101) (by decide) (by
      have h : i.natAbs < 2 ^ 100 := h
      by_cases z : i.natAbs = 0
      · rw [z]; decide
      · exact Nat.lt_of_lt_of_le ((Nat.log2_lt z).mpr h) (by decide))
    have e : (Str.ofString (toString i)).length = (toString i).length := by
      rw [ofString_length]
    omega
  | .lst ds, h => by
    show (listText (PyData.shownAll (D.pyA ds))).length ≤ D.cstA ds + 10
    have := listText_le (PyData.shownAll (D.pyA ds))
    have := shownA_le (ds := ds) h
    omega
  | .tup ds, h => by
    show (tupleText (PyData.shownAll (D.pyA ds))).length ≤ D.cstA ds + 10
    have := tupleText_le (PyData.shownAll (D.pyA ds))
    have := shownA_le (ds := ds) h
    omega
  | .non, h => h.elim
  | .bl _, h => h.elim
  | .str _, h => h.elim
  | .emp, h => h.elim
theorem shownA_le : ∀ {ds : List D}, D.smA ds → piled (PyData.shownAll (D.pyA ds)) ≤ D.cstA ds
  | [], _ => Nat.le_refl _
  | d :: ds, h => by
    show piled (PyData.shown d.py :: PyData.shownAll (D.pyA ds)) ≤ d.cst + 2 + D.cstA ds
    rw [piled_cons]
    have := shown_le h.1
    have := shownA_le h.2
    omega
end
mutual
theorem sm_fine : ∀ {d : D}, d.sm → d.fine
  | .int i, h => trivial
  | .lst ds, h => smA_fine (ds := ds) h
  | .tup ds, h => smA_fine (ds := ds) h
  | .non, h => h.elim
  | .bl _, h => h.elim
  | .str _, h => h.elim
  | .emp, h => h.elim
theorem smA_fine : ∀ {ds : List D}, D.smA ds → D.fineA ds
  | [], _ => trivial
  | d :: ds, h => ⟨sm_fine h.1, smA_fine h.2⟩
end
mutual
theorem sm_show : ∀ {d : D}, d.sm → PyData.showable d.py = true
  | .int i, h => decide_eq_true (by
      have h : i.natAbs < 2 ^ 100 := h
      by_cases z : i.natAbs = 0
      · rw [z]; decide
      · exact Nat.lt_of_lt_of_le ((Nat.log2_lt z).mpr h) (by decide))
  | .lst ds, h => smA_show (ds := ds) h
  | .tup ds, h => smA_show (ds := ds) h
  | .non, h => h.elim
  | .bl _, h => h.elim
  | .str _, h => h.elim
  | .emp, h => h.elim
theorem smA_show : ∀ {ds : List D}, D.smA ds → PyData.showableAll (D.pyA ds) = true
  | [], _ => rfl
  | d :: ds, h => by
    show (PyData.showable d.py && PyData.showableAll (D.pyA ds)) = true
    rw [sm_show h.1, smA_show h.2]
    rfl
end
mutual
theorem sm_nodict : ∀ {d : D}, d.sm → PyData.hasDict d.py = false
  | .int i, h => rfl
  | .lst ds, h => smA_nodict (ds := ds) h
  | .tup ds, h => smA_nodict (ds := ds) h
  | .non, h => h.elim
  | .bl _, h => h.elim
  | .str _, h => h.elim
  | .emp, h => h.elim
theorem smA_nodict : ∀ {ds : List D}, D.smA ds → PyData.hasDictAll (D.pyA ds) = false
  | [], _ => rfl
  | d :: ds, h => by
    show (PyData.hasDict d.py || PyData.hasDictAll (D.pyA ds)) = false
    rw [sm_nodict h.1, smA_nodict h.2]
    rfl
end
/-! ### what is handed for the run ps -/
def HandI (s : Stp) (d : D) : Prop := ∃ fd, WideD s.2 fd ∧ (d = .tup [.int (s.1 : Nat), fd] ∨ d = .lst [.int (s.1 : Nat), fd])
def HandD (ps : List Stp) (d : D) : Prop := ∃ ds, Paired HandI ps ds ∧ (d = .lst ds ∨ d = .tup ds)
theorem wide_raw {f : Fr} {d : D} (h : WideD f d) (hf : 0 < f.2) : ∃ m : Int, (m = 1 ∨ m = 2) ∧ d.frac = some (f.1 * m, f.2 * m) := by
  obtain ⟨m, hm, h⟩ := h
  have h1 : 1 ≤ f.2 * m := by rcases hm with rfl | rfl <;> omega
  refine ⟨m, hm, ?_⟩
  rcases h with rfl | rfl
  · show (if 1 ≤ f.2 * m then some (f.1 * m, f.2 * m) else none) = _
    rw [if_pos h1]
  · show (if 1 ≤ f.2 * m then some (f.1 * m, f.2 * m) else none) = _
    rw [if_pos h1]
theorem hand_stp {n k : Nat} {s : Stp} {d : D} (h : HandI s d) (hn : s.1 < n) (hB : FrB k s.2) (h0 : 0 ≤ s.2.1) : ∃ s', d.stp n = some s' ∧ lowS s' = lowS s ∧ FrB (k + 2) s'.2 := by
  obtain ⟨fd, hw, hd⟩ := h
  obtain ⟨m, hm, hf⟩ := wide_raw hw hB.1
  have hm0 : 0 < m := by rcases hm with rfl | rfl <;> decide
  have hm2 : m.natAbs < 2 ^ 2 := by rcases hm with rfl | rfl <;> decide
  refine ⟨(s.1, (s.2.1 * m, s.2.2 * m)), ?_, ?_, ⟨Int.mul_pos hB.1 hm0, mul_lt_pow hB.2.1 hm2, mul_lt_pow hB.2.2 hm2⟩⟩
  · have e : D.stp n d = stpI n [.int (s.1 : Nat), fd] := by rcases hd with rfl | rfl <;> rfl
    rw [e]
    show (match fd.frac with | some f => if 0 ≤ f.1 ∧ (0 : Int) ≤ (s.1 : Nat) ∧ ((s.1 : Nat) : Int) < n then some (((s.1 : Nat) : Int).toNat, f) else none | none => none) = _
    rw [hf]
    have c : 0 ≤ s.2.1 * m ∧ (0 : Int) ≤ (s.1 : Nat) ∧ ((s.1 : Nat) : Int) < n := ⟨Int.mul_nonneg h0 (Int.le_of_lt hm0), by omega, by omega⟩
    show (if 0 ≤ s.2.1 * m ∧ (0 : Int) ≤ (s.1 : Nat) ∧ ((s.1 : Nat) : Int) < n then some (((s.1 : Nat) : Int).toNat, (s.2.1 * m, s.2.2 * m)) else none) = _
    rw [if_pos c, Int.toNat_natCast]
  · show (s.1, lowF (s.2.1 * m) (s.2.2 * m)) = (s.1, lowF s.2.1 s.2.2)
    rw [Int.mul_comm s.2.1 m, Int.mul_comm s.2.2 m, lowF_mul hm0]
theorem hand_stps {n k : Nat} : ∀ {ps : List Stp} {ds : List D}, Paired HandI ps ds → (∀ s ∈ ps, s.1 < n ∧ FrB k s.2 ∧ 0 ≤ s.2.1) → ∃ ss, stpsO n ds = some ss ∧ ss.map lowS = ps.map lowS ∧ ∀ s ∈ ss, FrB (k + 2) s.2
  | _, _, .nil, _ => ⟨[], rfl, rfl, fun s hs => by simp at hs⟩
  | s :: ps, d :: ds, .cons r t, h => by
    obtain ⟨h1, h2, h3⟩ := h s (List.mem_cons_self ..)
    obtain ⟨s', q1, q2, q3⟩ := hand_stp r h1 h2 h3
    obtain ⟨ss, p1, p2, p3⟩ := hand_stps t fun z hz => h z (List.mem_cons_of_mem _ hz)
    refine ⟨s' :: ss, ?_, by rw [List.map_cons, List.map_cons, q2, p2], fun z hz => ?_⟩
    · unfold stpsO
      rw [q1, p1]
    · rcases List.mem_cons.mp hz with rfl | hz
      · exact q3
      · exact p3 z hz
theorem wide_sm {k : Nat} {f : Fr} {d : D} (h : WideD f d) (hB : FrB k f) (hk : k ≤ 90) : d.sm ∧ d.cst = 234 ∧ d.dep = 1 ∧ d.wid := by
  obtain ⟨m, hm, h⟩ := h
  have hm2 : m.natAbs < 2 ^ 2 := by rcases hm with rfl | rfl <;> decide
  have b1 : (f.1 * m).natAbs < 2 ^ 100 := Nat.lt_of_lt_of_le (mul_lt_pow hB.2.1 hm2) (Nat.pow_le_pow_right (by decide) (by omega))
  have b2 : (f.2 * m).natAbs < 2 ^ 100 := Nat.lt_of_lt_of_le (mul_lt_pow hB.2.2 hm2) (Nat.pow_le_pow_right (by decide) (by omega))
  rcases h with rfl | rfl
  · exact ⟨⟨b1, b2, trivial⟩, rfl, rfl, (by show 2 ≤ 1000; decide), trivial, trivial, trivial⟩
  · exact ⟨⟨b1, b2, trivial⟩, rfl, rfl, (by show 2 ≤ 1000; decide), trivial, trivial, trivial⟩
theorem hand_sm {k : Nat} {s : Stp} {d : D} (h : HandI s d) (hB : FrB k s.2) (hk : k ≤ 90) (hn : s.1 < 100) : d.sm ∧ d.cst ≤ 400 ∧ d.dep = 2 ∧ d.wid := by
  obtain ⟨fd, hw, hd⟩ := h
  obtain ⟨h1, h2, h3, h4⟩ := wide_sm hw hB hk
  have b : ((s.1 : Nat) : Int).natAbs < 2 ^ 100 := Nat.lt_of_lt_of_le (show s.1 < 128 by omega) (by decide)
  have c : 110 + 2 + (fd.cst + 2 + 0) + 10 ≤ 400 := by omega
  have e : max 0 (max fd.dep 0) + 1 = 2 := by rw [h3]; rfl
  rcases hd with rfl | rfl
  · exact ⟨⟨b, h1, trivial⟩, c, e, (by show 2 ≤ 1000; decide), trivial, h4, trivial⟩
  · exact ⟨⟨b, h1, trivial⟩, c, e, (by show 2 ≤ 1000; decide), trivial, h4, trivial⟩
theorem handA_sm {k : Nat} (hk : k ≤ 90) : ∀ {ps : List Stp} {ds : List D}, Paired HandI ps ds → (∀ s ∈ ps, s.1 < 100 ∧ FrB k s.2) → D.smA ds ∧ D.cstA ds ≤ 402 * ps.length ∧ D.depA ds ≤ 2 ∧ D.widA ds ∧ ds.length = ps.length
  | _, _, .nil, _ => ⟨trivial, Nat.le_refl _, Nat.zero_le _, trivial, rfl⟩
  | s :: ps, d :: ds, .cons r t, h => by
    obtain ⟨h1, h2⟩ := h s (List.mem_cons_self ..)
    obtain ⟨q1, q2, q3, q4⟩ := hand_sm r h2 hk h1
    obtain ⟨p1, p2, p3, p4, p5⟩ := handA_sm hk t fun z hz => h z (List.mem_cons_of_mem _ hz)
    refine ⟨⟨q1, p1⟩, ?_, ?_, ⟨q4, p4⟩, by simp [p5]⟩
    · show d.cst + 2 + D.cstA ds ≤ 402 * (ps.length + 1)
      omega
    · show max d.dep (D.depA ds) ≤ 2
      omega
theorem handD_sm {k : Nat} (hk : k ≤ 90) {ps : List Stp} {d : D} (h : HandD ps d) (hp : ∀ s ∈ ps, s.1 < 100 ∧ FrB k s.2) (hl : ps.length ≤ 100) : d.sm ∧ d.cst ≤ 50000 ∧ d.dep ≤ 3 ∧ d.wid ∧ d.isL = true ∧ d.items.length ≤ 100 := by
  obtain ⟨ds, h1, hd⟩ := h
  obtain ⟨p1, p2, p3, p4, p5⟩ := handA_sm hk h1 hp
  have c : D.cstA ds + 10 ≤ 50000 := by omega
  have e : D.depA ds + 1 ≤ 3 := by omega
  rcases hd with rfl | rfl
  · exact ⟨p1, c, e, ⟨by omega, p4⟩, rfl, by show ds.length ≤ 100; omega⟩
  · exact ⟨p1, c, e, ⟨by omega, p4⟩, rfl, by show ds.length ≤ 100; omega⟩
theorem HandD.items {ps : List Stp} {d : D} (h : HandD ps d) : Paired HandI ps d.items := by
  obtain ⟨ds, h1, rfl | rfl⟩ := h
  · exact h1
  · exact h1
theorem hand_self (s : Stp) : HandI s (stepD s) := ⟨fracD s.2, ⟨1, .inl rfl, .inl (by show D.tup _ = _; rw [Int.mul_one, Int.mul_one])⟩, .inl rfl⟩
theorem hand_run : ∀ (ps : List Stp), Paired HandI ps (ps.map stepD)
  | [] => .nil
  | s :: r => .cons (hand_self s) (hand_run r)
end K25

/-! ## P3 -/
set_option Elab.async false
set_option linter.all false
set_option maxRecDepth 100000
set_option maxHeartbeats 4000000
/-! P3: the odd runs: how deep, how wide. -/
set_option exponentiation.threshold 100000
namespace K25
open PySem L2
theorem depA_app : ∀ (a b : List D), D.depA (a ++ b) = max (D.depA a) (D.depA b)
  | [], b => by show D.depA b = max 0 (D.depA b); omega
  | d :: a, b => by show max d.dep (D.depA (a ++ b)) = max (max d.dep (D.depA a)) (D.depA b); rw [depA_app a b]; omega
theorem widA_app : ∀ {a b : List D}, D.widA a → D.widA b → D.widA (a ++ b)
  | [], _, _, h => h
  | _ :: _, _, h, g => ⟨h.1, widA_app h.2 g⟩
/-- what is asked of an odd run's size -/
structure OddOk (d : D) : Prop where
  dep : d.dep ≤ 4
  wid : d.wid
  len : d.items.length ≤ 1000
theorem two1000 : (2 : Nat) ≤ 1000 := by decide
theorem fracD_wid (f : Fr) : (fracD f).wid := ⟨by show 2 ≤ 1000; decide, trivial, trivial, trivial⟩
theorem stepD_wid (s : Stp) : (stepD s).wid := ⟨by show 2 ≤ 1000; decide, trivial, fracD_wid s.2, trivial⟩
theorem stepD_dep (s : Stp) : (stepD s).dep ≤ 2 := Nat.le_refl 2
theorem steps_dep (ps : List Stp) : D.depA (ps.map stepD) ≤ 2 := depA_map fun s _ => stepD_dep s
theorem steps_wid (ps : List Stp) : D.widA (ps.map stepD) := widA_map fun s _ => stepD_wid s
theorem odd2_ok {n : Nat} : ∀ o ∈ odd2 n, o.dep ≤ 2 ∧ o.wid := by
  intro o ho
  simp only [odd2, List.mem_cons, List.not_mem_nil, or_false] at ho
  rcases ho with rfl | rfl | rfl | rfl | rfl | rfl | rfl | rfl
  · exact ⟨Nat.zero_le _, trivial⟩
  · exact ⟨Nat.zero_le _, trivial⟩
  · exact ⟨Nat.zero_le _, trivial⟩
  · exact ⟨Nat.zero_le _, trivial⟩
  · exact ⟨Nat.zero_le _, trivial⟩
  · exact ⟨Nat.zero_le _, trivial⟩
  · exact ⟨by decide, by show 1 ≤ 1000; decide, trivial, trivial⟩
  · exact ⟨by decide, by show 2 ≤ 1000; decide, trivial, trivial, trivial⟩
theorem odd3_ok : ∀ o ∈ odd3, o.dep ≤ 2 ∧ o.wid := by
  intro o ho
  simp only [odd3, List.mem_cons, List.not_mem_nil, or_false] at ho
  rcases ho with rfl | rfl | rfl | rfl | rfl | rfl | rfl | rfl | rfl | rfl | rfl | rfl | rfl | rfl
  · exact ⟨Nat.zero_le _, trivial⟩
  · exact ⟨Nat.zero_le _, trivial⟩
  · exact ⟨Nat.zero_le _, trivial⟩
  · exact ⟨Nat.zero_le _, trivial⟩
  · exact ⟨by decide, by show 2 ≤ 1000; decide, trivial, trivial, trivial⟩
  · exact ⟨by decide, by show 2 ≤ 1000; decide, trivial, trivial, trivial⟩
  · exact ⟨by decide, by show 2 ≤ 1000; decide, trivial, trivial, trivial⟩
  · exact ⟨by decide, by show 1 ≤ 1000; decide, trivial, trivial⟩
  · exact ⟨by decide, by show 3 ≤ 1000; decide, trivial, trivial, trivial, trivial⟩
  · exact ⟨by decide, by show 2 ≤ 1000; decide, trivial, trivial, trivial⟩
  · exact ⟨by decide, by show 2 ≤ 1000; decide, trivial, trivial, trivial⟩
  · exact ⟨by decide, by show 2 ≤ 1000; decide, trivial, trivial, trivial⟩
  · exact ⟨by decide, by show 2 ≤ 1000; decide, ⟨by show 1 ≤ 1000; decide, trivial, trivial⟩, trivial, trivial⟩
  · exact ⟨Nat.zero_le _, trivial⟩
theorem odd1_ok : ∀ o ∈ odd1, OddOk o := by
  intro o ho
  simp only [odd1, List.mem_cons, List.not_mem_nil, or_false] at ho
  rcases ho with rfl | rfl | rfl | rfl | rfl | rfl | rfl | rfl | rfl | rfl | rfl | rfl
  · exact ⟨Nat.zero_le _, trivial, Nat.zero_le _⟩
  · exact ⟨Nat.zero_le _, trivial, Nat.zero_le _⟩
  · exact ⟨Nat.zero_le _, trivial, Nat.zero_le _⟩
  · exact ⟨Nat.zero_le _, trivial, Nat.zero_le _⟩
  · exact ⟨Nat.zero_le _, trivial, Nat.zero_le _⟩
  · exact ⟨by decide, ⟨by show 1 ≤ 1000; decide, trivial, trivial⟩, by show 1 ≤ 1000; decide⟩
  · exact ⟨by decide, ⟨by show 1 ≤ 1000; decide, ⟨by show 0 ≤ 1000; decide, trivial⟩, trivial⟩, by show 1 ≤ 1000; decide⟩
  · exact ⟨by decide, ⟨by show 1 ≤ 1000; decide, ⟨by show 1 ≤ 1000; decide, trivial, trivial⟩, trivial⟩, by show 1 ≤ 1000; decide⟩
  · exact ⟨by decide, ⟨by show 1 ≤ 1000; decide, trivial, trivial⟩, by show 1 ≤ 1000; decide⟩
  · exact ⟨by decide, ⟨by show 1 ≤ 1000; decide, trivial, trivial⟩, by show 1 ≤ 1000; decide⟩
  · exact ⟨by decide, ⟨by show 1 ≤ 1000; decide, trivial, trivial⟩, by show 1 ≤ 1000; decide⟩
  · exact ⟨by decide, ⟨by show 1 ≤ 1000; decide, ⟨by show 0 ≤ 1000; decide, trivial⟩, trivial⟩, by show 1 ≤ 1000; decide⟩
theorem snoc_ok {ps : List Stp} {e : D} (hl : ps.length ≤ 100) (h1 : e.dep ≤ 3) (h2 : e.wid) : OddOk (.lst (ps.map stepD ++ [e])) := by
  have q := steps_dep ps
  have l : (ps.map stepD ++ [e]).length ≤ 1000 := by
    rw [List.length_append, List.length_map]
    show _ + 1 ≤ 1000
    omega
  refine ⟨?_, ⟨l, widA_app (steps_wid ps) ⟨h2, trivial⟩⟩, l⟩
  show D.depA (ps.map stepD ++ [e]) + 1 ≤ 4
  rw [depA_app]
  have : D.depA [e] = max e.dep 0 := rfl
  omega
theorem cons_ok {ps : List Stp} {e : D} (hl : ps.length ≤ 100) (h1 : e.dep ≤ 3) (h2 : e.wid) : OddOk (.lst (e :: ps.map stepD)) := by
  have q := steps_dep ps
  have l : (e :: ps.map stepD).length ≤ 1000 := by
    rw [List.length_cons, List.length_map]
    omega
  refine ⟨?_, ⟨l, h2, steps_wid ps⟩, l⟩
  show max e.dep (D.depA (ps.map stepD)) + 1 ≤ 4
  omega
theorem pair_ok {a b : D} (ha : a.dep ≤ 2) (hb : b.dep ≤ 2) (wa : a.wid) (wb : b.wid) : (D.tup [a, b]).dep ≤ 3 ∧ (D.tup [a, b]).wid := by
  refine ⟨?_, by show 2 ≤ 1000; decide, wa, wb, trivial⟩
  show max a.dep (max b.dep 0) + 1 ≤ 3
  omega
theorem odd_ok {n : Nat} {ps : List Stp} (hl : ps.length ≤ 100) : ∀ d ∈ oddsD n ps, OddOk d := by
  intro d hd
  unfold oddsD at hd
  rcases List.mem_append.mp hd with hd | hd
  · rcases List.mem_append.mp hd with hd | hd
    · rcases List.mem_append.mp hd with hd | hd
      · exact odd1_ok d hd
      · obtain ⟨o, ho, rfl⟩ := List.mem_map.mp hd
        obtain ⟨h1, h2⟩ := odd2_ok o ho
        obtain ⟨q1, q2⟩ := pair_ok h1 (show (fracD (lastF ps)).dep ≤ 2 from by show 1 ≤ 2; decide) h2 (fracD_wid _)
        exact snoc_ok hl q1 q2
    · obtain ⟨o, ho, rfl⟩ := List.mem_map.mp hd
      obtain ⟨h1, h2⟩ := odd3_ok o ho
      obtain ⟨q1, q2⟩ := pair_ok (a := .int 0) (Nat.zero_le _) h1 trivial h2
      exact cons_ok hl q1 q2
  · simp only [odd4, List.mem_cons, List.not_mem_nil, or_false] at hd
    rcases hd with rfl | rfl | rfl | rfl
    · exact snoc_ok hl (by show 2 ≤ 3; decide) ⟨by show 3 ≤ 1000; decide, trivial, fracD_wid _, trivial, trivial⟩
    · exact snoc_ok hl (Nat.zero_le _) trivial
    · have q := steps_dep ps
      refine ⟨?_, ⟨by show 1 ≤ 1000; decide, ⟨by rw [List.length_map]; omega, steps_wid ps⟩, trivial⟩, by show 1 ≤ 1000; decide⟩
      show max (D.depA (ps.map stepD) + 1) 0 + 1 ≤ 4
      omega
    · exact ⟨by decide, ⟨by show 1 ≤ 1000; decide, trivial, trivial⟩, by show 1 ≤ 1000; decide⟩
theorem odd_b {n k : Nat} {d : D} (h : Odd n d) : ∀ ss, stpsO n d.items = some ss → ∀ s ∈ ss, FrB k s.2 := by
  intro ss e s hs
  rcases h with h | h
  · have z : d.items = [] := by
      cases d with
      | lst ds => cases h
      | tup ds => cases h
      | _ => rfl
    rw [z] at e
    have e : some [] = some ss := e
    cases e
    cases hs
  · rw [h] at e
    cases e
theorem run_dep {d : D} (h : d.dep ≤ 4) : (D.tup [.str "run", d]).dep ≤ 6 := by
  show max 0 (max d.dep 0) + 1 ≤ 6
  omega
theorem run_wid {d : D} (h : d.wid) : (D.tup [.str "run", d]).wid := ⟨by show 2 ≤ 1000; decide, trivial, h, trivial⟩
theorem runs_dep {d : D} (h : d.dep ≤ 4) : (D.lst [.tup [.str "run", d], .tup [.str "run", d]]).dep ≤ 6 := by
  show max (max 0 (max d.dep 0) + 1) (max (max 0 (max d.dep 0) + 1) 0) + 1 ≤ 6
  omega
theorem runs_wid {d : D} (h : d.wid) : (D.lst [.tup [.str "run", d], .tup [.str "run", d]]).wid := ⟨by show 2 ≤ 1000; decide, run_wid h, run_wid h, trivial⟩
end K25

/-! ## X1 -/
set_option Elab.async false
set_option linter.all false
set_option maxRecDepth 100000
set_option maxHeartbeats 8000000
/-! X1: what stands when tables grow; promises where no guard is held. -/
set_option exponentiation.threshold 100000
namespace K25
open PySem L2
open PySem.Spec PyProof.Rows
open LamX (CodeO Tabs TabS ExtN GivesTo tLam LamS lamCx lamEnv)
variable {P : Program} {w : World} {K : PySem.W.Frag} {mg : Str → Option Value} {base : Heap} {A : Ad}
section
variable {H H' : Hp} {a : Addr} {xs : List V}
theorem extL (e : ExtN H H') (h : SqL K H a xs) : SqL K H' a xs := by
  rcases h with (h | ⟨o, h⟩) | h
  · exact .inl (.inl (e _ _ h (fun _ z => by cases z)))
  · exact .inl (.inr ⟨o, e _ _ h (fun _ z => by cases z)⟩)
  · exact .inr h
theorem extT (e : ExtN H H') (h : SqT K H a xs) : SqT K H' a xs := by
  rcases h with (h | ⟨o, h⟩) | h
  · exact .inl (.inl (e _ _ h (fun _ z => by cases z)))
  · exact .inl (.inr ⟨o, e _ _ h (fun _ z => by cases z)⟩)
  · exact .inr h
theorem extK {kvs : List (Key × V)} (e : ExtN H H') (h : H a = some (.dK kvs)) : H' a = some (.dK kvs) := e _ _ h (fun _ z => by cases z)
end
section
variable {G G' : Hp}
mutual
theorem Rp.ext (e : ExtN G G') : ∀ (d : D) (v : V), Rp K G d v → Rp K G' d v
  | .non, _, h => h
  | .bl _, _, h => h
  | .int _, _, h => h
  | .str _, _, h => h
  | .lst ds, _, ⟨a, xs, h1, h2, h3⟩ => ⟨a, xs, h1, extL e h2, RpA.ext' e ds xs h3⟩
  | .tup ds, _, ⟨a, xs, h1, h2, h3⟩ => ⟨a, xs, h1, extT e h2, RpA.ext' e ds xs h3⟩
  | .emp, _, ⟨a, h1, h2⟩ => ⟨a, h1, extK e h2⟩
theorem RpA.ext' (e : ExtN G G') : ∀ (ds : List D) (xs : List V), RpA K G ds xs → RpA K G' ds xs
  | [], _, h => h
  | d :: ds, _, ⟨x, r, h1, h2, h3⟩ => ⟨x, r, h1, Rp.ext e d x h2, RpA.ext' e ds r h3⟩
end
theorem FrA.ext {v : V} {f : Fr} (h : FrA K G v f) (e : ExtN G G') : FrA K G' v f := by
  obtain ⟨a, h1, h2⟩ := h
  exact ⟨a, h1, extT e h2⟩
theorem LimA.ext {a : Addr} {l : Lim} (h : LimA K G a l) (e : ExtN G G') : LimA K G' a l := by
  obtain ⟨kvs, h1, h2⟩ := h
  exact ⟨kvs, extK e h1, Paired.imp (fun _ _ ⟨h1, a, h2, h3⟩ => ⟨h1, a, h2, extT e h3⟩) h2⟩
theorem LimsA.ext {a : Addr} {l : List (Str × Lim)} (h : LimsA K G a l) (e : ExtN G G') : LimsA K G' a l := by
  obtain ⟨kvs, h1, h2⟩ := h
  exact ⟨kvs, extK e h1, Paired.imp (fun _ _ ⟨h1, a, h2, h3, h4⟩ => ⟨h1, a, h2, h3, h4.ext e⟩) h2⟩
theorem ArgsA.ext {W : Wt} {c d a e : Addr} (h : ArgsA K G W c d a e) (s : ExtN G G') : ArgsA K G' W c d a e :=
  ⟨extL s h.c, h.d.ext s, Rp.ext s _ _ h.a, extL s h.e⟩
theorem LawW.ext {x : Addr} {W : Wt} (h : LawW K G x W) (s : ExtN G G') : LawW K G' x W := by
  obtain ⟨c, d, a, e, h1, h2⟩ := h
  exact ⟨c, d, a, e, extK s h1, h2.ext s⟩
theorem WatA.ext {CW x : Addr} {W : Wt} (h : WatA K CW G x W) (s : ExtN G G') : WatA K CW G' x W := by
  obtain ⟨dx, fs, h1, h, e, t, l, rfl, q1, q2, q3, q4⟩ := h
  exact ⟨dx, _, s _ _ h1 (fun _ z => by cases z), h, e, t, l, rfl, extT s q1, q2.ext s, Rp.ext s _ _ q3, extT s q4⟩
theorem StpV.ext {v : V} {z : Stp} (h : StpV K G v z) (e : ExtN G G') : StpV K G' v z := by
  obtain ⟨a, u, h1, h2, h3⟩ := h
  exact ⟨a, u, h1, extT e h2, h3.ext e⟩
theorem PairsM.ext {p : Addr} {ps : List Stp} (h : PairsM K G p ps) (e : ExtN G G') : PairsM K G' p ps := by
  obtain ⟨xs, h1, h2⟩ := h
  exact ⟨xs, e _ _ h1 (fun _ z => by cases z), Paired.imp (fun _ _ z => z.ext e) h2⟩
theorem PairsA.ext {p : Addr} {ps : List Stp} (h : PairsA K G p ps) (e : ExtN G G') : PairsA K G' p ps := by
  obtain ⟨xs, h1, h2⟩ := h
  exact ⟨xs, extL e h1, Paired.imp (fun _ _ (z : StpV K G _ _) => z.ext e) h2⟩
theorem BegA.ext {d : Addr} {l : List (Str × Fr)} (h : BegA K G d l) (e : ExtN G G') : BegA K G' d l := by
  obtain ⟨kvs, h1, h2⟩ := h
  exact ⟨kvs, extK e h1, Paired.imp (fun _ _ ⟨q1, q2⟩ => ⟨q1, q2.ext e⟩) h2⟩
theorem LawSt.ext {v : V} {st : Std} (h : LawSt K G v st) (e : ExtN G G') : LawSt K G' v st := by
  obtain ⟨a, b, h1, h2, h3⟩ := h
  exact ⟨a, b, h1, extT e h2, h3.ext e⟩
theorem PoolL.ext {p : Addr} {n : Nat} (h : PoolL G p n) (e : ExtN G G') : PoolL G' p n := by
  obtain ⟨a, b, c, h1, h2⟩ := h
  exact ⟨a, b, c, e _ _ h1 (fun _ z => by cases z), h2⟩
end
/-! ### without tables -/
def NT (G : Hp) : Prop := ∀ b ps, G b ≠ some (.tbl ps)
def noT (G : Hp) : Hp := fun b => match G b with
  | some (.tbl _) => none
  | o => o
theorem noT_nt (G : Hp) : NT (noT G) := fun b ps h => by
  unfold noT at h
  split at h
  · cases h
  · rename_i q
    exact q ps h
theorem noT_some {G : Hp} {b : Addr} {o : HO} (h : G b = some o) (n : ∀ ps, o ≠ .tbl ps) : noT G b = some o := by
  unfold noT
  rw [h]
  split
  · rename_i ps z
    exact absurd (Option.some.inj z) (n ps)
  · rfl
theorem noT_of {G : Hp} {b : Addr} {o : HO} (h : noT G b = some o) : G b = some o := by
  unfold noT at h
  split at h
  · cases h
  · exact h
theorem noT_none {G : Hp} {b : Addr} (h : G b = none) : noT G b = none := by
  unfold noT
  rw [h]
theorem noT_ext (G : Hp) : ExtN G (noT G) := fun _ _ h n => noT_some h n
theorem noT_same (G : Hp) : Same (noT G) G := fun _ _ h => noT_of h
theorem NT.same {G H H' : Hp} (n : NT G) (w : Same G H) (e : ExtN H H') : Same G H' := fun b o h => e b o (w _ _ h) fun ps z => n b ps (by rw [h, z])
theorem Same.ext {H H' : Hp} (e : Same H H') : ExtN H H' := ExtN.of e
/-- the tables stand when the pool at p is drawn from -/
theorem Tabs.nx {T : List (Addr × Str)} {G H G' H' : Hp} {p : Addr} {n : Nat} (t : Tabs T H) (hp : PoolL H p n) (nx : Nx (· = p) G H G' H') : Tabs T H' := fun q hq => by
  obtain ⟨a0, b0, c0, hpe, _⟩ := hp
  obtain ⟨ps, h1, h2, h3⟩ := t q hq
  have ne1 : q.1 ≠ p := fun z => by rw [z, hpe] at h1; cases h1
  refine ⟨ps, nx.h _ _ ne1 h1, h2, fun pos cv hc => ?_⟩
  obtain ⟨c, e1, e2⟩ := h3 pos cv hc
  have ne2 : c ≠ p := fun z => by
    rw [z, hpe] at e2
    have e3 : HO.lst [.int a0, .int b0, .int c0] = CodeO p q.2 := Option.some.inj e2
    unfold CodeO at e3
    cases e3
  exact ⟨c, e1, nx.h _ _ ne2 e2⟩
theorem Tabs.grow {T : List (Addr × Str)} {H H' : Hp} (t : Tabs T H) (e : Same H H') : Tabs T H' := LamX.Tabs.ext t e
/-! ### a promise that is kept where no guard is held -/
def DefG (P : Program) (w : World) (K : PySem.W.Frag) (mg : Str → Option Value) (base : Heap) (k : Nat) (x : Str) (ps : List Str) (sp : Sp) : Prop :=
  ∃ f fd, mg x = some (.ref f) ∧ PySem.W.keepIn K (.ref f) = true ∧ Binds K fd ps [] ∧ (∀ vs H Q E, sp vs H Q E → vs.length = ps.length) ∧
    ∀ (A : Around) (outer : List Env) (s : Shared) (H : Hp) (args : Args) (us : List Value) (vs : List V) (Q : VK) (E : XK), Room k A → A.guards = some [] → Env0 P w K mg base A outer s H → BindsTo s fd args (ps.zip us) → Vals vs us → sp vs H Q E → codeAny (model P w) A (.call (.ref f) args) (CR CX0 outer P w H s Q E) s
/-- a def whose code object is known -/
def RawG (K : PySem.W.Frag) (mg : Str → Option Value) (x : Str) (st : Stmt) (ps : List Str) (c : Addr) : Prop :=
  ∃ f oc od kV doc pm an ct osl, mg x = some (.ref f) ∧ PySem.W.keepIn K (.ref f) = true ∧ K.lookup f = some ⟨oc, od, .func (PySem.W.fnOf x x (defArgs st) (defBody st) (defScope st) .none kV doc pm an (.ref c) ct), osl⟩ ∧ PySem.W.codeIn K (.ref c) x = true ∧
    Binds K (PySem.W.fnOf x x (defArgs st) (defBody st) (defScope st) .none kV doc pm an (.ref c) ct) ps []
theorem RawG.ok {x : Str} {st : Stmt} {N ps : List Str} {k : Nat} {sp : Sp} {c : Addr} (F : RawG K mg x st ps c) (S : FnScope N ps (defScope st)) (len : ∀ vs H Q E, sp vs H Q E → vs.length = ps.length)
    (hbody : ∀ (f : Addr) (A : Around) (outer : List Env) (s : Shared) (H : Hp) (vs : List V) (Q : VK) (E : XK), Room k (A.deeper (envOfC x (defScope st) s.heap.objs.size f (.ref c))) → A.guards = some [] → sp vs H Q E →
      ∃ t, PSs (cxOf CX0 P w K mg base N x (defScope st) f (.ref c) A outer s H E).nox (defBody st) t ∧ t { nx := fun _ H' => Q .non H', rt := Q } (start N vs) H) : DefG P w K mg base (k + 1) x ps sp := by
  obtain ⟨f, oc, od, kV, doc, pm, an, ct, osl, hm, hk, lk, hcd, hb⟩ := F
  refine ⟨f, _, hm, hk, hb, len, fun A outer s H args us vs Q E hr hg e0 b r hsp => ?_⟩
  refine LamX.run_ofS lk hcd S hr e0 b r (len _ _ _ _ hsp) fun hr' => ?_
  obtain ⟨t, ht, hq⟩ := hbody f A outer s H vs Q E hr' hg hsp
  exact ⟨t, ht.nox, hq⟩
section
variable {X : Cx} {k : Nat} {x : Str} {ps : List Str} {sp : Sp} {e : Expr} {es : List Expr} {t : TA} {p pos : Pos}
theorem pe_cdG (G : DefG X.prog X.w X.K X.mg X.base k x ps sp) (hr : Room k X.A) (hgd : X.A.guards = some []) (hg : Gl X x) (ha : PA X (e :: es) t) (hdb : (x == ("__debug__" : Str)) = false := by decide) (he : starEach (e :: es) X.env = (false, eval e X.env) :: starEach es X.env := by rfl) (hpl : (backTo pos (starEach es X.env)).any (·.1) = false := by rfl) :
    PE X (.Call (.Name x p) (e :: es) [] pos) (tCall sp [] E0 t) := by
  obtain ⟨f, fd, hm, hk, hb, len, F⟩ := G
  refine ⟨fun pins s σ H Q I h => ?_⟩
  refine wpAny_Call_Name_kw (ld_glob I hg hm ?_ hdb)
  refine PySem.W.callWith_K (h₀ := X.base) I.ok.mod.kin hk (thn (ha.run pos pins s σ H _ I h) fun us s1 ⟨vs, H1, I1, r, q⟩ => ⟨I1.kIn, ?_⟩) he hpl
  have q : sp (vs ++ []) H1 Q E0 := q
  rw [List.append_nil] at q
  have hl : us.length = ps.length := by rw [← r.length]; exact len _ _ _ _ q
  have b := hb s1 us I1.kIn (by rw [List.append_nil]; exact hl)
  rw [List.append_nil] at b
  refine wpAny_call (codeAny_mono (F X.A X.stack s1 H1 ⟨us, []⟩ us vs Q E0 hr hgd I1.env0 b r q) fun z s' hq => ?_)
  cases z with
  | error e => exact False.elim hq
  | ok fl =>
    cases fl with
    | ret u => exact I1.after hq
    | next => exact False.elim hq
    | brk => exact False.elim hq
    | cont => exact False.elim hq
end
end K25

/-! ## L13 -/
set_option Elab.async false
set_option linter.all false
set_option maxRecDepth 100000
set_option maxHeartbeats 8000000
/-! L13: right. -/
set_option exponentiation.threshold 100000
namespace K25
open PySem L2
open PySem.Spec PyProof.Rows
open LamX (CodeO Tabs TabS ExtN GivesTo tLam LamS lamCx lamEnv)
variable {P : Program} {w : World} {K : PySem.W.Frag} {mg : Str → Option Value} {base : Heap} {A : Ad}
/-- what a def must know to hand lambdas to met: its code object c, the table PT of its code objects -/
structure MetT (K : PySem.W.Frag) (mg : Str → Option Value) (base : Heap) (CB : Addr) (TT : List (Addr × Str)) (x : Str) (c PT : Addr) : Prop where
  F : FunG K mg "_law_met" s_l_met P_l_met
  g : mg "BadRun" = some (.ref CB)
  xf : XfC K CB
  no : PySem.W.findIn K (.ref CB) "thing" = some none
  TB : LamX.TabB base mg c PT
  mT : (PT, (x ++ ".<locals>.") ++ "<lambda>") ∈ TT
  u : ∀ p ∈ TT, p.1 = PT → p.2 = (x ++ ".<locals>.") ++ "<lambda>"
theorem pe_met {X : Cx} {TT : List (Addr × Str)} {c PT CB : Addr} {x : Str} {k : Nat} {params : Arguments} {body : Expr} {scope : Scope} {t : XK → TE} {p lpos pos : Pos} (M : MetT X.K X.mg X.base CB TT x c PT) (hr : Room (k + 2) X.A) (hg : Gl X "_law_met")
    (hbody : ∀ (A : Around) (outer : List Env) (s : Shared) (H : Hp) (E : XK) (f c' : Addr), Room k (A.deeper (lamEnv X scope s.heap.objs.size f c')) → PE (lamCx X A outer s H E scope f c') body (t E))
    (hq : X.env.qual = x ++ ".<locals>." := by rfl) (hcode : X.env.code = .ref c := by rfl) (L : LamS X.env.scope scope := by exact LamX.lamS_by (by decide +kernel)) (hdef : defaultsOf params X.env = ([], []) := by rfl)
    (hbind : ∀ (q : Str) (cl : List (Str × Addr)) (pm cv ctv : Value), bindArgs (PySem.W.kla_fn "<lambda>" q params body scope cl pm cv ctv) ⟨[], []⟩ = pure [] := by intros; rfl) :
    PE X (.Call (.Name "_law_met" p) [.Lambda params body scope lpos] [] pos) (tLam TT (TMet X.K CB) t) := by
  obtain ⟨f, fd, hm, F, hb⟩ := M.F
  obtain ⟨oc, od, kV, doc, pm, an, cdv, ct, osl, rfl, lk, hcd⟩ := F.ex
  refine LamX.pe_lamcall (Ng := N_l_met) (a := "_law_ask") hg hm F.kp lk hcd hb sc_l_met rfl (Or.inl rfl) (met_gives M.g M.xf M.no) M.TB hcode (by rw [hq]; exact M.mT) (by rw [hq]; exact M.u) hr L hdef hbind hbody
theorem tgrow {TT : List (Addr × Str)} {H H' : Hp} (t : Tabs TT H) (e : Same H H') : Tabs TT H' := LamX.Tabs.ext t e
/-! ### the state of right -/
theorem RunP.ext {CW : Addr} {H H' : Hp} {x : Addr} {v : V} {d : D} {W : Wt} {k : Nat} (h : RunP K CW H x v d W k) (e : ExtN H H') : RunP K CW H' x v d W k := ⟨h.wa.ext e, h.ok, Rp.ext e _ _ h.rd, h.len, h.b, h.k1, h.k2⟩
theorem OSigV.ext {G G' : Hp} {v : V} {z : OSig} (h : OSigV K G v z) (e : ExtN G G') : OSigV K G' v z := by
  obtain ⟨a, u, w, h1, h2, h3, h4⟩ := h
  exact ⟨a, u, w, h1, extT e h2, Rp.ext e _ _ h3, h4.ext e⟩
/-- S stands still and holds no table; H0 the heap at the start, G0 what stood still then -/
structure TS (TT : List (Addr × Str)) (H0 G0 S H : Hp) : Prop where
  w : Same S H
  nt : NT S
  tb : Tabs TT H
  x : ExtN H0 H
  g : ExtN G0 S
section
variable {TT : List (Addr × Str)} {H0 G0 S H H' : Hp} {p : Addr} {o : HO}
theorem TS.grow (t : TS TT H0 G0 S H) (e : Same H H') : TS TT H0 G0 S H' := ⟨t.w.trans e, t.nt, tgrow t.tb e, t.x.trans (Same.ext e), t.g⟩
theorem TS.ext (t : TS TT H0 G0 S H) (e : ExtN H H') (tb : Tabs TT H') : TS TT H0 G0 S H' := ⟨t.nt.same t.w e, t.nt, tb, t.x.trans e, t.g⟩
theorem nt_upd (n : NT S) (ho : ∀ ps, o ≠ .tbl ps) : NT (upd S p o) := fun b ps h => by
  by_cases q : b = p
  · rw [q, upd_same] at h
    exact ho ps (Option.some.inj h)
  · rw [upd_ne q] at h
    exact n b ps h
theorem TS.new (t : TS TT H0 G0 S H) (hp : H p = none) (ho : ∀ ps, o ≠ .tbl ps) : TS TT H0 G0 (upd S p o) (upd H p o) :=
  ⟨t.w.both, nt_upd t.nt ho, tgrow t.tb (Same.new0 hp), t.x.trans (Same.ext (Same.new0 hp)), t.g.trans (Same.ext (Same.new0 (t.w.free hp)))⟩
theorem TS.at (t : TS TT H0 G0 S H) (hp : H p = some o) (hS : S p = none) (ho : ∀ ps, o ≠ .tbl ps) : TS TT H0 G0 (upd S p o) H :=
  ⟨t.w.at hp, nt_upd t.nt ho, t.tb, t.x, t.g.trans (Same.ext (Same.new0 hS))⟩
theorem TS.fresh (t : TS TT H0 G0 S H) (hp : H p = none) : ∀ o, H0 p = some o → (∀ ps, o ≠ .tbl ps) → False := fun o h n => by
  have q := t.x _ _ h n
  rw [hp] at q
  cases q
theorem TS.wr {xs : List V} (t : TS TT H0 G0 S H) (hS : S p = none) (fr : ∀ o, H0 p = some o → (∀ ps, o ≠ .tbl ps) → False) (hp : H p = some (.lst xs)) : TS TT H0 G0 S (upd H p o) :=
  ⟨t.w.mut hS, t.nt, fun q hq => by
    obtain ⟨ps, h1, h2, h3⟩ := t.tb q hq
    have ne1 : q.1 ≠ p := fun z => by rw [z, hp] at h1; cases h1
    refine ⟨ps, by rw [upd_ne ne1]; exact h1, h2, fun pos cv hc => ?_⟩
    obtain ⟨c, e1, e2⟩ := h3 pos cv hc
    have ne2 : c ≠ p := fun z => by
      rw [z, hp] at e2
      have e3 : HO.lst xs = CodeO p q.2 := Option.some.inj e2
      unfold CodeO at e3
      cases e3
    exact ⟨c, e1, by rw [upd_ne ne2]; exact e2⟩,
  fun b u h n => by
    by_cases q : b = p
    · subst q
      exact (fr u h n).elim
    · rw [upd_ne q]
      exact t.x b u h n, t.g⟩
theorem TS.nx0 {G' : Hp} (t : TS TT H0 G0 S H) (n : Nx M0 S H G' H') : TS TT H0 G0 (noT G') H' :=
  ⟨(noT_same G').trans n.w, noT_nt G', tgrow t.tb n.same, t.x.trans (Same.ext n.same), (t.g.trans (Same.ext n.g)).trans (noT_ext G')⟩
end
theorem ntl {xs : List V} : ∀ ps, HO.lst xs ≠ .tbl ps := fun _ z => by cases z
theorem ntt {xs : List V} : ∀ ps, HO.tup xs ≠ .tbl ps := fun _ z => by cases z
/-- what is set, however it was made -/
theorem split_asg {e : TE} {g : TG} {u : L2.TS} {D : Ends} {σ : L2.St} {H1 : Hp} (R : V → Hp → Prop) (h : ∀ Qt : VK, (∀ v H2, R v H2 → Qt v H2) → e σ H1 Qt) (k : ∀ v H2, R v H2 → g v σ H2 fun σ' H' => u D σ' H') : tSeq (tAsg e g) u D σ H1 := h _ k
theorem assoc_eq {l : List (Str × Fr)} (nd : (l.map (·.1)).Nodup) : l = (l.map (·.1)).map fun c => (c, getF l c) := by
  apply List.ext_getElem
  · simp
  · intro i h1 h2
    rw [List.getElem_map, List.getElem_map]
    have q := look_nd nd (i := i) (c := (l[i]).1) (b := (l[i]).2) (by rw [List.getElem?_eq_getElem h1])
    show l[i] = ((l[i]).1, getF l (l[i]).1)
    unfold getF
    rw [q]
    rfl
theorem worths_clocks {l : List (Str × Fr)} {cs : List Str} (e : l.map (·.1) = cs) (nd : cs.Nodup) (t : Fr) : worthsF l t = cs.map fun c => (c, minusF t (getF l c)) := by
  subst e
  unfold worthsF
  conv => lhs; rw [assoc_eq nd]
  rw [List.map_map]
  rfl
def pairD (b : Str × Fr) : D := .tup [.str b.1, fracD b.2]
def osigD (z : OSig) : D := .tup [sigD z.1, fracD z.2]
theorem OSigV.rp {G : Hp} {v : V} {z : OSig} (h : OSigV K G v z) : Rp K G (osigD z) v := by
  obtain ⟨a, u, w, rfl, h2, h3, h4⟩ := h
  exact ⟨a, _, rfl, h2, RpA.cons h3 (RpA.cons h4.rp RpA.nil)⟩
theorem osigs_rp {G : Hp} : ∀ {xs : List V} {zs : List OSig}, Paired (OSigV K G) xs zs → RpA K G (zs.map osigD) xs
  | _, _, .nil => RpA.nil
  | _, _, .cons r t => RpA.cons r.rp (osigs_rp t)
theorem items_rp {H : Hp} : ∀ {ts : List Addr} {kvs : List (Key × V)} {bs : List (Str × Fr)}, Paired (fun (t : Addr) (q : Key × V) => H t = some (.tup [kV q.1, q.2])) ts kvs → KvF K H kvs bs → RpA K H (bs.map pairD) (ts.map V.ref)
  | _, _, _, .nil, .nil => RpA.nil
  | t :: ts, (k, v) :: kvs, b :: bs, .cons r t', .cons ⟨q1, q2⟩ q' => by
    simp only at q1 q2 r
    subst q1
    exact RpA.cons ⟨t, _, rfl, SqT.of r, RpA.cons rfl (RpA.cons q2.rp RpA.nil)⟩ (items_rp t' q')
def sp_l_right (K : PySem.W.Frag) (CW : Addr) (TT : List (Addr × Str)) : Sp := fun vs H Q _ => ∃ (y x pl : Addr) (hv : V) (W : Wt) (ps : List Stp) (d : D) (k : Nat) (G : Hp), vs = [.ref y, .ref x, .ref pl, hv] ∧ Same G H ∧ NT G ∧ WatA K CW G y W ∧ LawW K G x W ∧ WtOk W ∧ PairsA K G pl ps ∧ HandD ps d ∧ Rp K G d hv ∧
  (∀ s ∈ ps, StpOk W k s ∧ 0 ≤ s.2.1) ∧ 1 ≤ k ∧ k ≤ 80 ∧ ps.length ≤ 100 ∧ Tabs TT H ∧ ∀ H', ExtN H H' → Tabs TT H' → Q (.bl true) H'
theorem ok_l_right (T : Tx K mg A) {TT : List (Addr × Str)} {c PT : Addr} (R : RawG K mg "_law_right" s_l_right P_l_right c) (MT : MetT K mg base A.BadRun TT "_law_right" c PT) : DefG P w K mg base 13 "_law_right" P_l_right (sp_l_right K A.Watcher TT) := by
  refine R.ok sc_l_right (fun vs H Q E ⟨_, _, _, _, _, _, _, _, _, e, _⟩ => by rw [e]; rfl) (fun f AA outer s H vs Q E hr hgd h => ⟨_, (pss_cons (ps_asg (pe_tup (pa_cons (pe_cd (ok_l_walked T) (lv hr) rfl (pa_cons (pv 1) (pa_cons (pv 2) pa_nil))) (pa_cons (pe_callB (call_reprD hr hgd) rfl T.z_repr (by decide +kernel) (pa_cons (pv 3) pa_nil)) pa_nil))) (pg_tup rfl (pgs_cons (pg_name (i := 4) sc_l_right.nd rfl (Or.inr rfl)) (pgs_cons (pg_name (i := 5) sc_l_right.nd rfl (Or.inl rfl)) pgs_nil)))) (pss_cons (ps_if (pt_not (pt_val (pe_cd (ok_l_same T 6) (lv hr) rfl (pa_cons (pe_cd (ok_is_run T) (lv hr) rfl (pa_cons (pv 0) (pa_cons (pv 3) pa_nil))) (pa_cons (pe_cmpR op_notN (pv 4) pe_non (nomark _)) pa_nil))))) (pss_one (ps_ret pe_bl)) pss_nil) (pss_cons (ps_set (i := 6) sc_l_right.nd rfl (Or.inl rfl) (pe_lst (pa_cons (pe_met (k := 10) MT (lv hr) rfl (L := LamX.lamS_by (sc := defScope s_l_right) (by decide +kernel)) (t := fun E => tCallS (sp_ended K A.Watcher A.BadRun) (fun _ => E) (tCons (tVar 0) (tCons (tVar 3) tNil))) (fun _ _ _ _ E1 _ _ hr1 => pe_cdS (ok_ended T) (lv hr1) rfl (fun σ => passAt (W := fun cls d _ H => E1 cls d H) (takes_of rfl rfl rfl rfl) σ) (pa_cons (pv 0) (pa_cons (pv 3) pa_nil)))) pa_nil))) (pss_cons (ps_expr (pe_bm PySem.F.plainAttrs_list PySem.F.slot_list_append PySem.F.type_list_append mt_append (pv 6) (pa_cons (pe_met (k := 10) MT (lv hr) rfl (L := LamX.lamS_by (sc := defScope s_l_right) (by decide +kernel)) (t := fun E => tCallS (sp_worths K A.Watcher A.BadRun) (fun _ => E) (tCons (tVar 0) (tCons (tVar 3) tNil))) (fun _ _ _ _ E1 _ _ hr1 => pe_cdS (ok_worths T) (lv hr1) rfl (fun σ => passAt (W := fun cls d _ H => E1 cls d H) (takes_of rfl rfl rfl rfl) σ) (pa_cons (pv 0) (pa_cons (pv 3) pa_nil)))) pa_nil))) (pss_cons (ps_expr (pe_bm PySem.F.plainAttrs_list PySem.F.slot_list_append PySem.F.type_list_append mt_append (pv 6) (pa_cons (pe_met (k := 10) MT (lv hr) rfl (L := LamX.lamS_by (sc := defScope s_l_right) (by decide +kernel)) (t := fun E => tCallS (sp_heard K A.Watcher A.BadRun) (fun _ => E) (tCons (tVar 0) (tCons (tVar 3) tNil))) (fun _ _ _ _ E1 _ _ hr1 => pe_cdS (ok_heard T) (lv hr1) rfl (fun σ => passAt (W := fun cls d _ H => E1 cls d H) (takes_of rfl rfl rfl rfl) σ) (pa_cons (pv 0) (pa_cons (pv 3) pa_nil)))) pa_nil))) (pss_cons (ps_if (pt_cmpR op_ne (pe_callB (call_reprD hr hgd) rfl T.z_repr (by decide +kernel) (pa_cons (pv 3) pa_nil)) (pv 5) (nomark _)) (pss_one (ps_ret pe_bl)) pss_nil) (pss_cons (ps_if (pt_cmpR op_isN (pv 4) pe_non (nomark _)) (pss_one (ps_ret (pe_cmpR (op_eqD hr.units) (pv 6) (pe_op op_rep (pe_lst (pa_cons (pe_tup (pa_cons pe_str (pa_cons (pv 3) pa_nil))) pa_nil)) pe_int) (nomark _)))) pss_nil) (pss_cons (ps_asg (pe_tup (pa_cons (pe_ifExp (pt_cmpR (op_neE hr) (pv 2) (pe_lst pa_nil) (nomark _)) (pe_ix ix_tup (pe_ix ix_list (pv 2) (pe_un un_neg pe_int) (fun _ _ => rfl)) pe_int (fun _ _ => rfl)) (pe_tup (pa_cons pe_int (pa_cons pe_int pa_nil)))) (pa_cons (pe_ix ix_tup (pv 4) pe_int (fun _ _ => rfl)) pa_nil))) (pg_tup rfl (pgs_cons (pg_name (i := 7) sc_l_right.nd rfl (Or.inr rfl)) (pgs_cons (pg_name (i := 8) sc_l_right.nd rfl (Or.inl rfl)) pgs_nil)))) (pss_cons (ps_setLc (i := 9) rfl sc_l_right.nd rfl rfl (sw_true rfl rfl rfl (by decide +kernel)) (own := [("_law_clock", 12)]) (pi_list (pe_dget (hu_of hr) (pv 1) pe_str (fun _ _ => rfl))) (blkOk_by (own := [("_law_clock", 12)]) (N := N_l_right) (sc := defScope s_l_right) (by decide +kernel)) (fun _ _ _ _ _ => (pg_name (i := 12) sc_l_right.nd rfl (Or.inl rfl))) (fun _ _ _ _ _ => pts_nil) (fun _ _ _ _ _ => (pe_tup (pa_cons (pv 12) (pa_cons (pe_cd (ok_l_minus T) (lv hr) rfl (pa_cons (pv 7) (pa_cons (pe_dget (hu_of hr) (pe_ix ix_tupB (pv 4) pe_int (fun _ _ => rfl)) (pv 12) (fun _ _ => rfl)) pa_nil))) pa_nil))))) (pss_cons (ps_setLc (i := 10) rfl sc_l_right.nd rfl rfl (sw_true rfl rfl rfl (by decide +kernel)) (own := [("_law_number", 13), ("_law_time", 14)]) (pi_list (pv 2)) (blkOk_by (own := [("_law_number", 13), ("_law_time", 14)]) (N := N_l_right) (sc := defScope s_l_right) (by decide +kernel)) (fun _ _ _ _ _ => (pg_tupB (n := 2) rfl (pgs_cons (pg_name (i := 13) sc_l_right.nd rfl (Or.inl rfl)) (pgs_cons (pg_name (i := 14) sc_l_right.nd rfl (Or.inl rfl)) pgs_nil)))) (fun _ _ _ _ _ => pts_nil) (fun _ _ _ _ _ => (pe_tup (pa_cons (pe_ix ix_tupB (pe_ix ix_listB (pe_dget (hu_of hr) (pv 1) pe_str (fun _ _ => rfl)) (pv 13) (fun _ _ => rfl)) pe_int (fun _ _ => rfl)) (pa_cons (pe_cd (ok_l_lowest T) (lv hr) rfl (pa_cons (pe_ix ix_tupB (pv 14) pe_int (fun _ _ => rfl)) (pa_cons (pe_ix ix_tupB (pv 14) pe_int (fun _ _ => rfl)) pa_nil))) pa_nil))))) (pss_cons (ps_if (PW.pt (pw_or (pt_cmpR (op_neD hr.units) (pe_lc (own := [("_law_some", 15)]) rfl sc_l_right.nd (pi_list (pv 6)) (blkOk_by (own := [("_law_some", 15)]) (N := N_l_right) (sc := defScope s_l_right) (by decide +kernel)) (fun _ _ _ _ _ => (pg_name (i := 15) sc_l_right.nd rfl (Or.inl rfl))) (fun _ _ _ _ _ => pts_nil) (fun _ _ _ _ _ => (pe_ix ix_tupB (pv 15) pe_int (fun _ _ => rfl)))) (pe_op op_rep (pe_lst (pa_cons pe_str pa_nil)) pe_int) (nomark _)) (pw_or1 (pt_not (pt_val (pe_callB call_isi rfl T.z_isinstance (by decide +kernel) (pa_cons (pe_ix ix_tup (pe_ix ix_list (pv 6) pe_int (fun _ _ => rfl)) pe_int (fun _ _ => rfl)) (pa_cons (pe_bltn (v := .ty "dict") rfl T.z_dict (by decide +kernel) rfl) pa_nil)))))))) (pss_one (ps_ret pe_bl)) pss_nil) (pss_cons (ps_set (i := 11) sc_l_right.nd rfl (Or.inl rfl) (pe_lst (pa_cons (pe_ix ix_tup (pe_ix ix_list (pv 6) pe_int (fun _ _ => rfl)) pe_int (fun _ _ => rfl)) (pa_cons (LiI.pe_listItems rfl (pe_ix ix_tup (pe_ix ix_list (pv 6) pe_int (fun _ _ => rfl)) pe_int (fun _ _ => rfl)) rfl T.z_list (by decide +kernel)) (pa_cons (pe_ix ix_tup (pe_ix ix_list (pv 6) pe_int (fun _ _ => rfl)) pe_int (fun _ _ => rfl)) pa_nil))))) (pss_one (ps_ret (pe_cd (ok_l_same T 6) (lv hr) rfl (pa_cons (pv 11) (pa_cons (pe_lst (pa_cons (pv 8) (pa_cons (pv 9) (pa_cons (pe_lc (own := [("_law_pair", 16)]) rfl sc_l_right.nd (pi_list (pv 10)) (blkOk_by (own := [("_law_pair", 16)]) (N := N_l_right) (sc := defScope s_l_right) (by decide +kernel)) (fun _ _ _ _ _ => (pg_name (i := 16) sc_l_right.nd rfl (Or.inl rfl))) (fun _ _ _ _ _ => (pts_one (pt_cmpR op_notN (pe_ix ix_tupB (pv 16) pe_int (fun _ _ => rfl)) pe_non (nomark _)))) (fun _ _ _ _ _ => (pv 16))) pa_nil)))) pa_nil))))))))))))))))), ?_⟩)
  obtain ⟨y, x, pl, hv, W, ps, d, k, G, rfl, w0, nt, wa, lw, ok, pa, hd, rd, hps, hk1, hk, hlen, tb, kk⟩ := h
  have alen := ok.al
  have cl := ok.cl
  have hpos : ∀ s ∈ ps, 0 < s.2.2 ∧ 0 ≤ s.2.1 := fun s hs => ⟨(hps s hs).1.b.1, (hps s hs).2⟩
  obtain ⟨dsm, dcst, ddep, dwid, dL, dlen⟩ := handD_sm (k := k) (by omega) hd (fun s hs => ⟨by have := (hps s hs).1.n; omega, (hps s hs).1.b⟩) hlen
  obtain ⟨ss, hss, hsl, hsB⟩ := hand_stps (n := W.arrs.length) (k := k) hd.items fun s hs => ⟨(hps s hs).1.n, (hps s hs).1.b, (hps s hs).2⟩
  have hrun := run_eq dL hss hsl hpos
  have rpG : RunP K A.Watcher G y hv d W (k + 2) := ⟨wa, ok, rd, by omega, fun ss' e' => by rw [hss] at e'; cases e'; exact hsB, by omega, by omega⟩
  obtain ⟨ha, hxs, rfl, hsq, hrx⟩ := rd.seq dL
  have dfine := sm_fine dsm
  have hsh := sm_show dsm
  have hnd := sm_nodict dsm
  have hde : PyData.depth d.py + 1 ≤ 60 := by have := py_dep d; omega
  have hle : (PyData.shown d.py).length ≤ sizeLine := Nat.le_trans (Nat.le_trans (shown_le dsm) dcst) (by decide)
  have exm : PySem.W.exmOne K (.ref A.BadRun) (.ref A.BadRun) = some true := T.x_BadRun.2.2.2.1
  have t0 : TS TT H G G H := ⟨w0, nt, tb, ExtN.refl H, ExtN.refl G⟩
  have hdp : ∀ {S H' : Hp}, TS TT H G S H' → Dp K H' (.ref ha) d.py := fun {S H'} t => Rp.dp dfine ((Rp.ext t.g _ _ rd).mono t.w)
  -- the law's own walk, the shown thing
  refine ⟨_, rfl, _, rfl, x, pl, W, ps, k, G, rfl, w0, lw, ok, pa, fun s hs => ⟨(hps s hs).1.n, (hps s hs).1.b⟩, hk1, by omega, fun G1 H1 sv n1 ho => ?_⟩
  have t1 := t0.nx0 n1
  have ho1 : OptL K (noT G1) sv (walkL W ps) := by
    cases hw : walkL W ps with
    | none => rw [hw] at ho; exact ho
    | some st => rw [hw] at ho; exact LawSt.ext ho (noT_ext G1)
  generalize noT G1 = S1 at t1 ho1
  refine ⟨_, rfl, ha, d.py, rfl, hdp t1, hsh, hnd, hde, hle, s2, fun q hq => ⟨q, _, rfl, SqT.of upd_same, rfl, _, _, rfl, _, _, rfl, rfl, ?_⟩⟩
  have t2 := t1.grow (Same.new0 (o := .tup [sv, .str (PyData.shown d.py)]) hq)
  generalize upd H1 q (.tup [sv, .str (PyData.shown d.py)]) = H2 at t2 ⊢
  clear ho n1 hq t1
  -- is_run
  have rp2 := (rpG.ext t2.g).mono t2.w
  refine ⟨_, rfl, _, rfl, y, .ref ha, d, W, k + 2, rfl, rp2.wa, rp2.ok, rp2.rd, rp2.len, rp2.b, rp2.k1, rp2.k2, fun H3 e3 => ?_⟩
  have hsvn : (!decide (sv = V.non)) = (runOf W d).isSome := by
    rw [hrun]
    cases hw : walkL W ps with
    | none => rw [hw] at ho1; cases ho1; rfl
    | some st =>
      rw [hw] at ho1
      obtain ⟨sa, sb, rfl, _, _⟩ := ho1
      rfl
  refine ⟨_, rfl, rfl, .bl (runOf W d).isSome, _, .bl (runOf W d).isSome, rfl, rfl, by show V.bl _ = V.bl _; rw [hsvn], Nat.zero_le _, trivial, fun H4 e4 => ⟨_, rfl, iteF' rfl ?_⟩⟩
  have t4 := t2.grow (e3.trans e4)
  clear e3 e4 hsvn rp2 t2
  cases hw : walkL W ps with
  | none =>
    rw [hw] at ho1 hrun
    cases ho1
    have hrun : runOf W d = none := hrun
    have nols : ∀ {ls : List Stp} {α : Sort _}, runOf W d = some ls → α := fun h => by rw [hrun] at h; cases h
    -- three times no run
    refine ⟨t4.tb, fun H5 e5 tb5 => ?_⟩
    have t5 := t4.ext e5 tb5
    refine ⟨_, rfl, _, rfl, y, .ref ha, d, W, k + 2, S1, rfl, t5.w, rpG.ext t5.g, fun _ H6 d1 e6 hd1 => ?_, fun ls st hls => nols hls⟩
    refine ⟨exm, rfl, d1, _, .ref ha, rfl, upd_same, rfl, fun u1 hu1 => ⟨s1, fun fd hfd => ?_⟩⟩
    have t6 := (t5.grow (e6.new hd1)).new (o := .tup [.str "run", .ref ha]) hu1 ntt
    have r6 : Rp K (upd S1 u1 (.tup [.str "run", .ref ha])) (.tup [.str "run", d]) (.ref u1) := ⟨u1, _, rfl, SqT.of upd_same, RpA.cons rfl (RpA.cons (Rp.ext t6.g _ _ rd) RpA.nil)⟩
    generalize upd S1 u1 (.tup [.str "run", .ref ha]) = S6 at t6 r6
    have g6 := t6.w.free hfd
    have fr := t6.fresh hfd
    have t7 := t6.grow (Same.new0 (o := .lst [.ref u1]) hfd)
    have f7 : upd (upd (upd H6 d1 (.xd [("thing", .ref ha)])) u1 (.tup [.str "run", .ref ha])) fd (.lst [.ref u1]) fd = some (.lst [.ref u1]) := upd_same
    generalize upd (upd (upd H6 d1 (.xd [("thing", .ref ha)])) u1 (.tup [.str "run", .ref ha])) fd (.lst [.ref u1]) = H7 at t7 f7 ⊢
    clear t6 hfd hu1 hd1 e6
    refine ⟨_, rfl, .inl ⟨rfl, _, SqL.of f7⟩, t7.tb, fun H8 e8 tb8 => ?_⟩
    have t8 := t7.ext e8 tb8
    have f8 := e8 _ _ f7 ntl
    refine ⟨_, rfl, _, rfl, y, .ref ha, d, W, k + 2, S6, rfl, t8.w, rpG.ext t8.g, fun _ H9 d2 e9 hd2 => ?_, fun ls st hls => nols hls⟩
    refine ⟨exm, rfl, d2, _, .ref ha, rfl, upd_same, rfl, fun u2 hu2 => ?_⟩
    have n9 := (e9.new (o := .xd [("thing", .ref ha)]) hd2)
    have f9 := (n9.new (o := .tup [.str "run", .ref ha]) hu2) _ _ f8
    have t9 := (t8.grow n9).new (o := .tup [.str "run", .ref ha]) hu2 ntt
    have g9 : upd S6 u2 (.tup [.str "run", .ref ha]) fd = none := by rw [upd_ne (ne_of_none (n9 _ _ f8) hu2)]; exact g6
    have r9 : Rp K (upd S6 u2 (.tup [.str "run", .ref ha])) (.tup [.str "run", d]) (.ref u2) := ⟨u2, _, rfl, SqT.of upd_same, RpA.cons rfl (RpA.cons (Rp.ext t9.g _ _ rd) RpA.nil)⟩
    have r6 := r6.mono (Same.new0 (o := .tup [.str "run", .ref ha]) ((t8.grow n9).w.free hu2))
    refine ⟨fd, _, .ref u2, rfl, rfl, f9, szl (by show 1 < 100000; decide), ?_⟩
    have tA := t9.wr (o := .lst ([V.ref u1] ++ [.ref u2])) g9 fr f9
    generalize upd S6 u2 (.tup [.str "run", .ref ha]) = S9 at tA g9 r9 r6
    clear t9 t8 f8 n9 hu2 hd2 e9 f9
    have fA : ∀ {X : Hp}, upd X fd (.lst ([V.ref u1] ++ [.ref u2])) fd = some (.lst [.ref u1, .ref u2]) := upd_same
    refine ⟨_, rfl, .inl ⟨rfl, _, SqL.of fA⟩, tA.tb, fun HB eB tbB => ?_⟩
    have tB := tA.ext eB tbB
    have fB := eB _ _ fA ntl
    refine ⟨_, rfl, _, rfl, y, .ref ha, d, W, k + 2, S9, rfl, tB.w, rpG.ext tB.g, fun _ HC d3 eC hd3 => ?_, fun ls hls => nols hls⟩
    refine ⟨exm, rfl, d3, _, .ref ha, rfl, upd_same, rfl, fun u3 hu3 => ?_⟩
    have nC := (eC.new (o := .xd [("thing", .ref ha)]) hd3)
    have fC := (nC.new (o := .tup [.str "run", .ref ha]) hu3) _ _ fB
    have tC := (tB.grow nC).new (o := .tup [.str "run", .ref ha]) hu3 ntt
    have gC : upd S9 u3 (.tup [.str "run", .ref ha]) fd = none := by rw [upd_ne (ne_of_none (nC _ _ fB) hu3)]; exact g9
    have rC : Rp K (upd S9 u3 (.tup [.str "run", .ref ha])) (.tup [.str "run", d]) (.ref u3) := ⟨u3, _, rfl, SqT.of upd_same, RpA.cons rfl (RpA.cons (Rp.ext tC.g _ _ rd) RpA.nil)⟩
    have e9C := Same.new0 (o := .tup [.str "run", .ref ha]) ((tB.grow nC).w.free hu3)
    have r6 := r6.mono e9C
    have r9 := r9.mono e9C
    refine ⟨fd, _, .ref u3, rfl, rfl, fC, szl (by show 2 < 100000; decide), ?_⟩
    have tD := (tC.wr (o := .lst ([V.ref u1, .ref u2] ++ [.ref u3])) gC fr fC).at (upd_same) gC ntl
    have rD : Rp K (upd (upd S9 u3 (.tup [.str "run", .ref ha])) fd (.lst ([V.ref u1, .ref u2] ++ [.ref u3]))) (.lst [.tup [.str "run", d], .tup [.str "run", d], .tup [.str "run", d]]) (.ref fd) := by
      have e := Same.new0 (o := .lst ([V.ref u1, .ref u2] ++ [.ref u3])) gC
      exact ⟨fd, _, rfl, SqL.of upd_same, RpA.cons (r6.mono e) (RpA.cons (r9.mono e) (RpA.cons (rC.mono e) RpA.nil))⟩
    generalize upd (upd S9 u3 (.tup [.str "run", .ref ha])) fd (.lst ([V.ref u1, .ref u2] ++ [.ref u3])) = SD at tD rD
    generalize upd (upd (upd HC d3 (.xd [("thing", .ref ha)])) u3 (.tup [.str "run", .ref ha])) fd (.lst ([V.ref u1, .ref u2] ++ [.ref u3])) = HD at tD ⊢
    -- shown as before; held against three times no run
    refine ⟨_, rfl, ha, d.py, rfl, hdp tD, hsh, hnd, hde, hle, _, rfl, rfl, _, rfl, iteF' (by simp) ?_⟩
    refine ⟨_, rfl, rfl, _, rfl, iteT' rfl ?_⟩
    refine ⟨_, rfl, _, rfl, s2, fun u4 hu4 => ⟨s1, fun l4 hl4 => ⟨l4, 3, [.ref u4], rfl, rfl, upd_same, by decide, by decide, (by show 1 * 3 ≤ sizeLine; decide), fun r4 hr4 => ?_⟩⟩⟩
    have eE := ((Same.new0 (H := HD) (o := .tup [.str "run", .ref ha]) hu4).new (o := .lst [.ref u4]) hl4).new (o := .lst (List.replicate (3 : Int).toNat [V.ref u4]).flatten) hr4
    have tE := tD.grow eE
    have fine3 : (D.lst [.tup [.str "run", d], .tup [.str "run", d], .tup [.str "run", d]]).fine := by
      have so : PyData.strOk ("run" : Str) = true := by decide +kernel
      exact ⟨⟨so, dfine, trivial⟩, ⟨so, dfine, trivial⟩, ⟨so, dfine, trivial⟩, trivial⟩
    have dep3 : (D.lst [.tup [.str "run", d], .tup [.str "run", d], .tup [.str "run", d]]).dep ≤ 64 := by
      simp only [D.dep, D.depA]
      omega
    refine ⟨_, _, Rp.dp fine3 (rD.mono tE.w), Rp.dp fine3 (d := .lst [.tup [.str "run", d], .tup [.str "run", d], .tup [.str "run", d]]) ?_, py_shaped fine3 dep3, py_shaped fine3 dep3, ?_⟩
    · have q4 : Rp K (upd (upd (upd HD u4 (.tup [.str "run", .ref ha])) l4 (.lst [.ref u4])) _ (.lst (List.replicate (3 : Int).toNat [V.ref u4]).flatten)) (.tup [.str "run", d]) (.ref u4) :=
        ⟨u4, _, rfl, seqT ((Same.new0 (o := .lst [.ref u4]) hl4).new hr4) (SqT.of upd_same), RpA.cons rfl (RpA.cons ((Rp.ext tE.g _ _ rd).mono tE.w) RpA.nil)⟩
      exact ⟨_, _, rfl, SqL.of upd_same, RpA.cons q4 (RpA.cons q4 (RpA.cons q4 RpA.nil))⟩
    · rw [py_eqv fine3]
      exact kk _ tE.x tE.tb
  | some st =>
    have hL := ho1
    rw [hw] at hL hrun
    have hrun : runOf W d = some (ps.map lowS) := hrun
    have hst := run_walk hpos hw
    have hso : StOk W k st := by
      have q := walkL_eq (W := W) (ps := ps) fun s hs => (hps s hs).2
      rw [hw] at q
      split at q
      · exact walkS_ok hk1 ps (firstS W) (fun s hs => (hps s hs).1.b) (firstS_ok hk1) st q.symm
      · cases q
    have hpb : PosB st.2 := fun b hb => (hso.b b hb).1
    have hp2 : ∀ s ∈ ps, 0 < s.2.2 := fun s hs => (hpos s hs).1
    have lpB : FrB k (lastF ps) := by
      unfold lastF
      cases q : ps.getLast? with
      | none => exact zero_B hk1
      | some s => exact (hps s (List.mem_of_getLast? q)).1.b
    have nobad : ∀ {Hx : Hp} {v : V} {E' : XK}, runOf W d = none → BadE A.BadRun Hx v E' := fun h => by rw [hrun] at h; cases h
    -- where it ended
    refine ⟨t4.tb, fun H5 e5 tb5 => ?_⟩
    have t5 := t4.ext e5 tb5
    refine ⟨_, rfl, _, rfl, y, .ref ha, d, W, k + 2, S1, rfl, t5.w, rpG.ext t5.g, nobad, fun ls st' hls hst' G6 H6 n6 => ⟨s2, fun u1 hu1 => ⟨s1, fun fd hfd => ?_⟩⟩⟩
    rw [hrun] at hls
    cases hls
    rw [hst] at hst'
    cases hst'
    have t6a := t5.nx0 n6
    have t6 := t6a.new (o := .tup [.str "told", .str st.1]) hu1 ntt
    have x6 : ExtN S1 (upd (noT G6) u1 (.tup [.str "told", .str st.1])) := ((Same.ext n6.g).trans (noT_ext G6)).trans (Same.ext (Same.new0 (t6a.w.free hu1)))
    have hL := hL.ext x6
    have q1 : SqT K (upd (noT G6) u1 (.tup [.str "told", .str st.1])) u1 [.str "told", .str st.1] := SqT.of upd_same
    generalize upd (noT G6) u1 (.tup [.str "told", .str st.1]) = S6 at t6 hL q1
    have g6 := t6.w.free hfd
    have fr := t6.fresh hfd
    have t7 := t6.grow (Same.new0 (o := .lst [.ref u1]) hfd)
    have f7 : upd (upd H6 u1 (.tup [.str "told", .str (lowSt st).1])) fd (.lst [.ref u1]) fd = some (.lst [.ref u1]) := upd_same
    have t7 : TS TT H G S6 (upd (upd H6 u1 (.tup [.str "told", .str (lowSt st).1])) fd (.lst [.ref u1])) := t7
    generalize upd (upd H6 u1 (.tup [.str "told", .str (lowSt st).1])) fd (.lst [.ref u1]) = H7 at t7 f7 ⊢
    clear t6 t6a x6 hfd hu1 n6
    -- what the clocks were worth
    refine ⟨_, rfl, .inl ⟨rfl, _, SqL.of f7⟩, t7.tb, fun H8 e8 tb8 => ?_⟩
    have t8 := t7.ext e8 tb8
    have f8 := e8 _ _ f7 ntl
    refine ⟨_, rfl, _, rfl, y, .ref ha, d, W, k + 2, S6, rfl, t8.w, rpG.ext t8.g, nobad, fun ls st' hls hst' G9 H9 bp n9 hb => ⟨s2, fun u2 hu2 => ?_⟩⟩
    rw [hrun] at hls
    cases hls
    rw [hst] at hst'
    cases hst'
    have hb : BegA K G9 bp (worthsF st.2 (lastF ps)) := by
      rw [last_low hp2] at hb
      have hb : BegA K G9 bp (worthsF (lowB st.2) (low (lastF ps))) := hb
      rw [worths_low (last_pos hp2) hpb] at hb
      exact hb
    have f9a := n9.same _ _ f8
    have g9a : noT G9 fd = none := noT_none (n9.own fd g6 (by rw [f8]; simp))
    have t9a := t8.nx0 n9
    have t9 := t9a.new (o := .tup [.str "told", .ref bp]) hu2 ntt
    have nf2 := ne_of_none f9a hu2
    have x9 : ExtN S6 (upd (noT G9) u2 (.tup [.str "told", .ref bp])) := ((Same.ext n9.g).trans (noT_ext G9)).trans (Same.ext (Same.new0 (t9a.w.free hu2)))
    have hb := (hb.ext (noT_ext G9)).mono (Same.new0 (o := .tup [.str "told", .ref bp]) (t9a.w.free hu2))
    have hL := hL.ext x9
    have q1 := extT x9 q1
    have q2 : SqT K (upd (noT G9) u2 (.tup [.str "told", .ref bp])) u2 [.str "told", .ref bp] := SqT.of upd_same
    have g9 : upd (noT G9) u2 (.tup [.str "told", .ref bp]) fd = none := by rw [upd_ne nf2]; exact g9a
    have f9 : upd H9 u2 (.tup [.str "told", .ref bp]) fd = some (.lst [.ref u1]) := by rw [upd_ne nf2]; exact f9a
    refine ⟨fd, _, .ref u2, rfl, rfl, f9, szl (by show 1 < 100000; decide), ?_⟩
    have tA := t9.wr (o := .lst ([V.ref u1] ++ [.ref u2])) g9 fr f9
    generalize upd (noT G9) u2 (.tup [.str "told", .ref bp]) = S9 at tA g9 hb hL q1 q2
    clear t9 t9a t8 f8 f9a g9a x9 hu2 n9 f9
    have fA : ∀ {X : Hp}, upd X fd (.lst ([V.ref u1] ++ [.ref u2])) fd = some (.lst [.ref u1, .ref u2]) := upd_same
    -- what was heard
    refine ⟨_, rfl, .inl ⟨rfl, _, SqL.of fA⟩, tA.tb, fun HB eB tbB => ?_⟩
    have tB := tA.ext eB tbB
    have fB := eB _ _ fA ntl
    refine ⟨_, rfl, _, rfl, y, .ref ha, d, W, k + 2, S9, rfl, tB.w, rpG.ext tB.g, nobad, fun ls hls GC HC hp xs3 nC hL3 hP3 => ⟨s2, fun u3 hu3 => ?_⟩⟩
    rw [hrun] at hls
    cases hls
    have fCa := nC.same _ _ fB
    have gCa : noT GC fd = none := noT_none (nC.own fd g9 (by rw [fB]; simp))
    have tCa := tB.nx0 nC
    have tC := tCa.new (o := .tup [.str "told", .ref hp]) hu3 ntt
    have nf3 := ne_of_none fCa hu3
    have e3n := Same.new0 (o := .tup [.str "told", .ref hp]) (tCa.w.free hu3)
    have xC : ExtN S9 (upd (noT GC) u3 (.tup [.str "told", .ref hp])) := ((Same.ext nC.g).trans (noT_ext GC)).trans (Same.ext e3n)
    have xG : ExtN GC (upd (noT GC) u3 (.tup [.str "told", .ref hp])) := (noT_ext GC).trans (Same.ext e3n)
    have gC : upd (noT GC) u3 (.tup [.str "told", .ref hp]) fd = none := by rw [upd_ne nf3]; exact gCa
    have fC : upd HC u3 (.tup [.str "told", .ref hp]) fd = some (.lst [.ref u1, .ref u2]) := by rw [upd_ne nf3]; exact fCa
    have q3 : SqT K (upd (noT GC) u3 (.tup [.str "told", .ref hp])) u3 [.str "told", .ref hp] := SqT.of upd_same
    refine ⟨fd, _, .ref u3, rfl, rfl, fC, szl (by show 2 < 100000; decide), ?_⟩
    have eF := Same.new0 (o := .lst ([V.ref u1, .ref u2] ++ [.ref u3])) gC
    have tD := (tC.wr (o := .lst ([V.ref u1, .ref u2] ++ [.ref u3])) gC fr fC).at (upd_same) gC ntl
    have hb := (hb.ext xC).mono eF
    have hL := (hL.ext xC).mono eF
    have q1 := seqT eF (extT xC q1)
    have q2 := seqT eF (extT xC q2)
    have q3 := seqT eF q3
    have hL3 := eF.seq (extL xG hL3)
    have hP3 : Paired (OSigV K _) xs3 (heardF W (ps.map lowS)) := Paired.imp (fun _ _ z => (OSigV.ext z xG).mono eF) hP3
    have qf : SqL K (upd (upd (noT GC) u3 (.tup [.str "told", .ref hp])) fd (.lst ([V.ref u1, .ref u2] ++ [.ref u3]))) fd [.ref u1, .ref u2, .ref u3] := SqL.of upd_same
    generalize upd (upd (noT GC) u3 (.tup [.str "told", .ref hp])) fd (.lst ([V.ref u1, .ref u2] ++ [.ref u3])) = SD at tD hb hL q1 q2 q3 hL3 hP3 qf
    generalize upd (upd HC u3 (.tup [.str "told", .ref hp])) fd (.lst ([V.ref u1, .ref u2] ++ [.ref u3])) = HD at tD ⊢
    clear tC tCa tB fB fCa gCa gC fC nf3 e3n xC xG eF hu3 nC fA tA g9 fr t7 f7 t5 g6 nf2
    -- shown as before; a stand
    refine ⟨_, rfl, ha, d.py, rfl, hdp tD, hsh, hnd, hde, hle, _, rfl, rfl, _, rfl, iteF' (by simp) ?_⟩
    obtain ⟨sa, sb, rfl, gsa, gsb⟩ := hL
    refine ⟨_, rfl, rfl, _, rfl, iteF' rfl ?_⟩
    -- now, place
    have paD := pa.ext tD.g
    have lwD := lw.ext tD.g
    unfold tNext
    dsimp only
    refine split_asg (fun v H' => ∃ q u S', v = .ref q ∧ TS TT H G S' H' ∧ Same SD S' ∧ SqT K S' q [u, .str st.1] ∧ FrA K S' u (lastF ps)) (fun Qt hq => ?_) (fun v HE ⟨q, u, SE, ev, tE, eSE, qq, ru⟩ => ?_)
    · have fin : ∀ (u : V) (S' H' : Hp), TS TT H G S' H' → Same SD S' → FrA K S' u (lastF ps) → tCons (tOp (rIxT K) (tVar 4) (tC (.int 0))) tNil [some (.ref y), some (.ref x), some (.ref pl), some (.ref ha), some (.ref sa), some (.str (PyData.shown d.py)), some (.ref fd), none, none, none, none, none, none, none, none, none, none] H' (fun xs H2 => (u :: xs).length ≤ sizeLine ∧ ∀ p, H2 p = none → Qt (.ref p) (upd H2 p (.tup (u :: xs)))) := fun u S' H' t e r =>
        ⟨_, rfl, sa, _, 0, _, rfl, rfl, seqT (e.trans t.w) gsa, at0, s2, fun p hp => hq _ _ ⟨p, u, _, rfl, t.new (o := .tup [u, .str st.1]) hp ntt, e.trans (Same.new0 (t.w.free hp)), SqT.of upd_same, r.mono (Same.new0 (t.w.free hp))⟩⟩
      obtain ⟨xs, gxs, hxs'⟩ := paD
      refine ⟨_, rfl, s0, fun em hem => ?_⟩
      have tE := tD.new (o := .lst []) hem ntl
      have eE := Same.new0 (o := .lst []) (tD.w.free hem)
      refine ⟨pl, em, xs, rfl, rfl, tE.w.seq (eE.seq gxs), SqL.of upd_same, _, rfl, ?_⟩
      cases hc : ps.getLast? with
      | none =>
        have e0 : ps = [] := by simpa using hc
        subst e0
        cases hxs'
        refine iteF' rfl ⟨s2, fun t ht => ?_⟩
        have tF := tE.new (o := .tup [.int 0, .int 1]) ht ntt
        exact fin (.ref t) _ _ tF (eE.trans (Same.new0 (tE.w.free ht))) ⟨t, rfl, SqT.of upd_same⟩
      | some sl =>
        obtain ⟨l0, el⟩ := List.getLast?_eq_some_iff.mp hc
        rw [el] at hxs'
        obtain ⟨zs, z, rfl, w1, aa, uu, rfl, w2, w3⟩ := Paired.snocI hxs'
        refine iteT' (by simp) ⟨_, rfl, _, rfl, pl, _, -1, _, rfl, rfl, tE.w.seq (eE.seq gxs), atI_last _ _, aa, _, 1, _, rfl, rfl, seqT (eE.trans tE.w) w2, at1, ?_⟩
        have ef : lastF ps = sl.2 := by unfold lastF; rw [hc]; rfl
        exact fin uu _ _ tE eE (by rw [ef]; exact w3.mono eE)
    subst ev
    refine ⟨q, _, rfl, seqT tE.w qq, rfl, _, _, rfl, _, _, rfl, rfl, ?_⟩
    -- what is due of the clocks
    have pa0 := pa
    have lwE := lw.ext tE.g
    obtain ⟨wc, wd, wa', we, gx, ar⟩ := lwE
    have gsaE := seqT eSE gsa
    have gsbE := gsb.mono eSE
    refine ⟨_, rfl, x, _, rfl, dget (tE.w _ _ gx) (wK_c wc wd wa' we), wc, rfl, ⟨_, tE.w.seq ar.c⟩, fun D hD => ?_⟩
    refine lc_map (G := SE) (walk_list (xs := W.clocks.map V.str)) M0 (fun i acc G' H' => RpA K G' ((W.clocks.take i).map fun c => pairD (c, minusF (lastF ps) (getF st.2 c))) acc) tE.w hD (by rw [List.length_map]; omega) (fun z => z) RpA.nil (fun i acc G' H' nx _ => (nx.g.trans nx.w).seq ar.c) ?_ ?_
    · rintro i acc G' H2' z H3' Qc hi la nx hD2 gD hI ⟨rfl, hz⟩ qq'
      obtain ⟨cc, hcc, rfl⟩ := get_map hz
      have eg := nx.g.trans nx.w
      have hcm : cc ∈ st.2.map (·.1) := by rw [hso.c]; exact List.mem_of_getElem? hcc
      obtain ⟨v2, hg2, hf2⟩ := (gsbE.mono eg).look hcm
      refine ⟨rfl, _, rfl, _, rfl, _, rfl, sa, _, 1, _, rfl, rfl, seqT eg gsaE, at1, _, rfl, sb, _, rfl, hg2, u, v2, lastF ps, _, k, rfl, ru.mono eg, hf2, lpB, hso.b _ (getF_mem hcm), by omega, fun p1 hp1 => ⟨s2, fun p2 hp2' => ?_⟩⟩
      have m1 := Nx.new (M := M0) (o := tupF (minusF (lastF ps) (getF st.2 cc))) nx.w hp1
      have m2 := m1.trans (Nx.new (M := M0) (o := .tup [.str cc, .ref p1]) m1.w hp2')
      refine qq' _ _ _ m2 ?_
      rw [map_take_snoc hcc]
      exact RpA.snoc (hI.mono m2.g) ⟨p2, _, rfl, SqT.of upd_same, RpA.cons rfl (RpA.cons (((FrA.of (f := minusF (lastF ps) (getF st.2 cc)) upd_same).mono (Same.new0 (m1.w.free hp2'))).rp) RpA.nil)⟩
    intro acc1 GF HF nF la1 eF1 hD1 hI1
    rw [List.length_map, List.take_length] at hI1
    have tF := tE.nx0 nF
    have xF : ExtN SE (noT (upd GF D (.lst acc1))) := (Same.ext nF.g).trans (noT_ext _)
    have dF : Rp K (noT (upd GF D (.lst acc1))) (.lst (W.clocks.map fun c => pairD (c, minusF (lastF ps) (getF st.2 c)))) (.ref D) := Rp.ext (noT_ext _) _ _ ⟨D, acc1, rfl, SqL.of upd_same, hI1.mono eF1⟩
    have xDF := (Same.ext eSE).trans xF
    generalize noT (upd GF D (.lst acc1)) = SF at tF dF xF xDF
    clear hI1 eF1 hD1 nF hD gsaE gsbE gx ar
    -- the signals
    have lwF := lw.ext tF.g
    obtain ⟨wc, wd, wa, we, gx, ar⟩ := lwF
    obtain ⟨wa', wxs, ea, hwx, rwx⟩ := ar.a
    cases ea
    obtain ⟨xs, gxs, hxs'⟩ := pa.ext tF.g
    have lxs : xs.length = ps.length := Paired.len hxs'
    refine ⟨_, rfl, pl, rfl, ⟨_, tF.w.seq gxs⟩, fun D2 hD2 => ?_⟩
    refine lc_map (G := SF) (walk_list (xs := xs)) M0 (fun i acc G' H' => Paired (OSigV K G') acc ((ps.take i).map fun s => osigOf W (lowS s))) tF.w hD2 (by omega) (fun z => z) .nil (fun i acc G' H' nx _ => (nx.g.trans nx.w).seq gxs) ?_ ?_
    · rintro i acc G' H2' z H3' Qc hi la nx hD3 gD hI ⟨rfl, hz⟩ qq'
      obtain ⟨s, hs, aa, uu, rfl, r1, ⟨ua, rfl, r2⟩⟩ := Paired.get hxs' hz
      have hso' := (hps s (List.mem_of_getElem? hs)).1
      obtain ⟨a, ha'⟩ : ∃ a, W.arrs[s.1]? = some a := ⟨_, List.getElem?_eq_getElem hso'.n⟩
      obtain ⟨xi, hxi, rxi⟩ := rwx.get (i := s.1) (d := arrD a) (by rw [List.getElem?_map, ha']; rfl)
      obtain ⟨tr, trx, rfl, gtr, x0, r0, rfl, h0, x1, r1', rfl, h1, x2, r2', rfl, h2, x3, r3, rfl, h3, x4, r4, rfl, h4, rfl⟩ := rxi
      have eg := nx.g.trans nx.w
      refine ⟨aa, _, rfl, seqT eg r1, rfl, _, _, rfl, _, _, rfl, rfl, rfl, ?_⟩
      refine ⟨_, rfl, x, _, rfl, dget (eg _ _ gx) (wK_a wc wd wa we), _, rfl, wa, wxs, (s.1 : Int), _, rfl, rfl, eg.seq hwx, atI_nat hxi, tr, _, 1, _, rfl, rfl, seqT eg gtr, at51, _, rfl, ua, _, 0, _, rfl, rfl, seqT eg r2, at0, _, rfl, ua, _, 1, _, rfl, rfl, seqT eg r2, at1, s.2.1, s.2.2, k, rfl, hso'.b, by omega, fun p1 hp1 => ⟨s2, fun p2 hp2' => ?_⟩⟩
      have m1 := Nx.new (M := M0) (o := tupF (lowF s.2.1 s.2.2)) nx.w hp1
      have m2 := m1.trans (Nx.new (M := M0) (o := .tup [x1, .ref p1]) m1.w hp2')
      refine qq' _ _ _ m2 ?_
      rw [map_take_snoc hs]
      refine Paired.snoc (Paired.imp (fun _ _ h => OSigV.mono h m2.g) hI) ⟨p2, .ref p1, x1, rfl, SqT.of upd_same, ?_, (FrA.of (f := lowF s.2.1 s.2.2) upd_same).mono (Same.new0 (m1.w.free hp2'))⟩
      show Rp K _ (sigD ((W.arrs[s.1]?).bind Arr.sig)) x1
      rw [ha']
      exact h1.mono (nx.g.trans m2.g)
    intro acc2 GI HI nI la2 eI1 hDI hI2
    rw [lxs, List.take_length] at hI2
    have e2I : (ps.map fun s => osigOf W (lowS s)) = (ps.map lowS).map (osigOf W) := by rw [List.map_map]; rfl
    rw [e2I] at hI2
    have tI := tF.nx0 nI
    have xI : ExtN SF (noT (upd GI D2 (.lst acc2))) := (Same.ext nI.g).trans (noT_ext _)
    have sI : SqL K (noT (upd GI D2 (.lst acc2))) D2 acc2 := extL (noT_ext _) (SqL.of upd_same)
    have hI2 : Paired (OSigV K (noT (upd GI D2 (.lst acc2)))) acc2 ((ps.map lowS).map (osigOf W)) := Paired.imp (fun _ _ z => (OSigV.mono z eI1).ext (noT_ext _)) hI2
    have dI := Rp.ext xI _ _ dF
    have xDI := xDF.trans xI
    generalize noT (upd GI D2 (.lst acc2)) = SI at tI sI hI2 dI xI xDI
    clear eI1 hDI nI hD2 gx ar hwx rwx gxs hxs' dF xF tE
    have q1 := extT xDI q1
    have q2 := extT xDI q2
    have q3 := extT xDI q3
    have hb := hb.ext xDI
    have hL3 := extL xDI hL3
    have hP3 : Paired (OSigV K SI) xs3 (heardF W (ps.map lowS)) := Paired.imp (fun _ _ z => OSigV.ext z xDI) hP3
    have qf := extL xDI qf
    -- three times told
    refine ⟨_, rfl, fd, rfl, ⟨_, tI.w.seq qf⟩, fun D3 hD3 => ?_⟩
    refine lc_map (G := SI) (walk_list (xs := [V.ref u1, .ref u2, .ref u3])) M0 (fun i acc G' H' => acc = List.replicate i (V.str "told")) tI.w hD3 (by show 3 ≤ 100000; decide) (fun z => z) rfl (fun i acc G' H' nx _ => (nx.g.trans nx.w).seq qf) ?_ ?_
    · rintro i acc G' H2' z H3' Qc hi la nx hD4 gD rfl ⟨rfl, hz⟩ qq'
      have eg := nx.g.trans nx.w
      have hz' : ∃ a v, z = V.ref a ∧ SqT K SI a [.str "told", v] := by
        match i, hz with
        | 0, hz => cases hz; exact ⟨u1, _, rfl, q1⟩
        | 1, hz => cases hz; exact ⟨u2, _, rfl, q2⟩
        | 2, hz => cases hz; exact ⟨u3, _, rfl, q3⟩
        | i + 3, hz => simp at hz
      obtain ⟨a, v, rfl, hv⟩ := hz'
      refine ⟨rfl, _, rfl, a, _, 0, _, rfl, rfl, seqT eg hv, at0, qq' _ _ _ (Nx.refl nx.w) ?_⟩
      rw [List.replicate_succ']
    intro acc3 GJ HJ nJ la3 eJ1 hDJ hJ
    have hJ : acc3 = [V.str "told", .str "told", .str "told"] := hJ
    subst hJ
    have tJ := tI.nx0 nJ
    have xJ : ExtN SI (noT (upd GJ D3 (.lst [V.str "told", .str "told", .str "told"]))) := (Same.ext nJ.g).trans (noT_ext _)
    have dJ : Rp K (noT (upd GJ D3 (.lst [V.str "told", .str "told", .str "told"]))) (.lst [.str "told", .str "told", .str "told"]) (.ref D3) := ⟨D3, _, rfl, extL (noT_ext _) (SqL.of upd_same), RpA.cons rfl (RpA.cons rfl (RpA.cons rfl RpA.nil))⟩
    generalize noT (upd GJ D3 (.lst [V.str "told", .str "told", .str "told"])) = SJ at tJ xJ dJ
    clear nJ eJ1 hDJ hD3
    have fineT : (K25.D.lst [.str "told", .str "told", .str "told"]).fine := by
      have so : PyData.strOk ("told" : Str) = true := by decide +kernel
      exact ⟨so, so, so, trivial⟩
    have depT : (K25.D.lst [.str "told", .str "told", .str "told"]).dep ≤ 64 := by decide
    refine ⟨s1, fun l5 hl5 => ⟨l5, 3, [.str "told"], rfl, rfl, upd_same, by decide, by decide, (by show 1 * 3 ≤ sizeLine; decide), fun r5 hr5 => ?_⟩⟩
    have eK := (Same.new0 (H := HJ) (o := .lst [.str "told"]) hl5).new (o := .lst (List.replicate (3 : Int).toNat [V.str "told"]).flatten) hr5
    have tK := tJ.grow eK
    refine ⟨_, _, Rp.dp fineT (dJ.mono tK.w), Rp.dp fineT (d := .lst [.str "told", .str "told", .str "told"]) ⟨r5, _, rfl, SqL.of upd_same, RpA.cons rfl (RpA.cons rfl (RpA.cons rfl RpA.nil))⟩, py_shaped fineT depT, py_shaped fineT depT, ?_⟩
    rw [py_eqv fineT]
    refine ⟨_, rfl, iteF' rfl ?_⟩
    generalize upd (upd HJ l5 (.lst [.str "told"])) r5 (.lst (List.replicate (3 : Int).toNat [V.str "told"]).flatten) = HK at tK ⊢
    clear eK hl5 hr5 tJ
    have q1 := extT xJ q1
    have q2 := extT xJ q2
    have q3 := extT xJ q3
    have hb := hb.ext xJ
    have hL3 := extL xJ hL3
    have hP3 : Paired (OSigV K SJ) xs3 (heardF W (ps.map lowS)) := Paired.imp (fun _ _ z => OSigV.ext z xJ) hP3
    have qf := extL xJ qf
    have sI := extL xJ sI
    have hI2 : Paired (OSigV K SJ) acc2 ((ps.map lowS).map (osigOf W)) := Paired.imp (fun _ _ z => OSigV.ext z xJ) hI2
    have dI := Rp.ext xJ _ _ dI
    obtain ⟨bks, hbk, hbv⟩ := hb
    refine ⟨_, rfl, fd, _, 1, _, rfl, rfl, tK.w.seq qf, rfl, u2, _, 1, _, rfl, rfl, seqT tK.w q2, at1, _, _, _, _, _, rfl, .ty _, .base (.dK (tK.w _ _ hbk)), kit_ty (kb_dict .emp), _, rfl, iteF' rfl ?_⟩
    -- what was told
    refine ⟨_, rfl, fd, _, 0, _, rfl, rfl, tK.w.seq qf, rfl, u1, _, 1, _, rfl, rfl, seqT tK.w q1, at1, ?_⟩
    refine ⟨_, rfl, fd, _, 1, _, rfl, rfl, tK.w.seq qf, rfl, u2, _, 1, _, rfl, rfl, seqT tK.w q2, at1, bp, bks, rfl, tK.w _ _ hbk, fun HL lp ts eL hlp hts hpn hpl hpp => ?_⟩
    have eL : Same HK HL := eL
    have tL := tK.grow eL
    refine ⟨_, rfl, fd, _, 2, _, rfl, rfl, tL.w.seq qf, rfl, u3, _, 1, _, rfl, rfl, seqT tL.w q3, at1, s3, fun tl htl => ?_⟩
    have tM := tL.grow (Same.new0 (o := .lst [.str st.1, .ref lp, .ref hp]) htl)
    have eLM := Same.new0 (H := HL) (o := .lst [.str st.1, .ref lp, .ref hp]) htl
    have wcl := worths_clocks hso.c ok.cn (lastF ps)
    have toldR : Rp K (upd HL tl (.lst [.str st.1, .ref lp, .ref hp])) (.lst [.str st.1, .lst (W.clocks.map fun c => pairD (c, minusF (lastF ps) (getF st.2 c))), .lst ((heardF W (ps.map lowS)).map osigD)]) (.ref tl) := by
      refine ⟨tl, _, rfl, SqL.of upd_same, RpA.cons rfl (RpA.cons ⟨lp, _, rfl, eLM.seq (SqL.of hpl), ?_⟩ (RpA.cons ⟨hp, xs3, rfl, tM.w.seq hL3, (osigs_rp hP3).mono tM.w⟩ RpA.nil))⟩
      have q := items_rp hpp (hbv.mono tL.w)
      rw [wcl, List.map_map] at q
      exact q.mono eLM
    generalize upd HL tl (.lst [.str st.1, .ref lp, .ref hp]) = HM at tM toldR ⊢
    clear eLM tL hpp hpl hpn hts hlp eL htl
    -- held against what is due
    refine ⟨_, rfl, _, rfl, _, rfl, _, rfl, D2, rfl, ⟨_, tM.w.seq sI⟩, fun D4 hD4 => ?_⟩
    have la2' : acc2.length = ((ps.map lowS).map (osigOf W)).length := Paired.len hI2
    refine lc_it (walk_list (xs := acc2)) (fun i H' => ∃ out, Same HM H' ∧ H' D4 = some (.lst out) ∧ out.length ≤ i ∧ Paired (OSigV K SJ) out ((((ps.map lowS).map (osigOf W)).take i).filter fun z => z.1.isSome)) ⟨[], Same.new0 hD4, upd_same, Nat.le_refl _, .nil⟩ (fun i H' _ ⟨_, n4, _⟩ => (tM.w.trans n4).seq sI) ?_ ?_
    · rintro i z H3' H4' hi ⟨out, n4, hL4, lo, hO⟩ ⟨rfl, hz⟩
      obtain ⟨o, ho, ov⟩ := Paired.get hI2 hz
      have ov' := ov
      obtain ⟨a, uu, w0', rfl, r1, r2, r3⟩ := ov'
      refine ⟨rfl, _, rfl, a, _, 0, _, rfl, rfl, seqT (tM.w.trans n4) r1, at0, rfl, _, rfl, ?_⟩
      rw [sig_not r2, filter_take_snoc ho]
      rw [List.length_map, List.length_map] at la2'
      cases hs : o.1.isSome with
      | false => exact iteF' rfl ⟨out, n4, hL4, by omega, by simpa using hO⟩
      | true =>
        refine iteT' rfl ⟨_, rfl, out, hL4, szl (by omega), _, n4.mut hD4, upd_same, by simp; omega, ?_⟩
        rw [if_pos rfl]
        exact Paired.snoc hO ov
    rintro HN ⟨out, n4, hL4, lo, hO⟩
    rw [la2', List.take_length] at hO
    have tN := tM.grow n4
    refine ⟨s3, fun rl hrl => ?_⟩
    have eO := Same.new0 (H := HN) (o := .lst [.str st.1, .ref D, .ref D4]) hrl
    have tO := tN.grow eO
    refine ⟨.ref tl, .ref rl, .lst [.str st.1, .lst (W.clocks.map fun c => pairD (c, minusF (lastF ps) (getF st.2 c))), .lst ((heardF W (ps.map lowS)).map osigD)], rfl, (toldR.mono n4).mono eO, ?_, ?_, ?_, fun HP eP => kk _ (tO.grow eP).x (tO.grow eP).tb⟩
    · exact ⟨rl, _, rfl, SqL.of upd_same, RpA.cons rfl (RpA.cons (dI.mono tO.w) (RpA.cons ⟨D4, out, rfl, eO.seq (SqL.of hL4), (osigs_rp hO).mono tO.w⟩ RpA.nil))⟩
    · have d1 : K25.D.depA (W.clocks.map fun c => pairD (c, minusF (lastF ps) (getF st.2 c))) ≤ 2 := depA_map fun x _ => Nat.le_refl 2
      have d2 : K25.D.depA ((heardF W (ps.map lowS)).map osigD) ≤ 2 := depA_map fun z _ => by
        show max (sigD z.1).dep (max (fracD z.2).dep 0) + 1 ≤ 2
        have : (sigD z.1).dep = 0 := by cases z.1 <;> rfl
        rw [this]
        exact Nat.le_refl 2
      simp only [K25.D.dep, K25.D.depA]
      omega
    · have lh : (heardF W (ps.map lowS)).length ≤ 1000 := by
        unfold heardF
        refine Nat.le_trans (List.length_filter_le _ _) ?_
        rw [List.length_map, List.length_map]
        omega
      refine ⟨by show 3 ≤ 1000; decide, trivial, ⟨by rw [List.length_map]; omega, widA_map fun x _ => ⟨by show 2 ≤ 1000; decide, trivial, ⟨by show 2 ≤ 1000; decide, trivial, trivial, trivial⟩, trivial⟩⟩, ⟨by rw [List.length_map]; exact lh, widA_map fun z _ => ⟨by show 2 ≤ 1000; decide, by cases z.1 <;> trivial, ⟨by show 2 ≤ 1000; decide, trivial, trivial, trivial⟩, trivial⟩⟩, trivial⟩
end K25

/-! ## L14 -/
set_option Elab.async false
set_option linter.all false
set_option maxRecDepth 100000
set_option maxHeartbeats 8000000
/-! L14: the law. -/
set_option exponentiation.threshold 100000
namespace K25
open PySem L2
open PySem.Spec PyProof.Rows
open LamX (CodeO Tabs TabS ExtN GivesTo tLam LamS lamCx lamEnv)
variable {P : Program} {w : World} {K : PySem.W.Frag} {mg : Str → Option Value} {base : Heap} {A : Ad}
/-- the law's state in a turn: the pool at p, n draws at most; S stands still and holds no table -/
structure LS (TT : List (Addr × Str)) (p : Addr) (S H : Hp) (n : Nat) : Prop where
  ps : PS p S H n
  nt : NT S
  tb : Tabs TT H
section
variable {TT : List (Addr × Str)} {S H H' G' : Hp} {p q : Addr} {o : HO} {n m : Nat}
theorem LS.grow (t : LS TT p S H n) (e : Same H H') : LS TT p S H' n := ⟨⟨t.ps.w.trans e, t.ps.g, t.ps.pl.grow e⟩, t.nt, tgrow t.tb e⟩
theorem LS.ext (t : LS TT p S H n) (e : ExtN H H') (tb : Tabs TT H') : LS TT p S H' n := ⟨⟨t.nt.same t.ps.w e, t.ps.g, t.ps.pl.ext e⟩, t.nt, tb⟩
theorem LS.mono (t : LS TT p S H n) (l : n ≤ m) : LS TT p S H m := ⟨t.ps.mono l, t.nt, t.tb⟩
theorem LS.new (t : LS TT p S H n) (hq : H q = none) (ho : ∀ ps, o ≠ .tbl ps) : LS TT p (upd S q o) (upd H q o) n := ⟨t.ps.new hq, nt_upd t.nt ho, tgrow t.tb (Same.new0 hq)⟩
theorem LS.nx0 (t : LS TT p S H n) (x : Nx M0 S H G' H') : LS TT p (noT G') H' n := ⟨⟨(noT_same G').trans x.w, noT_none (x.own p t.ps.g t.ps.ne), t.ps.pl.grow x.same⟩, noT_nt G', tgrow t.tb x.same⟩
theorem LS.nxp (t : LS TT p S H n) (x : Nx (· = p) S H G' H') (h : PoolL H' p m) : LS TT p (noT G') H' m := ⟨⟨(noT_same G').trans x.w, noT_none (x.own p t.ps.g t.ps.ne), h⟩, noT_nt G', K25.Tabs.nx t.tb t.ps.pl x⟩
theorem nx_ext {M : Addr → Prop} (x : Nx M S H G' H') : ExtN S (noT G') := (Same.ext x.g).trans (noT_ext G')
end
def sp_law (K : PySem.W.Frag) (TT : List (Addr × Str)) : Sp := fun vs H Q _ => ∃ (a : Addr) (ns : List Int), vs = [.ref a] ∧ SqL K H a (ns.map V.int) ∧ Tabs TT H ∧ ∀ H', Q (.bl true) H'
theorem ok_law (T : Tx K mg A) {TT : List (Addr × Str)} {c PT c' PT' : Addr} (R' : RawG K mg "_law_right" s_l_right P_l_right c') (MT' : MetT K mg base A.BadRun TT "_law_right" c' PT') (R : RawG K mg "law" s_law P_law c) (MT : MetT K mg base A.BadRun TT "law" c PT) : DefG P w K mg base 14 "law" P_law (sp_law K TT) := by
  have IR := ok_l_right (P := P) (w := w) (base := base) T R' MT'
  refine R.ok sc_law (fun vs H Q E ⟨_, _, e, _⟩ => by rw [e]; rfl) (fun f AA outer s H vs Q E hr hgd h => ⟨_, (pss_cons (ps_for PassesOwn.never rfl (pi_range1 rfl T.z_range (pa_cons pe_int pa_nil)) (pg_name (i := 1) sc_law.nd rfl (Or.inl rfl)) (pss_cons (ps_set (i := 2) sc_law.nd rfl (Or.inr rfl) (pe_cd (ok_l_pool T) (lv hr) rfl (pa_cons (pe_op op_add (pe_cd (ok_l_cell T) (lv hr) rfl (pa_cons (pv 0) (pa_cons (pv 1) pa_nil))) (pv 1)) pa_nil))) (pss_cons (ps_set (i := 3) sc_law.nd rfl (Or.inl rfl) (pe_cd (ok_l_watcher T) (lv hr) rfl (pa_cons (pv 2) (pa_cons pe_int (pa_cons (pe_lst (pa_cons pe_str (pa_cons pe_str (pa_cons pe_non pa_nil)))) pa_nil))))) (pss_cons (ps_asg (pe_tup (pa_cons (pe_cd (ok_l_made T) (lv hr) rfl (pa_cons (pv 3) pa_nil)) (pa_cons (pe_cd (ok_l_drawn_run T) (lv hr) rfl (pa_cons (pv 2) (pa_cons (pv 3) (pa_cons pe_int pa_nil)))) pa_nil))) (pg_tup rfl (pgs_cons (pg_name (i := 9) sc_law.nd rfl (Or.inr rfl)) (pgs_cons (pg_name (i := 4) sc_law.nd rfl (Or.inl rfl)) pgs_nil)))) (pss_cons (ps_if (PW.pt (pw_or (pt_cmpR (op_neI (q := "x") (st := s_law) (ok_Watcher_eq T) T.o_Watcher (lv hr)) (pv 9) (pe_cd (ok_l_made T) (lv hr) rfl (pa_cons (pv 3) pa_nil)) (nomark _)) (pw_or1 (pt_not (pt_val (pe_cdG IR (lv hr) hgd rfl (pa_cons (pv 9) (pa_cons (pv 3) (pa_cons (pv 4) (pa_cons (pe_callTy call_list_of rfl T.z_list (by decide +kernel) (pa_cons (pv 4) pa_nil)) pa_nil)))))))))) (pss_one (ps_ret pe_bl)) pss_nil) (pss_cons (ps_for PassesOwn.never rfl (pi_range1 rfl T.z_range (pa_cons pe_int pa_nil)) (pg_name (i := 5) sc_law.nd rfl (Or.inl rfl)) (pss_cons (ps_set (i := 6) sc_law.nd rfl (Or.inl rfl) (pe_cd (ok_l_bent T) (lv hr) rfl (pa_cons (pv 2) (pa_cons (pv 3) (pa_cons (pv 4) pa_nil))))) (pss_cons (ps_set (i := 6) sc_law.nd rfl (Or.inl rfl) (pe_ifExp (pt_cmpR op_gt (pv 5) pe_int (nomark _)) (pe_cd (ok_l_bent T) (lv hr) rfl (pa_cons (pv 2) (pa_cons (pv 3) (pa_cons (pv 6) pa_nil)))) (pv 6))) (pss_one (ps_if (pt_val (pe_callB (cr_all rfl) rfl T.z_all (by decide +kernel) (pa_cons (pe_lc (own := [("_law_number", 11), ("_law_time", 12)]) rfl sc_law.nd (pi_list (pv 6)) (blkOk_by (own := [("_law_number", 11), ("_law_time", 12)]) (N := N_law) (sc := defScope s_law) (by decide +kernel)) (fun _ _ _ _ _ => (pg_tupB (n := 2) rfl (pgs_cons (pg_name (i := 11) sc_law.nd rfl (Or.inl rfl)) (pgs_cons (pg_name (i := 12) sc_law.nd rfl (Or.inl rfl)) pgs_nil)))) (fun _ _ _ _ _ => pts_nil) (fun _ _ _ _ _ => (pe_cmpR op_ge (pe_ix ix_tupB (pv 12) pe_int (fun _ _ => rfl)) pe_int (nomark _)))) pa_nil))) (pss_cons (ps_setLc (i := 7) rfl sc_law.nd rfl rfl (sw_true rfl rfl rfl (by decide +kernel)) (own := [("_law_number", 11), ("_law_time", 12)]) (pi_list (pv 6)) (blkOk_by (own := [("_law_number", 11), ("_law_time", 12)]) (N := N_law) (sc := defScope s_law) (by decide +kernel)) (fun _ _ _ _ _ => (pg_tupB (n := 2) rfl (pgs_cons (pg_name (i := 11) sc_law.nd rfl (Or.inl rfl)) (pgs_cons (pg_name (i := 12) sc_law.nd rfl (Or.inl rfl)) pgs_nil)))) (fun _ _ _ _ _ => pts_nil) (fun _ _ _ _ _ => (pe_cd (ok_l_one T) (lv hr) rfl (pa_cons (pv 2) (pa_cons (pe_lst (pa_cons (pe_tup (pa_cons (pv 11) (pa_cons (pe_cd (ok_l_wide T) (lv hr) rfl (pa_cons (pv 2) (pa_cons (pv 12) pa_nil))) pa_nil))) (pa_cons (pe_lst (pa_cons (pv 11) (pa_cons (pe_cd (ok_l_wide T) (lv hr) rfl (pa_cons (pv 2) (pa_cons (pv 12) pa_nil))) pa_nil))) pa_nil))) pa_nil))))) (pss_one (ps_if (pt_not (pt_val (pe_cdG IR (lv hr) hgd rfl (pa_cons (pv 9) (pa_cons (pv 3) (pa_cons (pv 6) (pa_cons (pe_cd (ok_l_one T) (lv hr) rfl (pa_cons (pv 2) (pa_cons (pe_lst (pa_cons (pv 7) (pa_cons (pe_callTy call_tuple_of rfl T.z_tuple (by decide +kernel) (pa_cons (pv 7) pa_nil)) pa_nil))) pa_nil))) pa_nil))))))) (pss_one (ps_ret pe_bl)) pss_nil))) pss_nil))))) (pss_cons (ps_for PassesOwn.never rfl (pi_list (pe_cd (ok_l_odd_runs T) (lv hr) rfl (pa_cons (pv 2) (pa_cons (pv 3) (pa_cons (pv 4) pa_nil))))) (pg_name (i := 10) sc_law.nd rfl (Or.inr rfl)) (pss_one (ps_if (PW.pt (pw_or (pt_cmpR op_notBl (pe_cd (ok_is_run T) (lv hr) rfl (pa_cons (pv 9) (pa_cons (pv 10) pa_nil))) pe_bl (nomark _)) (pw_or1 (pt_not (pt_val (pe_cd (ok_l_same T 6) (lv hr) rfl (pa_cons (pe_met (k := 10) MT (lv hr) rfl (L := LamX.lamS_by (sc := defScope s_law) (by decide +kernel)) (t := fun E => tCallS (sp_ended K A.Watcher A.BadRun) (fun _ => E) (tCons (tVar 9) (tCons (tVar 10) tNil))) (fun _ _ _ _ E1 _ _ hr1 => pe_cdS (ok_ended T) (lv hr1) rfl (fun σ => passAt (W := fun cls d _ H => E1 cls d H) (takes_of rfl rfl rfl rfl) σ) (pa_cons (pv 9) (pa_cons (pv 10) pa_nil)))) (pa_cons (pe_tup (pa_cons pe_str (pa_cons (pv 10) pa_nil))) pa_nil)))))))) (pss_one (ps_ret pe_bl)) pss_nil))) (pss_cons (ps_set (i := 10) sc_law.nd rfl (Or.inr rfl) (pe_cd (ok_l_one T) (lv hr) rfl (pa_cons (pv 2) (pa_cons (pe_cd (ok_l_odd_runs T) (lv hr) rfl (pa_cons (pv 2) (pa_cons (pv 3) (pa_cons (pv 4) pa_nil)))) pa_nil)))) (pss_cons (ps_set (i := 8) sc_law.nd rfl (Or.inl rfl) (pe_lst (pa_cons (pe_met (k := 10) MT (lv hr) rfl (L := LamX.lamS_by (sc := defScope s_law) (by decide +kernel)) (t := fun E => tCallS (sp_worths K A.Watcher A.BadRun) (fun _ => E) (tCons (tVar 9) (tCons (tVar 10) tNil))) (fun _ _ _ _ E1 _ _ hr1 => pe_cdS (ok_worths T) (lv hr1) rfl (fun σ => passAt (W := fun cls d _ H => E1 cls d H) (takes_of rfl rfl rfl rfl) σ) (pa_cons (pv 9) (pa_cons (pv 10) pa_nil)))) pa_nil))) (pss_cons (ps_expr (pe_bm PySem.F.plainAttrs_list PySem.F.slot_list_append PySem.F.type_list_append mt_append (pv 8) (pa_cons (pe_met (k := 10) MT (lv hr) rfl (L := LamX.lamS_by (sc := defScope s_law) (by decide +kernel)) (t := fun E => tCallS (sp_heard K A.Watcher A.BadRun) (fun _ => E) (tCons (tVar 9) (tCons (tVar 10) tNil))) (fun _ _ _ _ E1 _ _ hr1 => pe_cdS (ok_heard T) (lv hr1) rfl (fun σ => passAt (W := fun cls d _ H => E1 cls d H) (takes_of rfl rfl rfl rfl) σ) (pa_cons (pv 9) (pa_cons (pv 10) pa_nil)))) pa_nil))) (pss_one (ps_if (pt_not (pt_val (pe_cd (ok_l_same T 6) (lv hr) rfl (pa_cons (pv 8) (pa_cons (pe_op op_rep (pe_lst (pa_cons (pe_tup (pa_cons pe_str (pa_cons (pv 10) pa_nil))) pa_nil)) pe_int) pa_nil))))) (pss_one (ps_ret pe_bl)) pss_nil)))))))))))) (pss_one (ps_ret pe_bl))), ?_⟩)
  clear IR
  obtain ⟨a, ns, rfl, h0, tb0, kk⟩ := h
  have exm : PySem.W.exmOne K (.ref A.BadRun) (.ref A.BadRun) = some true := T.x_BadRun.2.2.2.1
  refine ⟨3, rfl, by decide, by decide, ?_⟩
  refine for_it (walk_range (lo := 0) (n := ((3 : Int)).toNat)) (fun i σ H' => SqL K H' a (ns.map V.int) ∧ Tabs TT H' ∧ ∃ v1 v2 v3 v4 v5 v6 v7 v8 v9 v10 v11 v12, σ = [some (.ref a), v1, v2, v3, v4, v5, v6, v7, v8, v9, v10, v11, v12]) ⟨h0, tb0, none, none, none, none, none, none, none, none, none, none, none, none, rfl⟩ (fun _ _ _ _ _ => trivial) ?_ ?_
  · rintro i x σ H1 H2 hi ⟨hs1, tb1, v1, v2, v3, v4, v5, v6, v7, v8, v9, v10, v11, v12, rfl⟩ ⟨rfl, rfl⟩
    show gName 1 (V.int (0 + (i : Int))) _ _ _
    rw [show (0 : Int) + (i : Int) = (i : Int) by omega]
    refine ⟨_, rfl, _, rfl, a, ns, i, rfl, hs1, fun z H3 e3 => ⟨_, rfl, _, _, rfl, rfl, _, rfl, fun p pa pb hp ha hb hb2 => ?_⟩⟩
    have t0 : LS TT p (noT H3) (upd H3 p (.lst [.int pa, .int pb, .int 0])) 0 := ⟨⟨(noT_same H3).trans (Same.new0 hp), noT_none hp, ⟨pa, pb, 0, upd_same, ha, hb, hb2, Int.le_refl _, Int.le_refl _⟩⟩, noT_nt _, tgrow (tgrow tb1 e3) (Same.new0 hp)⟩
    have s0 : SqL K (noT H3) a (ns.map V.int) := extL (noT_ext H3) (e3.seq hs1)
    generalize noT H3 = S0 at t0 s0
    generalize upd H3 p (.lst [.int pa, .int pb, .int 0]) = H4 at t0 ⊢
    clear hp hs1 tb1 e3
    -- the watcher
    refine ⟨_, rfl, s3, fun q hq => ?_⟩
    have t1 := t0.new (o := .lst [.str "s", .str "t", .non]) hq ntl
    have s1' := (Same.new0 (o := .lst [.str "s", .str "t", .non]) (t0.ps.w.free hq)).seq s0
    refine ⟨p, q, 0, _, rfl, SqL.of upd_same, t1.ps, by decide, fun W G5 H5 x ok n5 lw hp5 => ?_⟩
    have t5 := t1.nxp n5 hp5
    have lw := lw.ext (noT_ext G5)
    have s5 := extL (nx_ext n5) s1'
    generalize noT G5 = S5 at t5 lw s5
    clear n5 hp5 t1 s1' t0 s0 hq
    -- made, drawn
    refine ⟨_, rfl, x, W, S5, rfl, t5.ps.w, lw, ok, fun G6 H6 y n6 wa => ?_⟩
    have t6 := t5.nx0 n6
    have lw := lw.ext (nx_ext n6)
    have s6 := extL (nx_ext n6) s5
    have wa := wa.ext (noT_ext G6)
    generalize noT G6 = S6 at t6 lw s6 wa
    clear n6 t5 s5
    refine ⟨_, rfl, _, rfl, p, x, W, _, S6, rfl, lw, ok, t6.ps, by decide, fun ps G7 H7 L hps hlen n7 pL hp7 => ⟨s2, fun t ht => ⟨t, _, rfl, SqT.of upd_same, rfl, _, _, rfl, _, _, rfl, rfl, ?_⟩⟩⟩
    have t7 := t6.nxp n7 hp7
    have lw := lw.ext (nx_ext n7)
    have s7 := extL (nx_ext n7) s6
    have wa := wa.ext (nx_ext n7)
    have pL := pL.ext (noT_ext G7)
    have t7 := t7.grow (Same.new0 (o := .tup [.ref y, .ref L]) ht)
    generalize noT G7 = S7 at t7 lw s7 wa pL
    generalize upd H7 t (.tup [.ref y, .ref L]) = H8 at t7 ⊢
    clear n7 t6 s6 hp7 ht
    -- made twice the same
    refine ⟨_, rfl, _, rfl, x, W, S7, rfl, t7.ps.w, lw, ok, fun G9 H9 y2 n9 wa2 => ?_⟩
    have t9 := t7.nx0 n9
    have lw := lw.ext (nx_ext n9)
    have s9 := extL (nx_ext n9) s7
    have wa := wa.ext (nx_ext n9)
    have pL := pL.ext (nx_ext n9)
    have wa2 := wa2.ext (noT_ext G9)
    generalize noT G9 = S9 at t9 lw s9 wa pL wa2
    clear n9 t7 s7
    have wa' := wa.mono t9.ps.w
    have wa2' := wa2.mono t9.ps.w
    obtain ⟨dx, fs, i1, j1⟩ := id wa'
    obtain ⟨dy, gs, i2, j2⟩ := id wa2'
    refine ⟨y, y2, dx, dy, _, _, rfl, rfl, i1, i2, ⟨W, ok, wa', wa2'⟩, fun HA eA => ?_⟩
    have tA := t9.grow eA
    clear wa' wa2' i1 j1 i2 j2 wa2 t9 eA
    obtain ⟨xs0, gL0, hxs0⟩ := id pL
    refine ⟨_, rfl, iteF' rfl ⟨_, rfl, _, rfl, _, rfl, _, rfl, L, xs0, rfl, .inl (SqL.of (tA.ps.w _ _ gL0)), fun l hl => ?_⟩⟩
    have tB := tA.new (o := .lst xs0) hl ntl
    have eB := Same.new0 (o := .lst xs0) (tA.ps.w.free hl)
    have lwB := lw.mono eB
    refine ⟨y, x, L, .ref l, W, ps, .lst (ps.map stepD), 30, _, rfl, tB.ps.w, tB.nt, wa.mono eB, lwB, ok, (pL.mono eB).a, ⟨_, hand_run ps, .inl rfl⟩, ⟨l, xs0, rfl, SqL.of upd_same, (pairs_rp hxs0).mono eB⟩, hps, by decide, by decide, by omega, tB.tb, fun HC eC tbC => ⟨_, rfl, iteF' rfl ?_⟩⟩
    have tC := tB.ext eC tbC
    have lw := lw.mono eB
    have wa := wa.mono eB
    have pL := pL.mono eB
    have sC := eB.seq s9
    generalize upd S9 l (.lst xs0) = SC at tC lw wa pL sC
    clear tB eB lwB tA s9 eC tbC hl gL0 hxs0
    -- bent seven times
    refine ⟨7, rfl, by decide, by decide, ?_⟩
    refine for_it (walk_range (lo := 0) (n := ((7 : Int)).toNat)) (fun j σ H' => ∃ S, LS TT p S H' (600 + 1000 * j) ∧ ExtN SC S ∧ ∃ u1 u5 u6 u7 u8 u10 u11 u12, σ = [some (.ref a), u1, some (.ref p), some (.ref x), some (.ref L), u5, u6, u7, u8, some (.ref y), u10, u11, u12]) ⟨SC, tC.mono (by decide), ExtN.refl _, _, _, _, _, _, _, _, _, rfl⟩ (fun _ _ _ _ _ => trivial) ?_ ?_
    · rintro j z σ HD HD2 hj ⟨SD, tD, eD, u1, u5, u6, u7, u8, u10, u11, u12, rfl⟩ ⟨rfl, rfl⟩
      show gName 5 (V.int (0 + (j : Int))) _ _ _
      rw [show (0 : Int) + (j : Int) = (j : Int) by omega]
      have hj7 : j < 7 := hj
      have lwD := lw.ext eD
      have waD := wa.ext eD
      have pD := pL.ext eD
      refine ⟨_, rfl, _, rfl, _, rfl, p, x, L, W, ps, 30, _, SD, rfl, lwD, ok, pD, fun s hs => (hps s hs).1, by decide, by decide, by omega, tD.ps, by unfold NMAX; omega, fun ps1 GE HE L1 hps1 hl1 nE pE hpE => ?_⟩
      have tE := tD.nxp nE hpE
      have eE := nx_ext nE
      have pE := pE.ext (noT_ext GE)
      have lwE := lwD.ext eE
      have waE := waD.ext eE
      have eDE := eD.trans eE
      generalize noT GE = SE at tE eE pE lwE waE eDE
      clear nE hpE lwD waD pD tD eE
      dsimp only [gName]
      refine split_set (i := 6) (fun v H' => ∃ (ps2 : List Stp) (L2 : Addr) (S : Hp), v = .ref L2 ∧ LS TT p S H' (600 + 1000 * j + 20) ∧ ExtN SE S ∧ PairsM K S L2 ps2 ∧ (∀ s ∈ ps2, StpOk W 38 s) ∧ ps2.length ≤ 8) (fun Qt hq => ?_) (fun v HF ⟨ps2, L2, SF, ev, tF, eF, pF, hps2, hl2⟩ => ?_)
      · by_cases hj4 : (4 : Int) < (j : Int)
        · refine ⟨_, rfl, _, _, rfl, rfl, _, rfl, iteT' (decide_eq_true hj4) ?_⟩
          refine ⟨_, rfl, _, rfl, _, rfl, p, x, L1, W, ps1, 34, _, SE, rfl, lwE, ok, pE, hps1, by decide, by decide, by omega, tE.ps, by unfold NMAX; omega, fun ps2 G2 H2 L2 hps2 hl2 n2 p2 hp2 => ?_⟩
          exact hq _ _ ⟨ps2, L2, noT G2, rfl, (tE.nxp n2 hp2).mono (by omega), nx_ext n2, p2.ext (noT_ext G2), hps2, by omega⟩
        · refine ⟨_, rfl, _, _, rfl, rfl, _, rfl, iteF' (decide_eq_false hj4) ?_⟩
          exact ⟨_, rfl, hq _ _ ⟨ps1, L1, SE, rfl, tE.mono (by omega), ExtN.refl _, pE, fun s hs => (hps1 s hs).mono (by decide), by omega⟩⟩
      subst ev
      have lwF := lwE.ext eF
      have waF := waE.ext eF
      have eDF := eDE.trans eF
      clear pE hps1 hl1 tE lwE waE eDE eF
      obtain ⟨xs2, gF, hxs2⟩ := id pF
      have lx2 : xs2.length = ps2.length := Paired.len hxs2
      refine ⟨_, rfl, L2, rfl, ⟨_, SqL.of (tF.ps.w _ _ gF)⟩, fun D hD => ?_⟩
      refine lc_bools (walk_list (xs := xs2)) (fun i => (ps2[i]?.map fun s => decide ((0 : Int) ≤ s.2.1)).getD true) hD (by omega) (fun H4 e4 => e4.seq (SqL.of (tF.ps.w _ _ gF))) (fun _ _ _ _ y => YAt.same y) (fun j' z H4 H5 Qc hj' e4 yy q => ?_) (fun H4 e4 hL4 => ?_)
      · obtain ⟨rfl, hz⟩ := yy
        obtain ⟨s2', hs2, aa, uu, rfl, r1, ⟨ua, rfl, r2⟩⟩ := Paired.get hxs2 hz
        have eg := tF.ps.w.trans e4
        refine ⟨aa, _, rfl, seqT eg r1, rfl, _, _, rfl, _, _, rfl, rfl, rfl, ?_⟩
        refine ⟨_, rfl, ua, _, 0, _, rfl, rfl, seqT eg r2, at0, _, _, rfl, rfl, ?_⟩
        have q := q _ (Same.refl _)
        rw [hs2] at q
        exact q
      refine ⟨D, _, rfl, SqL.of hL4, _, rfl, ?_⟩
      rw [lx2, range_map, List.all_map]
      have tG := tF.grow e4
      clear tF e4 hL4 hD
      have next : ∀ (S' H' : Hp) (n : Nat), LS TT p S' H' n → n ≤ 600 + 1000 * (j + 1) → ExtN SF S' → ∃ S, LS TT p S H' (600 + 1000 * (j + 1)) ∧ ExtN SC S := fun S' H' n t l e => ⟨S', t.mono l, eDF.trans e⟩
      cases hall : ps2.all (fun s => decide ((0 : Int) ≤ s.2.1)) with
      | false =>
        refine iteF' hall ?_
        obtain ⟨S', t', e'⟩ := next _ _ _ tG (by omega) (ExtN.refl _)
        exact ⟨S', t', e', _, _, _, _, _, _, _, _, rfl⟩
      | true =>
      refine iteT' hall ?_
      have hpos : ∀ s ∈ ps2, StpOk W 38 s ∧ 0 ≤ s.2.1 := fun s hs => ⟨hps2 s hs, of_decide_eq_true (List.all_eq_true.mp hall s hs)⟩
      refine ⟨_, rfl, L2, rfl, ⟨_, SqL.of (tG.ps.w _ _ gF)⟩, fun D hD => ?_⟩
      have npD : p ≠ D := tG.ps.pl.nf hD
      refine lc_map (G := SF) (walk_list (xs := xs2)) (· = p) (fun i acc G' H' => ∃ ds : List K25.D, RpA K G' ds acc ∧ Paired HandI (ps2.take i) ds ∧ PoolL H' p (600 + 1000 * j + 20 + 5 * i)) tG.ps.w hD (by omega) npD.symm ⟨[], rfl, by rw [List.take_zero]; exact .nil, tG.ps.pl.upd npD⟩ (fun i acc G' H' nx _ => (nx.g.trans nx.w).seq (SqL.of gF)) ?_ ?_
      · rintro i' acc G' H2' z H3' Qc hi' la n2 hD2 gD ⟨ds, hr1, hds, hp2⟩ ⟨rfl, hz⟩ q
        obtain ⟨sk, hsk, aa, uu, rfl, r1, ⟨ua, rfl, r2⟩⟩ := Paired.get hxs2 hz
        have P2 := tG.ps.next n2 hp2
        have hso := hps2 sk (List.mem_of_getElem? hsk)
        have hlen8 : i' < 8 := by omega
        have fu : FrA K G' (.ref ua) sk.2 := ⟨ua, rfl, seqT n2.g r2⟩
        refine ⟨aa, _, rfl, seqT (n2.g.trans n2.w) r1, rfl, _, _, rfl, _, _, rfl, rfl, rfl, ?_⟩
        refine ⟨_, rfl, _, rfl, _, rfl, _, rfl, p, .ref ua, sk.2, 38, _, G', rfl, fu, hso.b, by decide, P2, by unfold NMAX; omega, fun d1 G5 H5 w1 wd1 n5 rr1 hp5 => ⟨s2, fun t1 ht1 => ?_⟩⟩
        have P5 := P2.next n5 hp5
        have P6 := P5.new (o := .tup [.int (sk.1 : Nat), w1]) ht1
        have n6 := n5.trans (Nx.new (o := .tup [.int (sk.1 : Nat), w1]) P5.w ht1)
        have e6 := Same.new0 (o := .tup [.int (sk.1 : Nat), w1]) (P5.w.free ht1)
        have q1 : Rp K (upd G5 t1 (.tup [.int (sk.1 : Nat), w1])) (.tup [.int (sk.1 : Nat), d1]) (.ref t1) := ⟨t1, _, rfl, SqT.of upd_same, RpA.cons rfl (RpA.cons (rr1.mono e6) RpA.nil)⟩
        refine ⟨_, rfl, _, rfl, _, rfl, p, .ref ua, sk.2, 38, _, _, rfl, fu.mono n6.g, hso.b, by decide, P6, by unfold NMAX; omega, fun d2 G7 H7 w2 wd2 n7 rr2 hp7 => ⟨s2, fun l2 hl2' => ⟨s2, fun l3 hl3 => ?_⟩⟩⟩
        have P7 := P6.next n7 hp7
        have P8 := P7.new (o := .lst [.int (sk.1 : Nat), w2]) hl2'
        have n8 := (n6.trans n7).trans (Nx.new (o := .lst [.int (sk.1 : Nat), w2]) P7.w hl2')
        have e8 := Same.new0 (o := .lst [.int (sk.1 : Nat), w2]) (P7.w.free hl2')
        have q1 := (q1.mono n7.g).mono e8
        have q2 : Rp K (upd G7 l2 (.lst [.int (sk.1 : Nat), w2])) (.lst [.int (sk.1 : Nat), d2]) (.ref l2) := ⟨l2, _, rfl, SqL.of upd_same, RpA.cons rfl (RpA.cons (rr2.mono e8) RpA.nil)⟩
        have P9 := P8.new (o := .lst [.ref t1, .ref l2]) hl3
        have n9 := n8.trans (Nx.new (o := .lst [.ref t1, .ref l2]) P8.w hl3)
        have e9 := Same.new0 (o := .lst [.ref t1, .ref l2]) (P8.w.free hl3)
        have q1 := q1.mono e9
        have q2 := q2.mono e9
        refine ⟨p, l3, [.ref t1, .ref l2], _, _, rfl, SqL.of upd_same, (by show 0 < 2; decide), (by show 2 ≤ 1000000; decide), P9, by unfold NMAX; omega, fun j2 v HX hv nX hpX => ?_⟩
        have nZ := n9.trans nX
        have fin : ∀ d, Rp K _ d v → HandI sk d → Qc v HX := fun d hrd hhd => q v _ HX nZ ⟨ds ++ [d], RpA.snoc (hr1.mono nZ.g) (hrd.mono nX.g), by rw [List.take_succ, hsk]; exact Paired.snoc hds hhd, (hpX.upd npD).mono (by omega)⟩
        match j2, hv with
        | 0, hv => cases hv; exact fin _ q1 ⟨d1, wd1, .inl rfl⟩
        | 1, hv => cases hv; exact fin _ q2 ⟨d2, wd2, .inr rfl⟩
        | j2 + 2, hv => simp at hv
      rintro acc GH HH nH la eH hDH ⟨ds, hrH, hdsH, hpH⟩
      rw [lx2, List.take_length] at hdsH
      have tH := tG.nxp nH hpH
      have eH' := nx_ext nH
      have rH : RpA K (noT (upd GH D (.lst acc))) ds acc := RpA.ext' (noT_ext _) _ _ (hrH.mono eH)
      have dH : SqL K (noT (upd GH D (.lst acc))) D acc := extL (noT_ext _) (SqL.of upd_same)
      generalize noT (upd GH D (.lst acc)) = SH at tH eH' rH dH
      clear eH nH hpH hDH hrH tG hD hxs2 gF
      dsimp only [gName]
      refine ⟨_, rfl, _, rfl, _, rfl, _, rfl, _, rfl, _, rfl, D, acc, rfl, .inl ⟨tH.ps.w.seq dH, fun t ht => ⟨s2, fun l hl => ?_⟩⟩⟩
      have tI := tH.new (o := .tup acc) ht ntt
      have eI := Same.new0 (o := .tup acc) (tH.ps.w.free ht)
      have tJ := tI.new (o := .lst [.ref D, .ref t]) hl ntl
      have eJ := Same.new0 (o := .lst [.ref D, .ref t]) (tI.ps.w.free hl)
      have eIJ := eI.trans eJ
      refine ⟨p, l, [.ref D, .ref t], _, _, rfl, SqL.of upd_same, (by show 0 < 2; decide), (by show 2 ≤ 1000000; decide), tJ.ps, by unfold NMAX; omega, fun j2 v HX hv nX hpX => ?_⟩
      have tX := tJ.nxp nX hpX
      have eX := (Same.ext eIJ).trans (nx_ext nX)
      have eFX := eH'.trans eX
      have hdv : ∃ d, HandD ps2 d ∧ Rp K (noT (upd (upd SH t (.tup acc)) l (.lst [.ref D, .ref t]))) d v := by
        match j2, hv with
        | 0, hv => cases hv; exact ⟨_, ⟨ds, hdsH, .inl rfl⟩, D, acc, rfl, extL eX dH, RpA.ext' eX _ _ rH⟩
        | 1, hv => cases hv; exact ⟨_, ⟨ds, hdsH, .inr rfl⟩, t, acc, rfl, extT (nx_ext nX) (seqT eJ (SqT.of upd_same)), RpA.ext' eX _ _ rH⟩
        | j2 + 2, hv => simp at hv
      obtain ⟨d, hhd, hrd⟩ := hdv
      refine ⟨y, x, L2, v, W, ps2, d, 38, _, rfl, tX.ps.w, tX.nt, waF.ext eFX, lwF.ext eFX, ok, (pF.ext eFX).a, hhd, hrd, hpos, by decide, by decide, by omega, tX.tb, fun HY eY tbY => ⟨_, rfl, iteF' rfl ?_⟩⟩
      obtain ⟨S', t', e'⟩ := next _ _ _ (tX.ext eY tbY) (by omega) eFX
      exact ⟨S', t', e', _, _, _, _, _, _, _, _, rfl⟩
    · rintro σ HD ⟨SD, tD, eD, u1, u5, u6, u7, u8, u10, u11, u12, rfl⟩
      have lwD := lw.ext eD
      have waD := wa.ext eD
      have pD := pL.ext eD
      have sD := extL eD sC
      have tD : LS TT p SD HD 7600 := tD.mono (by decide)
      clear tC lw wa pL sC eD
      -- the odd ones
      refine ⟨_, rfl, _, rfl, _, rfl, .ref p, x, L, W, ps, SD, rfl, tD.ps.w, lwD, ok, pD, by omega, fun GE HE O xs nE sE rE => ⟨O, rfl, ⟨xs, nE.w.seq sE⟩, ?_⟩⟩
      have tE := tD.nx0 nE
      have eE := nx_ext nE
      have sO := extL (noT_ext GE) sE
      have rO := RpA.ext' (noT_ext GE) _ _ rE
      have lwE := lwD.ext eE
      have waE := waD.ext eE
      have pE := pD.ext eE
      have aE := extL eE sD
      generalize noT GE = SE at tE eE sO rO lwE waE pE aE
      clear lwD waD pD sD tD nE sE rE eE
      refine for_it (walk_list (xs := xs)) (fun j σ H' => LS TT p SE H' 7600 ∧ ∃ u1 u5 u6 u7 u8 u10 u11 u12, σ = [some (.ref a), u1, some (.ref p), some (.ref x), some (.ref L), u5, u6, u7, u8, some (.ref y), u10, u11, u12]) ⟨tE, _, _, _, _, _, _, _, _, rfl⟩ (fun i σ H' _ ⟨t, _⟩ => t.ps.w.seq sO) ?_ ?_
      · rintro j z σ HF HF2 hj ⟨tF, u1, u5, u6, u7, u8, u10, u11, u12, rfl⟩ ⟨rfl, hz⟩
        obtain ⟨d, hd, rd⟩ := rO.get' hz
        have hodd : Odd W.arrs.length d := odd_all d (List.mem_of_getElem? hd)
        have hok := odd_ok (by omega) d (List.mem_of_getElem? hd)
        have hrun : runOf W d = none := odd_run hodd
        have rpE : RunP K A.Watcher SE y z d W 1 := ⟨waE, ok, rd, hok.len, odd_b hodd, by decide, by decide⟩
        have rp := rpE.mono tF.ps.w
        show gName 10 z _ _ _
        refine ⟨_, rfl, _, rfl, y, z, d, W, 1, rfl, rp.wa, rp.ok, rp.rd, rp.len, rp.b, rp.k1, rp.k2, fun H3 e3 => ?_⟩
        rw [hrun]
        refine ⟨false, false, rfl, rfl, _, rfl, iteF' rfl ?_⟩
        have t3 := tF.grow e3
        clear e3 rp
        -- its end is not told
        refine ⟨t3.tb, fun H5 e5 tb5 => ?_⟩
        have t5 := t3.ext e5 tb5
        refine ⟨_, rfl, _, rfl, y, z, d, W, 1, SE, rfl, t5.ps.w, rpE, fun _ H6 d1 e6 hd1 => ?_, fun ls st hls => by rw [hrun] at hls; cases hls⟩
        refine ⟨exm, rfl, d1, _, z, rfl, upd_same, rfl, fun q1 hq1 => ⟨_, rfl, s2, fun q2 hq2 => ?_⟩⟩
        have n6 := (e6.new (o := .xd [("thing", z)]) hd1).new (o := .tup [.str "run", z]) hq1
        have n7 := n6.new (o := .tup [.str "run", z]) hq2
        have t7 := t5.grow n7
        have r7 := rd.mono t7.ps.w
        refine ⟨.ref q1, .ref q2, .tup [.str "run", d], rfl, ⟨q1, _, rfl, seqT (Same.new0 (o := .tup [.str "run", z]) hq2) (SqT.of upd_same), RpA.cons rfl (RpA.cons r7 RpA.nil)⟩, ⟨q2, _, rfl, SqT.of upd_same, RpA.cons rfl (RpA.cons r7 RpA.nil)⟩, run_dep hok.dep, run_wid hok.wid, fun H8 e8 => ⟨_, rfl, iteF' rfl ?_⟩⟩
        exact ⟨t7.grow e8, _, _, _, _, _, _, _, _, rfl⟩
      · rintro σ HF ⟨tF, u1, u5, u6, u7, u8, u10, u11, u12, rfl⟩
        clear tE sO rO xs
        -- one of them
        refine ⟨_, rfl, _, rfl, _, rfl, _, rfl, .ref p, x, L, W, ps, SE, rfl, tF.ps.w, lwE, ok, pE, by omega, fun GG HG O xs nG sG rG => ?_⟩
        have tG := tF.nx0 nG
        have eG := nx_ext nG
        have sO := extL (noT_ext GG) sG
        have rO := RpA.ext' (noT_ext GG) _ _ rG
        have waG := waE.ext eG
        have aG := extL eG aE
        generalize noT GG = SG at tG eG sO rO waG aG
        clear lwE waE pE aE tF nG sG rG eG
        have lx : xs.length = (oddsD W.arrs.length ps).length := rO.len
        have lo : (oddsD W.arrs.length ps).length = 38 := rfl
        refine ⟨p, O, xs, _, SG, rfl, sO, by omega, by omega, tG.ps, by unfold NMAX; omega, fun j z HI hz nI hpI => ?_⟩
        obtain ⟨d, hd, rd⟩ := rO.get' hz
        have hodd : Odd W.arrs.length d := odd_all d (List.mem_of_getElem? hd)
        have hok := odd_ok (by omega) d (List.mem_of_getElem? hd)
        have hrun : runOf W d = none := odd_run hodd
        have rpG : RunP K A.Watcher SG y z d W 1 := ⟨waG, ok, rd, hok.len, odd_b hodd, by decide, by decide⟩
        have tI := tG.nxp nI hpI
        have eI := noT_ext SG
        have rpG := rpG.ext eI
        have aI := extL eI aG
        generalize noT SG = SI at tI rpG aI
        have t4 : TS TT HI SI SI HI := ⟨tI.ps.w, tI.nt, tI.tb, ExtN.refl _, ExtN.refl _⟩
        clear rO sO waG aG nI hpI eI tG tI rd
        dsimp only [gName]
        -- what is told of it, twice
        refine ⟨t4.tb, fun H5 e5 tb5 => ?_⟩
        have t5 := t4.ext e5 tb5
        refine ⟨_, rfl, _, rfl, y, z, d, W, 1, SI, rfl, t5.w, rpG.ext t5.g, fun _ H6 d1 e6 hd1 => ?_, fun ls st hls => by rw [hrun] at hls; cases hls⟩
        refine ⟨exm, rfl, d1, _, z, rfl, upd_same, rfl, fun u1 hu1 => ⟨s1, fun fd hfd => ?_⟩⟩
        have t6 := (t5.grow (e6.new hd1)).new (o := .tup [.str "run", z]) hu1 ntt
        have r6 : Rp K (upd SI u1 (.tup [.str "run", z])) (.tup [.str "run", d]) (.ref u1) := ⟨u1, _, rfl, SqT.of upd_same, RpA.cons rfl (RpA.cons (rpG.ext t6.g).rd RpA.nil)⟩
        generalize upd SI u1 (.tup [.str "run", z]) = S6 at t6 r6
        have g6 := t6.w.free hfd
        have fr := t6.fresh hfd
        have t7 := t6.grow (Same.new0 (o := .lst [.ref u1]) hfd)
        have f7 : upd (upd (upd H6 d1 (.xd [("thing", z)])) u1 (.tup [.str "run", z])) fd (.lst [.ref u1]) fd = some (.lst [.ref u1]) := upd_same
        generalize upd (upd (upd H6 d1 (.xd [("thing", z)])) u1 (.tup [.str "run", z])) fd (.lst [.ref u1]) = H7 at t7 f7 ⊢
        clear t6 hfd hu1 hd1 e6
        refine ⟨_, rfl, .inl ⟨rfl, _, SqL.of f7⟩, t7.tb, fun H8 e8 tb8 => ?_⟩
        have t8 := t7.ext e8 tb8
        have f8 := e8 _ _ f7 ntl
        refine ⟨_, rfl, _, rfl, y, z, d, W, 1, S6, rfl, t8.w, rpG.ext t8.g, fun _ H9 d2 e9 hd2 => ?_, fun ls hls => by rw [hrun] at hls; cases hls⟩
        refine ⟨exm, rfl, d2, _, z, rfl, upd_same, rfl, fun u2 hu2 => ?_⟩
        have n9 := (e9.new (o := .xd [("thing", z)]) hd2)
        have f9 := (n9.new (o := .tup [.str "run", z]) hu2) _ _ f8
        have t9 := (t8.grow n9).new (o := .tup [.str "run", z]) hu2 ntt
        have g9 : upd S6 u2 (.tup [.str "run", z]) fd = none := by rw [upd_ne (ne_of_none (n9 _ _ f8) hu2)]; exact g6
        have r9 : Rp K (upd S6 u2 (.tup [.str "run", z])) (.tup [.str "run", d]) (.ref u2) := ⟨u2, _, rfl, SqT.of upd_same, RpA.cons rfl (RpA.cons (rpG.ext t9.g).rd RpA.nil)⟩
        have r6 := r6.mono (Same.new0 (o := .tup [.str "run", z]) ((t8.grow n9).w.free hu2))
        refine ⟨fd, _, .ref u2, rfl, rfl, f9, szl (by show 1 < 100000; decide), ?_⟩
        have tD := (t9.wr (o := .lst ([V.ref u1] ++ [.ref u2])) g9 fr f9).at (upd_same) g9 ntl
        have rD : Rp K (upd (upd S6 u2 (.tup [.str "run", z])) fd (.lst ([V.ref u1] ++ [.ref u2]))) (.lst [.tup [.str "run", d], .tup [.str "run", d]]) (.ref fd) := by
          have e := Same.new0 (o := .lst ([V.ref u1] ++ [.ref u2])) g9
          exact ⟨fd, _, rfl, SqL.of upd_same, RpA.cons (r6.mono e) (RpA.cons (r9.mono e) RpA.nil)⟩
        generalize upd (upd S6 u2 (.tup [.str "run", z])) fd (.lst ([V.ref u1] ++ [.ref u2])) = SD at tD rD
        generalize upd (upd (upd H9 d2 (.xd [("thing", z)])) u2 (.tup [.str "run", z])) fd (.lst ([V.ref u1] ++ [.ref u2])) = HD at tD ⊢
        refine ⟨_, rfl, _, rfl, s2, fun u4 hu4 => ⟨s1, fun l4 hl4 => ⟨l4, 2, [.ref u4], rfl, rfl, upd_same, by decide, by decide, (by show 1 * 2 ≤ sizeLine; decide), fun r4 hr4 => ?_⟩⟩⟩
        have eE := ((Same.new0 (H := HD) (o := .tup [.str "run", z]) hu4).new (o := .lst [.ref u4]) hl4).new (o := .lst (List.replicate (2 : Int).toNat [V.ref u4]).flatten) hr4
        have tE := tD.grow eE
        have q4 : Rp K (upd (upd (upd HD u4 (.tup [.str "run", z])) l4 (.lst [.ref u4])) r4 (.lst (List.replicate (2 : Int).toNat [V.ref u4]).flatten)) (.tup [.str "run", d]) (.ref u4) :=
          ⟨u4, _, rfl, seqT ((Same.new0 (o := .lst [.ref u4]) hl4).new hr4) (SqT.of upd_same), RpA.cons rfl (RpA.cons ((rpG.ext tE.g).rd.mono tE.w) RpA.nil)⟩
        refine ⟨.ref fd, .ref r4, .lst [.tup [.str "run", d], .tup [.str "run", d]], rfl, rD.mono tE.w, ⟨_, _, rfl, SqL.of upd_same, RpA.cons q4 (RpA.cons q4 RpA.nil)⟩, runs_dep hok.dep, runs_wid hok.wid, fun HX eX => ⟨_, rfl, iteF' rfl ?_⟩⟩
        have tX := tE.grow eX
        exact ⟨tX.w.seq (extL tX.g aI), tX.tb, _, _, _, _, _, _, _, _, _, _, _, _, rfl⟩
  · rintro σ H1 ⟨_, _, v1, v2, v3, v4, v5, v6, v7, v8, v9, v10, v11, v12, rfl⟩
    exact kk H1
end K25

/-! ## E1 -/
set_option Elab.async false
set_option linter.all false
set_option maxRecDepth 100000
set_option maxHeartbeats 4000000
/-! E1: the law's call, where no guard is held and the tables of code are empty. -/
namespace K25
open PySem PySem.Spec PyProof.Rows L2
abbrev listO (vs : List Value) : Obj := { cls := .type "list", data := .seq vs.toArray }
abbrev tableO : Obj := { cls := .none, data := .fields #[] }
/-- what is followed from the start: the tables, the script where it is not written down -/
def begH (K : PySem.W.Frag) (a : Addr) (vs : List Value) (ns : List Int) (ts : List Addr) : Hp := fun b =>
  if b ∈ ts then some (.tbl #[]) else if b = a ∧ (K.lookup a).isNone = true then some (.frz (listO vs) (.lst (ns.map V.int))) else none
structure Start (K : PySem.W.Frag) (h : Heap) (a : Addr) (vs : List Value) (ns : List Int) (ts : List Addr) : Prop where
  kin : K.In h
  ha : h.get? a = some (listO vs)
  ht : ∀ b ∈ ts, h.get? b = some tableO
  nt : ∀ b ∈ ts, K.lookup b = none
  hi : IntsAre vs ns
  hl : ns.length ≤ sizeLine
section
variable {P : Program} {w : World} {K : PySem.W.Frag} {h : Heap} {a b : Addr} {vs : List Value} {ns : List Int} {ts : List Addr} {o : Obj} {u : HO}
theorem begH_tab (hb : b ∈ ts) : begH K a vs ns ts b = some (.tbl #[]) := if_pos hb
theorem begH_cases (e : begH K a vs ns ts b = some u) : (b ∈ ts ∧ u = .tbl #[]) ∨ (b = a ∧ K.lookup a = none ∧ u = .frz (listO vs) (.lst (ns.map V.int))) := by
  unfold begH at e
  split at e
  · rename_i hb
    exact .inl ⟨hb, (Option.some.inj e).symm⟩
  · split at e
    · rename_i hb
      exact .inr ⟨hb.1, Option.isNone_iff_eq_none.mp hb.2, (Option.some.inj e).symm⟩
    · cases e
theorem begH_none (n : ∀ u, begH K a vs ns ts b ≠ some u) : begH K a vs ns ts b = none := by
  cases e : begH K a vs ns ts b with
  | none => rfl
  | some u => exact absurd e (n u)
theorem Start.out (S : Start K h a vs ns ts) : a ∉ ts := fun z => by
  have e := (S.ha.symm.trans (S.ht a z))
  have d : Data.seq vs.toArray _ = Data.fields #[] := congrArg Obj.data (Option.some.inj e)
  cases d
/-- what is neither a list or a tuple nor an empty row of fields is not followed -/
theorem Start.free (S : Start K h a vs ns ts) (e : h.get? b = some o) (n1 : ∀ xs n, o.data ≠ .seq xs n) (n2 : o.data ≠ .fields #[]) : begH K a vs ns ts b = none := by
  refine begH_none fun u q => ?_
  rcases begH_cases q with ⟨hb, _⟩ | ⟨hb, _, _⟩
  · have z := e.symm.trans (S.ht b hb)
    exact n2 (congrArg Obj.data (Option.some.inj z))
  · rw [hb, S.ha] at e
    exact n1 _ _ (congrArg Obj.data (Option.some.inj e)).symm
theorem Start.freeK (S : Start K h a vs ns ts) (e : K.lookup b = some o) : begH K a vs ns ts b = none := by
  refine begH_none fun u q => ?_
  rcases begH_cases q with ⟨hb, _⟩ | ⟨hb, hk, _⟩
  · rw [S.nt b hb] at e
    cases e
  · rw [hb, hk] at e
    cases e
theorem Start.script (S : Start K h a vs ns ts) : SqL K (begH K a vs ns ts) a (ns.map V.int) := by
  have rv := vals_ints S.hi
  cases hk : K.lookup a with
  | none => exact .inl (.inr ⟨listO vs, (if_neg S.out).trans (if_pos ⟨rfl, by rw [hk]; rfl⟩)⟩)
  | some o =>
    have e := (S.kin a o hk).symm.trans S.ha
    cases e
    exact .inr ⟨_, vs.toArray, _, hk, rfl, rfl, rfl, by rw [List.size_toArray, S.hi.length]; exact S.hl, by simpa using rv⟩
theorem Start.ok (S : Start K h a vs ns ts) : HOk P w (begH K a vs ns ts) h := fun b u e => by
  rcases begH_cases e with ⟨hb, rfl⟩ | ⟨rfl, _, rfl⟩
  · exact S.ht b hb
  · exact ⟨S.ha, by rw [List.length_map]; exact S.hl, vs, _, vals_ints S.hi, S.ha⟩
theorem Start.nsp {m : Str → Option Value} (S : Start K h a vs ns ts) (q : h.Ns b m) : (hidT h (begH K a vs ns ts)).Ns b m := by
  obtain ⟨o, es, ep, e, d, r⟩ := q
  refine ⟨o, es, ep, hidT_get e (S.free e (fun xs n z => ?_) fun z => ?_), d, r⟩
  · rw [d] at z; cases z
  · rw [d] at z; cases z
end
theorem law_callG {P : Program} {w : World} {K : PySem.W.Frag} {mg mb : Str → Option Value} {k : Nat} {fa a : Addr} {cs : List (Addr × Addr)} {x nm : Str} {sp : Sp} {s : Shared} {vs : List Value} {ns : List Int}
    (S : Start K s.heap a vs ns (cs.map (·.2))) (hns : s.heap.Ns mainGlobals mg) (hb : s.heap.Ns builtinsNs mb) (hbb : ∀ x : Str, x ≠ "__name__" → mb x = bootBuiltins x) (hlim : s.heap.NoLimit) (hg : s.gens = #[])
    (C : ∀ p ∈ cs, PySem.W.CodeHd s.heap p.1 p.2)
    (hbm : ∃ (bm : Addr) (ob : Obj), mg "__builtins__" = some (.ref bm) ∧ bm ≠ builtinsNs ∧ s.heap.get? bm = some ob ∧ ob.cls = .type "module" ∧ ob.dict = some builtinsNs ∧ ob.data = .plain)
    (hr : Room k callerA) (hfa : mg nm = some (.ref fa))
    (F : ∀ base : Heap, K.In base → base.Ns mainGlobals mg → (∀ p ∈ cs, LamX.TabB base mg p.1 p.2) → DefG P w K mg base k nm [x] sp)
    (hsp : ∀ H : Hp, (∀ p ∈ cs, H p.2 = some (.tbl #[])) → SqL K H a (ns.map V.int) → sp [.ref a] H (fun v _ => v = .bl true) fun _ _ _ => False) :
    codeAny (model P w) callerA (.call (.ref fa) ⟨[.ref a], []⟩) (fun r s' => r = .ok (.ret (.bool true)) ∧ OldK s.heap s'.heap ∧ s'.os = s.os ∧ AllBare s'.gens) s := by
  have memT : ∀ p ∈ cs, p.2 ∈ cs.map (·.2) := fun p hp => List.mem_map.mpr ⟨p, hp, rfl⟩
  have kin : K.In (hidT s.heap (begH K a vs ns (cs.map (·.2)))) := fun b o e => hidT_get (S.kin b o e) (S.freeK e)
  have md : L2.Mod K mg (hidT s.heap (begH K a vs ns (cs.map (·.2)))) := by
    obtain ⟨mc, h1, h2⟩ := hlim
    exact ⟨kin, S.nsp hns, ⟨mb, S.nsp hb, hbb⟩, mc, S.nsp h1, h2⟩
  have tabs : ∀ p ∈ cs, LamX.TabB (hidT s.heap (begH K a vs ns (cs.map (·.2)))) mg p.1 p.2 := fun p hp => by
    have hTp := S.ht p.2 (memT p hp)
    have gP : mainGlobals ≠ p.2 := fun z => by
      obtain ⟨o, es, ep, e, d, _⟩ := hns
      rw [z, hTp] at e
      cases e
      cases d
    refine ⟨?_, ?_, gP⟩
    · obtain ⟨o, us, file, tf, flags, tg, inF, text, tt, e1, r1, r2, r3, rest⟩ := C p hp
      refine ⟨o, us, file, tf, flags, tg, inF, text, tt, hidT_get e1 (S.free e1 (fun xs n z => ?_) fun z => ?_), r1, r2, r3, rest⟩
      · rw [r2] at z; cases z
      · rw [r2] at z; cases z; simp at r3
    · obtain ⟨bm, ob, b1, b2, b3, b4, b5, b6⟩ := hbm
      refine ⟨bm, ob, b1, b2, fun q => ?_, fun q => ?_, hidT_get b3 (S.free b3 (fun xs n z => ?_) fun z => ?_), b4, b5, b6⟩
      · obtain ⟨o, es, ep, e, d, _⟩ := hns
        rw [q, e] at b3
        cases b3
        rw [d] at b6
        cases b6
      · rw [q, hTp] at b3
        cases b3
        cases b6
      · rw [b6] at z; cases z
      · rw [b6] at z; cases z
  have e0 : Env0 P w K mg (hidT s.heap (begH K a vs ns (cs.map (·.2)))) callerA [] s (begH K a vs ns (cs.map (·.2))) :=
    ⟨rfl, md, fun b o e => of_hidT e, Nat.le_of_eq (hidT_size _ _), trivial, fun b hb => absurd (show b ∈ ([] : List Addr) from hb) (by simp), S.ok, .of_eq hg⟩
  obtain ⟨f, fd, hm, hk, bd, len, run⟩ := F _ kin (S.nsp hns) tabs
  cases hm.symm.trans hfa
  have bs : BindsTo s fd ⟨[.ref a], []⟩ (([x] : List Str).zip [.ref a]) := by
    have q := bd s [.ref a] S.kin rfl
    rwa [List.append_nil] at q
  refine codeAny_mono (run callerA [] s _ ⟨[.ref a], []⟩ [.ref a] [.ref a] _ _ hr rfl e0 bs (.cons rfl .nil) (hsp _ (fun p hp => begH_tab (memT p hp)) S.script)) fun r s' hq => ?_
  match r, hq with
  | .ok (.ret u), hq =>
    obtain ⟨v, H', os, bare, un, ok', rv, q⟩ := hq
    have q : v = .bl true := q
    subst q
    obtain rfl : u = Value.bool true := rv
    -- what stood stands, the tables have grown
    have stay : ∀ b o, b ∉ cs.map (·.2) → s.heap.get? b = some o → s'.heap.get? b = some o := fun b o nb e => by
      cases q : begH K a vs ns (cs.map (·.2)) b with
      | none => exact un.keep b o e q (by intro z; exact absurd (show b ∈ ([] : List Addr) from z) (by simp)) (by simp)
      | some u =>
        rcases begH_cases q with ⟨hb, _⟩ | ⟨rfl, _, rfl⟩
        · exact absurd hb nb
        · rw [S.ha] at e
          cases e
          exact (ok' _ _ (un.frzs _ _ _ q)).1
    refine ⟨rfl, ⟨fun b o e => ?_, fun b o e => ?_⟩, os, bare⟩
    · by_cases hb : b ∈ cs.map (·.2)
      · obtain ⟨p, hp, rfl⟩ := List.mem_map.mp hb
        have hT := S.ht p.2 hb
        obtain ⟨more, z⟩ := un.tbls p.2 #[] (begH_tab hb)
        have g := ok' p.2 _ z
        cases hT.symm.trans e
        exact .inr (.inl ⟨((C p hp).tab hT).isCodeTable, rfl, #[], more, rfl, by rw [Array.empty_append]; rw [Array.empty_append] at g; exact g⟩)
      · exact .inl (stay b o hb e)
    · by_cases hb : b ∈ cs.map (·.2)
      · obtain ⟨more, z⟩ := un.tbls b #[] (begH_tab hb)
        exact ⟨_, ok' b _ z⟩
      · exact ⟨o, stay b o hb e⟩
  | .ok .next, hq => exact False.elim hq
  | .ok .brk, hq => exact False.elim hq
  | .ok .cont, hq => exact False.elim hq
  | .error e, hq => exact False.elim hq
end K25

/-! ## H1 -/
set_option Elab.async false
set_option linter.all false
set_option maxRecDepth 100000
set_option maxHeartbeats 4000000
/-! H1: the facts of the top, by names (printed by mkH1.py). -/
namespace K25
open PySem PySem.Spec PyProof.Rows L2

/-! ### what else is looked at -/
theorem plainTup_ok {K : PySem.W.Frag} {a : Addr} (h : plainTup K a = true) : ∃ o, K.lookup a = some o ∧ o.cls = .type "tuple" ∧ o.dict = none := by
  unfold plainTup at h
  split at h
  · rename_i c dt sl q
    exact ⟨_, q, congrArg Value.type (of_decide_eq_true h), rfl⟩
  · cases h
theorem clsObjB_ok {K : PySem.W.Frag} {C : Addr} {pr : List Value → Bool → String → Bool} (h : clsObjB K C pr = true) :
    ∃ nm q N bs bm hdct sn sub ab col dd k0 k1 k2 k3 k5 nid, K.lookup C = some (excClassObj nm q C N bs bm hdct sn sub ab col dd k0 k1 k2 k3 k5 nid) ∧ pr bm hdct nid = true := by
  unfold clsObjB at h
  split at h
  · rename_i t od cd sl q
    obtain ⟨h1, h2⟩ := Bool.and_eq_true_iff.mp h
    obtain ⟨h3, h4⟩ := Bool.and_eq_true_iff.mp h2
    obtain ⟨nm, bs, mro, N, qn, hd, sn, sub, ab, col, del⟩ := cd
    split at h4
    · rename_i c bm k0 k1 k2 k3 nid k5 e1 e2
      obtain ⟨h5, h6⟩ := Bool.and_eq_true_iff.mp h4
      have e1 : mro = .ref c :: bm := e1
      have h3 : (!del) = true := h3
      have e3 : del = false := by cases del <;> simp_all
      have e4 : c = C := of_decide_eq_true h5
      have e5 : t = "type" := of_decide_eq_true h1
      have e6 : sl = #[k0, k1, k2, k3, some (.builtin nid), k5] := Array.toList_inj.mp e2
      subst e1 e3 e4 e5 e6
      exact ⟨nm, qn, N, bs, bm, hd, sn, sub, ab, col, od, k0, k1, k2, k3, k5, nid, q, h6⟩
    · cases h4
  · cases h
theorem insB_ok {K : PySem.W.Frag} {C : Addr} (h : insB K C = true) : InsG K C := by
  obtain ⟨h1, h⟩ := He.ba h
  obtain ⟨h2, h⟩ := He.ba h
  obtain ⟨h3, h4⟩ := He.ba h
  exact ⟨He.eqO_ok h1, He.eqO_ok h2, of_decide_eq_true h3, of_decide_eq_true h4⟩
theorem oexB_ok {K : PySem.W.Frag} {C : Addr} (h : oexB K C = true) : OexC K C := by
  obtain ⟨h1, h⟩ := He.ba h
  obtain ⟨h2, h⟩ := He.ba h
  obtain ⟨h3, h⟩ := He.ba h
  obtain ⟨h4, h5⟩ := He.ba h
  obtain ⟨nm, q, N, bs, bm, hdct, sn, sub, ab, col, dd, k0, k1, k2, k3, k5, nid, e, z⟩ := clsObjB_ok h1
  obtain ⟨z1, z⟩ := He.ba z
  obtain ⟨z2, z3⟩ := He.ba z
  have e2 : hdct = true := z2
  have e3 : nid = "ValueError.__new__" := of_decide_eq_true z3
  subst e2 e3
  exact ⟨⟨nm, q, N, bs, bm, sn, sub, ab, col, dd, k0, k1, k2, k3, k5, e, z1⟩, He.eqO_ok h2, of_decide_eq_true h3, of_decide_eq_true h4, h5⟩
/-! ### what the texts ask -/
section
variable {K : PySem.W.Frag} {mg : Str → Option Value} {x q : Str} {st : Stmt} {ps : List Str} {C : Addr} {f : Addr}
theorem fun_dflt {fd : FuncData} (F : FunD K x q (defArgs st) (defBody st) (defScope st) [] [] f fd) : Fun K x q st f fd := by
  obtain ⟨oc, od, dV, kV, doc, pm, an, cdv, ct, osl, e, lk, hcd, hD, _⟩ := F.ex
  rcases hD with ⟨_, z⟩ | ⟨n, _⟩
  · subst z
    exact ⟨⟨oc, od, kV, doc, pm, an, cdv, ct, osl, e, lk, hcd⟩, F.kp⟩
  · exact absurd rfl n
abbrev BindB (x q : Str) (st : Stmt) (ps : List Str) : Prop := ∀ (kV doc pm : Value) (an : Option Addr) (cdv ct : Value) (us : List Value), us.length = ps.length → bindArgs (PySem.W.fnOf x q (defArgs st) (defBody st) (defScope st) .none kV doc pm an cdv ct) ⟨us, []⟩ = pure (ps.zip us)
theorem fung (F : ∃ fd, FunD K x x (defArgs st) (defBody st) (defScope st) [] [] (He.fAd K (x, none)) fd) (g : mg x = some (.ref (He.ga K x))) (b : BindB x x st ps) : FunG K mg x st ps := by
  obtain ⟨fd, F⟩ := F
  exact ⟨_, fd, g, fun_dflt F, (fun_dflt F).binds b⟩
theorem mkg {c : Str} (F : ∃ fd, FunD K "__init__" q (defArgs st) (defBody st) (defScope st) [] [] (He.fAd K (c, some "__init__")) fd) (m : Mk K (He.ga K c) (He.ma K (He.ga K c) "__init__")) (b : BindB "__init__" q st ps) : MkG K (He.ga K c) q st ps := by
  obtain ⟨fd, F⟩ := F
  exact ⟨_, fd, m, fun_dflt F, (fun_dflt F).binds b⟩
theorem methg {c m : Str} (F : ∃ fd, FunD K m q (defArgs st) (defBody st) (defScope st) [] [] (He.fAd K (c, some m)) fd) (h : Meth K (He.ga K c) m (He.ma K (He.ga K c) m)) (b : BindB m q st ps) : MethG K (He.ga K c) m q st ps := by
  obtain ⟨fd, F⟩ := F
  exact ⟨_, fd, h, fun_dflt F, (fun_dflt F).binds b⟩
theorem eqg {c : Str} (F : ∃ fd, FunD K "__eq__" q (defArgs st) (defBody st) (defScope st) [] [] (He.fAd K (c, some "__eq__")) fd) (h : eqMB K (He.ga K c) = true) (b : BindB "__eq__" q st ps) : EqG K (He.ga K c) q st ps := by
  obtain ⟨fd, F⟩ := F
  obtain ⟨h1, h⟩ := He.ba h
  obtain ⟨h2, h3⟩ := He.ba h
  exact ⟨_, fd, He.eqO_ok h1, He.eqO_ok h2, h3, fun_dflt F, (fun_dflt F).binds b⟩
theorem clsg {C : Addr} (h : clsObjB K C (fun bm _ _ => bm.contains (.type "object")) = true) : ClsG K C := clsObjB_ok h
theorem badg {c : Str} (F : ∃ fd, FunD K "__init__" q (defArgs st) (defBody st) (defScope st) [] [] (He.fAd K (c, some "__init__")) fd) (o : oexB K (He.ga K c) = true) (xf : XfC K (He.ga K c)) (n : NoAttr K (He.ga K c) "thing") (e : PySem.W.exmOne K (.ref (He.ga K c)) (.ref (He.ga K c)) = some true) (i : iniB K (He.ga K c) = true) (b : BindB "__init__" q st ps) : BadG K (He.ga K c) q st ps := by
  obtain ⟨fd, F⟩ := F
  obtain ⟨h1, h2⟩ := He.ba i
  exact ⟨oexB_ok o, xf, n, e, _, fd, He.eqO_ok h1, of_decide_eq_true h2, fun_dflt F, (fun_dflt F).binds b⟩
/-- a def whose code object is known -/
theorem rawg (F : ∃ fd, FunD K x x (defArgs st) (defBody st) (defScope st) [] [] (He.fAd K (x, none)) fd) (g : mg x = some (.ref (He.ga K x))) (b : BindB x x st ps) : RawG K mg x st ps (He.cT K (x, none)).1 := by
  obtain ⟨fd, F⟩ := F
  obtain ⟨oc, od, kV, doc, pm, an, cdv, ct, osl, rfl, lk, hcd⟩ := (fun_dflt F).ex
  have bb := (fun_dflt F).binds b
  obtain ⟨cc, rfl⟩ := He.codeIn_ref hcd
  have e : (He.cT K (x, none)).1 = cc := He.codeOf_eq lk rfl
  rw [e]
  exact ⟨_, oc, od, kV, doc, pm, an, ct, osl, g, F.kp, lk, hcd, bb⟩
end


theorem tx_of {K : PySem.W.Frag} {h : Heap} {mg : Str → Option Value} (X : K.In h) (G : h.Ns mainGlobals mg) (c : He.SaysD faL fnL K) (ex : exB K = true) :
    ∃ A : Ad, Tx K mg A ∧ A.BadRun = He.ga K "BadRun" := by
  obtain ⟨e_ZERO, ex⟩ := He.ba ex
  obtain ⟨e_UPPERS, ex⟩ := He.ba ex
  obtain ⟨e_LOWERS, ex⟩ := He.ba ex
  obtain ⟨e_up, ex⟩ := He.ba ex
  obtain ⟨e_eq, ex⟩ := He.ba ex
  obtain ⟨e_cls, ex⟩ := He.ba ex
  obtain ⟨e_kit, ex⟩ := He.ba ex
  obtain ⟨e_ins, ex⟩ := He.ba ex
  obtain ⟨e_oex, ex⟩ := He.ba ex
  obtain ⟨e_xf, ex⟩ := He.ba ex
  obtain ⟨e_ini, _⟩ := He.ba ex
  obtain ⟨tS, hS⟩ := He.str_ok X G (c.fact 101 (f := .str "SIGNS" SGN) rfl)
  refine ⟨⟨He.ga K "Watcher", He.ga K "Stand", He.ga K "BadRun", He.ga K "ZERO", He.ga K "UPPERS", He.ga K "LOWERS", tS⟩, ?_, rfl⟩
  exact {
    f_is_integer := fung (c.def_ 0 (d := dG "is_integer" s_is_integer) rfl) (He.glo_ok X G (c.fact 0 (f := .glo "is_integer") rfl)) (fun _ _ _ _ _ _ us hl => match us, hl with | [_], _ => rfl)
    f_is_natural := fung (c.def_ 1 (d := dG "is_natural" s_is_natural) rfl) (He.glo_ok X G (c.fact 1 (f := .glo "is_natural") rfl)) (fun _ _ _ _ _ _ us hl => match us, hl with | [_], _ => rfl)
    f_is_list := fung (c.def_ 2 (d := dG "is_list" s_is_list) rfl) (He.glo_ok X G (c.fact 2 (f := .glo "is_list") rfl)) (fun _ _ _ _ _ _ us hl => match us, hl with | [_], _ => rfl)
    f_is_name := fung (c.def_ 3 (d := dG "is_name" s_is_name) rfl) (He.glo_ok X G (c.fact 3 (f := .glo "is_name") rfl)) (fun _ _ _ _ _ _ us hl => match us, hl with | [_], _ => rfl)
    f_is_pair := fung (c.def_ 4 (d := dG "is_pair" s_is_pair) rfl) (He.glo_ok X G (c.fact 4 (f := .glo "is_pair") rfl)) (fun _ _ _ _ _ _ us hl => match us, hl with | [_], _ => rfl)
    f_as_tuples := fung (c.def_ 5 (d := dG "as_tuples" s_as_tuples) rfl) (He.glo_ok X G (c.fact 5 (f := .glo "as_tuples") rfl)) (fun _ _ _ _ _ _ us hl => match us, hl with | [_], _ => rfl)
    f_first_bad_name := fung (c.def_ 6 (d := dG "first_bad_name" s_first_bad_name) rfl) (He.glo_ok X G (c.fact 6 (f := .glo "first_bad_name") rfl)) (fun _ _ _ _ _ _ us hl => match us, hl with | [_], _ => rfl)
    f_is_of := fung (c.def_ 7 (d := dG "is_of" s_is_of) rfl) (He.glo_ok X G (c.fact 7 (f := .glo "is_of") rfl)) (fun _ _ _ _ _ _ us hl => match us, hl with | [_, _], _ => rfl)
    f_greatest_divisor := fung (c.def_ 8 (d := dG "greatest_divisor" s_greatest_divisor) rfl) (He.glo_ok X G (c.fact 8 (f := .glo "greatest_divisor") rfl)) (fun _ _ _ _ _ _ us hl => match us, hl with | [_, _], _ => rfl)
    f_lowest := fung (c.def_ 9 (d := dG "lowest" s_lowest) rfl) (He.glo_ok X G (c.fact 9 (f := .glo "lowest") rfl)) (fun _ _ _ _ _ _ us hl => match us, hl with | [_, _], _ => rfl)
    f_whole := fung (c.def_ 10 (d := dG "whole" s_whole) rfl) (He.glo_ok X G (c.fact 10 (f := .glo "whole") rfl)) (fun _ _ _ _ _ _ us hl => match us, hl with | [_], _ => rfl)
    f_is_frac := fung (c.def_ 11 (d := dG "is_frac" s_is_frac) rfl) (He.glo_ok X G (c.fact 11 (f := .glo "is_frac") rfl)) (fun _ _ _ _ _ _ us hl => match us, hl with | [_], _ => rfl)
    f_is_time := fung (c.def_ 12 (d := dG "is_time" s_is_time) rfl) (He.glo_ok X G (c.fact 12 (f := .glo "is_time") rfl)) (fun _ _ _ _ _ _ us hl => match us, hl with | [_], _ => rfl)
    f_frac_of := fung (c.def_ 13 (d := dG "frac_of" s_frac_of) rfl) (He.glo_ok X G (c.fact 13 (f := .glo "frac_of") rfl)) (fun _ _ _ _ _ _ us hl => match us, hl with | [_], _ => rfl)
    f_minus := fung (c.def_ 14 (d := dG "minus" s_minus) rfl) (He.glo_ok X G (c.fact 14 (f := .glo "minus") rfl)) (fun _ _ _ _ _ _ us hl => match us, hl with | [_, _], _ => rfl)
    f_is_less := fung (c.def_ 15 (d := dG "is_less" s_is_less) rfl) (He.glo_ok X G (c.fact 15 (f := .glo "is_less") rfl)) (fun _ _ _ _ _ _ us hl => match us, hl with | [_, _], _ => rfl)
    f_is_upto := fung (c.def_ 16 (d := dG "is_upto" s_is_upto) rfl) (He.glo_ok X G (c.fact 16 (f := .glo "is_upto") rfl)) (fun _ _ _ _ _ _ us hl => match us, hl with | [_, _], _ => rfl)
    f_is_upper := fung (c.def_ 17 (d := dG "is_upper" s_is_upper) rfl) (He.glo_ok X G (c.fact 17 (f := .glo "is_upper") rfl)) (fun _ _ _ _ _ _ us hl => match us, hl with | [_], _ => rfl)
    f_code_of := fung (c.def_ 18 (d := dG "code_of" s_code_of) rfl) (He.glo_ok X G (c.fact 18 (f := .glo "code_of") rfl)) (fun _ _ _ _ _ _ us hl => match us, hl with | [_], _ => rfl)
    f_keeps := fung (c.def_ 19 (d := dG "keeps" s_keeps) rfl) (He.glo_ok X G (c.fact 19 (f := .glo "keeps") rfl)) (fun _ _ _ _ _ _ us hl => match us, hl with | [_, _], _ => rfl)
    f_frac_keeps := fung (c.def_ 20 (d := dG "frac_keeps" s_frac_keeps) rfl) (He.glo_ok X G (c.fact 20 (f := .glo "frac_keeps") rfl)) (fun _ _ _ _ _ _ us hl => match us, hl with | [_, _, _], _ => rfl)
    f_first_stranger := fung (c.def_ 21 (d := dG "first_stranger" s_first_stranger) rfl) (He.glo_ok X G (c.fact 21 (f := .glo "first_stranger") rfl)) (fun _ _ _ _ _ _ us hl => match us, hl with | [_, _], _ => rfl)
    f_is_limit := fung (c.def_ 22 (d := dG "is_limit" s_is_limit) rfl) (He.glo_ok X G (c.fact 22 (f := .glo "is_limit") rfl)) (fun _ _ _ _ _ _ us hl => match us, hl with | [_, _], _ => rfl)
    f_is_cut := fung (c.def_ 23 (d := dG "is_cut" s_is_cut) rfl) (He.glo_ok X G (c.fact 23 (f := .glo "is_cut") rfl)) (fun _ _ _ _ _ _ us hl => match us, hl with | [_, _], _ => rfl)
    f_is_arrow := fung (c.def_ 24 (d := dG "is_arrow" s_is_arrow) rfl) (He.glo_ok X G (c.fact 24 (f := .glo "is_arrow") rfl)) (fun _ _ _ _ _ _ us hl => match us, hl with | [_, _, _], _ => rfl)
    f_begin_place := fung (c.def_ 25 (d := dG "begin_place" s_begin_place) rfl) (He.glo_ok X G (c.fact 25 (f := .glo "begin_place") rfl)) (fun _ _ _ _ _ _ us hl => match us, hl with | [_], _ => rfl)
    f_first_stand := fung (c.def_ 26 (d := dG "first_stand" s_first_stand) rfl) (He.glo_ok X G (c.fact 26 (f := .glo "first_stand") rfl)) (fun _ _ _ _ _ _ us hl => match us, hl with | [_], _ => rfl)
    f_keeps_limit := fung (c.def_ 27 (d := dG "keeps_limit" s_keeps_limit) rfl) (He.glo_ok X G (c.fact 27 (f := .glo "keeps_limit") rfl)) (fun _ _ _ _ _ _ us hl => match us, hl with | [_, _, _], _ => rfl)
    f_has_runs := fung (c.def_ 28 (d := dG "has_runs" s_has_runs) rfl) (He.glo_ok X G (c.fact 28 (f := .glo "has_runs") rfl)) (fun _ _ _ _ _ _ us hl => match us, hl with | [_], _ => rfl)
    f_passes := fung (c.def_ 29 (d := dG "passes" s_passes) rfl) (He.glo_ok X G (c.fact 29 (f := .glo "passes") rfl)) (fun _ _ _ _ _ _ us hl => match us, hl with | [_, _], _ => rfl)
    f_gone := fung (c.def_ 30 (d := dG "gone" s_gone) rfl) (He.glo_ok X G (c.fact 30 (f := .glo "gone") rfl)) (fun _ _ _ _ _ _ us hl => match us, hl with | [_, _, _, _], _ => rfl)
    f_stand_behind := fung (c.def_ 31 (d := dG "stand_behind" s_stand_behind) rfl) (He.glo_ok X G (c.fact 31 (f := .glo "stand_behind") rfl)) (fun _ _ _ _ _ _ us hl => match us, hl with | [_, _], _ => rfl)
    f_is_step := fung (c.def_ 32 (d := dG "is_step" s_is_step) rfl) (He.glo_ok X G (c.fact 32 (f := .glo "is_step") rfl)) (fun _ _ _ _ _ _ us hl => match us, hl with | [_, _], _ => rfl)
    f_is_rising := fung (c.def_ 33 (d := dG "is_rising" s_is_rising) rfl) (He.glo_ok X G (c.fact 33 (f := .glo "is_rising") rfl)) (fun _ _ _ _ _ _ us hl => match us, hl with | [_], _ => rfl)
    f_as_steps := fung (c.def_ 34 (d := dG "as_steps" s_as_steps) rfl) (He.glo_ok X G (c.fact 34 (f := .glo "as_steps") rfl)) (fun _ _ _ _ _ _ us hl => match us, hl with | [_], _ => rfl)
    f_is_run := fung (c.def_ 35 (d := dG "is_run" s_is_run) rfl) (He.glo_ok X G (c.fact 35 (f := .glo "is_run") rfl)) (fun _ _ _ _ _ _ us hl => match us, hl with | [_, _], _ => rfl)
    f_checked_run := fung (c.def_ 36 (d := dG "checked_run" s_checked_run) rfl) (He.glo_ok X G (c.fact 36 (f := .glo "checked_run") rfl)) (fun _ _ _ _ _ _ us hl => match us, hl with | [_, _], _ => rfl)
    f_ended := fung (c.def_ 37 (d := dG "ended" s_ended) rfl) (He.glo_ok X G (c.fact 37 (f := .glo "ended") rfl)) (fun _ _ _ _ _ _ us hl => match us, hl with | [_, _], _ => rfl)
    f_worths := fung (c.def_ 38 (d := dG "worths" s_worths) rfl) (He.glo_ok X G (c.fact 38 (f := .glo "worths") rfl)) (fun _ _ _ _ _ _ us hl => match us, hl with | [_, _], _ => rfl)
    f_heard := fung (c.def_ 39 (d := dG "heard" s_heard) rfl) (He.glo_ok X G (c.fact 39 (f := .glo "heard") rfl)) (fun _ _ _ _ _ _ us hl => match us, hl with | [_, _], _ => rfl)
    f_l_cell := fung (c.def_ 40 (d := dG "_law_cell" s_l_cell) rfl) (He.glo_ok X G (c.fact 40 (f := .glo "_law_cell") rfl)) (fun _ _ _ _ _ _ us hl => match us, hl with | [_, _], _ => rfl)
    f_l_pool := fung (c.def_ 41 (d := dG "_law_pool" s_l_pool) rfl) (He.glo_ok X G (c.fact 41 (f := .glo "_law_pool") rfl)) (fun _ _ _ _ _ _ us hl => match us, hl with | [_], _ => rfl)
    f_l_take := fung (c.def_ 42 (d := dG "_law_take" s_l_take) rfl) (He.glo_ok X G (c.fact 42 (f := .glo "_law_take") rfl)) (fun _ _ _ _ _ _ us hl => match us, hl with | [_, _], _ => rfl)
    f_l_one := fung (c.def_ 43 (d := dG "_law_one" s_l_one) rfl) (He.glo_ok X G (c.fact 43 (f := .glo "_law_one") rfl)) (fun _ _ _ _ _ _ us hl => match us, hl with | [_, _], _ => rfl)
    f_l_mixed := fung (c.def_ 44 (d := dG "_law_mixed" s_l_mixed) rfl) (He.glo_ok X G (c.fact 44 (f := .glo "_law_mixed") rfl)) (fun _ _ _ _ _ _ us hl => match us, hl with | [_, _], _ => rfl)
    f_l_same := fung (c.def_ 45 (d := dG "_law_same" s_l_same) rfl) (He.glo_ok X G (c.fact 45 (f := .glo "_law_same") rfl)) (fun _ _ _ _ _ _ us hl => match us, hl with | [_, _], _ => rfl)
    f_l_lowest := fung (c.def_ 46 (d := dG "_law_lowest" s_l_lowest) rfl) (He.glo_ok X G (c.fact 46 (f := .glo "_law_lowest") rfl)) (fun _ _ _ _ _ _ us hl => match us, hl with | [_, _], _ => rfl)
    f_l_less := fung (c.def_ 47 (d := dG "_law_less" s_l_less) rfl) (He.glo_ok X G (c.fact 47 (f := .glo "_law_less") rfl)) (fun _ _ _ _ _ _ us hl => match us, hl with | [_, _], _ => rfl)
    f_l_minus := fung (c.def_ 48 (d := dG "_law_minus" s_l_minus) rfl) (He.glo_ok X G (c.fact 48 (f := .glo "_law_minus") rfl)) (fun _ _ _ _ _ _ us hl => match us, hl with | [_, _], _ => rfl)
    f_l_plus := fung (c.def_ 49 (d := dG "_law_plus" s_l_plus) rfl) (He.glo_ok X G (c.fact 49 (f := .glo "_law_plus") rfl)) (fun _ _ _ _ _ _ us hl => match us, hl with | [_, _], _ => rfl)
    f_l_keeps := fung (c.def_ 50 (d := dG "_law_keeps" s_l_keeps) rfl) (He.glo_ok X G (c.fact 50 (f := .glo "_law_keeps") rfl)) (fun _ _ _ _ _ _ us hl => match us, hl with | [_, _, _], _ => rfl)
    f_l_cut := fung (c.def_ 51 (d := dG "_law_cut" s_l_cut) rfl) (He.glo_ok X G (c.fact 51 (f := .glo "_law_cut") rfl)) (fun _ _ _ _ _ _ us hl => match us, hl with | [_, _], _ => rfl)
    f_l_arrow := fung (c.def_ 52 (d := dG "_law_arrow" s_l_arrow) rfl) (He.glo_ok X G (c.fact 52 (f := .glo "_law_arrow") rfl)) (fun _ _ _ _ _ _ us hl => match us, hl with | [_, _, _, _], _ => rfl)
    f_l_limits := fung (c.def_ 53 (d := dG "_law_limits" s_l_limits) rfl) (He.glo_ok X G (c.fact 53 (f := .glo "_law_limits") rfl)) (fun _ _ _ _ _ _ us hl => match us, hl with | [_, _, _], _ => rfl)
    f_l_watcher := fung (c.def_ 54 (d := dG "_law_watcher" s_l_watcher) rfl) (He.glo_ok X G (c.fact 54 (f := .glo "_law_watcher") rfl)) (fun _ _ _ _ _ _ us hl => match us, hl with | [_, _, _], _ => rfl)
    f_l_made := fung (c.def_ 55 (d := dG "_law_made" s_l_made) rfl) (He.glo_ok X G (c.fact 55 (f := .glo "_law_made") rfl)) (fun _ _ _ _ _ _ us hl => match us, hl with | [_], _ => rfl)
    f_l_held := fung (c.def_ 56 (d := dG "_law_held" s_l_held) rfl) (He.glo_ok X G (c.fact 56 (f := .glo "_law_held") rfl)) (fun _ _ _ _ _ _ us hl => match us, hl with | [_, _, _, _], _ => rfl)
    f_l_begin := fung (c.def_ 57 (d := dG "_law_begin" s_l_begin) rfl) (He.glo_ok X G (c.fact 57 (f := .glo "_law_begin") rfl)) (fun _ _ _ _ _ _ us hl => match us, hl with | [_], _ => rfl)
    f_l_step := fung (c.def_ 58 (d := dG "_law_step" s_l_step) rfl) (He.glo_ok X G (c.fact 58 (f := .glo "_law_step") rfl)) (fun _ _ _ _ _ _ us hl => match us, hl with | [_, _, _, _], _ => rfl)
    f_l_walked := fung (c.def_ 59 (d := dG "_law_walked" s_l_walked) rfl) (He.glo_ok X G (c.fact 59 (f := .glo "_law_walked") rfl)) (fun _ _ _ _ _ _ us hl => match us, hl with | [_, _], _ => rfl)
    f_l_drawn_run := fung (c.def_ 60 (d := dG "_law_drawn_run" s_l_drawn_run) rfl) (He.glo_ok X G (c.fact 60 (f := .glo "_law_drawn_run") rfl)) (fun _ _ _ _ _ _ us hl => match us, hl with | [_, _, _], _ => rfl)
    f_l_wide := fung (c.def_ 61 (d := dG "_law_wide" s_l_wide) rfl) (He.glo_ok X G (c.fact 61 (f := .glo "_law_wide") rfl)) (fun _ _ _ _ _ _ us hl => match us, hl with | [_, _], _ => rfl)
    f_l_bent := fung (c.def_ 62 (d := dG "_law_bent" s_l_bent) rfl) (He.glo_ok X G (c.fact 62 (f := .glo "_law_bent") rfl)) (fun _ _ _ _ _ _ us hl => match us, hl with | [_, _, _], _ => rfl)
    f_l_odd_runs := fung (c.def_ 63 (d := dG "_law_odd_runs" s_l_odd_runs) rfl) (He.glo_ok X G (c.fact 63 (f := .glo "_law_odd_runs") rfl)) (fun _ _ _ _ _ _ us hl => match us, hl with | [_, _, _], _ => rfl)
    f_l_met := fung (c.def_ 64 (d := dG "_law_met" s_l_met) rfl) (He.glo_ok X G (c.fact 64 (f := .glo "_law_met") rfl)) (fun _ _ _ _ _ _ us hl => match us, hl with | [_], _ => rfl)
    f_l_right := fung (c.def_ 65 (d := dG "_law_right" s_l_right) rfl) (He.glo_ok X G (c.fact 65 (f := .glo "_law_right") rfl)) (fun _ _ _ _ _ _ us hl => match us, hl with | [_, _, _, _], _ => rfl)
    z_isinstance := He.free_ok X G (c.fact 66 (f := .free "isinstance") rfl)
    z_len := He.free_ok X G (c.fact 67 (f := .free "len") rfl)
    z_all := He.free_ok X G (c.fact 68 (f := .free "all") rfl)
    z_any := He.free_ok X G (c.fact 69 (f := .free "any") rfl)
    z_abs := He.free_ok X G (c.fact 70 (f := .free "abs") rfl)
    z_sum := He.free_ok X G (c.fact 71 (f := .free "sum") rfl)
    z_range := He.free_ok X G (c.fact 72 (f := .free "range") rfl)
    z_enumerate := He.free_ok X G (c.fact 73 (f := .free "enumerate") rfl)
    z_zip := He.free_ok X G (c.fact 74 (f := .free "zip") rfl)
    z_repr := He.free_ok X G (c.fact 75 (f := .free "repr") rfl)
    z_int := He.free_ok X G (c.fact 76 (f := .free "int") rfl)
    z_bool := He.free_ok X G (c.fact 77 (f := .free "bool") rfl)
    z_str := He.free_ok X G (c.fact 78 (f := .free "str") rfl)
    z_list := He.free_ok X G (c.fact 79 (f := .free "list") rfl)
    z_tuple := He.free_ok X G (c.fact 80 (f := .free "tuple") rfl)
    z_dict := He.free_ok X G (c.fact 81 (f := .free "dict") rfl)
    g_Watcher := He.glo_ok X G (c.fact 82 (f := .glo "Watcher") rfl)
    g_Stand := He.glo_ok X G (c.fact 83 (f := .glo "Stand") rfl)
    g_BadRun := He.glo_ok X G (c.fact 84 (f := .glo "BadRun") rfl)
    g_ZERO := He.glo_ok X G (c.fact 85 (f := .glo "ZERO") rfl)
    g_UPPERS := He.glo_ok X G (c.fact 86 (f := .glo "UPPERS") rfl)
    g_LOWERS := He.glo_ok X G (c.fact 87 (f := .glo "LOWERS") rfl)
    g_SIGNS := hS
    t_ZERO := fun H => He.tupB_ok e_ZERO H
    t_UPPERS := fun H => He.tupB_ok e_UPPERS H
    t_LOWERS := fun H => He.tupB_ok e_LOWERS H
    y_UPPERS := plainTup_ok e_up
    cl_Watcher := He.cls_ok (c.fact 88 (f := .cls "Watcher") rfl)
    cl_Stand := He.cls_ok (c.fact 89 (f := .cls "Stand") rfl)
    n_hands := He.noat_ok (c.fact 90 (f := .noat "Watcher" "hands") rfl)
    n_held := He.noat_ok (c.fact 91 (f := .noat "Watcher" "held") rfl)
    n_tracks := He.noat_ok (c.fact 92 (f := .noat "Watcher" "tracks") rfl)
    n_last_ones := He.noat_ok (c.fact 93 (f := .noat "Watcher" "last_ones") rfl)
    n_spot := He.noat_ok (c.fact 94 (f := .noat "Stand" "spot") rfl)
    n_begins := He.noat_ok (c.fact 95 (f := .noat "Stand" "begins") rfl)
    m_Watcher := mkg (c.def_ 68 (d := dM "Watcher" "__init__" "Watcher.__init__" s_Watcher_init) rfl) (He.mkr_ok (c.fact 96 (f := .mkr "Watcher") rfl)) (fun _ _ _ _ _ _ us hl => match us, hl with | [_, _, _, _, _], _ => rfl)
    m_Stand := mkg (c.def_ 70 (d := dM "Stand" "__init__" "Stand.__init__" s_Stand_init) rfl) (He.mkr_ok (c.fact 97 (f := .mkr "Stand") rfl)) (fun _ _ _ _ _ _ us hl => match us, hl with | [_, _, _], _ => rfl)
    m_worths_at := methg (c.def_ 71 (d := dM "Stand" "worths_at" "Stand.worths_at" s_Stand_worths_at) rfl) (He.meth_ok (c.fact 98 (f := .meth "Stand" "worths_at") rfl)) (fun _ _ _ _ _ _ us hl => match us, hl with | [_, _], _ => rfl)
    m_eq := eqg (c.def_ 69 (d := dM "Watcher" "__eq__" "Watcher.__eq__" s_Watcher_eq) rfl) e_eq (fun _ _ _ _ _ _ us hl => match us, hl with | [_, _], _ => rfl)
    o_Watcher := clsg e_cls
    io_Watcher := of_decide_eq_true e_kit
    ia_Watcher := insB_ok e_ins
    x_BadRun := badg (c.def_ 67 (d := dM "BadRun" "__init__" "BadRun.__init__" s_BadRun_init) rfl) e_oex (xfB_ok e_xf) (He.noat_ok (c.fact 99 (f := .noat "BadRun" "thing") rfl)) (He.exm_ok (c.fact 100 (f := .exm "BadRun" "BadRun" true) rfl)) e_ini (fun _ _ _ _ _ _ us hl => match us, hl with | [_, _], _ => rfl)
  }
theorem glo_law {K : PySem.W.Frag} {h : Heap} {mg : Str → Option Value} (X : K.In h) (G : h.Ns mainGlobals mg) (c : He.SaysD faL fnL K) : mg "law" = some (.ref (He.ga K "law")) := He.glo_ok X G (c.fact 102 (f := .glo "law") rfl)
theorem def_law {K : PySem.W.Frag} (c : He.SaysD faL fnL K) : ∃ fd, FunD K "law" "law" (defArgs s_law) (defBody s_law) (defScope s_law) [] [] (He.fAd K ("law", none)) fd := c.def_ 66 (d := dG "law" s_law) rfl
theorem def_right {K : PySem.W.Frag} (c : He.SaysD faL fnL K) : ∃ fd, FunD K "_law_right" "_law_right" (defArgs s_l_right) (defBody s_l_right) (defScope s_l_right) [] [] (He.fAd K ("_law_right", none)) fd := c.def_ 65 (d := dG "_law_right" s_l_right) rfl
theorem glo_right {K : PySem.W.Frag} {h : Heap} {mg : Str → Option Value} (X : K.In h) (G : h.Ns mainGlobals mg) (c : He.SaysD faL fnL K) : mg "_law_right" = some (.ref (He.ga K "_law_right")) := He.glo_ok X G (c.fact 65 (f := .glo "_law_right") rfl)
end K25


/-! ## Z1 -/
set_option Elab.async false
set_option linter.all false
set_option maxRecDepth 100000
set_option maxHeartbeats 4000000
/-! Z1: the end. -/
namespace K25
open PySem PySem.Spec PyProof.Rows L2
def csL (K : PySem.W.Frag) : List (Addr × Addr) := tfL.map (He.cT K)
def TTL (K : PySem.W.Frag) : List (Addr × Str) := [((He.cT K ("_law_right", none)).2, ("_law_right" ++ ".<locals>.") ++ "<lambda>"), ((He.cT K ("law", none)).2, ("law" ++ ".<locals>.") ++ "<lambda>")]
theorem pt_apart {K : PySem.W.Frag} (ex : exB K = true) : (He.cT K ("_law_right", none)).2 ≠ (He.cT K ("law", none)).2 := by
  have e := (He.ba (He.ba (He.ba (He.ba (He.ba (He.ba (He.ba (He.ba (He.ba (He.ba (He.ba ex).2).2).2).2).2).2).2).2).2).2).2
  exact of_decide_eq_true e
theorem walk_law {l : PySem.W.OpenLaw} {q : Program} {loose : List Str} {XP : (Str → Option Value) → Heap → Prop} {d : DefRec} (hn : l.most = some 63) (hdf : d.params.defaults = []) (hnm : d.name = "law") :
    PySem.W.WalkO q loose XP (hookY faL fnL tfL exB).says l.row.toRowW d [] (fun f vs => PySem.call f vs) := by
  refine Att.attach_callB hn hdf fun w s0 s1 mg mb fa o pm cd doc a vs ns G Y ho hd hcd hmg hobj hints hlen hbits hg => ?_
  obtain ⟨K, KX, c⟩ := Y
  rw [hnm] at hmg
  have mR : (("_law_right", none) : He.Defn) ∈ tfL := List.mem_cons_self ..
  have mL : (("law", none) : He.Defn) ∈ tfL := List.mem_cons_of_mem _ (List.mem_cons_self ..)
  have memC : ∀ {p : He.Defn}, p ∈ tfL → He.cT K p ∈ csL K := fun {p} h => List.mem_map.mpr ⟨p, h, rfl⟩
  have ofC : ∀ b ∈ (csL K).map (·.2), ∃ p ∈ tfL, (He.cT K p).2 = b := fun b hb => by
    obtain ⟨z, hz, rfl⟩ := List.mem_map.mp hb
    obtain ⟨p, hp, rfl⟩ := List.mem_map.mp hz
    exact ⟨p, hp, rfl⟩
  have S : Start K s1.heap a vs ns ((csL K).map (·.2)) := ⟨KX, hobj, fun b hb => by
    obtain ⟨p, hp, rfl⟩ := ofC b hb
    exact c.empty p hp, fun b hb => by
    obtain ⟨p, hp, rfl⟩ := ofC b hb
    exact c.out p hp, hints, Nat.le_trans hlen (by decide)⟩
  have ap := pt_apart c.more
  refine law_callG (k := 14) (nm := "law") (x := "_law_script") (sp := sp_law K (TTL K)) S G.T.g G.T.b G.T.builtins G.T.nolimit hg (fun p hp => ?_) G.T.bmain ⟨rfl, by decide, by decide⟩ hmg (fun base kb nb tb => ?_) (fun H hH hS => ?_)
  · obtain ⟨z, hz, rfl⟩ := List.mem_map.mp hp
    exact PySem.W.codeHd_of_K KX (c.hd z hz)
  · obtain ⟨A, T, eA⟩ := tx_of KX G.T.g c.d c.more
    have R' : RawG K mg "_law_right" s_l_right P_l_right (He.cT K ("_law_right", none)).1 := rawg (def_right c.d) (glo_right KX G.T.g c.d) (fun _ _ _ _ _ _ us hl => match us, hl with | [_, _, _, _], _ => rfl)
    have R : RawG K mg "law" s_law P_law (He.cT K ("law", none)).1 := rawg (def_law c.d) (glo_law KX G.T.g c.d) (fun _ _ _ _ _ _ us hl => match us, hl with | [_], _ => rfl)
    have MT' : MetT K mg base A.BadRun (TTL K) "_law_right" (He.cT K ("_law_right", none)).1 (He.cT K ("_law_right", none)).2 :=
      ⟨T.f_l_met, T.g_BadRun, T.x_BadRun.2.1, T.x_BadRun.2.2.1, tb _ (memC mR), List.mem_cons_self .., fun p hp e => by
        rcases List.mem_cons.mp hp with rfl | hp
        · rfl
        · rcases List.mem_cons.mp hp with rfl | hp
          · exact absurd e.symm ap
          · cases hp⟩
    have MT : MetT K mg base A.BadRun (TTL K) "law" (He.cT K ("law", none)).1 (He.cT K ("law", none)).2 :=
      ⟨T.f_l_met, T.g_BadRun, T.x_BadRun.2.1, T.x_BadRun.2.2.1, tb _ (memC mL), List.mem_cons_of_mem _ (List.mem_cons_self ..), fun p hp e => by
        rcases List.mem_cons.mp hp with rfl | hp
        · exact absurd e ap
        · rcases List.mem_cons.mp hp with rfl | hp
          · rfl
          · cases hp⟩
    exact ok_law T R' MT' R MT
  · refine ⟨a, ns, rfl, hS, fun p hp => ?_, fun _ => rfl⟩
    rcases List.mem_cons.mp hp with rfl | hp
    · exact LamX.TabS.nil (hH _ (memC mR))
    · rcases List.mem_cons.mp hp with rfl | hp
      · exact LamX.TabS.nil (hH _ (memC mL))
      · cases hp
end K25
open PySem PySem.W PySem.Calls PyProof.Rows
set_option maxHeartbeats 0
theorem PySem.Challenge.cw_rowsintime_k25_whole_runs_looked_at_holds : PySem.Challenge.rw_rowsintime_k25_whole_runs_looked_at.Holds := by
  w_on; o_law
  refine HandSHeadRun.head_any (r := OpenLaw.row PySem.Challenge.rw_rowsintime_k25_whole_runs_looked_at) (q := K25H.qv) (H := K25H.hk) (ob := K25H.ob) (M := 6000) (loose := K25H.names) (d := HandSHeadRun.topDef (OpenLaw.row PySem.Challenge.rw_rowsintime_k25_whole_runs_looked_at).prog 86) (kwd := []) K25H.ob_eq
    (by kernel_rfl) (fun s => by kernel_rfl) K25H.run (by kernel_rfl) (by kernel_rfl) (by kernel_rfl) (by rfl) (by first | assumption | decide +kernel) (by decide +kernel) ⟨rfl, rfl, rfl, rfl, rfl, by decide +kernel⟩ ?hw ?hc
  case hw => w_witness2
  case hc => exact K25.walk_law (l := PySem.Challenge.rw_rowsintime_k25_whole_runs_looked_at) rfl (by decide) (by kernel_rfl)

