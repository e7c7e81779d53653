import PyProof.Rows.All
import Wide.All
import OpenK.AllK
import Wide.FinOn
import HandS.ForMost
import HandS.ForExc
import HandS.CallSlots
import HandS.Flow
import HandS.Style
import HandS.Wide
import HandS.WideMore
import HandS.RaiseMore
import HandS.Walk
import HandS.IsInst
import HandS.HeadHook2
import KE.IntText
import HandS.Iter
import HandS.TupAny
import HandS.Deep
import PyProof.Rows.StrOr
import KE.KIntText
import HandS.More
import HandS.ExcInit
import HandS.ExcField
import KE.KExcInit
import HandS.Defaults
import HandS.Property
import HandS.ClsMeth
import HandS.Replace
import KE.KOpsOwn
import HandS.MakeKw
import HandS.OwnEq
import PyProof.EqAt
import HandS.FStr
import HandS.Star
import PyProof.EqKinds
import HandS.Small
import OpenK.KMeth
import HandS.Dict
import KE.GoesNew
import HandS.Zip
import KE.KUnpack
import HandS.SetTxt0
import HandS.Set
import HandS.SetBool
import PyProof.Rows.SortShellAny
import HandS.Lambda
import HandS.CallRecv
import HandS.Ends
import HandS.Head0
import HandS.Head1
import HandS.Head2
import HandS.HeadEnd
import HandS.HeadHook1
import HandS.HeadNt
import KE.KStateDown
import Lean
import PyProof.P3Eq
import KE.IntTextText
import HandS.Text
import PyProof.StrLawsChain
import PyProof.Rows.StrPartPair
import PySem.Challenge.RW_addalong_k26_programs_written_and_read
set_option Elab.async false
set_option linter.all false
set_option maxRecDepth 100000
set_option maxHeartbeats 4000000
/-! Vm: data values, what represents them in the abstract heap, weakest preconditions of a small language over them -/
namespace Vm
open PySem PySem.Spec L2
open PyProof.Rows hiding St

/-- what the classes, attributes and methods are called -/
def clsNames : List String := ["YardError", "NoRegister", "BadName", "SameRegister", "Uneven", "BadModulus", "Unlike", "BadLine", "NotAlong", "NotInvertible", "NotMade", "NotLed", "NotForced", "NoModulus", "NotSum", "Refused", "NoRow", "Known",
  "Deed", "Scaled", "Add", "Push", "Turn", "Program", "Table", "Map", "Sum", "Arrows", "Aligner", "Frame", "Bar", "Rest", "Turning", "Worker", "KnotWork", "Trial", "Yard", "Desk", "Field"]
def clsN (k : Nat) : Str := Str.ofString ((clsNames[k]?).getD "")
def atNames : List String := ["name", "value", "why", "line", "index", "determinant", "bar", "one", "other", "target", "source", "times", "number", "touched", "amount", "deeds", "names", "width", "modulus", "rows", "matrix", "shifts", "entries", "constant", "pairs", "turnable", "pushable", "parts", "beyond",
  "base", "table", "divisors", "weights", "order", "side", "knot", "divisor", "arrows", "paths", "worker", "frame", "amounts", "yard", "before", "past", "wished", "marks", "wishes", "done", "worths", "beneath", "turned"]
def atN (n : Nat) : Str := Str.ofString ((atNames[n]?).getD "")

/-- the package's defs by number, the methods' names -/
def pkNames : List String := ["is_name", "number_text", "number_in", "short_number", "minus", "cleared", "basis", "lead_of", "left_by", "reduced", "contains", "coefficients", "shortened", "determinant", "aligned", "divisors", "chosen", "common", "dual", "cofactors", "parted", "need_known", "reached", "arrows_of", "remainder", "remainder_deeds", "remainder_maps", "joined", "scaled_in", "deed_in", "undone", "need_modulus", "wrapped", "sum_of", "inverse", "identity", "unit_table", "need_alike", "modulus_rows", "above_rows", "own_rows", "spill", "stuff", "knot_divisors", "is_tight", "sign", "weighed", "is_multiple", "is_integer", "is_row", "is_order", "rest_between", "turning_of", "is_kept_sign", "find_bar", "paths_from", "formed", "form", "led", "leads", "program_of", "need_led", "enough", "needed", "product", "primes_of", "count_generating", "count_units", "count_rows", "count_led", "relations", "across", "shear", "freedom", "is_forced", "result", "picked", "spare", "settling", "joined_entries", "deed_of", "numbers_in", "names_in", "entries_in", "words_of", "inverse_maps", "inverse_spans", "common_lattices", "common_forcing"]
def mtNames : List String := ["__init__", "__eq__", "__neg__", "__mul__", "__rmul__", "__bool__", "__len__", "__getitem__", "__setitem__", "__iter__", "__add__", "__radd__", "__sub__", "__rsub__", "__call__", "__contains__", "__or__", "__and__", "__invert__", "__pow__", "__iadd__", "__isub__", "__enter__", "__exit__", "is_along", "changed", "text", "astray", "tidied", "read", "put", "example", "mixed", "weighed", "of", "image", "need_like", "cofactor", "hindrance", "part", "numbers", "row_in", "reaches", "knot_of", "upstream", "knots", "is_fed", "is_turned", "without", "allows", "missing", "is_within", "thin", "smallest", "put_first", "clear_cross", "undivided", "align", "lined_up", "coordinates", "square", "has_form", "holds", "sums", "is_kept", "determinant_in", "told", "step", "along", "add", "turn", "push", "push_far", "small", "unit_times", "make_unit", "gather", "settle_free", "settle", "clear_column", "turned_first", "finish", "work", "log", "wish", "run", "do", "undo", "attempt", "trial", "within", "lead_to", "can", "weighs", "loose", "turning", "say", "say_alone", "need", "need_even", "kept", "hoped", "keep", "say_register", "say_arrow", "say_mark", "say_do", "say_undo", "say_row", "say_want", "say_can", "say_force", "say_lead", "say_knots"]
def mtN (m : Nat) : Str := Str.ofString ((mtNames[m]?).getD "")
/-- the def's number of method m of class k -/
def mtF (k m : Nat) : Nat := 1000 + 200 * k + m

/-- a def by its number: the package's, the law's, a method -/
def fnPath (law : List Str) (i : Nat) : Str × Option Str := if i < 300 then (Str.ofString ((pkNames[i]?).getD ""), none) else if i < 1000 then ((law[i - 300]?).getD "", none) else (clsN ((i - 1000) / 200), some (mtN ((i - 1000) % 200)))
/-- where a def of the text stands: a module's name; a class's method, a property's getter, a class method -/
def fA (K : PySem.W.Frag) (p : Str × Option Str) : Addr := match p.2 with
  | none => He.ga K p.1
  | some m => match PySem.W.recIn K (He.ma K (He.ga K p.1) m) "property" with
    | some (.ref g :: _) => g
    | _ => match PySem.W.recIn K (He.ma K (He.ga K p.1) m) "classmethod" with
      | some (.ref g :: _) => g
      | _ => He.ma K (He.ga K p.1) m

inductive D where
  | non | bl (b : Bool) | int (i : Int) | str (s : Str)
  | tup (xs : List D) | lst (xs : List D) | cell (n : Nat) | scr (xs : List D)
  | ins (k : Nat) (ns : List Nat) (xs : List D)
  | dic (ks : List Key) (xs : List D)
  | cls (k : Nat)

inductive Sl where
  | no | sh (d : D) | ow (d : D)

abbrev Cl := List D
abbrev Fz := Addr → Prop
structure Ex where
  cls : Nat
  fs : List (Nat × D)

/-! ### representation -/
def FT (K : PySem.W.Frag) (H : Hp) (F : Fz) (a : Addr) (vs : List V) : Prop := (F a ∧ SqT K H a vs) ∨ SqT K (fun _ => none) a vs
def FL (H : Hp) (F : Fz) (a : Addr) (vs : List V) : Prop := F a ∧ H a = some (.lst vs)
def FS (K : PySem.W.Frag) (H : Hp) (F : Fz) (a : Addr) (vs : List V) : Prop := (F a ∧ ∃ o, H a = some (.frz o (.lst vs))) ∨ SqL K (fun _ => none) a vs
/-- an instance that stays -/
def FI (K : PySem.W.Frag) (H : Hp) (F : Fz) (a : Addr) (k : Nat) (ns : List Nat) (vs : List V) : Prop := F a ∧ ns.length = vs.length ∧ ∃ dx, H a = some (.ins (He.ga K (clsN k)) dx ((ns.map atN).zip vs))
/-- a dict that stays -/
def FD (H : Hp) (F : Fz) (a : Addr) (ks : List Key) (vs : List V) : Prop := F a ∧ ks.length = vs.length ∧ Rd H a (.dK (ks.zip vs))
mutual
inductive Rep (K : PySem.W.Frag) (H : Hp) (F : Fz) (rh : List Addr) : V → D → Prop
  | non : Rep K H F rh .non .non
  | bl {b} : Rep K H F rh (.bl b) (.bl b)
  | int {i} : Rep K H F rh (.int i) (.int i)
  | str {s} : Rep K H F rh (.str s) (.str s)
  | tup {a vs ds} : FT K H F a vs → RepL K H F rh vs ds → Rep K H F rh (.ref a) (.tup ds)
  | lst {a vs ds} : FL H F a vs → RepL K H F rh vs ds → Rep K H F rh (.ref a) (.lst ds)
  | scr {a vs ds} : FS K H F a vs → RepL K H F rh vs ds → Rep K H F rh (.ref a) (.scr ds)
  | ins {a k ns vs ds} : FI K H F a k ns vs → RepL K H F rh vs ds → Rep K H F rh (.ref a) (.ins k ns ds)
  | dic {a ks vs ds} : FD H F a ks vs → RepL K H F rh vs ds → Rep K H F rh (.ref a) (.dic ks ds)
  | cell {n a} : rh[n]? = some a → Rep K H F rh (.ref a) (.cell n)
  | cls {k} : Rep K H F rh (.ref (He.ga K (clsN k))) (.cls k)
inductive RepL (K : PySem.W.Frag) (H : Hp) (F : Fz) (rh : List Addr) : List V → List D → Prop
  | nil : RepL K H F rh [] []
  | cons {v d vs ds} : Rep K H F rh v d → RepL K H F rh vs ds → RepL K H F rh (v :: vs) (d :: ds)
end

structure Ext (H : Hp) (F : Fz) (rh : List Addr) (H' : Hp) (F' : Fz) (rh' : List Addr) : Prop where
  frz : ∀ a, F a → F' a
  stab : ∀ a o, F a → H a = some o → H' a = some o ∨ ∃ kvs ob, o = .dK kvs ∧ H' a = some (.frz ob (.dK kvs))
  cel : ∀ (n : Nat) a, rh[n]? = some a → rh'[n]? = some a

section
variable {K : PySem.W.Frag} {H H' H'' : Hp} {F F' F'' : Fz} {rh rh' rh'' : List Addr}
theorem Ext.refl : Ext H F rh H F rh := ⟨fun _ h => h, fun _ _ _ h => .inl h, fun _ _ h => h⟩
theorem Ext.trans (a : Ext H F rh H' F' rh') (b : Ext H' F' rh' H'' F'' rh'') : Ext H F rh H'' F'' rh'' :=
  ⟨fun x h => b.frz x (a.frz x h), fun x o f h => by
    rcases a.stab x o f h with h1 | ⟨kvs, ob, rfl, h1⟩
    · exact b.stab x o (a.frz x f) h1
    · rcases b.stab x _ (a.frz x f) h1 with h2 | ⟨_, _, e, _⟩
      · exact .inr ⟨kvs, ob, rfl, h2⟩
      · exact (nomatch e), fun n x h => b.cel n x (a.cel n x h)⟩
theorem Ext.exact (e : Ext H F rh H' F' rh') {a : Addr} {o : HO} (f : F a) (h : H a = some o) (hn : ∀ kvs, o ≠ .dK kvs) : H' a = some o := by
  rcases e.stab a o f h with h1 | ⟨kvs, ob, rfl, _⟩
  · exact h1
  · exact absurd rfl (hn kvs)
theorem Ext.rd (e : Ext H F rh H' F' rh') {a : Addr} {u : HO} (f : F a) (h : Rd H a u) : Rd H' a u := by
  rcases h with h | ⟨o, h⟩
  · rcases e.stab a _ f h with h1 | ⟨kvs, ob, rfl, h1⟩
    · exact .inl h1
    · exact .inr ⟨ob, h1⟩
  · exact .inr ⟨o, e.exact f h fun _ z => nomatch z⟩
theorem FT.ext (e : Ext H F rh H' F' rh') {a : Addr} {vs : List V} (h : FT K H F a vs) : FT K H' F' a vs := by
  rcases h with ⟨f, h | h⟩ | h
  · exact .inl ⟨e.frz a f, .inl (e.rd f h)⟩
  · exact .inl ⟨e.frz a f, .inr h⟩
  · exact .inr h
theorem FL.ext (e : Ext H F rh H' F' rh') {a : Addr} {vs : List V} (h : FL H F a vs) : FL H' F' a vs := ⟨e.frz a h.1, e.exact h.1 h.2 fun _ z => nomatch z⟩
theorem FS.ext (e : Ext H F rh H' F' rh') {a : Addr} {vs : List V} (h : FS K H F a vs) : FS K H' F' a vs := by
  rcases h with ⟨f, o, g⟩ | h
  · exact .inl ⟨e.frz a f, o, e.exact f g fun _ z => nomatch z⟩
  · exact .inr h
theorem FI.ext (e : Ext H F rh H' F' rh') {a : Addr} {k : Nat} {ns : List Nat} {vs : List V} (h : FI K H F a k ns vs) : FI K H' F' a k ns vs := by
  obtain ⟨f, l, dx, g⟩ := h
  exact ⟨e.frz a f, l, dx, e.exact f g fun _ z => nomatch z⟩
theorem FD.ext (e : Ext H F rh H' F' rh') {a : Addr} {ks : List Key} {vs : List V} (h : FD H F a ks vs) : FD H' F' a ks vs := ⟨e.frz a h.1, h.2.1, e.rd h.1 h.2.2⟩
theorem FT.sq {a : Addr} {vs : List V} (h : FT K H F a vs) : SqT K H a vs := by
  rcases h with ⟨_, h⟩ | (h | ⟨o, h⟩) | h
  · exact h
  · cases h
  · cases h
  · exact .inr h
theorem FL.sq {a : Addr} {vs : List V} (h : FL H F a vs) : SqL K H a vs := SqL.of h.2
theorem FS.sq {a : Addr} {vs : List V} (h : FS K H F a vs) : SqL K H a vs := by
  rcases h with ⟨_, h⟩ | (h | ⟨o, h⟩) | h
  · exact .inl (.inr h)
  · cases h
  · cases h
  · exact .inr h
mutual
theorem Rep.ext (e : Ext H F rh H' F' rh') : ∀ {v : V} {d : D}, Rep K H F rh v d → Rep K H' F' rh' v d
  | _, _, .non => .non
  | _, _, .bl => .bl
  | _, _, .int => .int
  | _, _, .str => .str
  | _, _, .tup h r => .tup (h.ext e) (RepL.ext e r)
  | _, _, .lst h r => .lst (h.ext e) (RepL.ext e r)
  | _, _, .scr h r => .scr (h.ext e) (RepL.ext e r)
  | _, _, .ins h r => .ins (h.ext e) (RepL.ext e r)
  | _, _, .dic h r => .dic (h.ext e) (RepL.ext e r)
  | _, _, .cell h => .cell (e.cel _ _ h)
  | _, _, .cls => .cls
theorem RepL.ext (e : Ext H F rh H' F' rh') : ∀ {vs : List V} {ds : List D}, RepL K H F rh vs ds → RepL K H' F' rh' vs ds
  | _, _, .nil => .nil
  | _, _, .cons h r => .cons (Rep.ext e h) (RepL.ext e r)
end
theorem RepL.len : ∀ {vs : List V} {ds : List D}, RepL K H F rh vs ds → vs.length = ds.length
  | _, _, .nil => rfl
  | _, _, .cons _ r => by rw [List.length_cons, List.length_cons, RepL.len r]
theorem RepL.app : ∀ {vs ws : List V} {ds es : List D}, RepL K H F rh vs ds → RepL K H F rh ws es → RepL K H F rh (vs ++ ws) (ds ++ es)
  | _, _, _, _, .nil, s => s
  | _, _, _, _, .cons h r, s => .cons h (RepL.app r s)
theorem RepL.at : ∀ {vs : List V} {ds : List D} {i : Nat} {d : D}, RepL K H F rh vs ds → ds[i]? = some d → ∃ v, vs[i]? = some v ∧ Rep K H F rh v d
  | _, _, _, _, .nil, e => by simp at e
  | _, _, 0, _, .cons h _, e => by simp at e; subst e; exact ⟨_, rfl, h⟩
  | _, _, i + 1, d, .cons _ r, e => by
    obtain ⟨v, h1, h2⟩ := RepL.at (i := i) (d := d) r (by simpa using e)
    exact ⟨v, by simpa using h1, h2⟩
theorem RepL.atV : ∀ {vs : List V} {ds : List D} {i : Nat} {v : V}, RepL K H F rh vs ds → vs[i]? = some v → ∃ d, ds[i]? = some d ∧ Rep K H F rh v d
  | _, _, _, _, .nil, e => by simp at e
  | _, _, 0, _, .cons h _, e => by simp at e; subst e; exact ⟨_, rfl, h⟩
  | _, _, i + 1, d, .cons _ r, e => by
    obtain ⟨v, h1, h2⟩ := RepL.atV (i := i) (v := d) r (by simpa using e)
    exact ⟨v, by simpa using h1, h2⟩
theorem RepL.set {x : V} {y : D} (q : Rep K H F rh x y) : ∀ {vs : List V} {ds : List D} (i : Nat), RepL K H F rh vs ds → RepL K H F rh (vs.set i x) (ds.set i y)
  | _, _, _, .nil => .nil
  | _, _, 0, .cons _ r => .cons q r
  | _, _, i + 1, .cons h r => .cons h (RepL.set q i r)
theorem RepL.take : ∀ {vs : List V} {ds : List D} (n : Nat), RepL K H F rh vs ds → RepL K H F rh (vs.take n) (ds.take n)
  | _, _, 0, _ => .nil
  | _, _, _ + 1, .nil => .nil
  | _, _, n + 1, .cons h r => .cons h (RepL.take n r)
theorem RepL.drop : ∀ {vs : List V} {ds : List D} (n : Nat), RepL K H F rh vs ds → RepL K H F rh (vs.drop n) (ds.drop n)
  | _, _, 0, r => r
  | _, _, _ + 1, .nil => .nil
  | _, _, n + 1, .cons _ r => RepL.drop n r
theorem RepL.rev {vs : List V} {ds : List D} (h : RepL K H F rh vs ds) : RepL K H F rh vs.reverse ds.reverse := by
  induction vs generalizing ds with
  | nil => cases h; exact .nil
  | cons v vs ih => cases h with
    | cons a r => rw [List.reverse_cons, List.reverse_cons]; exact (ih r).app (.cons a .nil)
theorem RepL.erase : ∀ {vs : List V} {ds : List D} (i : Nat), RepL K H F rh vs ds → RepL K H F rh (vs.eraseIdx i) (ds.eraseIdx i)
  | _, _, _, .nil => .nil
  | _, _, 0, .cons _ r => r
  | _, _, i + 1, .cons h r => .cons h (RepL.erase i r)
end

/-! ### objects that may change: owned by a slot, or cells -/
def ObjD (K : PySem.W.Frag) (H : Hp) (F : Fz) (rh : List Addr) (o : HO) : D → Prop
  | .lst ds => ∃ vs, o = .lst vs ∧ RepL K H F rh vs ds
  | .ins k ns ds => ∃ dx vs, o = .ins (He.ga K (clsN k)) dx ((ns.map atN).zip vs) ∧ ns.length = vs.length ∧ RepL K H F rh vs ds
  | .dic ks ds => ∃ vs, o = .dK (ks.zip vs) ∧ ks.length = vs.length ∧ RepL K H F rh vs ds
  | _ => False
theorem ObjD.ext {K : PySem.W.Frag} {H H' : Hp} {F F' : Fz} {rh rh' : List Addr} (e : Ext H F rh H' F' rh') {o : HO} : ∀ {d : D}, ObjD K H F rh o d → ObjD K H' F' rh' o d
  | .lst _, ⟨vs, h, r⟩ => ⟨vs, h, r.ext e⟩
  | .ins _ _ _, ⟨dx, vs, h, l, r⟩ => ⟨dx, vs, h, l, r.ext e⟩
  | .dic _ _, ⟨vs, h, l, r⟩ => ⟨vs, h, l, r.ext e⟩
  | .non, h | .bl _, h | .int _, h | .str _, h | .tup _, h | .cell _, h | .scr _, h | .cls _, h => h

structure Ce (K : PySem.W.Frag) (H : Hp) (F : Fz) (rh : List Addr) (c : Cl) : Prop where
  len : rh.length = c.length
  nd : rh.Nodup
  ob : ∀ (n : Nat) a d, rh[n]? = some a → c[n]? = some d → ∃ o, H a = some o ∧ ObjD K H F rh o d
  nf : ∀ a, a ∈ rh → ¬ F a
  ft : ∀ a, F a → H a ≠ none

def Owned (sh : L2.St) (s : List Sl) (a : Addr) : Prop := ∃ (i : Nat) (d : D), s[i]? = some (.ow d) ∧ sh[i]? = some (some (.ref a))
abbrev O0 : Addr → Prop := fun _ => False

structure Rl (K : PySem.W.Frag) (H0 H : Hp) (F : Fz) (rh : List Addr) (sh : L2.St) (s : List Sl) (c : Cl) : Prop extends Ce K H F rh c where
  shr : ∀ (i : Nat) d, s[i]? = some (.sh d) → ∃ v, sh[i]? = some (some v) ∧ Rep K H F rh v d
  own : ∀ (i : Nat) d, s[i]? = some (.ow d) → ∃ a o, sh[i]? = some (some (.ref a)) ∧ H a = some o ∧ ObjD K H F rh o d ∧ ¬ F a ∧ a ∉ rh
  uq : ∀ (i j : Nat) d e a, s[i]? = some (.ow d) → s[j]? = some (.ow e) → sh[i]? = some (some (.ref a)) → sh[j]? = some (some (.ref a)) → i = j
  ln : s.length = sh.length
  fr : ∀ (i : Nat) d a, s[i]? = some (.ow d) → sh[i]? = some (some (.ref a)) → H0 a = none
  mn : ∀ a, H a = none → H0 a = none

structure Ev (H : Hp) (F : Fz) (rh : List Addr) (O : Addr → Prop) (H' : Hp) (F' : Fz) (rh' : List Addr) (O' : Addr → Prop) : Prop extends Ext H F rh H' F' rh' where
  mono : ∀ a, H a ≠ none → H' a ≠ none
  priv : ∀ a o, H a = some o → ¬ F a → a ∉ rh → ¬ O a → H' a = some o ∧ ¬ F' a ∧ a ∉ rh' ∧ ¬ O' a

section
variable {K : PySem.W.Frag} {H H' H'' : Hp} {F F' F'' : Fz} {rh rh' rh'' : List Addr} {O O' O'' : Addr → Prop}
theorem Ev.refl : Ev H F rh O H F rh O := ⟨Ext.refl, fun _ h => h, fun _ _ h1 h2 h3 h4 => ⟨h1, h2, h3, h4⟩⟩
theorem Ev.trans (a : Ev H F rh O H' F' rh' O') (b : Ev H' F' rh' O' H'' F'' rh'' O'') : Ev H F rh O H'' F'' rh'' O'' :=
  ⟨a.toExt.trans b.toExt, fun x h => b.mono x (a.mono x h), fun x o h1 h2 h3 h4 => by
    obtain ⟨g1, g2, g3, g4⟩ := a.priv x o h1 h2 h3 h4
    exact b.priv x o g1 g2 g3 g4⟩
theorem Ev.fresh (a : Ev H F rh O H' F' rh' O') {p : Addr} (h : H' p = none) : H p = none := by
  cases q : H p with
  | none => rfl
  | some o => exact absurd h (a.mono p (by rw [q]; intro z; cases z))
end

/-! ### results -/
def Res (K : PySem.W.Frag) (H0 H : Hp) (F : Fz) (rh : List Addr) (O : Addr → Prop) (v : V) (d : D) : Bool → Prop
  | true => ∃ a o, v = .ref a ∧ H0 a = none ∧ H a = some o ∧ ObjD K H F rh o d ∧ ¬ F a ∧ a ∉ rh ∧ ¬ O a
  | false => Rep K H F rh v d

/-- F and one more -/
def addF (F : Fz) (a : Addr) : Fz := fun b => F b ∨ b = a
theorem Ext.addF {H : Hp} {F : Fz} {rh : List Addr} {a : Addr} : Ext H F rh H (addF F a) rh → True := fun _ => trivial

section
variable {K : PySem.W.Frag} {H H0 H1 Hs : Hp} {F F1 : Fz} {rh rh1 : List Addr} {sh : L2.St} {s s1 : List Sl} {c c1 : Cl} {v : V} {d : D}
theorem ext_addF {a : Addr} : Ext H F rh H (addF F a) rh := ⟨fun _ h => .inl h, fun _ _ _ h => .inl h, fun _ _ h => h⟩
/-- a private object is frozen -/
theorem Rl.freeze (R : Rl K H0 H F rh sh s c) {a : Addr} {o : HO} (ha : H a = some o) (hr : a ∉ rh) (hO : ¬ Owned sh s a) : Rl K H0 H (addF F a) rh sh s c := by
  have e : Ext H F rh H (addF F a) rh := ext_addF
  refine ⟨⟨R.len, R.nd, fun n b x h1 h2 => ?_, fun b hb z => ?_, fun b z => ?_⟩, fun i x h => ?_, fun i x h => ?_, R.uq, R.ln, R.fr, R.mn⟩
  · obtain ⟨o', g1, g2⟩ := R.ob n b x h1 h2
    exact ⟨o', g1, g2.ext e⟩
  · rcases z with z | z
    · exact R.nf b hb z
    · subst z; exact hr hb
  · rcases z with z | z
    · exact R.ft b z
    · subst z; rw [ha]; intro q; cases q
  · obtain ⟨w, g1, g2⟩ := R.shr i x h
    exact ⟨w, g1, g2.ext e⟩
  · obtain ⟨b, o', g1, g2, g3, g4, g5⟩ := R.own i x h
    refine ⟨b, o', g1, g2, g3.ext e, fun z => ?_, g5⟩
    rcases z with z | z
    · exact g4 z
    · subst z; exact hO ⟨i, x, h, g1⟩
theorem ObjD.rep {a : Addr} {o : HO} (h : ObjD K H F rh o d) (ha : H a = some o) (f : F a) : Rep K H F rh (.ref a) d := by
  cases d with
  | lst ds =>
    obtain ⟨vs, rfl, r⟩ := h
    exact .lst ⟨f, ha⟩ r
  | ins k ns ds =>
    obtain ⟨dx, vs, rfl, l, r⟩ := h
    exact .ins ⟨f, l, dx, ha⟩ r
  | dic ks ds =>
    obtain ⟨vs, rfl, l, r⟩ := h
    exact .dic ⟨f, l, .inl ha⟩ r
  | _ => exact h.elim
/-- a result is shared from now on -/
theorem Res.share {O : Addr → Prop} {b : Bool} (R : Rl K H0 H1 F1 rh1 sh s1 c1) (E : Ev H F rh O H1 F1 rh1 (Owned sh s1)) (r : Res K H H1 F1 rh1 (Owned sh s1) v d b) :
    ∃ F2, Rl K H0 H1 F2 rh1 sh s1 c1 ∧ Ev H F rh O H1 F2 rh1 (Owned sh s1) ∧ Rep K H1 F2 rh1 v d := by
  cases b with
  | false => exact ⟨F1, R, E, r⟩
  | true =>
    obtain ⟨a, o, rfl, h0, h1, h2, h3, h4, h5⟩ := r
    refine ⟨addF F1 a, R.freeze h1 h4 h5, ⟨E.toExt.trans ext_addF, E.mono, fun x ob g1 g2 g3 g4 => ?_⟩, (h2.ext ext_addF).rep h1 (.inr rfl)⟩
    obtain ⟨k1, k2, k3, k4⟩ := E.priv x ob g1 g2 g3 g4
    refine ⟨k1, fun z => ?_, k3, k4⟩
    rcases z with z | z
    · exact k2 z
    · subst z; rw [h0] at g1; cases g1
/-- a new object is laid -/
theorem ext_new {p : Addr} {o : HO} (hp : H p = none) (ft : ∀ a, F a → H a ≠ none) : Ext H F rh (upd H p o) F rh :=
  ⟨fun _ h => h, fun a u f h => .inl (by rw [upd_ne (ne_of_none h hp)]; exact h), fun _ _ h => h⟩
theorem Rl.laid (R : Rl K H0 H F rh sh s c) {p : Addr} {o : HO} (hp : H p = none) : Rl K H0 (upd H p o) F rh sh s c := by
  have e : Ext H F rh (upd H p o) F rh := ext_new hp R.ft
  refine ⟨⟨R.len, R.nd, fun n b x h1 h2 => ?_, R.nf, fun b z => ?_⟩, fun i x h => ?_, fun i x h => ?_, R.uq, R.ln, R.fr, fun a z => R.mn a (by
    by_cases hb : a = p
    · subst hb; exact hp
    · rw [upd_ne hb] at z; exact z)⟩
  · obtain ⟨o', g1, g2⟩ := R.ob n b x h1 h2
    exact ⟨o', by rw [upd_ne (ne_of_none g1 hp)]; exact g1, g2.ext e⟩
  · have q := R.ft b z
    by_cases hb : b = p
    · subst hb; exact absurd hp q
    · rw [upd_ne hb]; exact q
  · obtain ⟨w, g1, g2⟩ := R.shr i x h
    exact ⟨w, g1, g2.ext e⟩
  · obtain ⟨b, o', g1, g2, g3, g4, g5⟩ := R.own i x h
    exact ⟨b, o', g1, by rw [upd_ne (ne_of_none g2 hp)]; exact g2, g3.ext e, g4, g5⟩
theorem Rl.free (R : Rl K H0 H F rh sh s c) {p : Addr} (hp : H p = none) : ¬ F p ∧ p ∉ rh ∧ ¬ Owned sh s p := by
  refine ⟨fun z => R.ft p z hp, fun z => ?_, fun ⟨i, x, h1, h2⟩ => ?_⟩
  · obtain ⟨n, hn, e⟩ := List.mem_iff_getElem.mp z
    have hc : n < c.length := by rw [← R.len]; exact hn
    obtain ⟨o, g, _⟩ := R.ob n p c[n] (by rw [List.getElem?_eq_getElem hn, e]) (by rw [List.getElem?_eq_getElem hc])
    rw [hp] at g; cases g
  · obtain ⟨b, o', g1, g2, _⟩ := R.own i x h1
    rw [h2] at g1; cases g1
    rw [hp] at g2; cases g2
theorem ev_new {O : Addr → Prop} {p : Addr} {o : HO} (hp : H p = none) (ft : ∀ a, F a → H a ≠ none) : Ev H F rh O (upd H p o) F rh O :=
  ⟨ext_new hp ft, fun a h => by
      by_cases hb : a = p
      · subst hb; exact absurd hp h
      · rw [upd_ne hb]; exact h, fun a u g1 g2 g3 g4 => ⟨by rw [upd_ne (ne_of_none g1 hp)]; exact g1, g2, g3, g4⟩⟩
end
end Vm

/-! Vm: the small language and its weakest preconditions -/
namespace Vm
open PySem PySem.Spec L2

/-! ### primitives over values -/
def Tru (c : Cl) : D → Option Bool
  | .non => some false
  | .bl b => some b
  | .int i => some (i != 0)
  | .str s => if s.length ≤ sizeLine then some ((s.length : Int) != 0) else none
  | .tup xs => some (!xs.isEmpty)
  | .lst xs => some (!xs.isEmpty)
  | .scr xs => some (!xs.isEmpty)
  | .cell n => match c[n]? with
    | some (.lst xs) => some (!xs.isEmpty)
    | _ => none
  | .dic _ _ => none
  | .ins _ _ _ => none
  | .cls _ => none
/-- a list, be it a value or a cell -/
def asL (c : Cl) : D → Option (List D)
  | .lst xs => some xs
  | .cell n => match c[n]? with
    | some (.lst xs) => some xs
    | _ => none
  | _ => none
/-- a list or a tuple, the script among them -/
def asS (c : Cl) : D → Option (List D)
  | .tup xs => some xs
  | .scr xs => some xs
  | d => asL c d
mutual
def pyD : D → Option PyData
  | .non => some .none
  | .bl b => some (.bool b)
  | .int i => some (.int i)
  | .str s => some (.str s)
  | .tup xs => (pyL xs).map .tuple
  | .lst xs => (pyL xs).map .list
  | .cell _ | .scr _ | .ins _ _ _ | .dic _ _ | .cls _ => none
def pyL : List D → Option (List PyData)
  | [] => some []
  | x :: xs => match pyD x, pyL xs with
    | some p, some ps => some (p :: ps)
    | _, _ => none
end
/-- as data, a cell at the top as the list that it is -/
def pyC (c : Cl) : D → Option PyData
  | .cell n => match c[n]? with
    | some (.lst xs) => (pyL xs).map .list
    | _ => none
  | d => pyD d
/-- the signs of a text -/
def signs (z : Str) : List D := z.cps.toList.map fun ch => D.str ⟨#[ch]⟩
def repS (s : Str) (n : Nat) : Str := ⟨(List.replicate n s.cps.toList).flatten.toArray⟩

def isNon : D → Bool
  | .non => true
  | _ => false
abbrev Q1 := D → Bool → Prop
def binW (op : Operator) (c : Cl) (x y : D) (Q : Q1) : Prop :=
  match op with
  | .Add => (match x, y with
    | .int i, .int j => Q (.int (i + j)) false
    | .str a, .str b => a.length + b.length ≤ sizeLine ∧ Q (.str (a ++ b)) false
    | .tup xs, .tup ys => xs.length + ys.length ≤ sizeLine ∧ Q (.tup (xs ++ ys)) false
    | _, _ => ∃ xs ys, asL c x = some xs ∧ asL c y = some ys ∧ xs.length + ys.length ≤ sizeLine ∧ Q (.lst (xs ++ ys)) true)
  | .Sub => (match x, y with
    | .int i, .int j => Q (.int (i - j)) false
    | _, _ => False)
  | .Mult => (match x, y with
    | .int i, .int j => (CMul i j ∨ CMulW i j) ∧ Q (.int (i * j)) false
    | .str a, .int k => a.length * k.toNat ≤ sizeLine ∧ k.natAbs < 2 ^ 62 ∧ Q (.str (repS a k.toNat)) false
    | _, .int k => ∃ xs, asL c x = some xs ∧ xs.length * k.toNat ≤ sizeLine ∧ k.natAbs < 2 ^ 62 ∧ Q (.lst (List.replicate k.toNat xs).flatten) true
    | _, _ => False)
  | .FloorDiv => (match x, y with
    | .int i, .int j => (CDivN i j ∨ CDivW i j) ∧ Q (.int (i.fdiv j)) false
    | _, _ => False)
  | .Mod => (match x, y with
    | .int i, .int j => j ≠ 0 ∧ Q (.int (i.fmod j)) false
    | _, _ => False)
  | .Pow => (match x, y with
    | .int i, .int j => CPow i j ∧ Q (.int (i ^ j.toNat)) false
    | _, _ => False)
  | _ => False
def unW (op : UnaryOp) (x : D) (Q : Q1) : Prop :=
  match op, x with
  | .USub, .int i => Q (.int (-i)) false
  | _, _ => False
def cmpW (op : CmpOp) (c : Cl) (x y : D) (k : Bool → Prop) : Prop :=
  match op with
  | .Eq => (∃ a b, x = .str a ∧ y = .str b ∧ k (decide (a = b))) ∨ ∃ p q, pyC c x = some p ∧ pyC c y = some q ∧ SeqAt.shaped p = true ∧ SeqAt.shaped q = true ∧ k (PyData.eqv p q)
  | .NotEq => (∃ a b, x = .str a ∧ y = .str b ∧ k (!decide (a = b))) ∨ ∃ p q, pyC c x = some p ∧ pyC c y = some q ∧ SeqAt.shaped p = true ∧ SeqAt.shaped q = true ∧ k (!PyData.eqv p q)
  | .Lt => (match x, y with
    | .int i, .int j => k (decide (i < j))
    | .str a, .str b => k (decide (a.cps.toList < b.cps.toList))
    | _, _ => False)
  | .LtE => (match x, y with
    | .int i, .int j => k (decide (i ≤ j))
    | .str a, .str b => k (!decide (b.cps.toList < a.cps.toList))
    | _, _ => False)
  | .Gt => (match x, y with
    | .int i, .int j => k (decide (j < i))
    | .str a, .str b => k (decide (b.cps.toList < a.cps.toList))
    | _, _ => False)
  | .GtE => (match x, y with
    | .int i, .int j => k (decide (j ≤ i))
    | .str a, .str b => k (!decide (a.cps.toList < b.cps.toList))
    | _, _ => False)
  | .In => (match x, y with
    | .str a, .str b => (∃ ch, a = ⟨#[ch]⟩ ∧ k (decide (ch ∈ b.cps.toList))) ∨ k (!(Builtin.Str.occurrences b a 0 b.length 1).isEmpty)
    | _, _ => ∃ p ys ps, pyC c x = some p ∧ asS c y = some ys ∧ pyL ys = some ps ∧ SeqAt.shaped p = true ∧ SeqAt.shaped (.list ps) = true ∧ k (ps.any fun z => PyData.eqv z p))
  | .NotIn => (match x, y with
    | .str a, .str b => (∃ ch, a = ⟨#[ch]⟩ ∧ k (!decide (ch ∈ b.cps.toList))) ∨ k (!!(Builtin.Str.occurrences b a 0 b.length 1).isEmpty)
    | _, _ => ∃ p ys ps, pyC c x = some p ∧ asS c y = some ys ∧ pyL ys = some ps ∧ SeqAt.shaped p = true ∧ SeqAt.shaped (.list ps) = true ∧ k (!ps.any fun z => PyData.eqv z p))
  | .Is => (match y with
    | .non => k (isNon x)
    | _ => False)
  | .IsNot => (match y with
    | .non => k (!isNon x)
    | _ => False)
/-- an item by its place -/
def idxW (c : Cl) (x y : D) (Q : Q1) : Prop :=
  match x, y with
  | .str z, .int i => z.length ≤ sizeLine ∧ ∃ ch, atI z.cps.toList i = some ch ∧ Q (.str ⟨#[ch]⟩) false
  | _, .int i => ∃ xs v, asS c x = some xs ∧ atI xs i = some v ∧ Q v false
  | _, _ => False
def cutD (xs : List D) (lo hi : Option Int) : List D := (xs.drop (HT.sIx xs.length 0 lo)).take (HT.sIx xs.length xs.length hi - HT.sIx xs.length 0 lo)
def slcW (c : Cl) (x : D) (l h : Option Int) (Q : Q1) : Prop :=
  match x with
  | .str z => z.length ≤ sizeLine ∧ Q (.str (cutS z l h)) false
  | .tup xs => Q (.tup (cutD xs l h)) false
  | _ => ∃ xs, (asL c x = some xs ∨ x = .scr xs) ∧ Q (.lst (cutD xs l h)) true

inductive Prim where
  | len | abs | int | bool | str | repr | min | max | all | any | sum | list | tuple | sorted | dict | strL | reprL | intL
  deriving DecidableEq
def Prim.name : Prim → Str
  | .len => "len" | .abs => "abs" | .int => "int" | .bool => "bool" | .str => "str" | .repr => "repr" | .min => "min" | .max => "max" | .all => "all" | .any => "any" | .sum => "sum"
  | .list => "list" | .tuple => "tuple" | .sorted => "sorted" | .dict => "dict" | .strL => "str" | .reprL => "repr" | .intL => "int"
def Prim.val : Prim → Value
  | .len => .builtin "len" | .abs => .builtin "abs" | .int => .type "int" | .bool => .type "bool" | .str => .type "str" | .repr => .builtin "repr" | .min => .builtin "min" | .max => .builtin "max"
  | .all => .builtin "all" | .any => .builtin "any" | .sum => .builtin "sum"
  | .list => .type "list" | .tuple => .type "tuple" | .sorted => .builtin "sorted" | .dict => .type "dict" | .strL => .type "str" | .reprL => .builtin "repr" | .intL => .type "int"
/-- a dict, be it a value or a cell -/
def asDic (c : Cl) : D → Option (List Key × List D)
  | .dic ks xs => some (ks, xs)
  | .cell n => match c[n]? with
    | some (.dic ks xs) => some (ks, xs)
    | _ => none
  | _ => none
def keyD : Key → D
  | .inl i => .int i
  | .inr z => .str z
def getK : List Key → List D → Key → Option D
  | k' :: ks, x :: xs, k => if k' = k then some x else getK ks xs k
  | _, _, _ => none
/-- a key put -/
def putD (k : Key) (y : D) : List Key → List D → List Key × List D
  | k' :: ks, x :: xs => if k' = k then (k' :: ks, y :: xs) else let r := putD k y ks xs; (k' :: r.1, x :: r.2)
  | _, _ => ([k], [y])
/-- the pairs of a list of tuples of two -/
def pairsOf (ks : List Key) (xs : List D) : List D := (ks.zip xs).map fun p => .tup [keyD p.1, p.2]
def digLim : Nat := 10 ^ 4300
def lenD (c : Cl) : D → Option Nat
  | .str z => if z.length ≤ sizeLine then some z.length else none
  | d => (asS c d).map List.length
def blOf : D → Option Bool
  | .bl b => some b
  | _ => none
def intOf : D → Option Int
  | .int i => some i
  | _ => none
def primW (p : Prim) (c : Cl) (ds : List D) (Q : Q1) : Prop :=
  match p, ds with
  | .len, [d] => ∃ n, lenD c d = some n ∧ Q (.int (n : Nat)) false
  | .abs, [.int i] => Q (.int (if i < 0 then -i else i)) false
  | .int, [.int i] => Q (.int i) false
  | .int, [.bl b] => Q (.int (if b then 1 else 0)) false
  | .bool, [.int i] => Q (.bl (i != 0)) false
  | .bool, [.bl b] => Q (.bl b) false
  | .str, [.int i] => i.natAbs.log2 < 1920 ∧ Q (.str (toString i)) false
  | .repr, [d] => ∃ p, pyC c d = some p ∧ p.showable = true ∧ p.depth ≤ 60 ∧ p.shown.length ≤ sizeLine ∧ Q (.str p.shown) false
  | .min, [.int i, .int j] => Q (.int (if j < i then j else i)) false
  | .max, [.int i, .int j] => Q (.int (if j > i then j else i)) false
  | .all, [d] => ∃ (xs : List D) (bs : List Bool), asL c d = some xs ∧ xs = bs.map D.bl ∧ Q (.bl (bs.all id)) false
  | .any, [d] => ∃ (xs : List D) (bs : List Bool), asL c d = some xs ∧ xs = bs.map D.bl ∧ Q (.bl (bs.any id)) false
  | .sum, [d] => ∃ (xs : List D) (ns : List Int), asL c d = some xs ∧ xs = ns.map D.int ∧ Q (.int ns.sum) false
  | .list, [d] => (∃ xs, asS c d = some xs ∧ Q (.lst xs) true) ∨ ∃ ks xs, asDic c d = some (ks, xs) ∧ Q (.lst (ks.map keyD)) true
  | .tuple, [d] => ∃ xs, asS c d = some xs ∧ Q (.tup xs) false
  | .sorted, [d] => ∃ (xs : List D) (zs : List Str), asL c d = some xs ∧ xs = zs.map D.str ∧ zs.length < 64 ∧ ∀ ys : List Str, ys.Perm zs → PyProof.Rows.sortedS ys = true → Q (.lst (ys.map D.str)) true
  | .dict, [d] => (∃ ks xs, asDic c d = some (ks, xs) ∧ Q (.dic ks xs) true) ∨ ∃ ds ks xs, asL c d = some ds ∧ ds = pairsOf ks xs ∧ ks.length = xs.length ∧ ks.Nodup ∧ Q (.dic ks xs) true
  | .strL, [.int i] => i.natAbs < digLim ∧ Q (.str (toString i)) false
  | .reprL, [.int i] => i.natAbs < digLim ∧ Q (.str (toString i)) false
  | .reprL, [.non] => Q (.str "None") false
  | .intL, [.str z] => ∃ n, z.cps.all (· < 128) = true ∧ z.length ≤ sizeLine ∧ PySem.intText? z = some n ∧ Q (.int n) false
  | _, _ => False

/-- the type of a value, as its name -/
def tyD (c : Cl) : D → Option String
  | .non => some "NoneType"
  | .bl _ => some "bool"
  | .int _ => some "int"
  | .str _ => some "str"
  | .tup _ => some "tuple"
  | .lst _ | .scr _ => some "list"
  | .cell n => match c[n]? with
    | some (.lst _) => some "list"
    | _ => none
  | .dic _ _ => some "dict"
  | .ins _ _ _ => none
  | .cls _ => none
def isTy (t T : String) : Bool := t == T || (t == "bool" && T == "int") || T == "object"

/-! ### methods: of values that stay (pure), of what a slot owns or a cell holds -/
inductive Mt where
  | upper | join | append | extend | pop | clear | index | split | partition | insert
  deriving DecidableEq
def Mt.name : Mt → Str
  | .upper => "upper" | .join => "join" | .append => "append" | .extend => "extend" | .pop => "pop" | .clear => "clear" | .index => "index" | .split => "split" | .partition => "partition" | .insert => "insert"
def strOf : D → Option Str
  | .str s => some s
  | _ => none
def recvOk (m : Mt) (x : D) : Prop :=
  match m, x with
  | .upper, .str _ | .join, .str _ | .index, .str _ | .split, .str _ | .partition, .str _ => True
  | _, _ => False
def methW (m : Mt) (c : Cl) (x : D) (ds : List D) (Q : Q1) : Prop :=
  match m, x, ds with
  | .upper, .str a, [] => a.length ≤ 5592405 ∧ Q (.str (Txt.upper a)) false
  | .join, .str a, [d] => ∃ (xs : List D) (ys : List Str), asS c d = some xs ∧ xs = ys.map D.str ∧ (ys.map (·.length)).sum + ys.length * a.length ≤ 16777216 ∧ Q (.str (Txt.join a ys)) false
  | .index, .str a, [.str b] => ∃ i rest, Builtin.Str.occurrences a b 0 a.length 1 = i :: rest ∧ Q (.int (i : Nat)) false
  | .split, .str a, [.str b] => (b.length == 0) = false ∧ a.length + 2 ≤ sizeLine ∧ Q (.lst ((Txt.split a b).map .str)) true
  | .partition, .str a, [.str b] => (b.length == 0) = false ∧ a.length ≤ sizeLine ∧ Q (.tup [.str (Txt.partition a b).1, .str (Txt.partition a b).2.1, .str (Txt.partition a b).2.2]) false
  | _, _, _ => False
/-- what a method does with a list that may change: its value, the list behind -/
def mutW (m : Mt) (c : Cl) (xs : List D) (ds : List D) (Q : D → List D → Prop) : Prop :=
  match m, ds with
  | .append, [d] => xs.length < sizeLine ∧ Q .non (xs ++ [d])
  | .extend, [d] => ∃ ys, asL c d = some ys ∧ xs.length + ys.length ≤ sizeLine ∧ Q .non (xs ++ ys)
  | .pop, [] => ∃ y, xs[xs.length - 1]? = some y ∧ Q y xs.dropLast
  | .pop, [.int i] => ∃ k y, i.natAbs < 2 ^ 62 ∧ seqIndex? i xs.length = some k ∧ xs[k]? = some y ∧ Q y (xs.eraseIdx k)
  | .clear, [] => Q .non []
  | .insert, [.int i, d] => xs.length < sizeLine ∧ 0 ≤ i ∧ i < 2 ^ 63 ∧ Q .non (xs.take i.toNat ++ [d] ++ xs.drop i.toNat)
  | _, _ => False

/-! ### calls with keywords and defaults; instances -/
/-- how the parameters come of the values that are written (positional ones, then the keywords'): each one of these, or a default -/
abbrev Pl := List (Nat ⊕ D)
def appP {α β : Type} (g : β → Option α) (pl : List (Nat ⊕ β)) (ds : List α) : List α := pl.filterMap fun
  | .inl i => ds[i]?
  | .inr d => g d
abbrev appD (pl : Pl) (ds : List D) : List D := appP some pl ds
/-- an instance, be it a value or a cell: its class, its attributes -/
def insOf (c : Cl) : D → Option (Nat × List Nat × List D)
  | .ins k ns xs => some (k, ns, xs)
  | .cell n => match c[n]? with
    | some (.ins k ns xs) => some (k, ns, xs)
    | _ => none
  | _ => none
def getF : List Nat → List D → Nat → Option D
  | n :: ns, x :: xs, m => if n = m then some x else getF ns xs m
  | _, _, _ => none
def putF (n : Nat) (y : D) : List Nat → List D → List Nat × List D
  | m :: ns, x :: xs => if n = m then (m :: ns, y :: xs) else let r := putF n y ns xs; (m :: r.1, x :: r.2)
  | _, _ => ([n], [y])
mutual
/-- no cell in it -/
def flatD : D → Bool
  | .tup xs | .lst xs | .ins _ _ xs | .dic _ xs => flatL xs
  | .cell _ | .scr _ => false
  | _ => true
def flatL : List D → Bool
  | [] => true
  | x :: xs => flatD x && flatL xs
end
/-- the classes above a class -/
def upC (k : Nat) : List Nat := if k = 20 ∨ k = 21 then [18, 19] else if k = 22 then [18] else if k = 31 ∨ k = 32 then [30] else if 2 ≤ k ∧ k ≤ 17 then [0] else []
def subC (k j : Nat) : Bool := decide (k = j) || (upC k).contains j
inductive Gn where
  | fld (n : Nat)
  | call (f n : Nat) (ks : List Nat) (pl : Pl)
  | mk (k n : Nat) (ks : List Nat) (pl : Pl)
  | mkc (k n : Nat) (ks : List Nat) (pl : Pl)
  | prp (m : Nat)
  | bin (op : Operator)
  | rbin (op : Operator)
  | un (op : UnaryOp)
  | eqI
  | eqR
  | neI
  | dget
  | din (neg : Bool)
  | isc (k : Nat)
  | boolI
  | lenI
  | getI
  | inI (neg : Bool)
  | srt (u v f : Nat)
  | cm (k m n : Nat) (ks : List Nat) (pl : Pl)
  | rev
  | dgt
  | repT
  | flat (u v : Nat)
  | sset
  | spr (u v w z : Nat)
  | dsrt
  | dext
  | deq (neg : Bool)
  | eqT
  | fmt
def binM : Operator → Option Nat
  | .Add => some 10 | .Sub => some 12 | .Mult => some 3 | .BitOr => some 16 | .BitAnd => some 17 | .Pow => some 19
  | _ => none
def rbinM : Operator → Option Nat
  | .Add => some 11 | .Sub => some 13 | .Mult => some 4
  | _ => none
def unM : UnaryOp → Option Nat
  | .USub => some 2 | .Invert => some 18
  | _ => none

/-! ### the language -/
mutual
inductive Tg where
  | nm (i : Nat)
  | tp (l : TgL)
inductive TgL where
  | nil
  | cons (t : Tg) (l : TgL)
end
mutual
inductive IE where
  | var (i : Nat)
  | con (d : D)
  | glob (i : Nat)
  | bin (op : Operator) (a b : IE)
  | un (op : UnaryOp) (a : IE)
  | cmp (op : CmpOp) (a b : IE)
  | chain (op op' : CmpOp) (a b c : IE)
  | bool (isAnd : Bool) (l : IL)
  | not (a : IE)
  | ite (c a b : IE)
  | tup (l : IL)
  | lst (l : IL)
  | idx (a b : IE)
  | slc (a : IE) (lo hi : IO)
  | call (f : Nat) (l : IL)
  | prim (p : Prim) (l : IL)
  | isi (a : IE) (T : String)
  | meth (m : Mt) (o : IE) (l : IL)
  | methv (m : Mt) (i : Nat) (l : IL)
  | comp (own : List Nat) (t : Tg) (src : IT) (ifs : IL) (elt : IE)
  | op (g : Gn) (l : IL)
  | fstr (l : IL)
  | mcall (m n : Nat) (ks : List Nat) (pl : Pl) (o : IE) (l : IL)
  | mkv (k i n : Nat) (ks : List Nat) (pl : Pl) (l : IL)
  | disp (tp : Bool) (st : List Bool) (l : IL)
  | methc (m : Mt) (o : IE) (l : IL)
  | dlit (cb : List Bool) (l : IL)
  | dcomp (own : List Nat) (t : Tg) (src : IT) (ifs : IL) (ek ev : IE)
  | calli (n : Nat) (ks : List Nat) (pl : Pl) (f : IE) (l : IL)
inductive IL where
  | nil
  | cons (a : IE) (l : IL)
inductive IO where
  | no
  | so (a : IE)
inductive IT where
  | val (e : IE)
  | range1 (a : IE)
  | range2 (a b : IE)
  | range3 (a b e : IE)
  | enum (e : IE)
  | zip (a b : IE)
  | items (e : IE)
end

structure Ctx where
  fn : Nat → List D → Cl → (D → Bool → Cl → Prop) → (Ex → Cl → Prop) → Prop
  hasF : Nat → Bool
  gl : Nat → D
  hasG : Nat → Bool
  hasP : Prim → Bool
  hasB : Nat → Bool := fun _ => false
  hasP2 : Nat → Nat → List Nat → Pl → Bool := fun _ _ _ _ => false
  hasA : Nat → Nat → Bool := fun _ _ => false
  hasM : Nat → Nat → Bool := fun _ _ => false
  hasC : Nat → Bool := fun _ => false
  hasN : Nat → Bool := fun _ => false
  hasI : Nat → Nat → Bool := fun _ _ => false
  hasO : Nat → Nat → Bool := fun _ _ => false
  hasR : Nat → Nat → Bool := fun _ _ => false
  hasQ : Nat → Bool := fun _ => false
  hasW : Nat → Bool := fun _ => false
  hasX : Nat → Bool := fun _ => false
  hasH : Nat → Nat → Bool := fun _ _ => false
  hasK : Nat → Nat → Bool := fun _ _ => false

/-- a call of the def f by such a form -/
def callW (C : Ctx) (f n : Nat) (ks : List Nat) (pl : Pl) (ds : List D) (c : Cl) (Q : D → Bool → Cl → Prop) (E : Ex → Cl → Prop) : Prop :=
  C.hasF f = true ∧ C.hasP2 f n ks pl = true ∧ ds.length = n + ks.length ∧ C.fn f (appD pl ds) c Q E
def idP (n : Nat) : Pl := (List.range n).map .inl
/-- a new instance: its cell is the last one while it is made -/
def mkW (C : Ctx) (k n : Nat) (ks : List Nat) (pl : Pl) (ds : List D) (c : Cl) (Q : List Nat → List D → Prop) (E : Ex → Prop) : Prop :=
  C.hasM k 0 = true ∧ callW C (mtF k 0) (n + 1) ks pl (.cell c.length :: ds) (c ++ [.ins k [] []]) (fun d _ c2 => d = .non ∧ ∃ ns xs, c2 = c ++ [.ins k ns xs] ∧ Q ns xs) (fun ex c2 => (∃ y, c2 = c ++ [y]) ∧ flatL (ex.fs.map (·.2)) = true ∧ E ex)
/-- the method m of the class k at such an instance -/
def methK (C : Ctx) (k m n : Nat) (ks : List Nat) (pl : Pl) (x : D) (ds : List D) (c : Cl) (Q : D → Bool → Cl → Prop) (E : Ex → Cl → Prop) : Prop :=
  C.hasM k m = true ∧ callW C (mtF k m) (n + 1) ks pl (x :: ds) c Q E
def clsOfD (c : Cl) (x : D) : Option Nat := (insOf c x).map (·.1)
/-- the other operand: its type stands, and is none below the class k -/
def othOk (C : Ctx) (c : Cl) (k : Nat) (y : D) : Prop := match clsOfD c y with
  | some k2 => C.hasI k2 k = true ∧ (k2 = k ∨ subC k2 k = false)
  | none => C.hasN k = true ∧ ∃ t, tyD c y = some t
def iscD (c : Cl) (j : Nat) (x : D) : Option Bool := match insOf c x with
  | some (k, _, _) => some (subC k j)
  | none => (tyD c x).map fun _ => false
/-- None, a truth value, a number, a text, a tuple -/
def flatV2 : D → Bool
  | .non | .bl _ | .int _ | .str _ | .tup _ => true
  | _ => false
/-- what stands ahead of the arguments -/
def opOk (C : Ctx) : Gn → Bool
  | .call f _ _ _ => C.hasF f
  | .mk k _ _ _ => C.hasC k
  | .mkc k _ _ _ => C.hasC k
  | .cm k m _ _ _ => C.hasK k m
  | .isc k => C.hasN k
  | .boolI => C.hasP .bool
  | .lenI => C.hasP .len
  | .srt _ _ _ => C.hasP .sorted
  | .sset => C.hasP .sorted
  | .spr _ _ _ _ => C.hasP .sorted
  | .dsrt => C.hasP .sorted
  | _ => true
/-- pairs of texts, one ahead of the other -/
def ltP (p q : Str × Str) : Bool := decide (p.1.cps.toList < q.1.cps.toList) || (decide (p.1 = q.1) && decide (p.2.cps.toList < q.2.cps.toList))
def getP (k : Key) : List Key → List PyData → Option PyData
  | k' :: ks, x :: xs => if k' = k then some x else getP k ks xs
  | _, _ => none
/-- dicts that are equal -/
def eqDB (ks : List Key) (ps : List PyData) (ks' : List Key) (qs : List PyData) : Bool := decide (ks.length = ks'.length) && ks.all fun k => match getP k ks ps, getP k ks' qs with
  | some p, some q => PyData.eqv p q
  | _, _ => false
/-- sorted({name for x in xs for name in x.f}), the fields tuples of texts -/
def srtW (C : Ctx) (f : Nat) (x : D) (c : Cl) (Q : D → Prop) : Prop := ∃ (ds : List D) (nss : List (List Str)), x = .tup ds ∧ nss.length = ds.length ∧
  (∀ (i : Nat) d zs, ds[i]? = some d → nss[i]? = some zs → ∃ k ns xs, insOf c d = some (k, ns, xs) ∧ C.hasA k f = true ∧ getF ns xs f = some (.tup (zs.map .str))) ∧
  nss.flatten.length < 4000 ∧ ∀ ys : List Str, ys.Nodup → PyProof.Rows.sortedS ys = true → (∀ z, z ∈ ys ↔ z ∈ nss.flatten) → Q (.lst (ys.map .str))
/-- the truth of an instance -/
def truW (C : Ctx) (x : D) (c : Cl) (Q : Bool → Cl → Prop) : Prop := ∃ k, clsOfD c x = some k ∧ C.hasM k 5 = true ∧ callW C (mtF k 5) 1 [] (idP 1) [x] c (fun d _ c2 => ∃ b, d = .bl b ∧ Q b c2) (fun _ _ => False)
def opW (C : Ctx) (g : Gn) (ds : List D) (c : Cl) (Q : D → Bool → Cl → Prop) (E : Ex → Cl → Prop) : Prop :=
  match g, ds with
  | .fld n, [x] => ∃ k ns xs d, insOf c x = some (k, ns, xs) ∧ C.hasA k n = true ∧ getF ns xs n = some d ∧ Q d false c
  | .call f n ks pl, ds => callW C f n ks pl ds c Q E
  | .mk k n ks pl, ds => mkW C k n ks pl ds c (fun ns xs => flatL xs = true ∧ Q (.ins k ns xs) false c) (fun ex => E ex c)
  | .mkc k n ks pl, ds => mkW C k n ks pl ds c (fun ns xs => Q (.cell c.length) false (c ++ [.ins k ns xs])) (fun ex => E ex c)
  | .repT, [x, y] => ∃ xs k, x = .tup xs ∧ y = .int k ∧ k ≤ 1000 ∧ xs.length ≤ 1000 ∧ Q (.tup (List.replicate k.toNat xs).flatten) false c
  | .dgt, [x, y, z] => ∃ ks xs k, asDic c x = some (ks, xs) ∧ y = keyD k ∧ Q ((getK ks xs k).getD z) false c
  | .flat _ _, [x] => ∃ ds dss, asS c x = some ds ∧ ds.mapM (asS c) = some dss ∧ dss.flatten.length ≤ sizeLine ∧ Q (.lst dss.flatten) true c
  | .sset, [x] => ∃ (xs : List D) (zs : List Str), asS c x = some xs ∧ xs = zs.map D.str ∧ zs.length < 4000 ∧ ∀ ys : List Str, ys.Nodup → PyProof.Rows.sortedS ys = true → (∀ z, z ∈ ys ↔ z ∈ zs) → Q (.lst (ys.map .str)) true c
  | .spr _ _ _ _, [x] => ∃ (xs : List D) (ps : List (Str × Str)), asS c x = some xs ∧ xs = ps.map (fun p => D.tup [.str p.1, .str p.2]) ∧ ps.length < 60 ∧ ∀ ys : List (Str × Str), ys.Nodup → ys.Pairwise (fun p q => ltP q p = false) → (∀ z, z ∈ ys ↔ z ∈ ps) → Q (.lst (ys.map fun p => D.tup [.str p.1, .str p.2])) true c
  | .dsrt, [x] => ∃ (ks : List Key) (xs : List D) (zs : List Str), asDic c x = some (ks, xs) ∧ ks = zs.map Sum.inr ∧ zs.length < 60 ∧ ∀ ys : List Str, ys.Perm zs → PyProof.Rows.sortedS ys = true → Q (.lst (ys.map .str)) true c
  | .dext, [x, y, z] => ∃ ks xs k, x = .dic ks xs ∧ y = keyD k ∧ ks.length < 1000 ∧ Q (.dic (putD k z ks xs).1 (putD k z ks xs).2) true c
  | .deq neg, [x, y] => ∃ ks xs ks' ys ps qs, asDic c x = some (ks, xs) ∧ asDic c y = some (ks', ys) ∧ pyL xs = some ps ∧ pyL ys = some qs ∧ SeqAt.shaped (.list ps) = true ∧ SeqAt.shaped (.list qs) = true ∧ Q (.bl (neg != eqDB ks ps ks' qs)) false c
  | .rev, [x] => (match x with
    | .tup xs => Q (.tup xs.reverse) false c
    | _ => ∃ xs, (asL c x = some xs ∨ x = .scr xs) ∧ Q (.lst xs.reverse) true c)
  | .cm k m n ks pl, ds => callW C (mtF k m) (n + 1) ks pl (.cls k :: ds) c Q E
  | .din neg, [y, x] => ∃ ks xs k, asDic c x = some (ks, xs) ∧ y = keyD k ∧ Q (.bl (neg != (getK ks xs k).isSome)) false c
  | .dget, [x, y] => ∃ ks xs k v, asDic c x = some (ks, xs) ∧ y = keyD k ∧ getK ks xs k = some v ∧ Q v false c
  | .prp m, [x] => ∃ k, clsOfD c x = some k ∧ C.hasR k m = true ∧ callW C (mtF k m) 1 [] (idP 1) [x] c Q (fun _ _ => False)
  | .bin op, [x, y] => ∃ k m, clsOfD c x = some k ∧ binM op = some m ∧ C.hasO k m = true ∧ C.hasN k = true ∧ ((∃ i, y = .int i) ∨ clsOfD c y = some k) ∧ methK C k m 1 [] (idP 2) x [y] c Q E
  | .un op, [x] => ∃ k m, clsOfD c x = some k ∧ unM op = some m ∧ methK C k m 0 [] (idP 1) x [] c Q E
  | .eqI, [x, y] => ∃ k, clsOfD c x = some k ∧ othOk C c k y ∧ methK C k 1 1 [] (idP 2) x [y] c (fun d _ c2 => ∃ b, d = .bl b ∧ Q (.bl b) false c2) E
  | .eqR, [x, y] => ∃ k, clsOfD c y = some k ∧ C.hasW k = true ∧ flatV2 x = true ∧ methK C k 1 1 [] (idP 2) y [x] c (fun d _ c2 => ∃ b, d = .bl b ∧ Q (.bl b) false c2) E
  | .neI, [x, y] => ∃ k, clsOfD c x = some k ∧ C.hasQ k = true ∧ othOk C c k y ∧ methK C k 1 1 [] (idP 2) x [y] c (fun d _ c2 => ∃ b, d = .bl b ∧ Q (.bl (!b)) false c2) (fun _ _ => False)
  | .boolI, [x] => ∃ k, clsOfD c x = some k ∧ C.hasM k 5 = true ∧ callW C (mtF k 5) 1 [] (idP 1) [x] c (fun d _ c2 => ∃ b, d = .bl b ∧ Q (.bl b) false c2) (fun _ _ => False)
  | .lenI, [x] => ∃ k, clsOfD c x = some k ∧ C.hasM k 6 = true ∧ callW C (mtF k 6) 1 [] (idP 1) [x] c (fun d _ c2 => ∃ n : Int, d = .int n ∧ (0 ≤ n ∧ n < 2 ^ 63) ∧ Q (.int n) false c2) (fun _ _ => False)
  | .getI, [x, y] => ∃ k, clsOfD c x = some k ∧ C.hasM k 7 = true ∧ callW C (mtF k 7) 2 [] (idP 2) [x, y] c Q E
  | .inI neg, [y, x] => ∃ k, clsOfD c x = some k ∧ C.hasM k 15 = true ∧ callW C (mtF k 15) 2 [] (idP 2) [x, y] c (fun d _ c2 => ∃ b, d = .bl b ∧ Q (.bl (neg != b)) false c2) E
  | .srt _ _ f, [x] => srtW C f x c fun d => Q d true c
  | .eqT, [x, y] => ∃ ds es, x = .tup ds ∧ y = .tup es ∧ ds.length = es.length ∧ (∀ (i : Nat) d e, ds[i]? = some d → es[i]? = some e → ∃ k, clsOfD c d = some k ∧ othOk C c k e ∧ methK C k 1 1 [] (idP 2) d [e] c (fun r _ c2 => r = .bl true ∧ c2 = c) (fun _ _ => False)) ∧ Q (.bl true) false c
  | .fmt, [x] => (match x with
    | .str y => y.length ≤ sizeLine ∧ Q (.str y) false c
    | .int i => i.natAbs.log2 < 1920 ∧ Q (.str (toString i)) false c
    | _ => False)
  | .isc j, [x] => (∀ k, clsOfD c x = some k → C.hasI k j = true) ∧ ∃ b, iscD c j x = some b ∧ Q (.bl b) false c
  | _, _ => False

abbrev QK := D → Bool → List Sl → Cl → Prop
abbrev EK := Ex → List Sl → Cl → Prop
abbrev EK0 : EK := fun _ _ _ => False
def Qt (t : Bool) (Q : QK) : QK := match t with
  | true => fun d _ s c => ∃ k, Tru c d = some k ∧ Q (.bl k) false s c
  | false => Q

mutual
def bindT : Tg → D → List Sl → Option (List Sl)
  | .nm i, d, s => some (s.set i (.sh d))
  | .tp l, .tup ds, s => bindTs l ds s
  | .tp l, .lst ds, s => bindTs l ds s
  | .tp _, _, _ => none
def bindTs : TgL → List D → List Sl → Option (List Sl)
  | .nil, [], s => some s
  | .cons t l, d :: ds, s => match bindT t d s with
    | some s1 => bindTs l ds s1
    | none => none
  | _, _, _ => none
end
def wipeS (s : List Sl) : List Nat → List Sl
  | [] => s
  | v :: vs => (wipeS s vs).set v .no
/-- the slots at own as they were at s0 -/
def backS (s0 s : List Sl) : List Nat → List Sl
  | [] => s
  | v :: vs => (backS s0 s vs).set v (s0[v]?.getD .no)

/-- what is walked: its items, what must stay while they are walked -/
def itemsW (c : Cl) (d : D) (k : List D → (Cl → Prop) → Prop) : Prop :=
  match d with
  | .str z => k (signs z) (fun _ => True)
  | .tup xs => k xs (fun _ => True)
  | .lst xs => k xs (fun _ => True)
  | .scr xs => k xs (fun _ => True)
  | .cell n => ∃ xs, c[n]? = some (.lst xs) ∧ k xs (fun c' => c'[n]? = some (.lst xs))
  | _ => False
def enumD (i : Nat) : List D → List D
  | [] => []
  | x :: xs => .tup [.int (i : Nat), x] :: enumD (i + 1) xs
def zipD : List D → List D → List D
  | x :: xs, y :: ys => .tup [x, y] :: zipD xs ys
  | _, _ => []
def rangeD (lo : Int) (n : Nat) : List D := (List.range n).map fun i => .int (lo + (i : Nat))
def rangeCD (lo k : Int) (n : Nat) : List D := (List.range n).map fun i => .int (lo + (i : Nat) * k)
def inRange (j : Int) : Prop := -(2 ^ 62) ≤ j ∧ j < 2 ^ 62

/-- a comprehension's loop; g: what must stay -/
def loopC (g : Cl → Prop) (body : D → List Sl → Cl → (Option D → List Sl → Cl → Prop) → Prop) : List D → List D → List Sl → Cl → (List D → List Sl → Cl → Prop) → Prop
  | [], acc, s, c, k => g c ∧ k acc s c
  | x :: xs, acc, s, c, k => g c ∧ body x s c fun r s1 c1 => match r with
    | some d => acc.length < sizeLine ∧ loopC g body xs (acc ++ [d]) s1 c1 k
    | none => loopC g body xs acc s1 c1 k

/-- a dict comprehension's loop -/
def loopD (g : Cl → Prop) (body : D → List Sl → Cl → (Option (Key × D) → List Sl → Cl → Prop) → Prop) : List D → List Key → List D → List Sl → Cl → (List Key → List D → List Sl → Cl → Prop) → Prop
  | [], ks, ds, s, c, k => g c ∧ k ks ds s c
  | x :: xs, ks, ds, s, c, k => g c ∧ body x s c fun r s1 c1 => match r with
    | some (key, d) => ks.length < 1000 ∧ loopD g body xs (putD key d ks ds).1 (putD key d ks ds).2 s1 c1 k
    | none => loopD g body xs ks ds s1 c1 k
/-- a slot that holds a list that may change -/
def slotL (c : Cl) : Option Sl → Prop
  | some (.ow (.lst _)) => True
  | some (.sh (.cell n)) => ∃ xs, c[n]? = some (.lst xs)
  | _ => False
/-- the list in a slot, and what the slots and cells become with another one -/
def slotW (s : List Sl) (c : Cl) (i : Nat) (k : List D → (List D → List Sl × Cl) → Prop) : Prop :=
  match s[i]? with
  | some (.ow (.lst xs)) => k xs fun ys => (s.set i (.ow (.lst ys)), c)
  | some (.sh (.cell n)) => ∃ xs, c[n]? = some (.lst xs) ∧ k xs fun ys => (s, c.set n (.lst ys))
  | _ => False
mutual
def wpE (C : Ctx) (t : Bool) : IE → List Sl → Cl → QK → EK → Prop
  | .var i, s, c, Q, _ => (match s[i]? with
    | some (.sh d) => Qt t Q d false s c
    | some (.ow d) => Qt t Q d false (s.set i (.sh d)) c
    | _ => False)
  | .con d, s, c, Q, _ => Qt t Q d false s c
  | .glob i, s, c, Q, _ => C.hasG i = true ∧ Qt t Q (C.gl i) false s c
  | .bin op a b, s, c, Q, E => wpE C false a s c (fun x _ s1 c1 => wpE C false b s1 c1 (fun y _ s2 c2 => binW op c2 x y fun d o => Qt t Q d o s2 c2) E) E
  | .un op a, s, c, Q, E => wpE C false a s c (fun x _ s1 c1 => unW op x fun d o => Qt t Q d o s1 c1) E
  | .cmp op a b, s, c, Q, E => wpE C false a s c (fun x _ s1 c1 => wpE C false b s1 c1 (fun y _ s2 c2 => cmpW op c2 x y fun k => Q (.bl k) false s2 c2) E) E
  | .chain op op' a b e, s, c, Q, E => wpE C false a s c (fun x _ s1 c1 => wpE C false b s1 c1 (fun y _ s2 c2 => cmpW op c2 x y fun k =>
      match k with
      | true => wpE C false e s2 c2 (fun z _ s3 c3 => cmpW op' c3 y z fun k' => Q (.bl k') false s3 c3) E
      | false => Q (.bl false) false s2 c2) E) E
  | .bool a l, s, c, Q, E => wpB C t a l s c Q E
  | .not a, s, c, Q, E => wpE C t a s c (fun d _ s1 c1 => ∃ k, Tru c1 d = some k ∧ Q (.bl (!k)) false s1 c1) E
  | .ite a b e, s, c, Q, E => wpE C true a s c (fun d _ s1 c1 => ∃ k, d = .bl k ∧ (match k with
      | true => wpE C false b s1 c1 (Qt t Q) E
      | false => wpE C false e s1 c1 (Qt t Q) E)) E
  | .tup l, s, c, Q, E => wpL C l s c (fun ds s1 c1 => ds.length ≤ sizeLine ∧ Qt t Q (.tup ds) false s1 c1) E
  | .lst l, s, c, Q, E => wpL C l s c (fun ds s1 c1 => ds.length ≤ sizeLine ∧ Qt t Q (.lst ds) true s1 c1) E
  | .idx a b, s, c, Q, E => wpE C false a s c (fun x _ s1 c1 => wpE C false b s1 c1 (fun y _ s2 c2 => idxW c2 x y fun d o => Qt t Q d o s2 c2) E) E
  | .slc a lo hi, s, c, Q, E => wpE C false a s c (fun x _ s1 c1 => wpO C lo s1 c1 (fun l s2 c2 => wpO C hi s2 c2 (fun h s3 c3 => slcW c3 x l h fun d o => Qt t Q d o s3 c3) E) E) E
  | .call f l, s, c, Q, E => C.hasF f = true ∧ C.hasB f = true ∧ wpL C l s c (fun ds s1 c1 => C.fn f ds c1 (fun d o c2 => Qt t Q d o s1 c2) (fun ex c2 => E ex s1 c2)) E
  | .prim p l, s, c, Q, E => C.hasP p = true ∧ wpL C l s c (fun ds s1 c1 => primW p c1 ds fun d o => Qt t Q d o s1 c1) E
  | .isi a T, s, c, Q, E => wpE C false a s c (fun x _ s1 c1 => ∃ u, tyD c1 x = some u ∧ Qt t Q (.bl (isTy u T)) false s1 c1) E
  | .meth m o l, s, c, Q, E => wpE C false o s c (fun x _ s1 c1 => recvOk m x ∧ wpL C l s1 c1 (fun ds s2 c2 => methW m c2 x ds fun d o => Qt t Q d o s2 c2) E) E
  | .methv m i l, s, c, Q, E => slotL c (s[i]?) ∧ wpL C l s c (fun ds s1 c1 => slotW s1 c1 i fun xs g => mutW m c1 xs ds fun r ys => Qt t Q r false (g ys).1 (g ys).2) E
  | .comp own tg src ifs elt, s, c, Q, E => wpI C src s c (fun items g s1 c1 => loopC g (fun x s2 c2 k =>
      match bindT tg x (wipeS s2 own) with
      | none => False
      | some s3 => wpIf C ifs s3 c2 (fun b s4 c4 => match b with
        | true => wpE C false elt s4 c4 (fun d _ s5 c5 => k (some d) s5 c5) EK0
        | false => k none s4 c4)) items [] s1 c1 fun acc s6 c6 => Qt t Q (.lst acc) true (backS s1 s6 own) c6) E
  | .fstr l, s, c, Q, E => wpJ C l Str.empty s c (fun z s1 c1 => Qt t Q (.str z) false s1 c1) E
  | .mcall m n ks pl o l, s, c, Q, E => wpE C false o s c (fun x _ s1 c1 => ∃ k, clsOfD c1 x = some k ∧ C.hasM k m = true ∧ wpL C l s1 c1 (fun ds s2 c2 => callW C (mtF k m) (n + 1) ks pl (x :: ds) c2 (fun d o c3 => Qt t Q d o s2 c3) (fun ex c3 => E ex s2 c3)) E) E
  | .mkv k i n ks pl l, s, c, Q, E => s[i]? = some (.sh (.cls k)) ∧ C.hasC k = true ∧ wpL C l s c (fun ds s1 c1 => mkW C k n ks pl ds c1 (fun ns xs => flatL xs = true ∧ Qt t Q (.ins k ns xs) false s1 c1) (fun ex => E ex s1 c1)) E
  | .disp tp st l, s, c, Q, E => wpD C st l s c (fun ds s1 c1 => ds.length ≤ sizeLine ∧ (match tp with
      | true => Qt t Q (.tup ds) false s1 c1
      | false => Qt t Q (.lst ds) true s1 c1)) E
  | .methc m o l, s, c, Q, E => wpE C false o s c (fun x _ s1 c1 => ∃ n xs0, x = .cell n ∧ c1[n]? = some (.lst xs0) ∧ wpL C l s1 c1 (fun ds s2 c2 => ∃ xs, c2[n]? = some (.lst xs) ∧ mutW m c2 xs ds fun r ys => Qt t Q r false s2 (c2.set n (.lst ys))) E) E
  | .dlit cb l, s, c, Q, E => wpK C cb l s c (fun ks ds s1 c1 => ks.Nodup ∧ ks.length < 1000 ∧ Qt t Q (.dic ks ds) true s1 c1) E
  | .dcomp own tg src ifs ek ev, s, c, Q, E => wpI C src s c (fun items g s1 c1 => loopD g (fun x s2 c2 k =>
      match bindT tg x (wipeS s2 own) with
      | none => False
      | some s3 => wpIf C ifs s3 c2 (fun b s4 c4 => match b with
        | true => wpE C false ek s4 c4 (fun kd _ s5 c5 => wpE C false ev s5 c5 (fun d _ s6 c6 => ∃ key, kd = keyD key ∧ k (some (key, d)) s6 c6) EK0) EK0
        | false => k none s4 c4)) items [] [] s1 c1 fun ks ds s6 c6 => Qt t Q (.dic ks ds) true (backS s1 s6 own) c6) E
  | .calli n ks pl o l, s, c, Q, E => wpE C false o s c (fun x _ s1 c1 => ∃ k, clsOfD c1 x = some k ∧ C.hasM k 14 = true ∧ wpL C l s1 c1 (fun ds s2 c2 => callW C (mtF k 14) (n + 1) ks pl (x :: ds) c2 (fun d o c3 => Qt t Q d o s2 c3) (fun ex c3 => E ex s2 c3)) E) E
  | .op g l, s, c, Q, E => opOk C g = true ∧ wpL C l s c (fun ds s1 c1 => opW C g ds c1 (fun d o c2 => Qt t Q d o s1 c2) (fun ex c2 => E ex s1 c2)) E
def wpB (C : Ctx) (t : Bool) (a : Bool) : IL → List Sl → Cl → QK → EK → Prop
  | .nil, _, _, _, _ => False
  | .cons e .nil, s, c, Q, E => wpE C t e s c Q E
  | .cons e (.cons e' l), s, c, Q, E => wpE C t e s c (fun d _ s1 c1 => ∃ k, Tru c1 d = some k ∧ (match k == a with
      | true => wpB C t a (.cons e' l) s1 c1 Q E
      | false => Q d false s1 c1)) E
def wpL (C : Ctx) : IL → List Sl → Cl → (List D → List Sl → Cl → Prop) → EK → Prop
  | .nil, s, c, Q, _ => Q [] s c
  | .cons e l, s, c, Q, E => wpE C false e s c (fun d _ s1 c1 => wpL C l s1 c1 (fun ds s2 c2 => Q (d :: ds) s2 c2) E) E
/-- the items of a dict's display; a marked value becomes a cell -/
def wpK (C : Ctx) : List Bool → IL → List Sl → Cl → (List Key → List D → List Sl → Cl → Prop) → EK → Prop
  | _, .nil, s, c, Q, _ => Q [] [] s c
  | true :: cb, .cons e (.cons e' l), s, c, Q, E => wpE C false e s c (fun kd _ s1 c1 => ∃ key, kd = keyD key ∧ wpE C false e' s1 c1 (fun d o s2 c2 => o = true ∧ wpK C cb l s2 (c2 ++ [d]) (fun ks ds s3 c3 => Q (key :: ks) (.cell c2.length :: ds) s3 c3) E) E) E
  | false :: cb, .cons e (.cons e' l), s, c, Q, E => wpE C false e s c (fun kd _ s1 c1 => ∃ key, kd = keyD key ∧ wpE C false e' s1 c1 (fun d _ s2 c2 => wpK C cb l s2 c2 (fun ks ds s3 c3 => Q (key :: ks) (d :: ds) s3 c3) E) E) E
  | _, .cons _ .nil, _, _, _, _ => False
  | [], .cons _ (.cons _ _), _, _, _, _ => False
/-- the items of a display, some parts starred -/
def wpD (C : Ctx) : List Bool → IL → List Sl → Cl → (List D → List Sl → Cl → Prop) → EK → Prop
  | _, .nil, s, c, Q, _ => Q [] s c
  | true :: st, .cons e l, s, c, Q, E => wpE C false e s c (fun d _ s1 c1 => ∃ xs, asS c1 d = some xs ∧ wpD C st l s1 c1 (fun ds s2 c2 => Q (xs ++ ds) s2 c2) E) E
  | false :: st, .cons e l, s, c, Q, E => wpE C false e s c (fun d _ s1 c1 => wpD C st l s1 c1 (fun ds s2 c2 => Q (d :: ds) s2 c2) E) E
  | [], .cons _ _, _, _, _, _ => False
/-- the parts of an f-string, one behind another -/
def wpJ (C : Ctx) : IL → Str → List Sl → Cl → (Str → List Sl → Cl → Prop) → EK → Prop
  | .nil, a, s, c, Q, _ => Q a s c
  | .cons e l, a, s, c, Q, E => wpE C false e s c (fun d _ s1 c1 => ∃ y, d = .str y ∧ (a ++ y).length ≤ sizeLine ∧ wpJ C l (a ++ y) s1 c1 Q E) E
def wpO (C : Ctx) : IO → List Sl → Cl → (Option Int → List Sl → Cl → Prop) → EK → Prop
  | .no, s, c, Q, _ => Q none s c
  | .so e, s, c, Q, E => wpE C false e s c (fun d _ s1 c1 => ∃ i, d = .int i ∧ Q (some i) s1 c1) E
def wpIf (C : Ctx) : IL → List Sl → Cl → (Bool → List Sl → Cl → Prop) → Prop
  | .nil, s, c, Q => Q true s c
  | .cons e .nil, s, c, Q => wpE C true e s c (fun d _ s1 c1 => ∃ k, d = .bl k ∧ Q k s1 c1) EK0
  | .cons _ (.cons _ _), _, _, _ => False
def wpI (C : Ctx) : IT → List Sl → Cl → (List D → (Cl → Prop) → List Sl → Cl → Prop) → EK → Prop
  | .val e, s, c, k, E => wpE C false e s c (fun d _ s1 c1 => itemsW c1 d fun xs g => k xs g s1 c1) E
  | .range1 a, s, c, k, E => wpE C false a s c (fun x _ s1 c1 => ∃ j, x = .int j ∧ inRange j ∧ k (rangeD 0 j.toNat) (fun _ => True) s1 c1) E
  | .range2 a b, s, c, k, E => wpE C false a s c (fun x _ s1 c1 => wpE C false b s1 c1 (fun y _ s2 c2 => ∃ i j, x = .int i ∧ y = .int j ∧ inRange i ∧ inRange j ∧ k (rangeD i (j - i).toNat) (fun _ => True) s2 c2) E) E
  | .range3 a b e, s, c, k, E => wpE C false a s c (fun x _ s1 c1 => wpE C false b s1 c1 (fun y _ s2 c2 => wpE C false e s2 c2 (fun z _ s3 c3 => ∃ i j l n, x = .int i ∧ y = .int j ∧ z = .int l ∧ RgC i j l n ∧ k (rangeCD i l n) (fun _ => True) s3 c3) E) E) E
  | .enum e, s, c, k, E => wpE C false e s c (fun d _ s1 c1 => itemsW c1 d fun xs g => k (enumD 0 xs) g s1 c1) E
  | .zip a b, s, c, k, E => wpE C false a s c (fun x _ s1 c1 => wpE C false b s1 c1 (fun y _ s2 c2 => itemsW c2 x fun xs g => itemsW c2 y fun ys g' => k (zipD xs ys) (fun c' => g c' ∧ g' c') s2 c2) E) E
  | .items e, s, c, k, E => wpE C false e s c (fun d _ s1 c1 => match d with
    | .dic ks xs => k (pairsOf ks xs) (fun _ => True) s1 c1
    | .cell n => ∃ ks xs, c1[n]? = some (.dic ks xs) ∧ k (pairsOf ks xs) (fun c' => c'[n]? = some (.dic ks xs)) s1 c1
    | _ => False) E
end

/-! ### exceptions: what a class keeps; the clauses of a try -/
/-- errors without an argument -/
def ex0 (k : Nat) : Bool := k == 6 || (k == 13 || k == 16)
/-- the attribute that an error keeps its argument in -/
def exA (k : Nat) : Nat := if k = 2 ∨ k = 5 then 1 else if k = 7 then 3 else if k = 8 ∨ k = 15 then 4 else if k = 9 then 5 else if k = 11 then 6 else if k = 6 ∨ k = 10 ∨ k = 13 ∨ k = 16 then 2 else 0
def exF (k : Nat) (ds : List D) : Option (List (Nat × D)) := if ex0 k then (match ds with
    | [] => some []
    | _ => none) else (match ds with
    | [d] => some [(exA k, d)]
    | _ => none)
inductive HX where
  | con (d : D)
  | fld (n : Nat)
inductive HE where
  | one (x : HX)
  | tup (l : List HX)
/-- a clause: the class, the slot of its name, and what it stores where -/
structure Hd where
  k : Nat
  j : Option Nat
  i : Nat
  e : HE
def evX (ex : Ex) : HX → Option D
  | .con d => some d
  | .fld n => ex.fs.lookup n
def evXs (ex : Ex) : List HX → Option (List D)
  | [] => some []
  | x :: l => match evX ex x, evXs ex l with
    | some d, some ds => some (d :: ds)
    | _, _ => none
def evH (ex : Ex) : HE → Option D
  | .one x => evX ex x
  | .tup l => (evXs ex l).map .tup
def jOk (s : List Sl) : Option Nat → Bool
  | none => true
  | some j => decide (j < s.length)
def clrS (s : List Sl) : Option Nat → List Sl
  | none => s
  | some j => s.set j .no

/-! ### statements -/
mutual
inductive IS where
  | asg (i : Nat) (e : IE)
  | asgT (t : TgL) (e : IE)
  | par (is : List Nat) (l : IL)
  | parL (i j : Nat) (a b : IE)
  | seti (o : Nat) (i e : IE)
  | setd (o : Nat) (k e : IE)
  | augI (i : Nat) (op : Operator) (e : IE)
  | aug (i : Nat) (op : Operator) (e : IE)
  | expr (e : IE)
  | ret (e : IE)
  | retv (i : Nat)
  | retN
  | ifs (c : IE) (a b : ISs)
  | for_ (t : Tg) (src : IT) (b : ISs)
  | while_ (c : IE) (b : ISs)
  | pass | brk | cont
  | cellify (i : Nat) (e : IE)
  | setf (i n : Nat) (e : IE)
  | ifI (neg : Bool) (c : IE) (a b : ISs)
  | dead
  | raise_ (k : Nat) (l : IL)
  | try_ (b : ISs) (hs : List Hd)
inductive ISs where
  | nil
  | cons (a : IS) (l : ISs)
end
structure En where
  nx : List Sl → Cl → Prop
  rt : QK
  bk : List Sl → Cl → Prop
  ct : List Sl → Cl → Prop
def slOf (d : D) : Bool → Sl
  | true => .ow d
  | false => .sh d
def setAll (s : List Sl) : List Nat → List D → List Sl
  | i :: is, d :: ds => setAll (s.set i (.sh d)) is ds
  | _, _ => s
def loopF (g : Cl → Prop) (step : D → List Sl → Cl → (List Sl → Cl → Prop) → Prop) : List D → List Sl → Cl → (List Sl → Cl → Prop) → Prop
  | [], s, c, k => g c ∧ k s c
  | x :: xs, s, c, k => g c ∧ step x s c fun s1 c1 => loopF g step xs s1 c1 k
/-- what the clauses do with an exception -/
def handW (C : Ctx) : List Hd → Ex → List Sl → Cl → En → EK → Prop
  | [], ex, s, c, _, E => E ex s c
  | h :: hs, ex, s, c, N, E => C.hasX ex.cls = true ∧ C.hasH ex.cls h.k = true ∧ (match subC ex.cls h.k with
    | true => jOk s h.j = true ∧ ∃ d, evH ex h.e = some d ∧ N.nx (clrS (s.set h.i (.sh d)) h.j) c
    | false => handW C hs ex s c N E)
def loopW (step : List Sl → Cl → (List Sl → Cl → Prop) → Prop) : Nat → List Sl → Cl → Prop
  | 0, _, _ => False
  | n + 1, s, c => step s c (loopW step n)
def setiW (xs : List D) (i v : D) (Q : List D → Prop) : Prop :=
  match i with
  | .int k => ∃ j, ixN xs.length k = some j ∧ Q (xs.set j v)
  | _ => False
mutual
def wpS (C : Ctx) : IS → List Sl → Cl → En → EK → Prop
  | .asg i e, s, c, N, E => wpE C false e s c (fun d o s1 c1 => N.nx (s1.set i (slOf d o)) c1) E
  | .cellify i e, s, c, N, E => wpE C false e s c (fun d o s1 c1 => o = true ∧ N.nx (s1.set i (.sh (.cell c1.length))) (c1 ++ [d])) E
  | .setf i n e, s, c, N, E => wpE C false e s c (fun d _ s1 c1 => match s1[i]? with
    | some (.sh (.cell m)) => ∃ k ns xs, c1[m]? = some (.ins k ns xs) ∧ C.hasA k n = true ∧ ns.length < 1000 ∧ N.nx s1 (c1.set m (.ins k (putF n d ns xs).1 (putF n d ns xs).2))
    | _ => False) E
  | .dead, _, _, _, _ => False
  | .raise_ k l, s, c, _, E => C.hasX k = true ∧ wpL C l s c (fun ds s1 c1 => ∃ fs, exF k ds = some fs ∧ E ⟨k, fs⟩ s1 c1) E
  | .try_ b hs, s, c, N, E => (hs.all fun h => C.hasH h.k h.k) = true ∧ wpSs C b s c N (fun ex s1 c1 => handW C hs ex s1 c1 N E)
  | .asgT t e, s, c, N, E => wpE C false e s c (fun d _ s1 c1 => match bindT (.tp t) d s1 with
    | some s2 => N.nx s2 c1
    | none => False) E
  | .par is l, s, c, N, E => wpL C l s c (fun ds s1 c1 => ds.length = is.length ∧ N.nx (setAll s1 is ds) c1) E
  | .parL i j a b, s, c, N, E => wpE C false a s c (fun d _ s1 c1 => wpE C false b s1 c1 (fun e o s2 c2 => o = true ∧ N.nx ((s2.set i (.sh d)).set j (.sh (.cell c2.length))) (c2 ++ [e])) E) E
  | .seti o i e, s, c, N, E => wpE C false e s c (fun v _ s1 c1 => slotL c1 (s1[o]?) ∧ wpE C false i s1 c1 (fun x _ s2 c2 => slotW s2 c2 o fun xs g => setiW xs x v fun ys => N.nx (g ys).1 (g ys).2) E) E
  | .aug i op e, s, c, N, E => (match s[i]? with
      | some (.sh (.int x)) => wpE C false e s c (fun y _ s1 c1 => binW op c1 (.int x) y fun d o => N.nx (s1.set i (slOf d o)) c1) E
      | some (.sh (.str x)) => op = .Add ∧ wpE C false e s c (fun y _ s1 c1 => binW .Add c1 (.str x) y fun d o => N.nx (s1.set i (slOf d o)) c1) E
      | _ => False)
  | .setd o k e, s, c, N, E => wpE C false e s c (fun v _ s1 c1 => match s1[o]? with
    | some (.sh (.cell n)) => wpE C false k s1 c1 (fun kd _ s2 c2 => ∃ ks xs key, c2[n]? = some (.dic ks xs) ∧ kd = keyD key ∧ ks.length < 1000 ∧ N.nx s2 (c2.set n (.dic (putD key v ks xs).1 (putD key v ks xs).2))) E
    | _ => False) E
  | .augI i op e, s, c, N, E => (match s[i]? with
    | some (.sh x) => wpE C false e s c (fun y _ s1 c1 => opW C (.bin op) [x, y] c1 (fun d o c2 => N.nx (s1.set i (slOf d o)) c2) (fun ex c2 => E ex s1 c2)) E
    | _ => False)
  | .expr e, s, c, N, E => wpE C false e s c (fun _ _ s1 c1 => N.nx s1 c1) E
  | .ret e, s, c, N, E => wpE C false e s c N.rt E
  | .retv i, s, c, N, _ => (match s[i]? with
      | some (.sh d) => N.rt d false s c
      | some (.ow d) => N.rt d true (s.set i .no) c
      | _ => False)
  | .retN, s, c, N, _ => N.rt .non false s c
  | .ifs e a b, s, c, N, E => wpE C true e s c (fun d _ s1 c1 => ∃ k, d = .bl k ∧ (match k with
      | true => wpSs C a s1 c1 N E
      | false => wpSs C b s1 c1 N E)) E
  | .ifI neg e a b, s, c, N, E => wpE C false e s c (fun d _ s1 c1 => truW C d c1 fun k c2 => (match neg != k with
      | true => wpSs C a s1 c2 N E
      | false => wpSs C b s1 c2 N E)) E
  | .for_ t src b, s, c, N, E => wpI C src s c (fun items g s1 c1 => loopF g (fun x s2 c2 nxt => match bindT t x s2 with
      | none => False
      | some s3 => wpSs C b s3 c2 { nx := nxt, ct := nxt, bk := N.nx, rt := N.rt } E) items s1 c1 N.nx) E
  | .while_ e b, s, c, N, E => ∃ n, loopW (fun s1 c1 nxt => wpE C true e s1 c1 (fun d _ s2 c2 => ∃ k, d = .bl k ∧ (match k with
      | true => wpSs C b s2 c2 { nx := nxt, ct := nxt, bk := N.nx, rt := N.rt } E
      | false => N.nx s2 c2)) E) n s c
  | .pass, s, c, N, _ => N.nx s c
  | .brk, s, c, N, _ => N.bk s c
  | .cont, s, c, N, _ => N.ct s c
def wpSs (C : Ctx) : ISs → List Sl → Cl → En → EK → Prop
  | .nil, s, c, N, _ => N.nx s c
  | .cons a l, s, c, N, E => wpS C a s c { N with nx := fun s1 c1 => wpSs C l s1 c1 N E } E
end
/-- a def of n parameters, of so many slots -/
def wpDef (C : Ctx) (n slots : Nat) (b : ISs) (ds : List D) (c : Cl) (Q : D → Bool → Cl → Prop) (E : Ex → Cl → Prop) : Prop :=
  ds.length = n ∧ wpSs C b (ds.map Sl.sh ++ List.replicate (slots - n) Sl.no) c { nx := fun _ c1 => Q .non false c1, rt := fun d o _ c1 => Q d o c1, bk := fun _ _ => False, ct := fun _ _ => False } (fun ex _ c1 => E ex c1)
end Vm

/-! Vm: each primitive over what represents its values -/
namespace Vm
open PySem PySem.Spec L2
open PyProof.Rows hiding St

section
variable {K : PySem.W.Frag} {H0 H H1 H' : Hp} {F F1 F' : Fz} {rh rh1 rh' : List Addr} {sh : L2.St} {s s1 : List Sl} {c c1 : Cl} {v : V} {d : D} {o : Bool}

/-- what a primitive hands back: a value that stands, a new list, a new tuple -/
inductive Out (K : PySem.W.Frag) (H : Hp) (F : Fz) (rh : List Addr) : V → Hp → D → Bool → Prop where
  | old {x : V} {y : D} : Rep K H F rh x y → Out K H F rh x H y false
  | new {p : Addr} {ho : HO} {y : D} : H p = none → ObjD K H F rh ho y → Out K H F rh (.ref p) (upd H p ho) y true
  | tup {p : Addr} {vs : List V} {ds : List D} : H p = none → RepL K H F rh vs ds → Out K H F rh (.ref p) (upd H p (.tup vs)) (.tup ds) false

def OkQ (K : PySem.W.Frag) (H0 : Hp) (sh : L2.St) (H : Hp) (F : Fz) (rh : List Addr) (s : List Sl) (Qm : QK) (Q : VK) : Prop :=
  ∀ d o s' c' v H' F' rh', Qm d o s' c' → Rl K H0 H' F' rh' sh s' c' → Ev H F rh (Owned sh s) H' F' rh' (Owned sh s') → Res K H H' F' rh' (Owned sh s') v d o → Q v H'
theorem Res.back' {O O' O'' : Addr → Prop} (r : Res K H1 H' F' rh' O'' v d o) (e : Ev H F rh O H1 F1 rh1 O') : Res K H H' F' rh' O'' v d o := by
  cases o with
  | false => exact r
  | true =>
    obtain ⟨a, ob, h1, h2, h3⟩ := r
    exact ⟨a, ob, h1, e.fresh h2, h3⟩
theorem OkQ.step {Qm : QK} {Q : VK} (ok : OkQ K H0 sh H F rh s Qm Q) (e : Ev H F rh (Owned sh s) H1 F1 rh1 (Owned sh s1)) : OkQ K H0 sh H1 F1 rh1 s1 Qm Q :=
  fun d o s' c' v H' F' rh' hq rl e' r => ok d o s' c' v H' F' rh' hq rl (e.trans e') (r.back' e)
theorem OkQ.shr {Qm : QK} {Q : VK} (ok : OkQ K H0 sh H F rh s Qm Q) (R : Rl K H0 H F rh sh s c) (r : Rep K H F rh v d) (q : Qm d false s c) : Q v H :=
  ok d false s c v H F rh q R Ev.refl r
theorem OkQ.out {Qm : QK} {Q : VK} (ok : OkQ K H0 sh H F rh s Qm Q) (R : Rl K H0 H F rh sh s c) (u : Out K H F rh v H' d o) (q : Qm d o s c) : Q v H' := by
  cases u with
  | old r => exact ok.shr R r q
  | @new p ho _ hp ob =>
    have g := R.free hp
    exact ok d true s c (.ref p) _ F rh q (R.laid hp) (ev_new hp R.ft) ⟨p, ho, rfl, hp, upd_same, ob.ext (ext_new hp R.ft), g.1, g.2.1, g.2.2⟩
  | @tup p vs ds hp r =>
    have g := R.free hp
    have R1 : Rl K H0 (upd H p (.tup vs)) F rh sh s c := R.laid hp
    have R2 : Rl K H0 (upd H p (.tup vs)) (addF F p) rh sh s c := R1.freeze upd_same g.2.1 g.2.2
    have e1 : Ev H F rh (Owned sh s) (upd H p (.tup vs)) F rh (Owned sh s) := ev_new hp R.ft
    refine ok (.tup ds) false s c (.ref p) _ (addF F p) rh q R2 ⟨e1.toExt.trans ext_addF, e1.mono, fun a u g1 g2 g3 g4 => ?_⟩ (.tup (.inl ⟨.inr rfl, SqT.of upd_same⟩) (r.ext (e1.toExt.trans ext_addF)))
    obtain ⟨k1, k2, k3, k4⟩ := e1.priv a u g1 g2 g3 g4
    refine ⟨k1, fun z => ?_, k3, k4⟩
    rcases z with z | z
    · exact k2 z
    · subst z; rw [hp] at g1; cases g1
/-- go on with a shared value -/
theorem OkQ.mk {Qm : QK} {Q : VK} (k : ∀ d o s' c' v H' F' rh', Qm d o s' c' → Rl K H0 H' F' rh' sh s' c' → Ev H F rh (Owned sh s) H' F' rh' (Owned sh s') → Rep K H' F' rh' v d → Q v H') : OkQ K H0 sh H F rh s Qm Q :=
  fun d o s' c' v H' F' rh' hq rl e r => by
    obtain ⟨F2, rl2, e2, r2⟩ := Res.share rl e r
    exact k d o s' c' v H' F2 rh' hq rl2 e2 r2

/-! ### reading shapes off a representation -/
theorem Rep.int_of {i : Int} (r : Rep K H F rh v (.int i)) : v = .int i := by cases r; rfl
theorem Rep.str_of {z : Str} (r : Rep K H F rh v (.str z)) : v = .str z := by cases r; rfl
theorem Rep.bl_of {b : Bool} (r : Rep K H F rh v (.bl b)) : v = .bl b := by cases r; rfl
theorem Rep.tup_of {ds : List D} (r : Rep K H F rh v (.tup ds)) : ∃ a vs, v = .ref a ∧ FT K H F a vs ∧ RepL K H F rh vs ds := by
  cases r with
  | tup h r => exact ⟨_, _, rfl, h, r⟩
theorem asL_of (C : Ce K H F rh c) (r : Rep K H F rh v d) {xs : List D} (h : asL c d = some xs) : ∃ a vs, v = .ref a ∧ H a = some (.lst vs) ∧ RepL K H F rh vs xs := by
  cases r with
  | lst hf r =>
    cases h
    exact ⟨_, _, rfl, hf.2, r⟩
  | @cell n a e =>
    have h' : (match c[n]? with | some (.lst xs) => some xs | _ => none) = some xs := h
    cases q : c[n]? with
    | none => rw [q] at h'; cases h'
    | some x =>
      rw [q] at h'
      cases x with
      | lst ys =>
        cases h'
        obtain ⟨ob, g1, vs, g2, g3⟩ := C.ob n a _ e q
        subst g2
        exact ⟨a, vs, rfl, g1, g3⟩
      | _ => cases h'
  | _ => cases h
theorem asS_of (C : Ce K H F rh c) (r : Rep K H F rh v d) {xs : List D} (h : asS c d = some xs) : ∃ a vs, v = .ref a ∧ (SqL K H a vs ∨ SqT K H a vs) ∧ RepL K H F rh vs xs := by
  cases d with
  | tup ds =>
    cases h
    obtain ⟨a, vs, e, hf, r⟩ := r.tup_of
    exact ⟨a, vs, e, .inr hf.sq, r⟩
  | lst ds =>
    obtain ⟨a, vs, e, hl, r⟩ := asL_of C r (show asL c (.lst ds) = some xs from h)
    exact ⟨a, vs, e, .inl (SqL.of hl), r⟩
  | scr ds =>
    cases h
    cases r with
    | scr hf r => exact ⟨_, _, rfl, .inl hf.sq, r⟩
  | cell n =>
    obtain ⟨a, vs, e, hl, r⟩ := asL_of C r (show asL c (.cell n) = some xs from h)
    exact ⟨a, vs, e, .inl (SqL.of hl), r⟩
  | _ => cases h

theorem RepL.strs : ∀ {vs : List V} {ys : List Str}, RepL K H F rh vs (ys.map D.str) → vs = ys.map V.str
  | _, [], .nil => rfl
  | _, y :: ys, .cons r t => by cases r; rw [RepL.strs t]; rfl
theorem RepL.ints : ∀ {vs : List V} {ys : List Int}, RepL K H F rh vs (ys.map D.int) → vs = ys.map V.int
  | _, [], .nil => rfl
  | _, y :: ys, .cons r t => by cases r; rw [RepL.ints t]; rfl
theorem RepL.bls : ∀ {vs : List V} {ys : List Bool}, RepL K H F rh vs (ys.map D.bl) → vs = ys.map V.bl
  | _, [], .nil => rfl
  | _, y :: ys, .cons r t => by cases r; rw [RepL.bls t]; rfl
end
end Vm

/-! Vm: defs whose callers tell that no guard stands (repr of nested data asks it) -/
namespace Vm
open PySem PySem.Spec L2
open PyProof.Rows hiding St
/-- as FnOk, where no guard stands around -/
structure FnG (P : Program) (w : World) (K : PySem.W.Frag) (mg : Str → Option Value) (base : Heap) (k : Nat) (f : Addr) (fd : FuncData) (ps : List Str) (sp : Sp) : Prop where
  arity : ∀ vs H Q E, sp vs H Q E → vs.length = ps.length
  go : ∀ (A : Around) (outer : List Env) (s : Shared) (H : Hp) (args : Args) (us : List Value) (vs : List V) (Q : VK) (E : XK), Room k A → A.guards = some [] →
    Env0 P w K mg base A outer s H → BindsTo s fd args (ps.zip us) → Vals vs us → sp vs H Q E →
      codeAny (model P w) A (.call (.ref f) args) (CR (L2.CX P w) outer P w H s Q E) s
theorem FnG.mono {P : Program} {w : World} {K : PySem.W.Frag} {mg : Str → Option Value} {base : Heap} {j k : Nat} {f : Addr} {fd : FuncData} {ps : List Str} {sp : Sp} (G : FnG P w K mg base j f fd ps sp) (h : j ≤ k) : FnG P w K mg base k f fd ps sp :=
  ⟨G.arity, fun A o s H a us vs Q E hr => G.go A o s H a us vs Q E (hr.mono h)⟩
theorem guards_deeper (A : Around) (env : Env) : (A.deeper env).guards = A.guards := rfl

/-- a def by its body -/
theorem fnG_of {P : Program} {w : World} {K : PySem.W.Frag} {mg : Str → Option Value} {base : Heap} {x qual : Str} {params : Arguments} {body : List Stmt} {scope : Scope} {f : Addr} {oc : Value} {od : Option Addr} {dV kV doc pm : Value} {an : Option Addr} {cdv ct : Value} {osl : Array (Option Value)} {N ps : List Str} {k : Nat} {sp : Sp}
    (lk : K.lookup f = some ⟨oc, od, .func (PySem.W.fnOf x qual params body scope dV kV doc pm an cdv ct), osl⟩) (hcd : PySem.W.codeIn K cdv qual = true)
    (S : FnScope N ps scope) (ar : ∀ vs H Q E, sp vs H Q E → vs.length = ps.length)
    (bd : ∀ (A : Around) (outer : List Env) (s : Shared) (H : Hp) (vs : List V) (Q : VK) (E : XK), Room k (A.deeper (envOfC qual scope s.heap.objs.size f cdv)) → A.guards = some [] → sp vs H Q E →
      ∃ t, PSs (cxOf (L2.CX P w) P w K mg base N qual scope f cdv A outer s H E) body t ∧ t { nx := fun _ H' => Q .non H', rt := Q } (start N vs) H) : FnG P w K mg base (k + 1) f (PySem.W.fnOf x qual params body scope dV kV doc pm an cdv ct) ps sp := by
  refine ⟨ar, fun A outer s H args us vs Q E hr hg e0 hb r hsp => ?_⟩
  have al := ar _ _ _ _ hsp
  have KS : K.In s.heap := e0.mod.kin.keeps fun b ob e => (e0.bs b ob e).1
  have NL : s.heap.NoLimit := e0.mod.nolimit.keeps fun b ob e => (e0.bs b ob e).1
  have kinds : ∀ y ∈ ps.zip us, scope.names.lookup y.1 = some .local ∨ (scope.names.lookup y.1 = some .cell ∧ ((cellsFrom (s.heap.objs.size + 1) scope.names []).lookup y.1).isSome = true) := by
    rintro ⟨n, v⟩ hy
    rcases S.par n (List.of_mem_zip hy).1 with z | z
    · exact Or.inl z
    · exact Or.inr ⟨z, PySem.W.cellsFrom_some _ _ _ (Or.inl z)⟩
  refine codeAny_call_function hr.depth (KS _ _ lk) rfl S.co S.gen rfl (PySem.W.codeRec_of KS hcd) (hb _ _ _ _ ?_)
  refine wpAny_newFunctionEnv_cells S.kind kinds fun env he s1 x => ?_
  cases he
  refine ⟨NL.keeps x.toInCall.keep, codeAny_func ?_⟩
  obtain ⟨t, ht, hq⟩ := bd A outer s H vs Q E (hr.deeper _) hg hsp
  refine wpAny_mono (ht.run [] s1 (start N vs) H _ (inv_start S hr.hd e0 al r x) hq) (fun fl s' hs => ?_) fun e s' hs => hs
  cases fl with
  | ret u =>
    obtain ⟨v, sg, H', J, rv, q⟩ := hs
    exact ⟨v, H', J.os, J.bare, J.base, J.hok, rv, q⟩
  | next =>
    obtain ⟨sg, H', J, q⟩ := hs
    exact ⟨V.non, H', J.os, J.bare, J.base, J.hok, (show RelV V.non Value.none from rfl), q⟩
  | brk =>
    obtain ⟨_, _, _, q⟩ := hs
    exact q.elim
  | cont =>
    obtain ⟨_, _, _, q⟩ := hs
    exact q.elim

section
variable {X : Cx} {k : Nat} {f : Addr} {fd : FuncData} {ps : List Str} {sp : Sp} {dvs : List V} {ds : List Value} {E : L2.St → XK} {x : Str} {p pos : Pos} {e : Expr} {es : List Expr} {t : TA}
theorem goG {pins : List (Addr × Obj)} {sg : L2.St} {H : Hp} {s : Shared} {Q : VK} {us : List Value} {vs : List V} (G : FnG X.prog X.w X.K X.mg X.base k f fd ps sp) (hr : Room k X.A) (hg : X.A.guards = some []) (hb : Binds X.K fd ps ds) (hd : Vals dvs ds)
    (hx : PassesAt (L2.CX X.prog X.w) X sg (E sg)) (I : Inv X pins sg H s) (r : Vals vs us) (h : sp (vs ++ dvs) H Q (E sg)) : wpAny (model X.prog X.w) X.A (call (.ref f) us) (EP X pins sg Q) X.xe s := by
  have rr : Vals (vs ++ dvs) (us ++ ds) := r.append hd
  have nl : (us ++ ds).length = ps.length := by rw [← rr.length]; exact G.arity _ _ _ _ h
  refine wpAny_call (codeAny_mono (G.go X.A X.stack s H ⟨us, []⟩ (us ++ ds) (vs ++ dvs) Q (E sg) hr hg I.env0 (hb s us I.kIn nl) rr h) fun r s' hq => ?_)
  match r, hq with
  | .error e, hq => exact hx pins H s e s' I hq
  | .ok (.ret u), hq => exact I.after hq
  | .ok .next, hq => exact hq.elim
  | .ok .brk, hq => exact hq.elim
  | .ok .cont, hq => exact hq.elim
theorem pe_callG (G : FnG X.prog X.w X.K X.mg X.base k f fd ps sp) (hr : Room k X.A) (hgd : X.A.guards = some []) (hg : Gl X x) (hm : X.mg x = some (.ref f)) (hk : PySem.W.keepIn X.K (.ref f) = true) (hb : Binds X.K fd ps ds) (hd : Vals dvs ds)
    (hx : ∀ sg, PassesAt (L2.CX X.prog X.w) X sg (E sg)) (ha : PA X (e :: es) t) (hdb : (x == ("__debug__" : Str)) = false) (he : starEach (e :: es) X.env = (false, eval e X.env) :: starEach es X.env)
    (hpl : (backTo pos (starEach es X.env)).any (·.1) = false) : PE X (.Call (.Name x p) (e :: es) [] pos) (tCallSD sp dvs E t) := by
  refine ⟨fun pins s sg H Q I h => wpAny_Call_Name_kw (ld_glob I hg hm ?_ hdb)⟩
  refine PySem.W.callWith_K (h₀ := X.base) I.ok.mod.kin hk (thn (ha.run pos pins s sg H _ I h) fun us s1 ⟨vs, H1, I1, r, q⟩ => ⟨I1.kIn, ?_⟩) he hpl
  exact goG G hr hgd hb hd (hx sg) I1 r q
theorem pe_callG0 (G : FnG X.prog X.w X.K X.mg X.base k f fd ps sp) (hr : Room k X.A) (hgd : X.A.guards = some []) (hg : Gl X x) (hm : X.mg x = some (.ref f)) (hk : PySem.W.keepIn X.K (.ref f) = true) (hb : Binds X.K fd ps ds) (hd : Vals dvs ds)
    (hx : ∀ sg, PassesAt (L2.CX X.prog X.w) X sg (E sg)) (hdb : (x == ("__debug__" : Str)) = false) : PE X (.Call (.Name x p) [] [] pos) (tCallSD sp dvs E tNil) := by
  refine ⟨fun pins s sg H Q I h => wpAny_Call_Name_kw (ld_glob I hg hm ?_ hdb)⟩
  exact PySem.W.callWith_K0 I.kIn hk (goG (us := []) G hr hgd hb hd (hx sg) I .nil h)
end

/-! ### the law's end -/
/-- the heap that is tracked at the law's entry: the script alone, if it is no object of the text -/
theorem law_start {P : Program} {w : World} {K : PySem.W.Frag} {mg mb : Str → Option Value} {a : Addr} {s1 : Shared} {vs : List Value} {ns : List Int} (KX : K.In s1.heap) (hns : s1.heap.Ns mainGlobals mg) (hb : s1.heap.Ns builtinsNs mb)
    (hbb : ∀ x : Str, x ≠ "__name__" → mb x = bootBuiltins x) (hlim : s1.heap.NoLimit) (hg : s1.gens = #[]) (ha : s1.heap.get? a = some { cls := .type "list", data := .seq vs.toArray }) (hi : IntsAre vs ns) (hl : ns.length ≤ sizeLine) :
    ∃ H base, FS K H (fun b => b = a ∧ H a ≠ none) a (ns.map V.int) ∧ (∀ b, H b = none ∨ ∃ o, H b = some (.frz o (.lst (ns.map V.int))) ∧ b = a) ∧ K.In base ∧ base.Ns mainGlobals mg ∧ Env0 P w K mg base callerA [] s1 H := by
  have rv := vals_ints hi
  have main : ∀ H : Hp, HOk P w H s1.heap → (∀ b, H b ≠ none → b = a ∧ K.lookup a = none) → K.In (hidT s1.heap H) ∧ (hidT s1.heap H).Ns mainGlobals mg ∧ Env0 P w K mg (hidT s1.heap H) callerA [] s1 H := by
    intro H hok hA
    have dicts : ∀ {b : Addr} {o : Obj} {es : Array DictEntry} {ep : Nat}, s1.heap.get? b = some o → o.data = .dict es ep → H b = none := by
      intro b o es ep e d
      cases q : H b with
      | none => rfl
      | some u =>
        obtain ⟨e1, _⟩ := hA b (by rw [q]; exact fun z => nomatch z)
        rw [e1, ha] at e
        cases e
        exact nomatch (show Data.seq vs.toArray _ = Data.dict es ep from d)
    have ns' : ∀ {b : Addr} {m : Str → Option Value}, s1.heap.Ns b m → (hidT s1.heap H).Ns b m := fun ⟨o, es, ep, e, d, r⟩ => ⟨o, es, ep, hidT_get e (dicts e d), d, r⟩
    have kin : K.In (hidT s1.heap H) := fun b o e => by
      refine hidT_get (KX b o e) ?_
      cases q : H b with
      | none => rfl
      | some u =>
        obtain ⟨e1, e2⟩ := hA b (by rw [q]; exact fun z => nomatch z)
        rw [e1, e2] at e
        cases e
    have md : Mod K mg (hidT s1.heap H) := ⟨kin, ns' hns, ⟨mb, ns' hb, hbb⟩, by
      obtain ⟨mc, h1, h2⟩ := hlim
      exact ⟨mc, ns' h1, h2⟩⟩
    exact ⟨kin, ns' hns, rfl, md, fun b o e => of_hidT e, Nat.le_of_eq (hidT_size _ _), trivial, fun b hb => (List.not_mem_nil hb).elim, hok, .of_eq hg⟩
  cases hk : K.lookup a with
  | some o =>
    have e := KX a o hk
    rw [ha] at e
    cases e
    obtain ⟨g1, g2, g3⟩ := main (fun _ => none) (fun b u z => nomatch z) (fun b z => (z rfl).elim)
    exact ⟨fun _ => none, _, .inr (.inr ⟨_, vs.toArray, _, hk, rfl, rfl, rfl, by rw [List.size_toArray, hi.length]; exact hl, by simpa using rv⟩), fun _ => .inl rfl, g1, g2, g3⟩
  | none =>
    generalize hH : (fun b => if b = a then some (HO.frz { cls := .type "list", data := .seq vs.toArray } (.lst (ns.map V.int))) else none : Hp) = H
    have at_ : H a = some (.frz { cls := .type "list", data := .seq vs.toArray } (.lst (ns.map V.int))) := by rw [← hH]; exact if_pos rfl
    have no : ∀ b, b ≠ a → H b = none := fun b hb => by rw [← hH]; exact if_neg hb
    have ok : HOk P w H s1.heap := fun b u z => by
      by_cases hb : b = a
      · rw [hb, at_] at z
        cases z
        rw [hb]
        exact ⟨ha, by rw [List.length_map]; exact hl, vs, _, rv, ha⟩
      · rw [no b hb] at z
        cases z
    obtain ⟨g1, g2, g3⟩ := main H ok (fun b z => by
      by_cases hb : b = a
      · exact ⟨hb, hk⟩
      · exact (z (no b hb)).elim)
    refine ⟨H, _, .inl ⟨⟨rfl, by rw [at_]; exact fun z => nomatch z⟩, _, at_⟩, fun b => ?_, g1, g2, g3⟩
    by_cases hb : b = a
    · exact .inr ⟨_, by rw [hb]; exact at_, hb⟩
    · exact .inl (no b hb)
end Vm

/-! Vm: the operators -/
namespace Vm
open PySem PySem.Spec L2
open PyProof.Rows hiding St
section
variable {X : Cx} {H : Hp} {F : Fz} {rh : List Addr} {c : Cl}
/-- the reading of a binary primitive -/
def r2 (K : PySem.W.Frag) (W : Cl → D → D → Q1 → Prop) : R2 := fun x y H Q => ∃ F rh c dx dy Qm, Ce K H F rh c ∧ Rep K H F rh x dx ∧ Rep K H F rh y dy ∧ W c dx dy Qm ∧ ∀ d o v H', Qm d o → Out K H F rh v H' d o → Q v H'
def rC (K : PySem.W.Frag) (W : Cl → D → D → (Bool → Prop) → Prop) : R2 := fun x y H Q => ∃ F rh c dx dy Qm, Ce K H F rh c ∧ Rep K H F rh x dx ∧ Rep K H F rh y dy ∧ W c dx dy Qm ∧ ∀ k, Qm k → Q (.bl k) H

theorem cat_str {i j : Str} {v u : V} {Q : VK} {dx dy : D} (h1 : Rep X.K H F rh v (.str i)) (h2 : Rep X.K H F rh u (.str j)) : v = .str i ∧ u = .str j := ⟨h1.str_of, h2.str_of⟩
theorem strMul_eq (x : Str) (n : Int) : (if n < 1 then Str.empty else if (n == 1 || x.length == 0) = true then x else ⟨(List.replicate n.toNat x.cps).foldl (· ++ ·) #[]⟩ : Str) = repS x n.toNat := by
  have fl : ∀ (m : Nat) (b : Array Nat), (List.replicate m x.cps).foldl (· ++ ·) b = (b.toList ++ (List.replicate m x.cps.toList).flatten).toArray := by
    intro m
    induction m with
    | zero => intro b; simp
    | succ m ih => intro b; rw [List.replicate_succ, List.foldl_cons, ih]; simp [List.replicate_succ]
  unfold repS
  split
  · rename_i h
    have e : n.toNat = 0 := by omega
    rw [e]; rfl
  · rename_i h
    split
    · rename_i h2
      simp only [Bool.or_eq_true, beq_iff_eq] at h2
      rcases h2 with h2 | h2
      · subst h2
        simp
      · have e : x.cps.toList = [] := by
          have : x.cps.size = 0 := h2
          simpa using this
        have e2 : (List.replicate n.toNat ([] : List Nat)).flatten = [] := by
          induction n.toNat with
          | zero => rfl
          | succ m ih => rw [List.replicate_succ, List.flatten_cons, ih]; rfl
        rw [e, e2]
        obtain ⟨a⟩ := x
        have : a = #[] := by simpa using e
        rw [this]
    · rw [fl]; simp
theorem bin_ok (op : Operator) : OpR X (binaryOp op) (r2 X.K (binW op)) := by
  intro pins s sg H x y v u Q I rx ry h
  obtain ⟨F, rh, c, dx, dy, Qm, C, hx, hy, w, q⟩ := h
  have catL : ∀ {xs ys : List D}, asL c dx = some xs → asL c dy = some ys → xs.length + ys.length ≤ sizeLine → Qm (.lst (xs ++ ys)) true → wpAny (model X.prog X.w) X.A (binaryOp .Add v u) (EP X pins sg Q) X.xe s := by
    intro xs ys h1 h2 hz hq
    obtain ⟨a, vs, rfl, ha, ra⟩ := asL_of C hx h1
    obtain ⟨b, ws, rfl, hb, rb⟩ := asL_of C hy h2
    refine op_cat pins s sg H _ _ v u Q I rx ry ⟨a, b, vs, ws, rfl, rfl, ha, hb, by rw [ra.len, rb.len]; exact hz, fun p hp => ?_⟩
    exact q _ _ _ _ hq (.new hp ⟨_, rfl, ra.app rb⟩)
  cases op with
  | Add =>
    simp only [binW] at w
    split at w
    · cases hx; cases hy
      exact op_add pins s sg H _ _ v u Q I rx ry ⟨_, _, rfl, rfl, q _ _ _ _ w (.old .int)⟩
    · cases hx; cases hy
      exact op_add_str pins s sg H _ _ v u Q I rx ry ⟨_, _, rfl, rfl, w.1, q _ _ _ _ w.2 (.old .str)⟩
    · rename_i xs ys
      obtain ⟨a, vs, rfl, ha, ra⟩ := hx.tup_of
      obtain ⟨b, ws, rfl, hb, rb⟩ := hy.tup_of
      refine op_catA pins s sg H _ _ v u Q I rx ry ⟨a, b, vs, ws, rfl, rfl, ha.sq, hb.sq, by rw [ra.len, rb.len]; exact w.1, fun e => ?_, fun e1 e2 => ?_, fun e1 e2 p hp => ?_⟩
      · subst e
        cases ra
        exact q _ _ _ _ w.2 (.old (.tup hb rb))
      · subst e2
        cases rb
        rw [List.append_nil] at w
        exact q _ _ _ _ w.2 (.old (.tup ha ra))
      · exact q _ _ _ _ w.2 (.tup hp (ra.app rb))
    · obtain ⟨xs, ys, h1, h2, h3, h4⟩ := w
      exact catL h1 h2 h3 h4
  | Sub =>
    simp only [binW] at w
    split at w
    · cases hx; cases hy
      exact op_sub pins s sg H _ _ v u Q I rx ry ⟨_, _, rfl, rfl, q _ _ _ _ w (.old .int)⟩
    · exact w.elim
  | Mult =>
    simp only [binW] at w
    split at w
    · cases hx; cases hy
      rcases w with ⟨w1 | w1, w2⟩
      · exact op_mul pins s sg H _ _ v u Q I rx ry ⟨_, _, rfl, rfl, w1, q _ _ _ _ w2 (.old .int)⟩
      · exact op_mulW pins s sg H _ _ v u Q I rx ry ⟨_, _, rfl, rfl, w1, q _ _ _ _ w2 (.old .int)⟩
    · rename_i a k
      cases hx; cases hy
      obtain ⟨t, rfl⟩ := (rx : ∃ t, v = Value.str a t)
      obtain ⟨t2, rfl⟩ := (ry : ∃ t, u = Value.int k t)
      have qq := q _ _ _ _ w.2.2 (.old .str)
      have em := strMul_eq a k
      have sl : (sizeLine : Nat) = 16777216 := sizeLine_eq
      have w1 := w.1
      refine PySem.P.mul_str (by have := w.2.1; simp; omega) (fun h1 h2 => ?_) (fun h1 _ => ?_) ?_
      · have hk : 0 < k := by omega
        intro h3
        have h4 : (a.length : Int) * k ≤ 16777216 := by
          have e1 : (k.toNat : Int) = k := Int.toNat_of_nonneg (by omega)
          have e2 : ((a.length * k.toNat : Nat) : Int) = (a.length : Int) * k := by rw [Int.natCast_mul, e1]
          omega
        have h5 : (2 ^ 63 - 1) / k < (a.length : Int) := h3
        have h6 : (2 ^ 63 - 1 : Int) < (a.length : Int) * k := by
          have := Int.lt_mul_of_ediv_lt hk h5
          simpa [Int.mul_comm] using this
        omega
      · unfold Builtin.Str.tooLong
        simp
        omega
      · split at em
        · rename_i h1
          rw [if_pos h1]
          refine ⟨by rw [sl]; decide, ?_⟩
          rw [em]
          exact ⟨V.str _, _, I.tok _, ⟨_, rfl⟩, qq⟩
        · rename_i h1
          rw [if_neg h1]
          split at em
          · rename_i h2
            rw [if_pos h2]
            show EP X pins sg Q _ _
            rw [em]
            exact ⟨V.str _, _, I, ⟨_, rfl⟩, qq⟩
          · rename_i h2
            rw [if_neg h2]
            refine ⟨?_, ?_⟩
            · rw [em]
              unfold repS Str.length
              simp
              have : a.cps.size = a.length := rfl
              rw [this, Nat.mul_comm]; exact w1
            · rw [em]
              exact ⟨V.str _, _, I.tok _, ⟨_, rfl⟩, qq⟩
    · rename_i k _ _
      obtain ⟨xs, h1, h2, h3, h4⟩ := w
      cases hy
      obtain ⟨a, vs, rfl, ha, ra⟩ := asL_of C hx h1
      refine op_rep pins s sg H _ _ v u Q I rx ry ⟨a, k, vs, rfl, rfl, ha, by omega, by omega, by rw [ra.len]; exact h2, fun p hp => ?_⟩
      refine q _ _ _ _ h4 (.new hp ⟨_, rfl, ?_⟩)
      induction k.toNat with
      | zero => exact .nil
      | succ m ih => rw [List.replicate_succ, List.replicate_succ, List.flatten_cons, List.flatten_cons]; exact ra.app ih
    · exact w.elim
  | FloorDiv =>
    simp only [binW] at w
    split at w
    · rename_i i j
      cases hx; cases hy
      rcases w with ⟨w1 | w1, w2⟩
      · exact op_fdivN pins s sg H _ _ v u Q I rx ry ⟨_, _, rfl, rfl, w1, q _ _ _ _ w2 (.old .int)⟩
      · refine op_fdivW pins s sg H _ _ v u Q I rx ry ⟨_, _, rfl, rfl, w1, ?_⟩
        have e : i.fdiv j = i / j := Int.fdiv_eq_ediv_of_nonneg _ (Int.le_of_lt w1.1)
        rw [e] at w2
        exact q _ _ _ _ w2 (.old .int)
    · exact w.elim
  | Mod =>
    simp only [binW] at w
    split at w
    · cases hx; cases hy
      exact op_modN pins s sg H _ _ v u Q I rx ry ⟨_, _, rfl, rfl, w.1, q _ _ _ _ w.2 (.old .int)⟩
    · exact w.elim
  | Pow =>
    simp only [binW] at w
    split at w
    · cases hx; cases hy
      exact op_pow pins s sg H _ _ v u Q I rx ry ⟨_, _, rfl, rfl, w.1, q _ _ _ _ w.2 (.old .int)⟩
    · exact w.elim
  | _ => exact w.elim
def r1 (K : PySem.W.Frag) (W : D → Q1 → Prop) : V → Hp → VK → Prop := fun x H Q => ∃ F rh dx Qm, Rep K H F rh x dx ∧ W dx Qm ∧ ∀ d v, Qm d false → Rep K H F rh v d → Q v H
theorem un_ok (op : UnaryOp) : UnR X (unaryOp op) (r1 X.K (unW op)) := by
  intro pins s sg H x v Q I rx h
  obtain ⟨F, rh, dx, Qm, hx, w, q⟩ := h
  unfold unW at w
  split at w
  · cases hx
    exact un_neg pins s sg H _ v Q I rx ⟨_, rfl, q _ _ w .int⟩
  · exact w.elim
end
end Vm

/-! Vm: comparisons, subscripts -/
namespace Vm
open PySem PySem.Spec L2
open PyProof.Rows hiding St
section
variable {K : PySem.W.Frag} {H : Hp} {F : Fz} {rh : List Addr} {c : Cl}
mutual
theorem dp_of : ∀ {v : V} {d : D} {p : PyData}, Rep K H F rh v d → pyD d = some p → Dp K H v p
  | _, _, _, .non, e => by cases e; exact .non
  | _, _, _, .bl, e => by cases e; exact .bl _
  | _, _, _, .int, e => by cases e; exact .int _
  | _, _, _, .str, e => by cases e; exact .str _
  | _, .tup ds, p, .tup h r, e => by
    have e' : (pyL ds).map PyData.tuple = some p := e
    cases q : pyL ds with
    | none => rw [q] at e'; cases e'
    | some ps =>
      rw [q] at e'
      cases e'
      exact .tup h.sq (dps_of r q)
  | _, .lst ds, p, .lst h r, e => by
    have e' : (pyL ds).map PyData.list = some p := e
    cases q : pyL ds with
    | none => rw [q] at e'; cases e'
    | some ps =>
      rw [q] at e'
      cases e'
      exact .lst h.sq (dps_of r q)
  | _, _, _, .cell _, e => nomatch e
  | _, _, _, .scr _ _, e => nomatch e
  | _, _, _, .ins _ _, e => nomatch e
  | _, _, _, .dic _ _, e => nomatch e
theorem dps_of : ∀ {vs : List V} {ds : List D} {ps : List PyData}, RepL K H F rh vs ds → pyL ds = some ps → DpAll K H vs ps
  | _, _, _, .nil, e => by cases e; exact .nil
  | _, d :: ds, _, .cons h r, e => by
    have e' : (match pyD d, pyL ds with | some p, some ps => some (p :: ps) | _, _ => none) = some _ := e
    cases q : pyD d with
    | none => rw [q] at e'; cases e'
    | some p =>
      cases q2 : pyL ds with
      | none => rw [q, q2] at e'; cases e'
      | some ps =>
        rw [q, q2] at e'
        cases e'
        exact .cons (dp_of h q) (dps_of r q2)
end
theorem dpC_of (C : Ce K H F rh c) {v : V} {d : D} {p : PyData} (h : Rep K H F rh v d) (e : pyC c d = some p) : Dp K H v p := by
  cases d with
  | cell n =>
    have e' : (match c[n]? with | some (.lst xs) => (pyL xs).map PyData.list | _ => none) = some p := e
    cases q : c[n]? with
    | none => rw [q] at e'; cases e'
    | some x =>
      rw [q] at e'
      cases x with
      | lst xs =>
        cases q2 : pyL xs with
        | none => simp only [q2] at e'; cases e'
        | some ps =>
          simp only [q2] at e'
          cases e'
          obtain ⟨a, vs, rfl, ha, ra⟩ := asL_of C h (xs := xs) (by show (match c[n]? with | some (.lst xs) => some xs | _ => none) = some xs; rw [q])
          exact .lst (SqL.of ha) (dps_of ra q2)
      | _ => cases e'
  | _ => exact dp_of h e
end
section
variable {X : Cx}
theorem inS_ok (hu : X.A.units + 65 < cLine) {pins : List (Addr × Obj)} {s : Shared} {sg : L2.St} {H : Hp} {x y : V} {v u : Value} {Q : VK} (I : Inv X pins sg H s) (rx : RelV x v) (ry : RelV y u) {a : Addr} {vs : List V} {p : PyData} {ps : List PyData}
    (e : y = .ref a) (hs : SqL X.K H a vs ∨ SqT X.K H a vs) (hd : Dp X.K H x p) (ha : DpAll X.K H vs ps) (sp : SeqAt.shaped p = true) (sl : SeqAt.shaped (.list ps) = true) :
    (Q (.bl (ps.any fun z => PyData.eqv z p)) H → wpAny (model X.prog X.w) X.A (compareOp .In v u) (EP X pins sg Q) X.xe s) ∧ (Q (.bl (!ps.any fun z => PyData.eqv z p)) H → wpAny (model X.prog X.w) X.A (compareOp .NotIn v u) (EP X pins sg Q) X.xe s) := by
  subst e
  obtain ⟨as, r1⟩ := Dp.reads I p x v hd rx
  have cl : PyData.canLayAll0 ps = true := SeqAt.canLay_of_shaped sl
  have cp := SeqAt.canLay_of_shaped sp
  have rm := room_in_shaped (xs := ps) sp hu
  rcases hs with hs | hs
  · obtain ⟨bs, r2⟩ := Dp.reads I (.list ps) _ u (.lst hs ha) ry
    exact ⟨fun q => SeqAt.in_list_reads r2 r1 cl cp rm ⟨V.bl _, H, I, rfl, q⟩, fun q => SeqAt.notIn_list_reads r2 r1 cl cp rm ⟨V.bl _, H, I, rfl, q⟩⟩
  · obtain ⟨bs, r2⟩ := Dp.reads I (.tuple ps) _ u (.tup hs ha) ry
    exact ⟨fun q => SeqAt.in_tuple_reads r2 r1 cl cp rm ⟨V.bl _, H, I, rfl, q⟩, fun q => SeqAt.notIn_tuple_reads r2 r1 cl cp rm ⟨V.bl _, H, I, rfl, q⟩⟩

theorem none_of {K : PySem.W.Frag} {H : Hp} {F : Fz} {rh : List Addr} {v : V} {d : D} (r : Rep K H F rh v d) : decide (v = .non) = isNon d := by
  cases r <;> rfl
theorem op_eq_str : OpR X (compareOp .Eq) (fun x y H Q => ∃ i j, x = .str i ∧ y = .str j ∧ Q (.bl (decide (i = j))) H) := by
  intro pins s σ H x y v u Q I rx ry h
  obtain ⟨i, j, rfl, rfl, q⟩ := h
  obtain ⟨t, rfl⟩ := rx
  obtain ⟨t', rfl⟩ := ry
  have e : (i == j) = decide (i = j) := by by_cases h : i = j <;> simp [h]
  exact PyProof.Rows.eq_str (by rw [e]; exact fin_bl I q rfl)
theorem op_ne_str : OpR X (compareOp .NotEq) (fun x y H Q => ∃ i j, x = .str i ∧ y = .str j ∧ Q (.bl (!decide (i = j))) H) := by
  intro pins s σ H x y v u Q I rx ry h
  obtain ⟨i, j, rfl, rfl, q⟩ := h
  obtain ⟨t, rfl⟩ := rx
  obtain ⟨t', rfl⟩ := ry
  have e : (i != j) = !decide (i = j) := by by_cases h : i = j <;> simp [h]
  exact PyProof.Rows.ne_str (by rw [e]; exact fin_bl I q rfl)
theorem cmp_ok (hu : X.A.units + 65 < cLine) (op : CmpOp) : OpR X (compareOp op) (rC X.K (cmpW op)) := by
  intro pins s sg H x y v u Q I rx ry h
  obtain ⟨F, rh, c, dx, dy, Qm, C, hx, hy, w, q⟩ := h
  have hu' : X.A.units + 64 < cLine := by omega
  cases op with
  | Eq =>
    rcases w with ⟨a, b, rfl, rfl, w⟩ | ⟨p, r, h1, h2, h3, h4, h5⟩
    · cases hx; cases hy; exact op_eq_str pins s sg H _ _ v u Q I rx ry ⟨_, _, rfl, rfl, q _ w⟩
    exact op_eqD hu' pins s sg H x y v u Q I rx ry ⟨p, r, dpC_of C hx h1, dpC_of C hy h2, h3, h4, q _ h5⟩
  | NotEq =>
    rcases w with ⟨a, b, rfl, rfl, w⟩ | ⟨p, r, h1, h2, h3, h4, h5⟩
    · cases hx; cases hy; exact op_ne_str pins s sg H _ _ v u Q I rx ry ⟨_, _, rfl, rfl, q _ w⟩
    exact op_neD hu' pins s sg H x y v u Q I rx ry ⟨p, r, dpC_of C hx h1, dpC_of C hy h2, h3, h4, q _ h5⟩
  | Lt =>
    simp only [cmpW] at w
    split at w
    · cases hx; cases hy; exact op_lt pins s sg H _ _ v u Q I rx ry ⟨_, _, rfl, rfl, q _ w⟩
    · cases hx; cases hy; exact op_lt_str pins s sg H _ _ v u Q I rx ry ⟨_, _, rfl, rfl, q _ w⟩
    · exact w.elim
  | LtE =>
    simp only [cmpW] at w
    split at w
    · cases hx; cases hy; exact op_le pins s sg H _ _ v u Q I rx ry ⟨_, _, rfl, rfl, q _ w⟩
    · cases hx; cases hy; exact op_le_str pins s sg H _ _ v u Q I rx ry ⟨_, _, rfl, rfl, q _ w⟩
    · exact w.elim
  | Gt =>
    simp only [cmpW] at w
    split at w
    · cases hx; cases hy; exact op_gt pins s sg H _ _ v u Q I rx ry ⟨_, _, rfl, rfl, q _ w⟩
    · cases hx; cases hy; exact op_gt_str pins s sg H _ _ v u Q I rx ry ⟨_, _, rfl, rfl, q _ w⟩
    · exact w.elim
  | GtE =>
    simp only [cmpW] at w
    split at w
    · cases hx; cases hy; exact op_ge pins s sg H _ _ v u Q I rx ry ⟨_, _, rfl, rfl, q _ w⟩
    · cases hx; cases hy; exact op_ge_str pins s sg H _ _ v u Q I rx ry ⟨_, _, rfl, rfl, q _ w⟩
    · exact w.elim
  | Is =>
    simp only [cmpW] at w
    split at w
    · cases hy
      refine op_isN pins s sg H _ _ v u Q I rx ry ⟨rfl, ?_⟩
      rw [none_of hx]; exact q _ w
    · exact w.elim
  | IsNot =>
    simp only [cmpW] at w
    split at w
    · cases hy
      refine op_notN pins s sg H _ _ v u Q I rx ry ⟨rfl, ?_⟩
      rw [none_of hx]; exact q _ w
    · exact w.elim
  | In =>
    simp only [cmpW] at w
    split at w
    · cases hx; cases hy
      rcases w with ⟨ch, rfl, w⟩ | w
      · exact op_in_sign pins s sg H _ _ v u Q I rx ry ⟨ch, _, rfl, rfl, q _ w⟩
      · exact op_in_str pins s sg H _ _ v u Q I rx ry ⟨_, _, rfl, rfl, q _ w⟩
    · obtain ⟨p, ys, ps, h1, h2, h3, h4, h5, h6⟩ := w
      obtain ⟨a, vs, e, hs, r⟩ := asS_of C hy h2
      exact (inS_ok hu I rx ry e hs (dpC_of C hx h1) (dps_of r h3) h4 h5).1 (q _ h6)
  | NotIn =>
    simp only [cmpW] at w
    split at w
    · cases hx; cases hy
      rcases w with ⟨ch, rfl, w⟩ | w
      · exact op_notIn_sign pins s sg H _ _ v u Q I rx ry ⟨ch, _, rfl, rfl, q _ w⟩
      · exact op_notIn_str pins s sg H _ _ v u Q I rx ry ⟨_, _, rfl, rfl, q _ w⟩
    · obtain ⟨p, ys, ps, h1, h2, h3, h4, h5, h6⟩ := w
      obtain ⟨a, vs, e, hs, r⟩ := asS_of C hy h2
      exact (inS_ok hu I rx ry e hs (dpC_of C hx h1) (dps_of r h3) h4 h5).2 (q _ h6)

theorem atI_rep {K : PySem.W.Frag} {H : Hp} {F : Fz} {rh : List Addr} {vs : List V} {ds : List D} {i : Int} {d : D} (r : RepL K H F rh vs ds) (h : atI ds i = some d) : ∃ v, atI vs i = some v ∧ Rep K H F rh v d := by
  unfold atI at h ⊢
  rw [r.len]
  cases q : ixN ds.length i with
  | none => rw [q] at h; cases h
  | some j =>
    rw [q] at h
    exact r.at h
theorem idx_ok : IxR X (r2 X.K idxW) := by
  intro value slice pins s sg H x y v u Q I rx ry h hs
  obtain ⟨F, rh, c, dx, dy, Qm, C, hx, hy, w, q⟩ := h
  unfold idxW at w
  split at w
  · cases hx; cases hy
    obtain ⟨w1, ch, w2, w3⟩ := w
    exact ix_str value slice pins s sg H _ _ v u Q I rx ry ⟨_, _, ch, rfl, rfl, w1, w2, q _ _ _ _ w3 (.old .str)⟩ hs
  · obtain ⟨xs, z, h1, h2, h3⟩ := w
    cases hy
    obtain ⟨a, vs, rfl, hsq, r⟩ := asS_of C hx h1
    obtain ⟨vz, g1, g2⟩ := atI_rep r h2
    rcases hsq with hsq | hsq
    · exact ix_list value slice pins s sg H _ _ v u Q I rx ry ⟨a, vs, _, vz, rfl, rfl, hsq, g1, q _ _ _ _ h3 (.old g2)⟩ hs
    · exact ix_tup value slice pins s sg H _ _ v u Q I rx ry ⟨a, vs, _, vz, rfl, rfl, hsq, g1, q _ _ _ _ h3 (.old g2)⟩ hs
  · exact w.elim
def rS (K : PySem.W.Frag) : V → Option Int → Option Int → Hp → VK → Prop := fun x lo hi H Q => ∃ F rh c dx Qm, Ce K H F rh c ∧ Rep K H F rh x dx ∧ slcW c dx lo hi Qm ∧ ∀ d o v H', Qm d o → Out K H F rh v H' d o → Q v H'
theorem cut_rep {K : PySem.W.Frag} {H : Hp} {F : Fz} {rh : List Addr} {vs : List V} {ds : List D} {lo hi : Option Int} (r : RepL K H F rh vs ds) : RepL K H F rh (cutV vs lo hi) (cutD ds lo hi) := by
  unfold cutV cutD
  rw [r.len]
  exact (r.drop _).take _
theorem slc_ok : SlR X (rS X.K) := by
  intro pins s sg H x v vl vu lo hi sl Q I rx hs pl pu h
  obtain ⟨F, rh, c, dx, Qm, C, hx, w, q⟩ := h
  have lists : ∀ {a : Addr} {vs : List V} {xs : List D}, x = .ref a → SqL X.K H a vs → RepL X.K H F rh vs xs → Qm (.lst (cutD xs lo hi)) true → ∃ T id, typeLookup (.type T) "__getitem__" = pure (some (.builtin id)) ∧ s.TypeIs v T ∧ wpAny (model X.prog X.w) X.A (getItem v (.ref sl)) (EP X pins sg Q) X.xe s := by
    intro a vs xs e hl r hq
    subst e
    exact sl_list pins s sg H _ v vl vu lo hi sl Q I rx hs pl pu ⟨a, vs, rfl, hl, fun p hp => q _ _ _ _ hq (.new hp ⟨_, rfl, cut_rep r⟩)⟩
  cases dx with
  | str z =>
    cases hx
    exact sl_str pins s sg H _ v vl vu lo hi sl Q I rx hs pl pu ⟨z, rfl, w.1, q _ _ _ _ w.2 (.old .str)⟩
  | tup xs =>
    obtain ⟨a, vs, rfl, ha, r⟩ := hx.tup_of
    refine sl_tupA pins s sg H _ v vl vu lo hi sl Q I rx hs pl pu ⟨a, vs, rfl, ha.sq, fun e => ?_, fun _ p hp => q _ _ _ _ w (.tup hp (cut_rep r))⟩
    have e' : cutD xs lo hi = xs := by
      unfold cutD
      rw [r.len] at e
      rw [e.1, e.2, List.drop_zero, Nat.sub_zero, List.take_length]
    have w' : Qm (.tup (cutD xs lo hi)) false := w
    rw [e'] at w'
    exact q _ _ _ _ w' (.old (.tup ha r))
  | scr xs =>
    obtain ⟨ys, w1, w2⟩ := w
    cases hx with
    | scr hf r =>
      rcases w1 with w1 | w1
      · cases w1
      · cases w1
        exact lists rfl hf.sq r w2
  | _ =>
    obtain ⟨ys, w1, w2⟩ := w
    rcases w1 with w1 | w1
    · obtain ⟨a, vs, e, ha, r⟩ := asL_of C hx w1
      exact lists e (SqL.of ha) r w2
    · cases w1
end
end Vm

/-! Vm: numbers of up to 4,300 digits as texts -/
namespace Vm
open PySem PySem.Spec L2
open PyProof.Rows hiding St
/-- the digits' limit stands as it was -/
def digB (K : PySem.W.Frag) : Bool := match K.lookup cStatics with
  | some ⟨_, _, .dict es _, _⟩ => es.toList.all (fun e => match e.key with | .str _ _ => true | _ => false) && (nsFind es "sys.int_max_str_digits").isNone
  | _ => false
theorem digB_ok {K : PySem.W.Frag} {h : Heap} (X : K.In h) (c : digB K = true) : h.NoDigits := by
  unfold digB at c
  split at c
  · rename_i oc od es ep osl q
    rw [Bool.and_eq_true] at c
    obtain ⟨c1, c2⟩ := c
    refine ⟨fun name => nsFind es name, ⟨_, es, ep, X _ _ q, rfl, fun e he => ?_, fun _ => rfl⟩, Option.isNone_iff_eq_none.mp c2⟩
    have z := List.all_eq_true.mp c1 e (Array.mem_toList_iff.mpr he)
    split at z
    · rename_i n t e2; exact ⟨n, t, e2⟩
    · cases z
  · cases c
section
open NumText
variable {prog : Program} {w : World} {A : Around} {E : Value → Shared → Prop} {s : Shared} {Q : Value → Shared → Prop}
theorem repr_big {a : Int} {t : Tok} (hh : A.handled = none) (hn : s.heap.NoDigits) (ha : a.natAbs < 10 ^ 4300) (h : Q (.str (toString a) s.toks) { s with toks := s.toks + 1 }) : wpAny (model prog w) A (call (.builtin "repr") [.int a t]) Q E s := by
  refine Calls.call_function_entry F.kind_repr F.plain_repr F.entry_repr (F.args_repr1 _) ?_
  unfold Builtin.«repr»
  refine wpAny_bind (m := oneArg "repr" _) (wpAny_pure ?_)
  have hv : [Value.int a t].any Value.onHeap = false := rfl
  simp only [cRoomFor, hv, Bool.false_eq_true, if_false, pure_bind]
  refine wpAny_bind (wpAny_specialOf (name := Str.ofString "__repr__") (typeIs_int s a t) F.slot_int_repr.lookup ?_)
  refine wpAny_bind (m := callSpecialIfBound? (.int a t) (Str.ofString "__repr__")) (wpAny_callSpecialIfBound?_slot (name := Str.ofString "__repr__") (typeIs_int s a t) F.slot_int_repr (call_int_repr_or hh hn (fun _ => ?_) (fun g => absurd ha (Nat.not_lt.mpr g))))
  refine wpAny_bind (wpAny_isInstance (T := "str") (b := true) rfl isSubtype_str_str ?_)
  exact wpAny_pure ⟨_, rfl, h⟩
theorem maxDig {M : Model} {Q : Nat → Shared → Prop} (hn : s.heap.NoDigits) (h : Q 4300 s) : wpAny M A Builtin.intMaxStrDigits Q E s := by
  obtain ⟨mc, hns, hnone⟩ := hn
  unfold Builtin.intMaxStrDigits
  refine wpAny_bind (wpAny_nsGet hns ?_)
  rw [hnone]
  exact wpAny_pure h
theorem wp_textL {M : Model} {v : Value} {text : List Nat} {n : Int} (hn : s.heap.NoDigits)
    (hs : ¬ (text.takeWhile (· != 0)).length ≤ 640) (hr : (int_private% "readNumeral") 4300 10 (text.takeWhile (· != 0)) = (int_private% "Numeral.value") n)
    (ha : ((text.takeWhile (· != 0)).length == text.length) = true) (h : Q (.int n s.toks) { s with toks := s.toks + 1 }) :
    wpAny M A ((int_private% "intFromText") v text 10) Q E s := by
  obtain ⟨hp, g, d, tk, os⟩ := s
  repeat (any_goals (first
    | assumption
    | (with_reducible refine wpAny_ite_false (decide_eq_false hs) ?_)
    | (with_reducible refine wpAny_ite_true (decide_eq_true ha) ?_)
    | (with_reducible refine wpAny_bind (maxDig hn ?_))
    | (with_reducible refine maxDig hn ?_)
    | wp_step))
  all_goals (try rw [hr])
  all_goals (try dsimp only)
  repeat (any_goals (first
    | assumption
    | (with_reducible refine wpAny_ite_true (decide_eq_true ha) ?_)
    | wp_step))
theorem meets_textL {x : PySem.Str} {u : Tok} {n : Int} (hx : x.length ≤ sizeLine) (hl : ¬ (numSeenOf x).length ≤ 640) (hn : PySem.intText? x = some n) :
    Meets (Builtin.«int.__new__» ⟨[.type "int", .str x u], []⟩) (fun _ R s => s.heap.NoDigits ∧ R (.ok (.ret (.int n s.toks))) { s with toks := s.toks + 1 }) :=
  .of_wp fun prog w A R s h => by
    obtain ⟨hp, g, d, tk, os⟩ := s
    obtain ⟨hd, h⟩ := h
    have f1 := F.conv_sub_int
    have f2 := F.madeHere_int
    have f3 := PySem.W.KIN.str_int
    have f4 := PySem.W.KIN.str_idx
    have f5 := PySem.W.KIN.str_trunc
    have f6 : typeOf (.str x u) = pure (.type "str") := rfl
    have hr : (int_private% "readNumeral") 4300 10 (numSeenOf x) = (int_private% "Numeral.value") n ∧ ((numSeenOf x).length == (numTextOf x).length) = true := by
      rcases read4300 x hx with ⟨m, h1, h2, h3⟩ | ⟨h1, _⟩
      · rw [hn] at h1
        injection h1 with h1
        subst h1
        exact ⟨h3, h2⟩
      · rw [hn] at h1
        cases h1
    have hk := PySem.W.KIN.Hid.mk (And.intro hl hr)
    clear hl hr hx hn
    repeat (any_goals (first
      | assumption
      | ((with_reducible show wpAny _ _ ((int_private% "intFromText") _ _ _) _ _ _); refine wp_textL hd hk.out.1 hk.out.2.1 hk.out.2.2 ?_)
      | wp_step))
    all_goals first | exact ⟨_, rfl, h⟩ | skip
theorem int_text {x : PySem.Str} {t : Tok} {n : Int} (hd : s.heap.NoDigits) (ha : x.cps.all (· < 128) = true) (hx : x.length ≤ sizeLine) (hn : PySem.intText? x = some n) (h : Q (.int n s.toks) { s with toks := s.toks + 1 }) : wpAny (model prog w) A (call (.type "int") [.str x t]) Q E s := by
  by_cases hl : x.length ≤ 640
  · exact PySem.W.KIN.call_text hn hl h
  · refine call_int_1 (meets_textL hx (fun z => hl ?_) hn) ⟨hd, typeIs_int _ _ _, h⟩
    have e1 : numTextOf x = x.cps.toList := if_pos ha
    have e2 : (numSeenOf x).length = (numTextOf x).length := by
      by_cases q : ((numSeenOf x).length == (numTextOf x).length) = true
      · exact eq_of_beq q
      · have hn' : (if ((numSeenOf x).length == (numTextOf x).length) = true then _ else none) = some n := hn
        rw [if_neg q] at hn'
        exact nomatch hn'
    have e3 : x.cps.toList.length = x.length := Array.length_toList
    rw [e2, e1, e3] at z
    exact z
end
end Vm

/-! Vm: built-in functions, methods -/
namespace Vm
open PySem PySem.Spec L2
open PyProof.Rows hiding St
section
variable {X : Cx}
def rP (K : PySem.W.Frag) (W : Cl → List D → Q1 → Prop) : List V → Hp → VK → Prop := fun vs H Q => ∃ F rh c ds Qm, Ce K H F rh c ∧ RepL K H F rh vs ds ∧ W c ds Qm ∧ ∀ d o v H', Qm d o → Out K H F rh v H' d o → Q v H'

theorem noDict_of : ∀ {d : D} {p : PyData}, pyD d = some p → p.hasDict = false := by
  have h : (∀ d : D, ∀ p, pyD d = some p → p.hasDict = false) ∧ (∀ ds : List D, ∀ ps, pyL ds = some ps → PyData.hasDictAll ps = false) := by
    refine ⟨fun d => ?_, fun ds => ?_⟩
    · exact D.rec (motive_1 := fun d => ∀ p, pyD d = some p → p.hasDict = false) (motive_2 := fun ds => ∀ ps, pyL ds = some ps → PyData.hasDictAll ps = false)
        (fun p e => by cases e; rfl) (fun b p e => by cases e; rfl) (fun i p e => by cases e; rfl) (fun x p e => by cases e; rfl)
        (fun xs ih p e => by
          have e' : (pyL xs).map PyData.tuple = some p := e
          cases q : pyL xs with
          | none => rw [q] at e'; cases e'
          | some ps => rw [q] at e'; cases e'; exact ih ps q)
        (fun xs ih p e => by
          have e' : (pyL xs).map PyData.list = some p := e
          cases q : pyL xs with
          | none => rw [q] at e'; cases e'
          | some ps => rw [q] at e'; cases e'; exact ih ps q)
        (fun n p e => nomatch e) (fun xs _ p e => nomatch e) (fun k ns xs _ p e => nomatch e) (fun ks xs _ p e => nomatch e) (fun k p e => nomatch e)
        (fun ps e => by cases e; rfl)
        (fun x xs ih1 ih2 ps e => by
          have e' : (match pyD x, pyL xs with | some p, some ps => some (p :: ps) | _, _ => none) = some ps := e
          cases q : pyD x with
          | none => rw [q] at e'; cases e'
          | some p =>
            cases q2 : pyL xs with
            | none => rw [q, q2] at e'; cases e'
            | some qs =>
              rw [q, q2] at e'; cases e'
              show (p.hasDict || PyData.hasDictAll qs) = false
              rw [ih1 p q, ih2 qs q2]; rfl) d
    · exact D.rec_1 (motive_1 := fun d => ∀ p, pyD d = some p → p.hasDict = false) (motive_2 := fun ds => ∀ ps, pyL ds = some ps → PyData.hasDictAll ps = false)
        (fun p e => by cases e; rfl) (fun b p e => by cases e; rfl) (fun i p e => by cases e; rfl) (fun x p e => by cases e; rfl)
        (fun xs ih p e => by
          have e' : (pyL xs).map PyData.tuple = some p := e
          cases q : pyL xs with
          | none => rw [q] at e'; cases e'
          | some ps => rw [q] at e'; cases e'; exact ih ps q)
        (fun xs ih p e => by
          have e' : (pyL xs).map PyData.list = some p := e
          cases q : pyL xs with
          | none => rw [q] at e'; cases e'
          | some ps => rw [q] at e'; cases e'; exact ih ps q)
        (fun n p e => nomatch e) (fun xs _ p e => nomatch e) (fun k ns xs _ p e => nomatch e) (fun ks xs _ p e => nomatch e) (fun k p e => nomatch e)
        (fun ps e => by cases e; rfl)
        (fun x xs ih1 ih2 ps e => by
          have e' : (match pyD x, pyL xs with | some p, some ps => some (p :: ps) | _, _ => none) = some ps := e
          cases q : pyD x with
          | none => rw [q] at e'; cases e'
          | some p =>
            cases q2 : pyL xs with
            | none => rw [q, q2] at e'; cases e'
            | some qs =>
              rw [q, q2] at e'; cases e'
              show (p.hasDict || PyData.hasDictAll qs) = false
              rw [ih1 p q, ih2 qs q2]; rfl) ds
  exact fun {d p} e => h.1 d p e
theorem noDictL_of : ∀ {ds : List D} {ps : List PyData}, pyL ds = some ps → PyData.hasDictAll ps = false := fun {ds ps} e => by
  have h := @noDict_of (.lst ds) (.list ps) (by show (pyL ds).map PyData.list = _; rw [e]; rfl)
  exact h
theorem noDictC_of {c : Cl} {d : D} {p : PyData} (e : pyC c d = some p) : p.hasDict = false := by
  cases d with
  | cell n =>
    have e' : (match c[n]? with | some (.lst xs) => (pyL xs).map PyData.list | _ => none) = some p := e
    cases q : c[n]? with
    | none => rw [q] at e'; cases e'
    | some x =>
      rw [q] at e'
      cases x with
      | lst xs =>
        cases q2 : pyL xs with
        | none => simp only [q2] at e'; cases e'
        | some ps =>
          simp only [q2] at e'
          cases e'
          exact noDictL_of q2
      | _ => cases e'
  | _ => exact noDict_of e
theorem repr_ok {k : Nat} (hr : Room k X.A) (hg : X.A.guards = some []) : CallR X (.builtin "repr") (rP X.K (primW .repr)) := by
  intro pins s sg H xs us Q I r h
  obtain ⟨F, rh, c, ds, Qm, C, R, w, q⟩ := h
  match ds, R, w with
  | [d], .cons (v := v) hv .nil, w =>
    obtain ⟨p, h1, h2, h3, h4, h5⟩ := w
    obtain ⟨u, rfl, ru⟩ := vals1 r
    have dp := dpC_of C hv h1
    have fin : Q (.str p.shown) H := q _ _ _ _ h5 (.old .str)
    have un := hr.units
    obtain ⟨as, rd⟩ := Dp.reads I p v u dp ru
    cases v with
    | ref a =>
      cases (show u = Value.ref a from ru)
      refine repr_of_reads' rd h2 (fun z => ?_) hg (by omega) (fun _ _ e => e) (fun h' tk tk' kk => ?_) h4
      · rw [noDictC_of h1] at z; cases z
      · exact ⟨V.str _, H, I.kept (t' := tk') kk, ⟨_, rfl⟩, fin⟩
    | non =>
      cases dp
      cases (show u = Value.none from ru)
      exact PySem.P.repr_of_none ⟨V.str _, H, I.tok _, ⟨_, rfl⟩, fin⟩
    | bl b =>
      cases dp
      cases (show u = Value.bool b from ru)
      exact PySem.P.repr_of_bool ⟨V.str _, H, I.tok _, ⟨_, rfl⟩, fin⟩
    | int i =>
      cases dp
      obtain ⟨t, rfl⟩ := (show ∃ t, u = Value.int i t from ru)
      exact PySem.P.repr_of_int (of_decide_eq_true h2) ⟨V.str _, H, I.tok _, ⟨_, rfl⟩, fin⟩
    | str z =>
      cases dp
      obtain ⟨t, rfl⟩ := (show ∃ t, u = Value.str z t from ru)
      exact PySem.P.repr_of_str ⟨V.str _, H, I.tok _, ⟨_, rfl⟩, fin⟩ h4
    | byt _ => cases dp
    | flt _ => cases dp
    | ty _ => cases dp
theorem asDic_of {H : Hp} {F : Fz} {rh : List Addr} {c : Cl} {v : V} {d : D} (C : Ce X.K H F rh c) (r : Rep X.K H F rh v d) {ks : List Key} {xs : List D} (h : asDic c d = some (ks, xs)) :
    ∃ a vs, v = .ref a ∧ Rd H a (.dK (ks.zip vs)) ∧ ks.length = vs.length ∧ RepL X.K H F rh vs xs := by
  cases d with
  | dic ks' xs' =>
    cases h
    cases r with
    | dic h r => exact ⟨_, _, rfl, h.2.2, h.2.1, r⟩
  | cell n =>
    have h' : (match c[n]? with | some (.dic ks xs) => some (ks, xs) | _ => none) = some (ks, xs) := h
    cases q : c[n]? with
    | none => rw [q] at h'; cases h'
    | some y =>
      rw [q] at h'
      cases y with
      | dic ks' xs' =>
        cases h'
        cases r with
        | cell hr =>
          obtain ⟨o, h1, vs, rfl, h3, h4⟩ := C.ob _ _ _ hr q
          exact ⟨_, vs, rfl, .inl h1, h3, h4⟩
      | _ => cases h'
  | _ => cases h
theorem asSL_of {H : Hp} {F : Fz} {rh : List Addr} {c : Cl} {v : V} {d : D} (C : Ce X.K H F rh c) (r : Rep X.K H F rh v d) {xs : List D} (h : asS c d = some xs) (hn : ∀ ds, d ≠ .tup ds) : ∃ a vs, v = .ref a ∧ SqL X.K H a vs ∧ RepL X.K H F rh vs xs := by
  cases d with
  | tup ds => exact absurd rfl (hn ds)
  | lst ds =>
    obtain ⟨a, vs, e, hl, r⟩ := asL_of C r (show asL c (.lst ds) = some xs from h)
    exact ⟨a, vs, e, SqL.of hl, r⟩
  | scr ds =>
    cases h
    cases r with
    | scr hf r => exact ⟨_, _, rfl, hf.sq, r⟩
  | cell n =>
    obtain ⟨a, vs, e, hl, r⟩ := asL_of C r (show asL c (.cell n) = some xs from h)
    exact ⟨a, vs, e, SqL.of hl, r⟩
  | _ => cases h
theorem keys_rep {K : PySem.W.Frag} {H : Hp} {F : Fz} {rh : List Addr} : ∀ {ks : List Key} {vs : List V}, ks.length = vs.length → RepL K H F rh ((ks.zip vs).map fun kv => kV kv.1) (ks.map keyD)
  | [], _, _ => .nil
  | k :: ks, [], h => by cases h
  | k :: ks, v :: vs, h => by
    refine .cons ?_ (keys_rep (by simpa using h))
    cases k with
    | inl i => exact .int
    | inr z => exact .str
theorem rep_strs {K : PySem.W.Frag} {H : Hp} {F : Fz} {rh : List Addr} : ∀ ys : List Str, RepL K H F rh (ys.map V.str) (ys.map D.str)
  | [] => .nil
  | _ :: ys => .cons .str (rep_strs ys)
theorem putK_new {kvs : List (Key × V)} {k : Key} {v : V} (h : k ∉ kvs.map (·.1)) : putK kvs k v = kvs ++ [(k, v)] := by
  unfold putK
  rw [if_neg]
  intro z
  obtain ⟨p, hp, e⟩ := List.any_eq_true.mp z
  exact h (List.mem_map.mpr ⟨p, hp, of_decide_eq_true e⟩)
theorem merge_new : ∀ {more kvs : List (Key × V)}, ((kvs ++ more).map (·.1)).Nodup → mergeK kvs more = kvs ++ more
  | [], kvs, _ => by rw [List.append_nil]; rfl
  | (k, v) :: more, kvs, h => by
    have hk : k ∉ kvs.map (·.1) := fun z => by
      rw [List.map_append, List.nodup_append] at h
      exact h.2.2 k z k (by simp) rfl
    have e : mergeK kvs ((k, v) :: more) = mergeK (putK kvs k v) more := rfl
    rw [e, putK_new hk, merge_new (by rw [List.append_assoc]; exact h), List.append_assoc]; rfl
theorem pairs_rep {K : PySem.W.Frag} {H : Hp} {F : Fz} {rh : List Addr} : ∀ {ks : List Key} {xs : List D} {us : List V}, ks.length = xs.length → RepL K H F rh us (pairsOf ks xs) →
    ∃ (ps : List Addr) (vs : List V), us = ps.map V.ref ∧ Paired (fun p (kv : Key × V) => SqT K H p [kV kv.1, kv.2]) ps (ks.zip vs) ∧ ks.length = vs.length ∧ RepL K H F rh vs xs
  | [], [], us, _, r => by
    cases r
    exact ⟨[], [], rfl, .nil, rfl, .nil⟩
  | k :: ks, x :: xs, us, hl, r => by
    have r' : RepL K H F rh us (.tup [keyD k, x] :: pairsOf ks xs) := r
    cases r' with
    | cons h t =>
      obtain ⟨a, ws, rfl, hs, hr⟩ := h.tup_of
      cases hr with
      | cons h1 hr =>
        cases hr with
        | cons h2 hr =>
          cases hr
          obtain ⟨ps, vs, rfl, g1, g2, g3⟩ := pairs_rep (by simpa using hl) t
          refine ⟨a :: ps, _ :: vs, rfl, .cons ?_ g1, by simp [g2], .cons h2 g3⟩
          have e : ∀ {v : V}, Rep K H F rh v (keyD k) → v = kV k := fun {v} h => by
            cases k with
            | inl i => cases h; rfl
            | inr z => cases h; rfl
          rw [e h1] at hs
          exact hs.sq
  | [], _ :: _, _, hl, _ => by cases hl
  | _ :: _, [], _, hl, _ => by cases hl
theorem map_fst_zip' : ∀ {ks : List Key} {vs : List V}, ks.length = vs.length → (ks.zip vs).map (·.1) = ks
  | [], _, _ => rfl
  | k :: ks, [], h => by cases h
  | k :: ks, v :: vs, h => by
    show k :: (ks.zip vs).map (·.1) = _
    rw [map_fst_zip' (by simpa using h)]
theorem prim_ok {k : Nat} (hd : digB X.K = true) (hc : X.calm = true) (hr : Room k X.A) (hg : X.A.guards = some []) (p : Prim) : CallR X p.val (rP X.K (primW p)) := by
  cases p with
  | repr => exact repr_ok hr hg
  | len =>
    intro pins s sg H xs us Q I r h
    obtain ⟨F, rh, c, ds, Qm, C, R, w, q⟩ := h
    match ds, R, w with
    | [d], .cons (v := v) hv .nil, w =>
      obtain ⟨n, h1, h2⟩ := w
      refine call_len pins s sg H _ us Q I r ⟨v, n, rfl, ?_, q _ _ _ _ h2 (.old .int)⟩
      have other : lenD c d = (asS c d).map List.length → LenV X.K v H n := fun e => by
        rw [e] at h1
        cases q2 : asS c d with
        | none => rw [q2] at h1; cases h1
        | some ys =>
          rw [q2] at h1
          cases h1
          obtain ⟨a, vs, rfl, hs, r'⟩ := asS_of C hv q2
          rcases hs with hs | hs
          · exact .inl ⟨vs, hs, r'.len.symm⟩
          · exact .inr ⟨vs, hs, r'.len.symm⟩
      cases d with
      | str z =>
        cases hv
        have h1' : (if z.length ≤ sizeLine then some z.length else none) = some n := h1
        split at h1'
        · rename_i hz
          cases h1'
          exact ⟨hz, rfl⟩
        · cases h1'
      | _ => exact other rfl
  | abs =>
    intro pins s sg H xs us Q I r h
    obtain ⟨F, rh, c, ds, Qm, C, R, w, q⟩ := h
    match ds, R, w with
    | [.int i], .cons hv .nil, w => cases hv; exact call_abs pins s sg H _ us Q I r ⟨_, rfl, q _ _ _ _ w (.old .int)⟩
  | int =>
    intro pins s sg H xs us Q I r h
    obtain ⟨F, rh, c, ds, Qm, C, R, w, q⟩ := h
    match ds, R, w with
    | [.int i], .cons hv .nil, w => cases hv; exact call_int1 pins s sg H _ us Q I r (.inl ⟨_, rfl, q _ _ _ _ w (.old .int)⟩)
    | [.bl b], .cons hv .nil, w => cases hv; exact call_int1 pins s sg H _ us Q I r (.inr ⟨_, rfl, q _ _ _ _ w (.old .int)⟩)
  | bool =>
    intro pins s sg H xs us Q I r h
    obtain ⟨F, rh, c, ds, Qm, C, R, w, q⟩ := h
    match ds, R, w with
    | [.int i], .cons hv .nil, w => cases hv; exact call_bool1 pins s sg H _ us Q I r (.inl ⟨_, rfl, q _ _ _ _ w (.old .bl)⟩)
    | [.bl b], .cons hv .nil, w => cases hv; exact call_bool1 pins s sg H _ us Q I r (.inr ⟨_, rfl, q _ _ _ _ w (.old .bl)⟩)
  | str =>
    intro pins s sg H xs us Q I r h
    obtain ⟨F, rh, c, ds, Qm, C, R, w, q⟩ := h
    match ds, R, w with
    | [.int i], .cons hv .nil, w => cases hv; exact call_str_int pins s sg H _ us Q I r ⟨_, rfl, w.1, q _ _ _ _ w.2 (.old .str)⟩
  | min =>
    intro pins s sg H xs us Q I r h
    obtain ⟨F, rh, c, ds, Qm, C, R, w, q⟩ := h
    match ds, R, w with
    | [.int i, .int j], .cons hv (.cons hv2 .nil), w => cases hv; cases hv2; exact call_min2 hc pins s sg H _ us Q I r ⟨_, _, rfl, q _ _ _ _ w (.old .int)⟩
  | max =>
    intro pins s sg H xs us Q I r h
    obtain ⟨F, rh, c, ds, Qm, C, R, w, q⟩ := h
    match ds, R, w with
    | [.int i, .int j], .cons hv (.cons hv2 .nil), w => cases hv; cases hv2; exact call_max2 hc pins s sg H _ us Q I r ⟨_, _, rfl, q _ _ _ _ w (.old .int)⟩
  | all =>
    intro pins s sg H xs us Q I r h
    obtain ⟨F, rh, c, ds, Qm, C, R, w, q⟩ := h
    match ds, R, w with
    | [d], .cons hv .nil, w =>
      obtain ⟨xs, bs, h1, rfl, h3⟩ := w
      obtain ⟨a, vs, rfl, ha, r'⟩ := asL_of C hv h1
      rw [r'.bls] at ha
      exact cr_all hc pins s sg H _ us Q I r ⟨a, bs, rfl, SqL.of ha, q _ _ _ _ h3 (.old .bl)⟩
  | any =>
    intro pins s sg H xs us Q I r h
    obtain ⟨F, rh, c, ds, Qm, C, R, w, q⟩ := h
    match ds, R, w with
    | [d], .cons hv .nil, w =>
      obtain ⟨xs, bs, h1, rfl, h3⟩ := w
      obtain ⟨a, vs, rfl, ha, r'⟩ := asL_of C hv h1
      rw [r'.bls] at ha
      exact cr_any hc pins s sg H _ us Q I r ⟨a, bs, rfl, SqL.of ha, q _ _ _ _ h3 (.old .bl)⟩
  | sum =>
    intro pins s sg H xs us Q I r h
    obtain ⟨F, rh, c, ds, Qm, C, R, w, q⟩ := h
    match ds, R, w with
    | [d], .cons hv .nil, w =>
      obtain ⟨xs, ns, h1, rfl, h3⟩ := w
      obtain ⟨a, vs, rfl, ha, r'⟩ := asL_of C hv h1
      rw [r'.ints] at ha
      exact cr_sum hc pins s sg H _ us Q I r ⟨a, ns, rfl, SqL.of ha, q _ _ _ _ h3 (.old .int)⟩
  | list =>
    intro pins s sg H xs us Q I r h
    obtain ⟨F, rh, c, ds, Qm, C, R, w, q⟩ := h
    match ds, R, w with
    | [d], .cons hv .nil, w =>
      rcases w with ⟨xs, h1, h2⟩ | ⟨ks, xs, h1, h2⟩
      · obtain ⟨a, vs, rfl, hs, r'⟩ := asS_of C hv h1
        exact call_list_of pins s sg H _ us Q I r ⟨a, vs, rfl, hs, fun l hl => q _ _ _ _ h2 (.new hl ⟨_, rfl, r'⟩)⟩
      · obtain ⟨a, vs, rfl, hs, hl, r'⟩ := asDic_of C hv h1
        exact call_listD hc pins s sg H _ us Q I r ⟨a, _, rfl, hs, fun l hn => q _ _ _ _ h2 (.new hn ⟨_, rfl, keys_rep hl⟩)⟩
  | tuple =>
    intro pins s sg H xs us Q I r h
    obtain ⟨F, rh, c, ds, Qm, C, R, w, q⟩ := h
    match ds, R, w with
    | [d], .cons hv .nil, w =>
      obtain ⟨xs, h1, h2⟩ := w
      cases d with
      | tup ds =>
        cases h1
        obtain ⟨a, vs, rfl, hs, r'⟩ := hv.tup_of
        exact call_tuple_of pins s sg H _ us Q I r ⟨a, vs, rfl, .inr ⟨hs.sq, q _ _ _ _ h2 (.old (.tup hs r'))⟩⟩
      | _ =>
        obtain ⟨a, vs, rfl, hs, r'⟩ := asSL_of C hv h1 nofun
        exact call_tuple_of pins s sg H _ us Q I r ⟨a, vs, rfl, .inl ⟨hs, fun l hl => q _ _ _ _ h2 (.tup hl r')⟩⟩
  | sorted =>
    intro pins s sg H xs us Q I r h
    obtain ⟨F, rh, c, ds, Qm, C, R, w, q⟩ := h
    match ds, R, w with
    | [d], .cons hv .nil, w =>
      obtain ⟨xs, zs, h1, rfl, h64, h3⟩ := w
      obtain ⟨a, vs, rfl, ha, r'⟩ := asL_of C hv h1
      rw [r'.strs] at ha
      exact cr_sortedS pins s sg H _ us Q I r ⟨a, zs, rfl, SqL.of ha, h64, fun ys p hp hs hn => q _ _ _ _ (h3 ys hp hs) (.new hn ⟨_, rfl, rep_strs ys⟩)⟩
  | dict =>
    intro pins s sg H xs us Q I r h
    obtain ⟨F, rh, c, ds, Qm, C, R, w, q⟩ := h
    match ds, R, w with
    | [d], .cons hv .nil, w =>
      rcases w with ⟨ks, xs, h1, h2⟩ | ⟨es, ks, xs, h1, rfl, hl, hn, h2⟩
      · obtain ⟨a, vs, rfl, hs, hl, r'⟩ := asDic_of C hv h1
        exact call_dictD pins s sg H _ us Q I r ⟨a, _, rfl, hs, fun l hn => q _ _ _ _ h2 (.new hn ⟨_, rfl, hl, r'⟩)⟩
      · obtain ⟨a, vs, rfl, ha, r'⟩ := asL_of C hv h1
        obtain ⟨ps, ws, rfl, g1, g2, g3⟩ := pairs_rep hl r'
        refine call_dictP hc pins s sg H _ us Q I r ⟨a, ps, _, rfl, SqL.of ha, g1, fun l hnl => q _ _ _ _ h2 (.new hnl ⟨ws, ?_, g2, g3⟩)⟩
        rw [merge_new (by rw [List.nil_append, map_fst_zip' g2]; exact hn), List.nil_append]
  | strL =>
    intro pins s sg H xs us Q I r h
    obtain ⟨F, rh, c, ds, Qm, C, R, w, q⟩ := h
    match ds, R, w with
    | [.int i], .cons hv .nil, w =>
      cases hv
      obtain ⟨u, rfl, t, rfl⟩ := vals1 r
      exact PyProof.Rows.str_of_int_or (I.ok.hd hc) (digB_ok I.kIn hd) (fun _ => ⟨.str _, H, I.tok _, ⟨_, rfl⟩, q _ _ _ _ w.2 (.old .str)⟩) fun g => absurd w.1 (Nat.not_lt.mpr g)
  | reprL =>
    intro pins s sg H xs us Q I r h
    obtain ⟨F, rh, c, ds, Qm, C, R, w, q⟩ := h
    match ds, R, w with
    | [.int i], .cons hv .nil, w =>
      cases hv
      obtain ⟨u, rfl, t, rfl⟩ := vals1 r
      exact repr_big (I.ok.hd hc) (digB_ok I.kIn hd) w.1 ⟨.str _, H, I.tok _, ⟨_, rfl⟩, q _ _ _ _ w.2 (.old .str)⟩
    | [.non], .cons hv .nil, w =>
      cases hv
      obtain ⟨u, rfl, ru⟩ := vals1 r
      cases (show u = Value.none from ru)
      exact PySem.P.repr_of_none ⟨V.str _, H, I.tok _, ⟨_, rfl⟩, q _ _ _ _ w (.old .str)⟩
  | intL =>
    intro pins s sg H xs us Q I r h
    obtain ⟨F, rh, c, ds, Qm, C, R, w, q⟩ := h
    match ds, R, w with
    | [.str z], .cons hv .nil, w =>
      obtain ⟨n, w1, w2, w3, w4⟩ := w
      cases hv
      obtain ⟨u, rfl, t, rfl⟩ := vals1 r
      exact int_text (digB_ok I.kIn hd) w1 w2 w3 ⟨.int _, H, I.tok _, ⟨_, rfl⟩, q _ _ _ _ w4 (.old .int)⟩
end
end Vm

/-! Vm: the package's exceptions: over ValueError and over KeyError, with an __init__ that keeps its one argument (or a written text) -/
namespace Vm
open PySem PySem.Spec
abbrev keMro : List Value := [.type "KeyError", .type "LookupError", .type "Exception", .type "BaseException", .type "object"]
theorem ke_store : StoreFacts "KeyError" keMro "object.__setattr__" "object" := {
  mro := by kernel_rfl
  slot := Slot.of (owner := "object") (n := "__setattr__") (by rw [typeLookup_type, builtinLookup_eq_fast]; kernel_rfl) (by decide +kernel) (by decide +kernel) (by decide +kernel) (by first | exact .inl (by decide +kernel) | exact .inr (by decide +kernel)) (by rw [isSubtype_type]; kernel_rfl)
  entry := F.entry_object_sa, kind := by decide +kernel, split := by decide +kernel, hasOwner := by decide +kernel, args := fun a b c => by (unfold argsOk; kernel_rfl), passes := fun s => by kernel_rfl }
/-- the built-in bases: KeyError has no __new__ of its own, but LookupError's -/
inductive Bs where
  | ve | ke
def Bs.nm : Bs → String
  | .ve => "ValueError" | .ke => "KeyError"
def Bs.bn : Bs → String
  | .ve => "ValueError" | .ke => "LookupError"
def Bs.nw : Bs → String
  | .ve => "ValueError.__new__" | .ke => "LookupError.__new__"
def Bs.ini : Bs → String
  | .ve => "ValueError.__init__" | .ke => "LookupError.__init__"
def Bs.mro : Bs → List Value
  | .ve => [.type "ValueError", .type "Exception", .type "BaseException", .type "object"] | .ke => keMro
def Bs.bmn : Bs → List Value
  | .ve => [.type "ValueError", .type "Exception", .type "BaseException", .type "object"] | .ke => [.type "LookupError", .type "Exception", .type "BaseException", .type "object"]
theorem Bs.F : ∀ b : Bs, ExcBaseFacts b.bn b.nw b.ini b.bmn
  | .ve => F.excBase_ValueError
  | .ke => F.excBase_LookupError
theorem Bs.S : ∀ b : Bs, StoreFacts b.nm b.mro "object.__setattr__" "object"
  | .ve => F.store_ValueError
  | .ke => ke_store
theorem Bs.c1 : ∀ b : Bs, b.mro.contains (.type b.bn) = true
  | .ve => by decide +kernel
  | .ke => by decide +kernel
theorem Bs.c2 : ∀ b : Bs, b.mro.contains (.type "AttributeError") = false
  | .ve => by decide +kernel
  | .ke => by decide +kernel
theorem Bs.c3 : ∀ b : Bs, b.mro.contains (.type "NameError") = false
  | .ve => by decide +kernel
  | .ke => by decide +kernel
end Vm
namespace Vm
open PySem PySem.Spec PySem.W PySem.Calls PyProof.Rows PySem.HandSPX
/-! ### such a class is called: the __new__ of its base, its own __init__ -/
section
variable {prog : Program} {w : World} {A : Around} {E : Value → Shared → Prop} {R : Result → Shared → Prop} {h : Heap} {g : Array GenState} {d : Drawn} {t : Nat} {os : OsState} {nm q : Str} {C N : Addr} {bs bm bmN rest : List Value} {hdct : Bool} {sn : List Str} {sub : List Value} {ab : Bool} {col : Option Bool} {dd : Option Addr} {k0 k1 k2 k3 k5 : Option Value} {Bn newId inN : String}
theorem xnew (Fn : ExcBaseFacts Bn newId inN bmN) (c1 : bm.contains (.type Bn) = true) (c2 : bm.contains (.type "AttributeError") = false) (c3 : bm.contains (.type "NameError") = false) (hC : h.get? C = some (excClassObj nm q C N bs bm hdct sn sub ab col dd k0 k1 k2 k3 k5 newId)) (hz : rest.length ≤ sizeLine)
    (hq : R (.ok (.ret (.ref (h.objs.size + 1)))) ⟨(h.push (kdv_tup rest)).push (excO C h.objs.size), g, d, t, os⟩) : codeAny (model prog w) A (.builtin newId ⟨.ref C :: rest, []⟩) R ⟨h, g, d, t, os⟩ := by
  have z0 := Fn.ends
  have z1 : (Value.ref C :: bm).contains (.type Bn) = true := by rw [List.contains_cons, c1, Bool.or_true]
  have z2 : (Value.ref C :: bm).contains (.type "AttributeError") = false := by rw [List.contains_cons, c2]; rfl
  have z3 : (Value.ref C :: bm).contains (.type "NameError") = false := by rw [List.contains_cons, c3]; rfl
  refine codeAny_builtinAt Fn.entry ?_
  unfold Builtin.«BaseException.__new__»
  refine PySem.wpAt_bind ?_
  show PySem.wpAt _ _ _ (stack >>= _) _ _ _
  refine PySem.wpAt_bind (PySem.wpAt_stack fun p below => PySem.wpAt_of_wpAny ?_)
  wp_walk
  refine PySem.wpAt_of_wpAny ?_
  rw [Fn.owner]
  repeat (first | with_reducible refine wpAny_madeHere_exc Fn.canon hC ?_ | with_reducible refine wpAny_loadPart_at hC ?_ | (with_reducible refine wpAny_isSubtype_exc hC ?_; first | rw [z1] | rw [z2] | rw [z3]) | wp_step)
  show R _ _
  rw [Heap.size_push]; exact hq
theorem xcheck {Q : Unit → Shared → Prop} {M : Model} (Fn : ExcBaseFacts Bn newId inN bmN) (c1 : bm.contains (.type Bn) = true) (hC : h.get? C = some (excClassObj nm q C N bs bm hdct sn sub ab col dd k0 k1 k2 k3 k5 newId)) (hq : Q () ⟨h, g, d, t, os⟩) : wpAny M A (checkBuiltinCall newId ⟨.ref C :: rest, []⟩) Q E ⟨h, g, d, t, os⟩ := by
  have z1 : (Value.ref C :: bm).contains (.type Bn) = true := by rw [List.contains_cons, c1, Bool.or_true]
  have z0 := Fn.noStar
  simp only [checkBuiltinCall, Fn.newKind, Fn.newSplit, Fn.newRow]
  repeat (first | refine wpAny_loadPart_at hC ?_ | (refine wpAny_isSubtype_exc hC ?_; rw [z1]) | refine wpAny_staticBase_exc hC ?_ | refine wpAny_madeBy_exc hC ?_ | simp only [bne_self_eq_false, Bool.false_eq_true, if_false] | wp_step)
  exact hq
theorem xcall {fI : Addr} (Fn : ExcBaseFacts Bn newId inN bmN) (c1 : bm.contains (.type Bn) = true) (c2 : bm.contains (.type "AttributeError") = false) (c3 : bm.contains (.type "NameError") = false) (hC : h.get? C = some (excClassObj nm q C N bs bm hdct sn sub ab col dd k0 k1 k2 k3 k5 newId)) (hz : rest.length ≤ sizeLine)
    (hi : Looks (model prog w) h (typeLookup (.ref C) "__init__") (some (.ref fI))) (hb : ∀ self, Looks (model prog w) h (bindSpecial (.ref fI) self) (.ref fI, [self]))
    (hq : codeAny (model prog w) (A.under (.builtin "type.__call__" ⟨.ref C :: rest, []⟩)) (.call (.ref fI) ⟨.ref (h.objs.size + 1) :: rest, []⟩) (InitBack (h.objs.size + 1) R) ⟨(h.push (kdv_tup rest)).push (excO C h.objs.size), g, d, t, os⟩) : codeAny (model prog w) A (.call (.ref C) ⟨rest, []⟩) R ⟨h, g, d, t, os⟩ := by
  have inner : ∀ {A : Around} {E : Value → Shared → Prop} {Q : Fin → Shared → Prop}, codeAny (model prog w) A (.call (.ref fI) ⟨.ref (h.objs.size + 1) :: rest, []⟩) (fun r s' => match r with | .ok (.ret v) => v = .none ∧ Q (.done (.ret (.ref (h.objs.size + 1)))) s' | .ok _ => False | .error e => E e s') ⟨(h.push (kdv_tup rest)).push (excO C h.objs.size), g, d, t, os⟩ →
      wpAny (model prog w) A (Builtin.«type.__call__» ⟨.ref C :: rest, []⟩) Q E ⟨h, g, d, t, os⟩ := by
    intro A E Q hq
    repeat (first | with_reducible refine wpAny_loadPart_at hC ?_ | with_reducible refine wpAny_madeBy_exc hC ?_ | wp_step)
    refine codeAny_call_builtin_code (Code.quiet_builtin _ Fn.quiet) (xcheck Fn c1 hC ?_)
    refine xnew Fn c1 c2 c3 hC hz ?_
    show wpAny _ _ _ _ _ _
    have k : ∀ b o, h.get? b = some o → ((h.push (kdv_tup rest)).push (excO C h.objs.size)).get? b = some o := fun b o e => Heap.get?_push_of_some _ (Heap.get?_push_of_some _ e)
    have hC1 := k _ _ hC
    have hget : ((h.push (kdv_tup rest)).push (excO C h.objs.size)).get? (h.objs.size + 1) = some (excO C h.objs.size) := by heap_get
    have z1 : (Value.ref C :: bm).contains (.ref C) = true := by simp
    have i1 := hi.keeps k
    have b1 := (hb (.ref (h.objs.size + 1))).keeps k
    unfold isInstance
    repeat (first | with_reducible refine wpAny_loadPart_at hget ?_ | (with_reducible refine wpAny_isSubtype_exc hC1 ?_; rw [z1]) | wp_step)
    show wpAny _ _ (typeLookup (.ref C) _) _ _ _
    refine i1.at (wpAny_holding (wpAny_bind (b1.at (wpAny_bind (wpAny_call (codeAny_mono hq fun r s' z => ?_))))))
    rcases r with e | (v | _ | _ | _) <;> first | exact z | exact z.elim | skip
    obtain ⟨rfl, z⟩ := z
    first | exact wpAny_pure (wpAny_pure z) | (wp_walk; exact z)
  have f1 := tc_lookup
  have f2 := tc_bind (.ref C)
  have hTy : (⟨h, g, d, t, os⟩ : Shared).TypeIs (.ref C) "type" := ⟨_, hC, rfl⟩
  refine codeAny_of_tree ?_
  show wpAny _ _ (callAny (.ref C) _) _ _ _
  repeat (any_goals (first | assumption | with_reducible refine wpAny_loadPart_at hC ?_ | wp_step))
  refine ⟨rfl, ?_⟩
  exact codeAny_call_builtin_at (Code.quiet_builtin _ (by decide +kernel)) entry_typeCall (wpAny_check_type_call_sub hC (inner hq))
end
/-- what the written part says of an exception class and its __init__ -/
structure XcAt (K : Frag) (C fI : Addr) (b : Bs) : Prop where
  ini : excInitIn K C b.mro b.nw = true
  ov : excOver K C b.mro = true
  hd : hasDictIn K C = true
  sa : findIn K (.ref C) "__setattr__" = some (some (.builtin "object.__setattr__"))
  iC : findIn K (.ref C) "__init__" = some (some (.ref fI))
  tI : isFn K (.ref fI) = true
  kC : keepIn K (.ref C) = true
  tyC : typeIn K (.ref C) = some (.type "type")
  xf : L2.XfC K C
section
variable {prog : Program} {w : World} {A : Around} {R : Result → Shared → Prop} {hp : Heap} {g : Array GenState} {dr : Drawn} {t : Nat} {os : OsState} {K : Frag} {C x : Addr} {b : Bs}
/-- the first store into a new exception -/
theorem osa_first {n : Str} {tk : Tok} {v : Value} {t0 : Addr} (XK : K.In hp) (hx : hp.get? x = some (excO C t0)) (ov : excOver K C b.mro = true) (hd : hasDictIn K C = true) (hn : findIn K (.ref C) n = some none)
    (hq : ∀ h' tk' dx, (∀ a o, a ≠ x → hp.get? a = some o → h'.get? a = some o) → hp.objs.size ≤ dx → dx ≠ x → h'.get? x = some { cls := .ref C, dict := some dx, data := .fields #[.ref t0, .none, .none, .none, .bool false, .none] } →
      h'.Ns1 dx (fun y => if y = n then some v else none) → R (.ok (.ret .none)) ⟨h', g, dr, tk', os⟩) : codeAny (model prog w) A (.call (.builtin "object.__setattr__") ⟨[.ref x, .str n tk, v], []⟩) R ⟨hp, g, dr, t, os⟩ := by
  refine osa_openX (od := none) b.S XK ⟨hx, rfl, rfl, trivial⟩ ov (by unfold takerIn; rw [hn]; rfl) fun _ => ?_
  obtain ⟨cd, hc, hd'⟩ := any_some hd
  have hxs : x ≠ hp.objs.size := Nat.ne_of_lt (Heap.lt_size hx)
  refine wpAny_bind (wpAny_pure (wpAny_bind (instanceDict_exc (t := t0) (c2 := .none) hx (looks_clsIn XK hc) hd' ?_)))
  show wpAny _ _ (Builtin.ObjectAttr.storeInDict hp.objs.size (.str n tk) n v) _ _ _
  have hx1 : (hp.push (dictOf [] 0)).get? x = some (excO C t0) := Heap.get?_push_of_some _ hx
  refine store_in_new ⟨_, #[], _, (Heap.get?_update_ne _ _ _ _ hxs.symm).trans (Heap.get?_push_at rfl rfl), rfl, fun e he => absurd he (by simp), fun _ => rfl⟩ fun h' tk' hn' hs => ?_
  refine hq h' tk' hp.objs.size (fun a o ha ho => ?_) (Nat.le_refl _) hxs.symm ?_ hn'
  · exact (hs.2 a (Nat.ne_of_lt (Heap.lt_size ho))).trans ((Heap.get?_update_ne _ _ _ _ ha).trans (Heap.get?_push_of_some _ ho))
  · exact (hs.2 x hxs).trans (Heap.get?_update_self _ hx1 rfl)
end
/-! ### the text of such an __init__ -/
def xSc (ps : List Str) : Scope := { kind := .function, names := ps.map fun p => (p, .local), isGenerator := false, isCoroutine := false, more := [] }
/-- the def at fI: its body stores one thing -/
def XiTxt (K : Frag) (fI : Addr) (ps : List Str) (n : Str) (e : Pos → Expr) (fd : FuncData) : Prop := ∃ (nm q : Str) (pr : Arguments) (q1 q2 q3 q4 : Pos) (oc : Value) (od : Option Addr) (dV kV doc pm : Value) (an : Option Addr) (cdv ct : Value) (osl : Array (Option Value)),
  fd = fnOf nm q pr [.Assign [.Attribute (.Name "self" q1) n q2] (e q3) q4] (xSc ps) dV kV doc pm an cdv ct ∧ K.lookup fI = some ⟨oc, od, .func fd, osl⟩ ∧ codeIn K cdv q = true ∧ L2.Binds K fd ps []
section
variable {prog : Program} {w : World} {A : Around} {R : Result → Shared → Prop} {s : Shared} {K : Frag} {C fI x t0 : Addr} {b : Bs} {fd : FuncData}
abbrev sS : Str := "self"
theorem xi_ld {M : Model} {E : Value → Shared → Prop} {nm : Str} {sc : Scope} {L a : Addr} {cd v : Value} {m : Str → Option Value} {y : Str} {pos : Pos} {Q : Value → Shared → Prop} (hk : sc.kind = .function) (hl : (envOfC nm sc L a cd).kindOf y = some .local) (hd : (y == ("__debug__" : Str)) = false)
    (hn : s.heap.Ns L m) (hv : m y = some v) (h : Q v s) : wpAny M A (eval (.Name y pos) (envOfC nm sc L a cd)) Q E s := wpAny_Name (wpAny_loadName_local hk hl hn hv h) hd
theorem at_names : ((List.range atNames.length).all fun n => decide (atN n ≠ "self") && decide (atN n ≠ "__debug__")) = true := by decide +kernel
theorem at_self {n : Nat} (h : n < atNames.length) : atN n ≠ "self" ∧ (atN n == ("__debug__" : Str)) = false := by
  have z := List.all_eq_true.mp at_names n (List.mem_range.mpr h)
  simp only [Bool.and_eq_true, decide_eq_true_eq] at z
  exact ⟨z.1, beq_eq_false_iff_ne.mpr z.2⟩
/-- behind the __init__ -/
def XiEnd (hp : Heap) (R : Result → Shared → Prop) (s : Shared) (x C t0 : Addr) (n : Str) (v : Value) : Prop := ∀ h' tk dx, (∀ a o, a ≠ x → hp.get? a = some o → h'.get? a = some o) → hp.objs.size ≤ dx → dx ≠ x →
  h'.get? x = some { cls := .ref C, dict := some dx, data := .fields #[.ref t0, .none, .none, .none, .bool false, .none] } → h'.Ns1 dx (fun y => if y = n then some v else none) → R (.ok (.ret .none)) { s with heap := h', toks := tk }
theorem xi_run {ps : List Str} {n : Str} {e : Pos → Expr} {us : List Value} (T : XcAt K C fI b) (TX : XiTxt K fI (sS :: ps) n e fd) (hno : findIn K (.ref C) n = some none) (XK : K.In s.heap) (hlim : s.heap.NoLimit) (hx : s.heap.get? x = some (excO C t0)) (hroom : A.depth < recursionLimit) (hl : us.length = ps.length)
    {V : Value → Prop} (hev : ∀ (nm : Str) (L a : Addr) (cd : Value) (m : Str → Option Value) (A' : Around) (E' : Value → Shared → Prop) (pos : Pos) (s1 : Shared) (Q : Value → Shared → Prop), s1.heap.Ns L m → (∀ (y : Str) v, (y, v) ∈ (sS, Value.ref x) :: ps.zip us → m y = some v) →
      (∀ v tk, V v → Q v { s1 with toks := tk }) → wpAny (model prog w) A' (eval (e pos) (envOfC nm (xSc (sS :: ps)) L a cd)) Q E' s1) (nd : (sS :: ps).Nodup)
    (hsw : ∀ tg l q env, swapsWith (e q) tg l env = pure false) (hq : ∀ v, V v → XiEnd s.heap R s x C t0 n v) : codeAny (model prog w) A (.call (.ref fI) ⟨.ref x :: us, []⟩) R s := by
  obtain ⟨nm, q, pr, q1, q2, q3, q4, oc, od, dV, kV, doc, pm, an, cdv, ct, osl, rfl, ho, hcd, hb⟩ := TX
  have bt := hb s (.ref x :: us) XK (by simp [hl])
  rw [List.append_nil] at bt
  have kd : ∀ y ∈ sS :: ps, (xSc (sS :: ps)).names.lookup y = some .local := by
    intro y hy
    show (List.map (fun p => (p, NameKind.local)) (sS :: ps)).lookup y = _
    generalize sS :: ps = l at hy ⊢
    induction l with
    | nil => cases hy
    | cons z l ih =>
      rw [List.map_cons, List.lookup_cons]
      by_cases h : y = z
      · subst h; simp
      · rw [beq_eq_false_iff_ne.mpr h]
        exact ih ((List.mem_cons.mp hy).resolve_left h)
  refine Att.call_fn (binds := (sS :: ps).zip (.ref x :: us)) XK hlim ho hcd hroom bt ?_ (fun s1 IC => ?_) rfl rfl rfl
  · refine List.all_eq_true.mpr fun y hy => ?_
    rw [kd y.1 (List.of_mem_zip hy).1]; rfl
  obtain ⟨h1, tk1, rfl⟩ := IC.toInCall.same
  have kp : ∀ a o, s.heap.get? a = some o → h1.get? a = some o := IC.toInCall.keep
  have hn := IC.toInCall.ns
  have X1 : K.In h1 := XK.keeps kp
  have hx1 := kp _ _ hx
  have bl : ∀ (y : Str) v, (y, v) ∈ (sS :: ps).zip (.ref x :: us) → bindL (envOfC q (xSc (sS :: ps)) s.heap.objs.size fI cdv).kindOf ((sS :: ps).zip (.ref x :: us)) (fun _ => none) y = some v := by
    have key : ∀ (l : List Str) (vs : List Value) (m : Str → Option Value), l.Nodup → (∀ y ∈ l, (xSc (sS :: ps)).names.lookup y = some .local) → ∀ (y : Str) v, (y, v) ∈ l.zip vs → bindL (envOfC q (xSc (sS :: ps)) s.heap.objs.size fI cdv).kindOf (l.zip vs) m y = some v := by
      intro l
      induction l with
      | nil => intro vs m _ _ y v hy; cases hy
      | cons z l ih =>
        intro vs m hnd hk y v hy
        cases vs with
        | nil => cases hy
        | cons u vs =>
          have kz : (envOfC q (xSc (sS :: ps)) s.heap.objs.size fI cdv).kindOf z = some .local := hk z List.mem_cons_self
          rw [List.zip_cons_cons] at hy ⊢
          unfold bindL
          rw [kz]
          rcases List.mem_cons.mp hy with e | hy
          · cases e
            simp only []
            rw [L2.bindL_out fun w hw => (List.nodup_cons.mp hnd).1 (List.of_mem_zip hw).1]
            simp
          · exact ih _ _ (List.nodup_cons.mp hnd).2 (fun y hy => hk y (List.mem_cons_of_mem _ hy)) y v hy
    exact key _ _ _ nd kd
  show wpAny _ _ (execs _ _) _ _ _
  refine wpAny_execs_cons (plainObj_wpAny_Assign_Attribute ?_ (hsw _ _ _ _))
  refine hev q s.heap.objs.size fI cdv _ _ _ q3 _ _ hn (fun y v hy => bl y v (by rw [List.zip_cons_cons]; exact hy)) fun v tk2 hV => ?_
  refine xi_ld (v := .ref x) rfl (kd _ List.mem_cons_self) (by decide) hn (bl sS _ (by rw [List.zip_cons_cons]; exact List.mem_cons_self)) ?_
  refine set_plain X1 (ox := excO C t0) (od := none) ⟨hx1, rfl, rfl, trivial⟩ T.sa ?_
  refine osa_first (b := b) (t0 := t0) X1 hx1 T.ov T.hd hno fun h3 tk3 dx k3 dn dne hx3 hn3 => ?_
  show wpAny _ _ (execs _ _) _ _ _
  have z : s.heap.objs.size < h1.objs.size := hn.lt
  exact wpAny_execs_nil (hq v hV h3 tk3 dx (fun a o ha e => k3 a o ha (kp a o e)) (Nat.le_of_lt (Nat.lt_of_lt_of_le z dn)) dne hx3 hn3)
/-- a made exception -/
structure XMade (h h' : Heap) (e C d : Addr) (n : Str) (v : Value) : Prop where
  keep : ∀ a o, h.get? a = some o → h'.get? a = some o
  new : h.objs.size ≤ e
  obj : ∃ oe vs, h'.get? e = some oe ∧ oe.cls = .ref C ∧ oe.dict = some d ∧ oe.data = .fields vs ∧ vs[1]? = some .none
  dbig : h.objs.size ≤ d
  dne : d ≠ e
  ns : h'.Ns1 d (fun y => if y = n then some v else none)
theorem x_made {ps : List Str} {n : Str} {e : Pos → Expr} {us : List Value} (T : XcAt K C fI b) (TX : XiTxt K fI (sS :: ps) n e fd) (hno : findIn K (.ref C) n = some none) (XK : K.In s.heap) (hlim : s.heap.NoLimit) (hroom : A.depth + 1 < recursionLimit) (hl : us.length = ps.length) (hz : us.length ≤ sizeLine)
    {V : Value → Prop} (hev : ∀ (x : Addr) (nm : Str) (L a : Addr) (cd : Value) (m : Str → Option Value) (A' : Around) (E' : Value → Shared → Prop) (pos : Pos) (s1 : Shared) (Q : Value → Shared → Prop), s1.heap.Ns L m → (∀ (y : Str) v, (y, v) ∈ (sS, Value.ref x) :: ps.zip us → m y = some v) →
      (∀ v tk, V v → Q v { s1 with toks := tk }) → wpAny (model prog w) A' (eval (e pos) (envOfC nm (xSc (sS :: ps)) L a cd)) Q E' s1) (nd : (sS :: ps).Nodup)
    (hsw : ∀ tg l q env, swapsWith (e q) tg l env = pure false) (hq : ∀ v, V v → ∀ h' tk e d, XMade s.heap h' e C d n v → R (.ok (.ret (.ref e))) { s with heap := h', toks := tk }) : codeAny (model prog w) A (.call (.ref C) ⟨us, []⟩) R s := by
  obtain ⟨nm, N', qn, bs, bm, hdct, sn, sub, ab, col, dd, k0, k1, k2, k3, k5, hC, hT⟩ := excInit_of XK T.ini
  obtain ⟨hp, g, dr, tk, os⟩ := s
  have kp : ∀ a o, hp.get? a = some o → ((hp.push (kdv_tup us)).push (excO C hp.objs.size)).get? a = some o := fun a o e => Heap.get?_push_of_some _ (Heap.get?_push_of_some _ e)
  have hget : ((hp.push (kdv_tup us)).push (excO C hp.objs.size)).get? (hp.objs.size + 1) = some (excO C hp.objs.size) := by heap_get
  have tI := T.tI
  obtain ⟨oI, hoI, hcI⟩ : ∃ oI, hp.get? fI = some oI ∧ oI.cls = .type "function" := by
    obtain ⟨o, ho, hc⟩ := Option.map_eq_some_iff.mp (show (K.lookup fI).map (·.cls) = some (.type "function") from beq_iff_eq.mp tI)
    exact ⟨o, XK _ _ ho, hc⟩
  refine xcall b.F ((hT _).trans b.c1) ((hT _).trans b.c2) ((hT _).trans b.c3) hC hz (looks_findIn XK T.iC) (fun self => exc_bind hoI hcI self) ?_
  refine xi_run (s := ⟨(hp.push (kdv_tup us)).push (excO C hp.objs.size), g, dr, tk, os⟩) T TX hno (XK.keeps kp) (hlim.keeps kp) hget (by show A.depth + 1 < recursionLimit; exact hroom) hl (hev _) nd hsw fun v hV h' tk' dx k' dn dne hx hns => ?_
  have old : ∀ a o, hp.get? a = some o → h'.get? a = some o := fun a o e => k' a o (Nat.ne_of_lt (Nat.lt_succ_of_lt (Heap.lt_size e))) (kp a o e)
  have z : hp.objs.size + 1 + 1 ≤ dx := by
    have q := dn
    simpa only [Heap.size_push] using q
  exact ⟨rfl, hq v hV h' tk' (hp.objs.size + 1) dx ⟨old, Nat.le_succ _, ⟨_, _, hx, rfl, rfl, rfl, rfl⟩, Nat.le_trans (Nat.le_trans (Nat.le_succ _) (Nat.le_succ _)) z, dne, hns⟩⟩
end
end Vm

/-! Vm: exceptions made; a try with several clauses, with and without a name -/
namespace Vm
open PySem PySem.Spec L2
open PyProof.Rows hiding St
/-! ### made -/
theorem relO_one {v : V} {u : Value} {n : Str} (r : RelV v u) (f : Str) : RelO (List.lookup f [(n, v)]) (if f = n then some u else none) := by
  by_cases h : f = n
  · subst h
    rw [if_pos rfl, show List.lookup f [(f, v)] = some v by simp [List.lookup]]
    exact r
  · rw [if_neg h, show List.lookup f [(n, v)] = none by simp [List.lookup, beq_eq_false_iff_ne.mpr h]]
    trivial
section
variable {X : Cx} {C fI : Addr} {b : Bs} {fd : FuncData}
theorem mk_made {pins : List (Addr × Obj)} {σ : L2.St} {H1 : Hp} {s1 : Shared} {Q : XK} (T : XcAt X.K C fI b) (I1 : Inv X pins σ H1 s1) {h' : Heap} {tk' : Nat} {e d : Addr} {n : Str} {v : V} {u : Value} (M : XMade s1.heap h' e C d n u) (r : RelV v u)
    (q : H1 d = none → Q (.ref C) (some d) (upd H1 d (.xd [(n, v)]))) : MkP X pins σ Q (.ref e) { s1 with heap := h', toks := tk' } := by
  obtain ⟨hp, g, dr, tk, os⟩ := s1
  obtain ⟨oe, fv, hoe, hc, hd, hdat, h1⟩ := M.obj
  have hns := M.ns
  obtain ⟨G', g1, g2⟩ := restrict h' fun a => decide (a ≠ e)
  have gk : ∀ a, a ≠ e → G'.get? a = h'.get? a := fun a ha => g1 a (decide_eq_true ha)
  have ge : G'.get? e = none := g2 e (by simp)
  have old : ∀ a o, hp.get? a = some o → G'.get? a = some o := fun a o z => (gk a (Nat.ne_of_lt (Nat.lt_of_lt_of_le (Heap.lt_size z) M.new))).trans (M.keep a o z)
  have ob : ObjOk X.prog X.w (upd H1 d (.xd [(n, v)])) G' d (.xd [(n, v)]) := ⟨_, hns.at (fun o z => (gk d M.dne).trans z), fun f => relO_one r f⟩
  have J : Inv X pins σ (upd H1 d (.xd [(n, v)])) ⟨G', g, dr, tk', os⟩ := I1.laid (t' := tk') old M.dbig ob
  refine ⟨e, oe, fv, ⟨G', g, dr, tk', os⟩, _, .ref C, some d, rfl, J, fun a o z => ?_, ge, hoe, ⟨hc, hd⟩, hdat, h1, ?_, rfl, I1.bare, raises_own T.xf.exC T.tyC, q (I1.hok.fresh M.dbig)⟩
  · by_cases hb : a = e
    · have z' : G'.get? a = some o := z
      rw [hb, ge] at z'; cases z'
    · exact (gk a hb).symm.trans z
  · rw [upd_ne (Ne.symm M.dne)]
    exact I1.hok.fresh M.new
/-- an exception of one argument -/
def tMk1 (C : Addr) (n : Str) (ta : TA) : L2.St → Hp → XK → Prop := fun σ H Q => ta σ H fun vs H1 => ∃ v, vs = [v] ∧ ∀ d, H1 d = none → Q (.ref C) (some d) (upd H1 d (.xd [(n, v)]))
theorem pmk_x1 {x : Str} {n : Str} {a : Expr} {ta : TA} {p pos : Pos} {k : Nat} (T : XcAt X.K C fI b) (TX : XiTxt X.K fI ["self", n] n (fun q => .Name n q) fd) (hno : PySem.W.findIn X.K (.ref C) n = some none) (hn1 : n ≠ "self") (hn2 : (n == ("__debug__" : Str)) = false) (hr : Room k X.A) (ha : PA X [a] ta) (hg : Gl X x) (hm : X.mg x = some (.ref C)) (hx : (x == ("__debug__" : Str)) = false)
    (he : starEach (a :: []) X.env = (false, eval a X.env) :: starEach [] X.env) (hpl : (backTo pos (starEach [] X.env)).any (·.1) = false := by rfl) : PMk X (.Call (.Name x p) [a] [] pos) (tMk1 C n ta) := by
  intro pins s σ H Q I h
  refine wpAny_Call_Name_kw (ld_glob I hg hm ?_ hx)
  refine PySem.W.callWith_K (h₀ := X.base) I.ok.mod.kin T.kC (thn (ha.run pos pins s σ H _ I h) fun us s1 hh => ?_) he hpl
  obtain ⟨vs, H1, I1, r1, v, ev, q1⟩ := hh
  subst ev
  refine ⟨I1.kIn, ?_⟩
  cases r1 with
  | @cons _ u _ us rv rn =>
    cases rn
    show wpAny _ _ (call (.ref C) [u]) _ _ _
    refine wpAny_call (x_made (V := fun z => z = u) T TX hno I1.kIn I1.nolimit (by have := hr.dp; omega) rfl (by rw [sizeLine_eq]; exact (by decide : 1 ≤ 16777216)) (fun x nm L a cd m A' E' pos s1 Q hns hm hq => ?_) (by simp [Ne.symm hn1]) (fun _ _ _ _ => rfl) fun z hz h' tk' e d M => ?_)
    · exact xi_ld rfl (by
        show (List.map (fun p => (p, NameKind.local)) [(sS : Str), n]).lookup n = _
        rw [List.map_cons, List.lookup_cons, beq_eq_false_iff_ne.mpr hn1, List.map_cons, List.lookup_cons]; simp) hn2 hns (hm n u (by simp)) (hq u s1.toks rfl)
    · subst hz
      exact mk_made T I1 M rv (q1 d)
/-- an exception without arguments, of a written text -/
def tMk0 (C : Addr) (n z : Str) : L2.St → Hp → XK → Prop := fun σ H Q => ∀ d, H d = none → Q (.ref C) (some d) (upd H d (.xd [(n, .str z)]))
theorem pmk_x0 {x : Str} {n z : Str} {j : Nat} {p pos : Pos} {k : Nat} (T : XcAt X.K C fI b) (TX : XiTxt X.K fI ["self"] n (fun q => .Constant (.str z) j q) fd) (hno : PySem.W.findIn X.K (.ref C) n = some none) (hr : Room k X.A) (hg : Gl X x) (hm : X.mg x = some (.ref C)) (hx : (x == ("__debug__" : Str)) = false) :
    PMk X (.Call (.Name x p) [] [] pos) (tMk0 C n z) := by
  intro pins s σ H Q I h
  refine wpAny_Call_Name_kw (ld_glob I hg hm ?_ hx)
  refine PySem.W.callWith_K0 I.kIn T.kC ?_
  show wpAny _ _ (call (.ref C) []) _ _ _
  refine wpAny_call (x_made (V := fun u => ∃ tk, u = .str z tk) T TX hno I.kIn I.nolimit (by have := hr.dp; omega) rfl (by rw [sizeLine_eq]; decide) (fun x nm L a cd m A' E' pos s1 Q hns hm hq => ?_) (by simp) (fun _ _ _ _ => rfl) fun u hu h' tk' e d M => ?_)
  · exact wpAny_Constant_str (hq _ _ ⟨_, rfl⟩)
  · obtain ⟨tk, rfl⟩ := hu
    exact mk_made T I M (v := .str z) ⟨_, rfl⟩ (h d)
end
/-! ### try: several clauses, each with a name or without -/
/-- the frame's wishes behind a suite whose clause has the name in slot j -/
def endN (j : Option Nat) (D : Ends) : Ends := match j with
  | none => D
  | some i => { nx := fun σ H => D.nx (σ.set i none) H, rt := D.rt, bk := fun σ H => D.bk (σ.set i none) H, ct := fun σ H => D.ct (σ.set i none) H }
def stN (j : Option Nat) (a : Addr) (σ : L2.St) : L2.St := match j with
  | none => σ
  | some i => σ.set i (some (.ref a))
structure Cl1 where
  c : Value
  j : Option Nat
  ts : Addr → Value → Option Addr → TS
def wCls (K : PySem.W.Frag) (Wout : WX) (D : Ends) : List Cl1 → WX
  | [] => Wout
  | h :: r => fun cls d σ H => ∃ b, PySem.W.exmOne K cls h.c = some b ∧ (b = true → ∀ a, H a = none → h.ts a cls d (endN h.j D) (stN h.j a σ) H) ∧ (b = false → wCls K Wout D r cls d σ H)
/-- the name of a clause -/
def NmOk (X : Cx) : Option Str → Option Nat → Prop
  | none, none => True
  | some n, some i => X.N[i]? = some n ∧ X.env.kindOf n = some .local
  | _, _ => False
inductive ClsOk (X : Cx) : List ExceptHandler → List Cl1 → Prop
  | nil : ClsOk X [] []
  | cons {x : Str} {h : Cl1} {nm : Option Str} {b₀ : Stmt} {suite : List Stmt} {np pos' : Pos} {hds : List ExceptHandler} {l : List Cl1} (hc : Names X x h.c) (hn : NmOk X nm h.j)
      (hsu : ∀ (a : Addr) (oe : Obj) (cls : Value) (d : Option Addr) (pn : List (Addr × Obj)), Zc cls d oe → (∃ vs, oe.data = .fields vs) → PSs (X.suite a ((a, oe) :: pn)) (b₀ :: suite) (h.ts a cls d)) (r : ClsOk X hds l) :
      ClsOk X (.ExceptHandler (some (.Name x np)) nm (b₀ :: suite) pos' :: hds) (h :: l)
section
variable {X : Cx} {body : List Stmt} {h₀ : ExceptHandler} {hds : List ExceptHandler} {l : List Cl1} {pos : Pos} {tb : WX → TS} {Wout : WX}
theorem ps_try_cls (hs : X.stack = X.env :: X.outer) (hf : X.env.frame = some X.env.locals) (hN : X.N.Nodup) (tk : Takes X Wout)
    (hb : ∀ (W : WX) (pn : List (Addr × Obj)) (xe : Value → Shared → Prop), Takes (X.tr pn xe) W → PassesOwn (model X.prog X.w) X.A X.env xe → PSs (X.tr pn xe) body (tb W)) (hh : ClsOk X (h₀ :: hds) l) : PS X (.Try body (h₀ :: hds) [] [] pos) (fun D σ H => tb (wCls X.K Wout D l) D σ H) := by
  refine ⟨fun pins s σ H D I q0 => ?_⟩
  have ok := I.ok
  have frm : X.A.frames = some (X.env :: X.outer) := by rw [ok.frames, hs]
  refine wpAny_Try_except ?_
  -- what is done with an exception of the body
  have main : ∀ (u : Value) (st : Shared), XE (X.tr (X.pn ++ pins) (fun e s1 => wpAny (model X.prog X.w) X.A (noteFrame e X.env) (fun _ s2 => wpAny (model X.prog X.w) X.A (setFlight e none) (fun _ s3 => wpAny (model X.prog X.w) X.A (handleBy e X.env (h₀ :: hds)) (SP X pins D) X.xe s3) X.xe s2) X.xe s1)) (wCls X.K Wout D l) u st →
      wpAny (model X.prog X.w) X.A (noteFrame u X.env) (fun _ s2 => wpAny (model X.prog X.w) X.A (setFlight u none) (fun _ s3 => wpAny (model X.prog X.w) X.A (handleBy u X.env (h₀ :: hds)) (SP X pins D) X.xe s3) X.xe s2) X.xe st := by
    rintro u st ⟨a, B, sI, pz, σ1, H1, cls, d, rfl, J0, nb, up, sky, na, os, ag, w⟩
    have J : Inv X pins σ1 H1 sI := J0.ofTry ok
    have sky1 : Sky B (X.env :: X.outer) a (Zc cls d) X.env.locals st.heap := by rw [← hs]; exact sky
    refine Sky.land Zc.steady frm hf sky1 fun h3 fl up3 => ?_
    have J3 : Inv X pins σ1 H1 { st with heap := h3 } := J.landed nb fl.1 (up.trans up3) os ag
    obtain ⟨o3, v3, e3, z3, d3⟩ := fl.there
    have out : a ∉ frs (X.env :: X.outer) := fun hm => by
      obtain ⟨_, o', e', hnf⟩ := fl.2.2.1.mem hm
      rw [e3] at e'; cases e'
      exact hnf _ d3
    have nL : a ≠ X.env.locals := fun z => out (List.mem_filterMap.mpr ⟨X.env, List.mem_cons_self, by rw [hf, z]⟩)
    have nF : a ∉ X.fs := fun hm => by
      obtain ⟨e, he, q⟩ := List.mem_filterMap.mp hm
      exact out (List.mem_filterMap.mpr ⟨e, List.mem_cons_of_mem _ he, q⟩)
    have S3 := J3.suite e3 d3 na nL nF
    have go : ∀ {hl : List ExceptHandler} {cl : List Cl1}, ClsOk X hl cl → wCls X.K Wout D cl cls d σ1 H1 → wpAny (model X.prog X.w) X.A (handleBy (.ref a) X.env hl) (SP X pins D) X.xe { st with heap := h3 } := by
      intro hl cl hk
      induction hk with
      | nil =>
        intro w
        refine wpAny_handleBy_nil ?_
        obtain ⟨k1, k2, k3, oe, vs, T, oT, ts', he, hz, hd, h1, hr⟩ := id fl
        unfold PySem.passOn
        refine wpAny_bind (wpAny_field he hd h1 ?_)
        rw [if_neg (show ¬ ((Value.ref T == Value.none) = true) by simp)]
        have fin : wpAny (model X.prog X.w) X.A (setFlight (.ref a) X.env.frame) (fun _ s4 => wpAny (model X.prog X.w) X.A (throw (.ref a) : Sem Flow) (SP X pins D) X.xe s4) X.xe { st with heap := h3 } := by
          rw [hf]
          exact HandSPX.setFlight_upZ fl fun h4 hh4 up4 => wpAny_throw (tk _ _ ⟨a, B, sI, pins, σ1, H1, cls, d, rfl, J, nb, (up.trans up3).trans up4, .inr (.inr (by rw [hs]; exact hh4)), na, os, ag, w⟩)
        first | exact wpAny_bind (wpAny_pure (wpAny_bind fin)) | exact wpAny_bind fin
      | @cons x h nm b₀ suite np pos' hl2 l2 hc hn hsu r ih =>
        rintro ⟨b, hb1, yes, no⟩
        refine wpAny_handleBy_cons (codeAny_handlers_test ?_) (by intro q; cases q)
        have LM := PySem.W.exm_one (M := model X.prog X.w) J3.kIn (fun A Q E s k q => wpAny_typeOf_ref (k _ _ e3) (by rw [z3.1]; exact q)) hb1
        have tst : ∀ {Q E : Value → Shared → Prop}, Q h.c { st with heap := h3 } → wpAny (model X.prog X.w) (X.A.mark (some (.ref a))) (eval (.Name x np) X.env) Q E { st with heap := h3 } := fun {Q E} q => by
          obtain ⟨g1, g2, g3 | ⟨g3, g4, g5⟩⟩ := hc
          · exact ld_glob (X := X.suite a ((a, o3) :: (X.pn ++ pins))) S3 g1 g3 q g2
          · exact ld_blt (X := X.suite a ((a, o3) :: (X.pn ++ pins))) S3 g1 g3 g4 q g5 g2
        refine tst (LM.here ?_)
        cases b with
        | false =>
          show wpAny _ X.A (handleBy (.ref a) X.env hl2) _ _ _
          exact ih (no rfl)
        | true =>
          have yes1 := yes rfl a na
          cases nm with
          | none =>
            have ej : h.j = none := by
              cases q : h.j with
              | none => rfl
              | some i => rw [q] at hn; exact hn.elim
            rw [ej] at yes1
            refine codeAny_handlers_suite ?_
            refine HandSPX.lands_againZ fl fun h4 fl4 up4 => ?_
            have J4 : Inv X pins σ1 H1 { st with heap := h4 } := J.landed nb fl4.1 ((up.trans up3).trans up4) os ag
            obtain ⟨o4, v4, e4, z4, d4⟩ := fl4.there
            have S4 := J4.suite e4 d4 na nL nF
            refine wpAny_mono ((hsu a o4 cls d (X.pn ++ pins) z4 ⟨_, d4⟩).run [] _ _ H1 _ S4 yes1) (fun f s6 hsp => ?_) (fun _ _ z => False.elim z)
            cases f with
            | next => exact hsp.elim fun σ6 ⟨H6, S6, q6⟩ => ⟨_, _, S6.unsuite ok, q6⟩
            | brk => exact hsp.elim fun σ6 ⟨H6, S6, q6⟩ => ⟨_, _, S6.unsuite ok, q6⟩
            | cont => exact hsp.elim fun σ6 ⟨H6, S6, q6⟩ => ⟨_, _, S6.unsuite ok, q6⟩
            | ret u => exact hsp.elim fun v6 ⟨σ6, H6, S6, r6, q6⟩ => ⟨_, _, _, S6.unsuite ok, r6, q6⟩
          | some n =>
            obtain ⟨i, ej, hi, hln⟩ : ∃ i, h.j = some i ∧ X.N[i]? = some n ∧ X.env.kindOf n = some .local := by
              cases q : h.j with
              | none => rw [q] at hn; exact hn.elim
              | some i => rw [q] at hn; exact ⟨i, rfl, hn.1, hn.2⟩
            rw [ej] at yes1
            refine codeAny_handlers_suite_as ?_
            refine HandSPX.lands_againZ fl fun h4 fl4 up4 => ?_
            have J4 : Inv X pins σ1 H1 { st with heap := h4 } := J.landed nb fl4.1 ((up.trans up3).trans up4) os ag
            obtain ⟨o4, v4, e4, z4, d4⟩ := fl4.there
            have S4 := J4.suite e4 d4 na nL nF
            refine store_ok (X := X.suite a ((a, o4) :: (X.pn ++ pins))) (v := .ref a) S4 hN hi (.inl hln) rfl (fun s5 S5 => ?_) (.inr hln)
            refine wpAny_mono ((hsu a o4 cls d (X.pn ++ pins) z4 ⟨_, d4⟩).run [] s5 _ H1 _ S5 yes1) (fun f s6 hsp => ?_) (fun _ _ z => False.elim z)
            have fin : ∀ {σ6 : L2.St} {H6 : Hp} {Q : Shared → Prop}, Inv (X.suite a ((a, o4) :: (X.pn ++ pins))) [] σ6 H6 s6 → (∀ s7, Inv X pins (σ6.set i none) H6 s7 → Q s7) → wpAny (model X.prog X.w) X.A (do bindName X.env n .none; unbindBehindTheSuite X.env n pos') (fun _ s7 => Q s7) X.xe s6 :=
              fun {σ6 H6 Q} S6 hq => gone_ok (S6.unsuite ok) hN hi hln hq
            cases f with
            | next => exact hsp.elim fun σ6 ⟨H6, S6, q6⟩ => fin S6 fun s7 J7 => ⟨_, _, J7, q6⟩
            | brk => exact hsp.elim fun σ6 ⟨H6, S6, q6⟩ => fin S6 fun s7 J7 => ⟨_, _, J7, q6⟩
            | cont => exact hsp.elim fun σ6 ⟨H6, S6, q6⟩ => fin S6 fun s7 J7 => ⟨_, _, J7, q6⟩
            | ret u => exact hsp.elim fun v6 ⟨σ6, H6, S6, r6, q6⟩ => fin S6 fun s7 J7 => ⟨_, _, _, J7, r6, q6⟩
    exact go hh w
  refine wpAny_mono ((hb (wCls X.K Wout D l) (X.pn ++ pins) _ main PassesOwn.looking).run [] s σ H D (I.toTry _) q0) (fun f s1 hsp => ?_) (fun e s1 he => he)
  cases f with
  | next => exact hsp.elim fun σ' ⟨H', J', q⟩ => wpAny_execs_nil ⟨σ', H', J'.ofTry ok, q⟩
  | brk => exact hsp.elim fun σ' ⟨H', J', q⟩ => ⟨σ', H', J'.ofTry ok, q⟩
  | cont => exact hsp.elim fun σ' ⟨H', J', q⟩ => ⟨σ', H', J'.ofTry ok, q⟩
  | ret u => exact hsp.elim fun v ⟨σ', H', J', r, q⟩ => ⟨v, σ', H', J'.ofTry ok, r, q⟩
end
end Vm

/-! Vm: the language is sound: judgements over what the weakest preconditions say -/
namespace Vm
open PySem PySem.Spec L2
open PyProof.Rows hiding St
structure Sta where
  ct : Nat → Value
  an : Nat → Str
structure Nm where
  fn : Nat → Str × Option Str
  gl : Nat → Str
  ps : Nat → List Str := fun _ => []
  mp : Nat → List Str := fun _ => []
/-- the keywords' names -/
def kwN (ps : List Str) (n : Nat) (ks : List Nat) : List Str := ks.map fun j => (ps[n + j]?).getD ""
/-- such a form of a call binds as the plan says -/
def KBP (K : PySem.W.Frag) (fd : FuncData) (ps : List Str) (n : Nat) (nms : List Str) (pl : Pl) : Prop := ∃ g gV, KBn K fd ps n nms g gV ∧
  ∀ (H : Hp) (F : Fz) (rh : List Addr) (vs zs : List V) (ds es : List D), RepL K H F rh vs ds → RepL K H F rh zs es → ds.length = n → es.length = nms.length → RepL K H F rh (gV vs zs) (appD pl (ds ++ es))
structure Sx where
  S : Sta
  H0 : Hp
  C : Ctx
  W : WX
def ExR (S : Sta) (K : PySem.W.Frag) (H : Hp) (F : Fz) (rh : List Addr) (cls : Value) (da : Option Addr) (ex : Ex) : Prop :=
  cls = .ref (He.ga K (clsN ex.cls)) ∧ (ex.fs = [] ∨ ∃ a fs, da = some a ∧ F a ∧ H a = some (.xd fs) ∧ ∀ n d, ex.fs.lookup n = some d → n = exA ex.cls ∧ ∃ v, fs.lookup (atN n) = some v ∧ Rep K H F rh v d)
theorem ExR.ext {S : Sta} {K : PySem.W.Frag} {H H' : Hp} {F F' : Fz} {rh rh' : List Addr} {cls : Value} {da : Option Addr} {ex : Ex} (e : Ext H F rh H' F' rh') (h : ExR S K H F rh cls da ex) : ExR S K H' F' rh' cls da ex := by
  refine ⟨h.1, h.2.imp id fun ⟨a, fs, h1, h2, h3, h4⟩ => ⟨a, fs, h1, e.frz a h2, e.exact h2 h3 (fun _ z => nomatch z), fun n d q => ?_⟩⟩
  obtain ⟨g0, v, g1, g2⟩ := h4 n d q
  exact ⟨g0, v, g1, g2.ext e⟩

/-- a def's promise -/
def spF (S : Sta) (K : PySem.W.Frag) (T : List D → Cl → (D → Bool → Cl → Prop) → (Ex → Cl → Prop) → Prop) : Sp := fun vs H Q E => ∃ ds c F rh Qm Em, RepL K H F rh vs ds ∧ Ce K H F rh c ∧ T ds c Qm Em ∧
  (∀ d o c' v H' F' rh', Qm d o c' → Ce K H' F' rh' c' → Ev H F rh O0 H' F' rh' O0 → Res K H H' F' rh' O0 v d o → Q v H') ∧
  (∀ ex c' cls da H' F' rh', Em ex c' → Ce K H' F' rh' c' → Ev H F rh O0 H' F' rh' O0 → ExR S K H' F' rh' cls da ex → E cls da H')

section
variable {K : PySem.W.Frag} {H0 H H1 H' : Hp} {F F1 F' : Fz} {rh rh1 rh' : List Addr} {sh : L2.St} {s s1 : List Sl} {c c1 c' : Cl} {v : V} {d : D} {o : Bool}
/-- behind a call: what this frame's slots own stands -/
theorem Rl.after (R : Rl K H0 H F rh sh s c) (C : Ce K H' F' rh' c') (E : Ev H F rh O0 H' F' rh' O0) : Rl K H0 H' F' rh' sh s c' ∧ Ev H F rh (Owned sh s) H' F' rh' (Owned sh s) := by
  have ow : ∀ a o, H a = some o → ¬ F a → a ∉ rh → H' a = some o ∧ ¬ F' a ∧ a ∉ rh' := fun a o h1 h2 h3 => by
    obtain ⟨g1, g2, g3, _⟩ := E.priv a o h1 h2 h3 (fun z => z)
    exact ⟨g1, g2, g3⟩
  refine ⟨⟨C, fun i x h => ?_, fun i x h => ?_, R.uq, R.ln, R.fr, fun a z => R.mn a (E.fresh z)⟩, E.toExt, E.mono, fun a o h1 h2 h3 h4 => ?_⟩
  · obtain ⟨w, g1, g2⟩ := R.shr i x h
    exact ⟨w, g1, g2.ext E.toExt⟩
  · obtain ⟨a, o, g1, g2, g3, g4, g5⟩ := R.own i x h
    obtain ⟨k1, k2, k3⟩ := ow a o g2 g4 g5
    exact ⟨a, o, g1, k1, g3.ext E.toExt, k2, k3⟩
  · obtain ⟨k1, k2, k3⟩ := ow a o h1 h2 h3
    exact ⟨k1, k2, k3, h4⟩
theorem Res.ofCall (R : Rl K H0 H F rh sh s c) (r : Res K H H' F' rh' O0 v d o) : Res K H H' F' rh' (Owned sh s) v d o := by
  cases o with
  | false => exact r
  | true =>
    obtain ⟨a, ob, h1, h2, h3, h4, h5, h6, _⟩ := r
    refine ⟨a, ob, h1, h2, h3, h4, h5, h6, fun ⟨i, x, g1, g2⟩ => ?_⟩
    obtain ⟨b, o', k1, k2, _⟩ := R.own i x g1
    rw [g2] at k1; cases k1
    rw [h2] at k2; cases k2
theorem owned_set {i : Nat} {x : Sl} (hx : ∀ d, x ≠ .ow d) {a : Addr} (h : Owned sh (s.set i x) a) : Owned sh s a := by
  obtain ⟨j, d, h1, h2⟩ := h
  by_cases e : i = j
  · subst e
    by_cases hl : i < s.length
    · rw [List.getElem?_set_self hl] at h1
      exact absurd (Option.some.inj h1) (hx d)
    · rw [List.getElem?_eq_none (by simpa using hl)] at h1; cases h1
  · rw [List.getElem?_set_ne e] at h1
    exact ⟨j, d, h1, h2⟩
/-- what a slot owns is shared -/
theorem Rl.shareSlot (R : Rl K H0 H F rh sh s c) {i : Nat} (hi : s[i]? = some (.ow d)) :
    ∃ a F2, sh[i]? = some (some (.ref a)) ∧ Rl K H0 H F2 rh sh (s.set i (.sh d)) c ∧ Ev H F rh (Owned sh s) H F2 rh (Owned sh (s.set i (.sh d))) ∧ Rep K H F2 rh (.ref a) d := by
  obtain ⟨a, o, h1, h2, h3, h4, h5⟩ := R.own i d hi
  have hil : i < s.length := (List.getElem?_eq_some_iff.mp hi).1
  have e : Ext H F rh H (addF F a) rh := ext_addF
  have rep : Rep K H (addF F a) rh (.ref a) d := (h3.ext e).rep h2 (.inr rfl)
  have sub : ∀ {b : Addr}, Owned sh (s.set i (.sh d)) b → Owned sh s b := fun h => owned_set (fun _ z => by cases z) h
  have noA : ¬ Owned sh (s.set i (.sh d)) a := fun ⟨j, x, g1, g2⟩ => by
    by_cases q : i = j
    · subst q; rw [List.getElem?_set_self hil] at g1; cases g1
    · rw [List.getElem?_set_ne q] at g1
      exact q (R.uq i j _ _ a hi g1 h1 g2)
  refine ⟨a, addF F a, h1, ⟨⟨R.len, R.nd, fun n b x g1 g2 => ?_, fun b hb z => ?_, fun b z => ?_⟩, fun j x g => ?_, fun j x g => ?_, fun j k x y b g1 g2 g3 g4 => ?_, by rw [List.length_set]; exact R.ln, fun j x b g1 g2 => ?_, R.mn⟩, ⟨e, fun _ h => h, fun b ob g1 g2 g3 g4 => ⟨g1, fun z => ?_, g3, fun z => g4 (sub z)⟩⟩, rep⟩
  · obtain ⟨o', k1, k2⟩ := R.ob n b x g1 g2
    exact ⟨o', k1, k2.ext e⟩
  · rcases z with z | z
    · exact R.nf b hb z
    · subst z; exact h5 hb
  · rcases z with z | z
    · exact R.ft b z
    · subst z; rw [h2]; exact fun q => nomatch q
  · by_cases q : i = j
    · subst q
      rw [List.getElem?_set_self hil] at g
      cases g
      exact ⟨_, h1, rep⟩
    · rw [List.getElem?_set_ne q] at g
      obtain ⟨w, k1, k2⟩ := R.shr j x g
      exact ⟨w, k1, k2.ext e⟩
  · have g' : s[j]? = some (.ow x) := by
      by_cases q : i = j
      · subst q; rw [List.getElem?_set_self hil] at g; cases g
      · rw [List.getElem?_set_ne q] at g; exact g
    obtain ⟨b, o', k1, k2, k3, k4, k5⟩ := R.own j x g'
    refine ⟨b, o', k1, k2, k3.ext e, fun z => ?_, k5⟩
    rcases z with z | z
    · exact k4 z
    · subst z; exact noA ⟨j, x, g, k1⟩
  · have lift : ∀ {j : Nat} {x : D}, (s.set i (.sh d))[j]? = some (.ow x) → s[j]? = some (.ow x) := fun {j x} g => by
      by_cases q : i = j
      · subst q; rw [List.getElem?_set_self hil] at g; cases g
      · rw [List.getElem?_set_ne q] at g; exact g
    exact R.uq j k x y b (lift g1) (lift g2) g3 g4
  · have g' : s[j]? = some (.ow x) := by
      by_cases q : i = j
      · subst q; rw [List.getElem?_set_self hil] at g1; cases g1
      · rw [List.getElem?_set_ne q] at g1; exact g1
    exact R.fr j x b g' g2
  · rcases z with z | z
    · exact g2 z
    · subst z; exact g4 ⟨i, d, hi, h1⟩
end

/-! ### judgements over the language -/
def OkX (Z : Sx) (K : PySem.W.Frag) (sh : L2.St) (H : Hp) (F : Fz) (rh : List Addr) (s : List Sl) (Em : EK) : Prop :=
  ∀ ex s' c' cls da H' F' rh', Em ex s' c' → Rl K Z.H0 H' F' rh' sh s' c' → Ev H F rh (Owned sh s) H' F' rh' (Owned sh s') → ExR Z.S K H' F' rh' cls da ex → Z.W cls da sh H'
def tW (Z : Sx) (K : PySem.W.Frag) (t : Bool) (e : IE) : TE := fun sh H Q => ∃ s c F rh Qm Em, Rl K Z.H0 H F rh sh s c ∧ wpE Z.C t e s c Qm Em ∧ OkQ K Z.H0 sh H F rh s Qm Q ∧ OkX Z K sh H F rh s Em
def tWT (Z : Sx) (K : PySem.W.Frag) (e : IE) : TT := fun sh H Q => tW Z K true e sh H fun v H' => ∃ k, v = .bl k ∧ Q k H'
def OkL (K : PySem.W.Frag) (H0 : Hp) (sh : L2.St) (H : Hp) (F : Fz) (rh : List Addr) (s : List Sl) (Qm : List D → List Sl → Cl → Prop) (Q : List V → Hp → Prop) : Prop :=
  ∀ ds s' c' vs H' F' rh', Qm ds s' c' → Rl K H0 H' F' rh' sh s' c' → Ev H F rh (Owned sh s) H' F' rh' (Owned sh s') → RepL K H' F' rh' vs ds → Q vs H'
def tWL (Z : Sx) (K : PySem.W.Frag) (l : IL) : TA := fun sh H Q => ∃ s c F rh Qm Em, Rl K Z.H0 H F rh sh s c ∧ wpL Z.C l s c Qm Em ∧ OkL K Z.H0 sh H F rh s Qm Q ∧ OkX Z K sh H F rh s Em

def tyNames : List String := ["str", "int", "bool", "tuple", "list", "dict", "object"]
def tyAll : List String := ["NoneType", "bool", "int", "str", "tuple", "list", "dict"]
/-- what the written part says of the class k -/
abbrev cAd (K : PySem.W.Frag) (k : Nat) : Addr := He.ga K (clsN k)
structure ClsI (K : PySem.W.Frag) (C : Addr) : Prop where
  cls : Cls K C
  ha : PySem.W.findIn K (.ref C) "__class__" = some (some (.builtin "object.__class__"))
  hn : PySem.W.specialIn K (.builtin "object.__class__") "__get__" = some (some (.builtin "getset_descriptor.__get__"))
  htk : PySem.W.takesIn K (.builtin "object.__class__") = some true
  hm : PySem.W.mroIn K C (.type "object") = some true
/-- the method m of the class k is the def of that number -/
structure MthAt (K : PySem.W.Frag) (M : Nm) (k m : Nat) : Prop where
  cls : Cls K (cAd K k)
  meth : Meth K (cAd K k) (mtN m) (fA K (M.fn (mtF k m)))
  ne : mtN m ≠ ""
  sf : PySem.W.selfFirst K (cAd K k) = true
  mp : m ≠ 0 → M.ps (mtF k m) = M.mp m
  fi : PySem.W.fnIn K (fA K (M.fn (mtF k m))) = true
structure FnAt (X : Cx) (M : Nm) (Z : Sx) (f : Nat) : Prop where
  ex : ∃ fd k, ((M.fn f).2 = none → X.mg (M.fn f).1 = some (.ref (fA X.K (M.fn f)))) ∧ PySem.W.keepIn X.K (.ref (fA X.K (M.fn f))) = true ∧ (Z.C.hasB f = true → Binds X.K fd (M.ps f) []) ∧ FnG X.prog X.w X.K X.mg X.base k (fA X.K (M.fn f)) fd (M.ps f) (spF Z.S X.K (Z.C.fn f)) ∧ Room (k + 2) X.A ∧
    ∀ n ks pl, Z.C.hasP2 f n ks pl = true → KBP X.K fd (M.ps f) n (kwN (M.ps f) n ks) pl
/-- an operator of the class: what the rules of operators ask -/
structure OpAt (K : PySem.W.Frag) (C : Addr) (nm : String) : Prop where
  r : ∃ rc, PySem.W.findIn K (.ref C) (dunderR nm) = some rc ∧ (rc = none ∨ ∃ g : Addr, rc = some (.ref g))
  t : ∀ t ∈ tyAll, (∃ fo, PySem.W.findIn K (.type t) (PySem.dunder nm) = some fo) ∧ ∃ ro, PySem.W.findIn K (.type t) (dunderR nm) = some ro
structure PrpAt (K : PySem.W.Frag) (M : Nm) (k m : Nat) : Prop where
  cls : Cls K (cAd K k)
  prop : ∃ p, PropOf K (cAd K k) (mtN m) p (fA K (M.fn (mtF k m)))
/-- a class method of the class k -/
structure CmAt (K : PySem.W.Frag) (M : Nm) (k m : Nat) : Prop where
  rd : ClX.CRead K (cAd K k) (.type "type")
  met : ∃ p, ClX.CMet K (cAd K k) (.type "type") (mtN m) p (fA K (M.fn (mtF k m)))
  ps : M.ps (mtF k m) = M.mp m
/-- an exception class of the package: what its __init__ is -/
def XiSh (K : PySem.W.Frag) (M : Nm) (k : Nat) : Prop := ∃ fd, (ex0 k = true ∧ ∃ z j, XiTxt K (fA K (M.fn (mtF k 0))) ["self"] (atN (exA k)) (fun q => .Constant (.str z) j q) fd) ∨ (ex0 k = false ∧ XiTxt K (fA K (M.fn (mtF k 0))) ["self", atN (exA k)] (atN (exA k)) (fun q => .Name (atN (exA k)) q) fd)
def bsOf (k : Nat) : Bs := if k = 1 then .ke else .ve
/-- what stands of the classes -/
structure ClOk (K : PySem.W.Frag) (mg : Str → Option Value) (M : Nm) (C : Ctx) : Prop where
  fld : ∀ k n, C.hasA k n = true → Cls K (cAd K k) ∧ NoAttr K (cAd K k) (atN n) ∧ n < atNames.length
  mth : ∀ k m, C.hasM k m = true → MthAt K M k m
  mak : ∀ k, C.hasC k = true → Mk K (cAd K k) (fA K (M.fn (mtF k 0))) ∧ mg (clsN k) = some (.ref (cAd K k))
  isn : ∀ j, C.hasN j = true → mg (clsN j) = some (.ref (cAd K j)) ∧ ∀ t ∈ tyAll, PySem.W.kitOne K (.type t) (.ref (cAd K j)) = some false
  isi : ∀ k j, C.hasI k j = true → ClsI K (cAd K k) ∧ PySem.W.kitOne K (.ref (cAd K k)) (.ref (cAd K j)) = some (subC k j)
  bin : ∀ k m op, binM op = some m → C.hasO k m = true → OpAt K (cAd K k) op.info.2
  prp : ∀ k m, C.hasR k m = true → PrpAt K M k m
  ne : ∀ k, C.hasQ k = true → PySem.W.findIn K (.ref (cAd K k)) "__ne__" = some (some (.builtin "object.__ne__")) ∧ PySem.W.mroIn K (cAd K k) (.type "object") = some true
  rev : ∀ k, C.hasW k = true → ∀ t ∈ tyAll, PySem.W.mroIn K (cAd K k) (.type t) = some false
  dig : digB K = true
  exc : ∀ k, C.hasX k = true → XcAt K (cAd K k) (fA K (M.fn (mtF k 0))) (bsOf k) ∧ XiSh K M k ∧ PySem.W.findIn K (.ref (cAd K k)) (atN (exA k)) = some none ∧ mg (clsN k) = some (.ref (cAd K k)) ∧ exA k < atNames.length
  hnd : ∀ k j, C.hasH k j = true → PySem.W.exmOne K (.ref (cAd K k)) (.ref (cAd K j)) = some (subC k j) ∧ mg (clsN j) = some (.ref (cAd K j))
  cmt : ∀ k m, C.hasK k m = true → CmAt K M k m ∧ mg (clsN k) = some (.ref (cAd K k))
structure GOk (X : Cx) (M : Nm) (Z : Sx) : Prop where
  calm : X.calm = true
  gd : X.A.guards = some []
  rm : ∃ k, Room k X.A
  nd : X.N.Nodup
  tk : Takes X Z.W
  fn : ∀ f, Z.C.hasF f = true → FnAt X M Z f
  gl : ∀ i, Z.C.hasG i = true → ∃ u v, X.mg (M.gl i) = some u ∧ L2.RelV v u ∧ ∀ H F rh, Rep X.K H F rh v (Z.C.gl i)
  prim : ∀ p, Z.C.hasP p = true → X.mg p.name = none
  rng : X.mg "range" = none
  enm : X.mg "enumerate" = none
  zp : X.mg "zip" = none
  isi : X.mg "isinstance" = none
  ty : ∀ T ∈ tyNames, X.mg (Str.ofString T) = none
  cl : ClOk X.K X.mg M Z.C
theorem GOk.hu {X : Cx} {M : Nm} {Z : Sx} (G : GOk X M Z) : X.A.units + 65 < cLine := by
  obtain ⟨k, r⟩ := G.rm
  have := r.un
  omega

section
variable {X : Cx} {M : Nm} {Z : Sx} {H H1 : Hp} {F F1 : Fz} {rh rh1 : List Addr} {sh : L2.St} {s s1 : List Sl} {c c1 : Cl} {a b e : Expr} {ia ib ie : IE} {t : Bool} {pos : Pos}
theorem OkX.step {K : PySem.W.Frag} {Em : EK} (ok : OkX Z K sh H F rh s Em) (e : Ev H F rh (Owned sh s) H1 F1 rh1 (Owned sh s1)) : OkX Z K sh H1 F1 rh1 s1 Em :=
  fun ex s' c' cls da H' F' rh' q rl e' r => ok ex s' c' cls da H' F' rh' q rl (e.trans e') r
theorem OkL.step {K : PySem.W.Frag} {H0 : Hp} {Qm : List D → List Sl → Cl → Prop} {Q : List V → Hp → Prop} (ok : OkL K H0 sh H F rh s Qm Q) (e : Ev H F rh (Owned sh s) H1 F1 rh1 (Owned sh s1)) : OkL K H0 sh H1 F1 rh1 s1 Qm Q :=
  fun ds s' c' vs H' F' rh' q rl e' r => ok ds s' c' vs H' F' rh' q rl (e.trans e') r
theorem PE.imp {e : Expr} {t t' : TE} (h : PE X e t) (i : ∀ sg H Q, t' sg H Q → t sg H Q) : PE X e t' := ⟨fun p s sg H Q I w => h.run p s sg H Q I (i sg H Q w)⟩
theorem PT.imp {e : Expr} {t t' : TT} (h : PT X e t) (i : ∀ sg H Q, t' sg H Q → t sg H Q) : PT X e t' := ⟨fun p s sg H Q I w => h.run p s sg H Q I (i sg H Q w)⟩
theorem PA.imp {es : List Expr} {t t' : TA} (h : PA X es t) (i : ∀ sg H Q, t' sg H Q → t sg H Q) : PA X es t' := ⟨fun q p s sg H Q I w => h.run q p s sg H Q I (i sg H Q w)⟩
/-- evaluate a part, go on with a shared value -/
theorem tW.mk {K : PySem.W.Frag} {Qm : QK} {Em : EK} {Q : VK} (R : Rl K Z.H0 H F rh sh s c) (w : wpE Z.C t ie s c Qm Em) (x : OkX Z K sh H F rh s Em)
    (k : ∀ d o s' c' v H' F' rh', Qm d o s' c' → Rl K Z.H0 H' F' rh' sh s' c' → Ev H F rh (Owned sh s) H' F' rh' (Owned sh s') → OkX Z K sh H' F' rh' s' Em → Rep K H' F' rh' v d → Q v H') : tW Z K t ie sh H Q :=
  ⟨s, c, F, rh, Qm, Em, R, w, OkQ.mk fun d o s' c' v H' F' rh' q rl e r => k d o s' c' v H' F' rh' q rl e (x.step e) r, x⟩
theorem tWL.mk {K : PySem.W.Frag} {l : IL} {Qm : List D → List Sl → Cl → Prop} {Em : EK} {Q : List V → Hp → Prop} (R : Rl K Z.H0 H F rh sh s c) (w : wpL Z.C l s c Qm Em) (x : OkX Z K sh H F rh s Em)
    (k : ∀ ds s' c' vs H' F' rh', Qm ds s' c' → Rl K Z.H0 H' F' rh' sh s' c' → Ev H F rh (Owned sh s) H' F' rh' (Owned sh s') → OkX Z K sh H' F' rh' s' Em → RepL K H' F' rh' vs ds → Q vs H') : tWL Z K l sh H Q :=
  ⟨s, c, F, rh, Qm, Em, R, w, fun ds s' c' vs H' F' rh' q rl e r => k ds s' c' vs H' F' rh' q rl e (x.step e) r, x⟩

/-! a test of a plain expression -/
theorem tru_rep {K : PySem.W.Frag} (C : Ce K H F rh c) {v : V} {d : D} {k : Bool} (r : Rep K H F rh v d) (h : Tru c d = some k) : TruV K v H k := by
  cases r with
  | non => cases h; rfl
  | bl => cases h; rfl
  | int => cases h; rfl
  | @str z =>
    have h' : (if z.length ≤ sizeLine then some ((z.length : Int) != 0) else none) = some k := h
    split at h'
    · rename_i hz
      cases h'
      exact ⟨hz, rfl⟩
    · cases h'
  | tup hf r =>
    cases h
    refine .inr (.inl ⟨_, hf.sq, ?_⟩)
    cases r <;> rfl
  | lst hf r =>
    cases h
    refine .inl ⟨_, hf.sq, ?_⟩
    cases r <;> rfl
  | scr hf r =>
    cases h
    refine .inl ⟨_, hf.sq, ?_⟩
    cases r <;> rfl
  | ins hf r => cases h
  | dic hf r => cases h
  | cls => cases h
  | @cell n a e =>
    have h' : (match c[n]? with | some (.lst xs) => some (!xs.isEmpty) | _ => none) = some k := h
    cases q : c[n]? with
    | none => rw [q] at h'; cases h'
    | some x =>
      rw [q] at h'
      cases x with
      | lst xs =>
        cases h'
        obtain ⟨ob, g1, vs, g2, g3⟩ := C.ob n a _ e q
        subst g2
        refine .inl ⟨vs, SqL.of g1, ?_⟩
        cases g3 <;> rfl
      | _ => cases h'
theorem snd_test (hq : ∀ s c Q E, wpE Z.C true ie s c Q E → wpE Z.C false ie s c (Qt true Q) E) (h : PE X e (tW Z X.K false ie))
    (he : ∀ whole, isTrue e X.env whole = (do let v ← whole; standAt e.pos; holding [v] (truthy v))) : PT X e (tWT Z X.K ie) := by
  refine PT.imp (pt_truth h he) fun sg H Q ⟨s, c, F, rh, Qm, Em, R, w, ok, x⟩ => ?_
  refine tW.mk R (hq _ _ _ _ w) x fun d o s' c' v H' F' rh' q rl ev x' r => ?_
  obtain ⟨k, h1, h2⟩ := q
  obtain ⟨k', e, hk⟩ := (ok.step ev).shr rl .bl h2
  cases e
  exact ⟨k, tru_rep rl.toCe r h1, hk⟩

theorem snd_var {i : Nat} {x : Str} (hN : X.N[i]? = some x) (hv : Vis X.env.scope x) (h1 : (x == ("__debug__" : Str)) = false) (h2 : (x == ("__classdict__" : Str)) = false) : PE X (.Name x pos) (tW Z X.K false (.var i)) := by
  refine PE.imp (pe_var hN hv h1 h2) fun sg H Q ⟨s, c, F, rh, Qm, Em, R, w, ok, x⟩ => ?_
  unfold wpE at w
  split at w
  · rename_i d hs
    obtain ⟨v, g1, g2⟩ := R.shr i d hs
    exact ⟨v, g1, ok.shr R g2 w⟩
  · rename_i d hs
    obtain ⟨a, F2, g1, R2, ev, g2⟩ := R.shareSlot hs
    exact ⟨_, g1, (ok.step ev).shr R2 g2 w⟩
  · exact w.elim
theorem snd_con {d : D} {k : Const} {j : Nat} (h : PE X (.Constant k j pos) (tC (match d with | .bl b => .bl b | .int i => .int i | .str z => .str z | _ => .non))) (hd : match d with | .non | .bl _ | .int _ | .str _ => True | _ => False) :
    PE X (.Constant k j pos) (tW Z X.K false (.con d)) := by
  refine PE.imp h fun sg H Q ⟨s, c, F, rh, Qm, Em, R, w, ok, x⟩ => ?_
  unfold wpE at w
  cases d with
  | non => exact ok.shr R .non w
  | bl b => exact ok.shr R .bl w
  | int i => exact ok.shr R .int w
  | str z => exact ok.shr R .str w
  | _ => exact hd.elim
theorem snd_glob {i : Nat} {x : Str} (G : GOk X M Z) (hg : Gl X x) (hx : M.gl i = x) (h1 : (x == ("__debug__" : Str)) = false) : PE X (.Name x pos) (tW Z X.K false (.glob i)) := by
  refine ⟨fun pins st sg H Q I ⟨s, c, F, rh, Qm, Em, R, w, ok, xk⟩ => ?_⟩
  unfold wpE at w
  obtain ⟨u, v, g1, g2, g3⟩ := G.gl i w.1
  rw [hx] at g1
  exact (pe_glob hg g1 g2 h1).run pins st sg H Q I (ok.shr R (g3 _ _ _) w.2)
theorem snd_bin {op : Operator} (ha : PE X a (tW Z X.K false ia)) (hb : PE X b (tW Z X.K false ib)) : PE X (.BinOp a op b pos) (tW Z X.K false (.bin op ia ib)) := by
  refine PE.imp (pe_op (bin_ok op) ha hb) fun sg H Q ⟨s, c, F, rh, Qm, Em, R, w, ok, x⟩ => ?_
  unfold wpE at w
  refine tW.mk R w x fun d o s1 c1 v H1 F1 rh1 q1 R1 e1 x1 r1 => ?_
  refine tW.mk R1 q1 x1 fun d2 o2 s2 c2 v2 H2 F2 rh2 q2 R2 e2 x2 r2 => ?_
  exact ⟨F2, rh2, c2, d, d2, _, R2.toCe, r1.ext e2.toExt, r2, q2, fun dd oo vv HH h u => ((ok.step e1).step e2).out R2 u h⟩
theorem snd_un {op : UnaryOp} (ha : PE X a (tW Z X.K false ia)) : PE X (.UnaryOp op a pos) (tW Z X.K false (.un op ia)) := by
  refine PE.imp (pe_un (un_ok op) ha) fun sg H Q ⟨s, c, F, rh, Qm, Em, R, w, ok, x⟩ => ?_
  unfold wpE at w
  refine tW.mk R w x fun d o s1 c1 v H1 F1 rh1 q1 R1 e1 x1 r1 => ?_
  exact ⟨F1, rh1, d, _, r1, q1, fun dd vv h u => (ok.step e1).shr R1 u h⟩
theorem cmp_use {op : CmpOp} {ia ib : IE} {sg : L2.St} {H : Hp} {s : List Sl} {c : Cl} {F : Fz} {rh : List Addr} {Em : EK} {Qk : Bool → List Sl → Cl → Prop} {Q : VK} (R : Rl X.K Z.H0 H F rh sg s c) (x : OkX Z X.K sg H F rh s Em)
    (w : wpE Z.C false ia s c (fun x _ s1 c1 => wpE Z.C false ib s1 c1 (fun y _ s2 c2 => cmpW op c2 x y fun k => Qk k s2 c2) Em) Em)
    (fin : ∀ k s2 c2 H2 F2 rh2, Qk k s2 c2 → Rl X.K Z.H0 H2 F2 rh2 sg s2 c2 → Ev H F rh (Owned sg s) H2 F2 rh2 (Owned sg s2) → Q (.bl k) H2) : tOp (rC X.K (cmpW op)) (tW Z X.K false ia) (tW Z X.K false ib) sg H Q := by
  refine tW.mk R w x fun d o s1 c1 v H1 F1 rh1 q1 R1 e1 x1 r1 => ?_
  refine tW.mk R1 q1 x1 fun d2 o2 s2 c2 v2 H2 F2 rh2 q2 R2 e2 x2 r2 => ?_
  exact ⟨F2, rh2, c2, d, d2, _, R2.toCe, r1.ext e2.toExt, r2, q2, fun k h => fin k s2 c2 H2 F2 rh2 h R2 (e1.trans e2)⟩
theorem snd_cmp {op : CmpOp} (G : GOk X M Z) (ha : PE X a (tW Z X.K false ia)) (hb : PE X b (tW Z X.K false ib)) (hm : behindInMarks op b = false) :
    PE X (.Compare a [op] [b] pos) (tW Z X.K false (.cmp op ia ib)) ∧ PT X (.Compare a [op] [b] pos) (tWT Z X.K (.cmp op ia ib)) := by
  refine ⟨PE.imp (pe_cmpR (cmp_ok G.hu op) ha hb hm) fun sg H Q ⟨s, c, F, rh, Qm, Em, R, w, ok, x⟩ => ?_, PT.imp (pt_cmpR (cmp_ok G.hu op) ha hb hm) fun sg H Q ⟨s, c, F, rh, Qm, Em, R, w, ok, x⟩ => ?_⟩
  · unfold wpE at w
    exact cmp_use R x w fun k s2 c2 H2 F2 rh2 h R2 e => (ok.step e).shr R2 .bl h
  · unfold wpE at w
    exact cmp_use R x w fun k s2 c2 H2 F2 rh2 h R2 e => (ok.step e).shr R2 .bl h
end
end Vm

/-! Vm: soundness of the further expressions -/
namespace Vm
open PySem PySem.Spec L2
open PyProof.Rows hiding St
theorem kit_all : (tyAll.all fun t => tyNames.all fun T => decide (kitB t T = some (isTy t T))) = true := by decide +kernel
theorem boot_ty : (tyNames.all fun T => decide (bootBuiltins (Str.ofString T) = some (.type T) ∧ Str.ofString T ≠ "__name__" ∧ (Str.ofString T == ("__debug__" : Str)) = false)) = true := by decide +kernel
theorem boot_prim (p : Prim) : bootBuiltins p.name = some p.val ∧ p.name ≠ "__name__" ∧ (p.name == ("__debug__" : Str)) = false := by
  cases p <;> decide +kernel
def notStar : Expr → Bool
  | .Starred _ _ => false
  | _ => true
section
variable {X : Cx} {M : Nm} {Z : Sx} {H H1 : Hp} {F F1 : Fz} {rh rh1 : List Addr} {sh : L2.St} {s s1 : List Sl} {c c1 : Cl} {a b e : Expr} {es : List Expr} {ia ib ic ie : IE} {il : IL} {t : Bool} {pos p : Pos}
theorem star_one (h : notStar e = true) : starEach (e :: es) X.env = (false, eval e X.env) :: starEach es X.env := by
  cases e <;> first | rfl | cases h
theorem star_plain {pos : Pos} : ∀ {es : List Expr}, (es.all notStar) = true → (backTo pos (starEach es X.env)).any (·.1) = false
  | [], _ => rfl
  | e :: es, h => by
    have h' : (notStar e && es.all notStar) = true := h
    rw [Bool.and_eq_true] at h'
    rw [star_one h'.1]
    show (false || (backTo pos (starEach es X.env)).any (·.1)) = false
    rw [star_plain h'.2]; rfl
theorem sndL_nil : PA X [] (tWL Z X.K .nil) := PA.imp pa_nil fun sg H Q ⟨s, c, F, rh, Qm, Em, R, w, ok, x⟩ => by
  unfold wpL at w
  exact ok [] s c [] H F rh w R Ev.refl .nil
theorem sndL_cons (ha : PE X e (tW Z X.K false ia)) (hl : PA X es (tWL Z X.K il)) (hs : notStar e = true) : PA X (e :: es) (tWL Z X.K (.cons ia il)) := by
  refine PA.imp (pa_cons ha hl (star_one hs)) fun sg H Q ⟨s, c, F, rh, Qm, Em, R, w, ok, x⟩ => ?_
  unfold wpL at w
  refine tW.mk R w x fun d o s1 c1 v H1 F1 rh1 q1 R1 e1 x1 r1 => ?_
  refine tWL.mk R1 q1 x1 fun ds s2 c2 vs H2 F2 rh2 q2 R2 e2 x2 r2 => ?_
  exact ok (d :: ds) s2 c2 (v :: vs) H2 F2 rh2 q2 R2 (e1.trans e2) (.cons (r1.ext e2.toExt) r2)
theorem chain_use {op op' : CmpOp} {sg : L2.St} {H : Hp} {s : List Sl} {c : Cl} {F : Fz} {rh : List Addr} {Em : EK} {Qk : Bool → List Sl → Cl → Prop} {Q : VK} (R : Rl X.K Z.H0 H F rh sg s c) (x : OkX Z X.K sg H F rh s Em)
    (w : wpE Z.C false ia s c (fun x _ s1 c1 => wpE Z.C false ib s1 c1 (fun y _ s2 c2 => cmpW op c2 x y fun k =>
      match k with
      | true => wpE Z.C false ic s2 c2 (fun z _ s3 c3 => cmpW op' c3 y z fun k' => Qk k' s3 c3) Em
      | false => Qk false s2 c2) Em) Em)
    (fin : ∀ k s2 c2 H2 F2 rh2, Qk k s2 c2 → Rl X.K Z.H0 H2 F2 rh2 sg s2 c2 → Ev H F rh (Owned sg s) H2 F2 rh2 (Owned sg s2) → Q (.bl k) H2) :
    tChain (rC X.K (cmpW op)) (rC X.K (cmpW op')) (tW Z X.K false ia) (tW Z X.K false ib) (tW Z X.K false ic) sg H Q := by
  refine tW.mk R w x fun d o s1 c1 v H1 F1 rh1 q1 R1 e1 x1 r1 => ?_
  refine tW.mk R1 q1 x1 fun d2 o2 s2 c2 v2 H2 F2 rh2 q2 R2 e2 x2 r2 => ?_
  refine ⟨F2, rh2, c2, d, d2, _, R2.toCe, r1.ext e2.toExt, r2, q2, fun k h => ⟨k, rfl, ?_⟩⟩
  cases k with
  | false =>
    rw [if_neg Bool.false_ne_true]
    exact fin false s2 c2 H2 F2 rh2 h R2 (e1.trans e2)
  | true =>
    rw [if_pos rfl]
    refine tW.mk R2 h x2 fun d3 o3 s3 c3 v3 H3 F3 rh3 q3 R3 e3 x3 r3 => ?_
    exact ⟨F3, rh3, c3, d2, d3, _, R3.toCe, r2.ext e3.toExt, r3, q3, fun k' h' => fin k' s3 c3 H3 F3 rh3 h' R3 ((e1.trans e2).trans e3)⟩
theorem snd_chain {op op' : CmpOp} {cc : Expr} (G : GOk X M Z) (ha : PE X a (tW Z X.K false ia)) (hb : PE X b (tW Z X.K false ib)) (hc : PE X cc (tW Z X.K false ic)) (hm : lastMarks [op, op'] [b, cc] = false) :
    PE X (.Compare a [op, op'] [b, cc] pos) (tW Z X.K false (.chain op op' ia ib ic)) ∧ PT X (.Compare a [op, op'] [b, cc] pos) (tWT Z X.K (.chain op op' ia ib ic)) := by
  refine ⟨PE.imp (pe_chain (cmp_ok G.hu op) (cmp_ok G.hu op') ha hb hc hm) fun sg H Q ⟨s, c, F, rh, Qm, Em, R, w, ok, x⟩ => ?_, PT.imp (pt_chain (cmp_ok G.hu op) (cmp_ok G.hu op') ha hb hc hm) fun sg H Q ⟨s, c, F, rh, Qm, Em, R, w, ok, x⟩ => ?_⟩
  · unfold wpE at w
    exact chain_use R x w fun k s2 c2 H2 F2 rh2 h R2 e => (ok.step e).shr R2 .bl h
  · unfold wpE at w
    exact chain_use R x w fun k s2 c2 H2 F2 rh2 h R2 e => (ok.step e).shr R2 .bl h

/-! and, or, not -/
def tWB (Z : Sx) (K : PySem.W.Frag) (t isAnd : Bool) (l : IL) : TE := fun sh H Q => ∃ s c F rh Qm Em, Rl K Z.H0 H F rh sh s c ∧ wpB Z.C t isAnd l s c Qm Em ∧ OkQ K Z.H0 sh H F rh s Qm Q ∧ OkX Z K sh H F rh s Em
def boolOpOf : Bool → BoolOp
  | true => .And
  | false => .Or
theorem sndB_one {isAnd : Bool} (ha : PE X e (tW Z X.K false ia)) : PE X (.BoolOp (boolOpOf isAnd) [e] pos) (tWB Z X.K false isAnd (.cons ia .nil)) := by
  refine PE.imp (pe_one ha) fun sg H Q ⟨s, c, F, rh, Qm, Em, R, w, ok, x⟩ => ⟨s, c, F, rh, Qm, Em, R, ?_, ok, x⟩
  unfold wpB at w
  exact w
theorem sndB_cons {isAnd : Bool} {e' : Expr} {ie' : IE} (ha : PE X e (tW Z X.K false ia)) (hl : PE X (.BoolOp (boolOpOf isAnd) (e' :: es) pos) (tWB Z X.K false isAnd (.cons ie' il))) : PE X (.BoolOp (boolOpOf isAnd) (e :: e' :: es) pos) (tWB Z X.K false isAnd (.cons ia (.cons ie' il))) := by
  cases isAnd with
  | true =>
    refine PE.imp (pe_andT ha hl) fun sg H Q ⟨s, c, F, rh, Qm, Em, R, w, ok, x⟩ => ?_
    unfold wpB at w
    refine tW.mk R w x fun d o s1 c1 v H1 F1 rh1 ⟨k, q1, q2⟩ R1 e1 x1 r1 => ⟨k, tru_rep R1.toCe r1 q1, ?_⟩
    cases k with
    | true => rw [if_pos rfl]; exact ⟨s1, c1, F1, rh1, Qm, Em, R1, q2, ok.step e1, x1⟩
    | false => rw [if_neg Bool.false_ne_true]; exact (ok.step e1).shr R1 r1 q2
  | false =>
    refine PE.imp (pe_orT ha hl) fun sg H Q ⟨s, c, F, rh, Qm, Em, R, w, ok, x⟩ => ?_
    unfold wpB at w
    refine tW.mk R w x fun d o s1 c1 v H1 F1 rh1 ⟨k, q1, q2⟩ R1 e1 x1 r1 => ⟨k, tru_rep R1.toCe r1 q1, ?_⟩
    cases k with
    | true => rw [if_pos rfl]; exact (ok.step e1).shr R1 r1 q2
    | false => rw [if_neg Bool.false_ne_true]; exact ⟨s1, c1, F1, rh1, Qm, Em, R1, q2, ok.step e1, x1⟩
def tWBT (Z : Sx) (K : PySem.W.Frag) (isAnd : Bool) (l : IL) : TT := fun sh H Q => tWB Z K true isAnd l sh H fun v H' => ∃ k, v = .bl k ∧ Q k H'
theorem PW.imp {e : Expr} {t t' : TT} (h : PW X e t) (i : ∀ sg H Q, t' sg H Q → t sg H Q) : PW X e t' := ⟨fun wh p s sg H Q I w => h.run wh p s sg H Q I (i sg H Q w)⟩
theorem sndBT_one {isAnd : Bool} (ha : PT X e (tWT Z X.K ia)) : PW X (.BoolOp (boolOpOf isAnd) [e] pos) (tWBT Z X.K isAnd (.cons ia .nil)) := by
  have i : ∀ sg H Q, tWBT Z X.K isAnd (.cons ia .nil) sg H Q → tWT Z X.K ia sg H Q := fun sg H Q ⟨s, c, F, rh, Qm, Em, R, w, ok, x⟩ => ⟨s, c, F, rh, Qm, Em, R, by unfold wpB at w; exact w, ok, x⟩
  cases isAnd with
  | true => exact PW.imp (pw_and1 ha) i
  | false => exact PW.imp (pw_or1 ha) i
theorem test_mk {Qm : QK} {Em : EK} {Q : Bool → Hp → Prop} {sg : L2.St} (R : Rl X.K Z.H0 H F rh sg s c) (w : wpE Z.C true ie s c Qm Em) (x : OkX Z X.K sg H F rh s Em)
    (k : ∀ d o s' c' k H' F' rh', Qm d o s' c' → d = .bl k → Rl X.K Z.H0 H' F' rh' sg s' c' → Ev H F rh (Owned sg s) H' F' rh' (Owned sg s') → OkX Z X.K sg H' F' rh' s' Em → Q k H')
    (bl : ∀ d o s' c', Qm d o s' c' → ∃ k, d = .bl k) : tWT Z X.K ie sg H Q :=
  tW.mk R w x fun d o s' c' v H' F' rh' q rl e x' r => by
    obtain ⟨k', rfl⟩ := bl d o s' c' q
    cases r
    exact ⟨k', rfl, k _ o s' c' k' H' F' rh' q rfl rl e x'⟩
/-- in a test every value is a truth value -/
theorem sndBT_cons {isAnd : Bool} {e' : Expr} {ie' : IE} (ha : PT X e (tWT Z X.K ia)) (hl : PW X (.BoolOp (boolOpOf isAnd) (e' :: es) pos) (tWBT Z X.K isAnd (.cons ie' il)))
    (hb : ∀ s c Q E, wpE Z.C true ia s c Q E → wpE Z.C true ia s c (fun d o s1 c1 => (∃ k, d = .bl k) ∧ Q d o s1 c1) E) : PW X (.BoolOp (boolOpOf isAnd) (e :: e' :: es) pos) (tWBT Z X.K isAnd (.cons ia (.cons ie' il))) := by
  cases isAnd with
  | true =>
    refine PW.imp (pw_and ha hl) fun sg H Q ⟨s, c, F, rh, Qm, Em, R, w, ok, x⟩ => ?_
    unfold wpB at w
    refine test_mk R (hb _ _ _ _ w) x (fun d o s1 c1 k H1 F1 rh1 q e R1 e1 x1 => ?_) fun d o s1 c1 q => q.1
    subst e
    obtain ⟨_, k', q1, q2⟩ := q
    cases q1
    cases k with
    | true => rw [if_pos rfl]; exact ⟨s1, c1, F1, rh1, Qm, Em, R1, q2, ok.step e1, x1⟩
    | false =>
      rw [if_neg Bool.false_ne_true]
      obtain ⟨k2, z1, z2⟩ := (ok.step e1).shr R1 .bl q2
      cases z1
      exact z2
  | false =>
    refine PW.imp (pw_or ha hl) fun sg H Q ⟨s, c, F, rh, Qm, Em, R, w, ok, x⟩ => ?_
    unfold wpB at w
    refine test_mk R (hb _ _ _ _ w) x (fun d o s1 c1 k H1 F1 rh1 q e R1 e1 x1 => ?_) fun d o s1 c1 q => q.1
    subst e
    obtain ⟨_, k', q1, q2⟩ := q
    cases q1
    cases k with
    | true =>
      rw [if_pos rfl]
      obtain ⟨k2, z1, z2⟩ := (ok.step e1).shr R1 .bl q2
      cases z1
      exact z2
    | false => rw [if_neg Bool.false_ne_true]; exact ⟨s1, c1, F1, rh1, Qm, Em, R1, q2, ok.step e1, x1⟩
theorem snd_not (ha : PE X a (tW Z X.K false ia)) : PE X (.UnaryOp .Not a pos) (tW Z X.K false (.not ia)) := by
  refine PE.imp (pe_notT ha) fun sg H Q ⟨s, c, F, rh, Qm, Em, R, w, ok, x⟩ => ?_
  unfold wpE at w
  refine tW.mk R w x fun d o s1 c1 v H1 F1 rh1 ⟨k, q1, q2⟩ R1 e1 x1 r1 => ⟨k, tru_rep R1.toCe r1 q1, (ok.step e1).shr R1 .bl q2⟩
theorem snd_notT (ha : PT X a (tWT Z X.K ia)) (hb : ∀ s c Q E, wpE Z.C true ia s c Q E → wpE Z.C true ia s c (fun d o s1 c1 => (∃ k, d = .bl k) ∧ Q d o s1 c1) E) : PT X (.UnaryOp .Not a pos) (tWT Z X.K (.not ia)) := by
  refine PT.imp (pt_not ha) fun sg H Q ⟨s, c, F, rh, Qm, Em, R, w, ok, x⟩ => ?_
  unfold wpE at w
  refine test_mk R (hb _ _ _ _ w) x (fun d o s1 c1 k H1 F1 rh1 q e R1 e1 x1 => ?_) fun d o s1 c1 q => q.1
  subst e
  obtain ⟨_, k', q1, q2⟩ := q
  cases q1
  obtain ⟨k2, z1, z2⟩ := (ok.step e1).shr R1 .bl q2
  cases z1
  exact z2
theorem snd_ite {cc : Expr} (hc : PT X cc (tWT Z X.K ic)) (ha : PE X a (tW Z X.K false ia)) (hb : PE X b (tW Z X.K false ib)) : PE X (.IfExp cc a b pos) (tW Z X.K false (.ite ic ia ib)) := by
  refine PE.imp (pe_ifExp hc ha hb) fun sg H Q ⟨s, c, F, rh, Qm, Em, R, w, ok, x⟩ => ?_
  unfold wpE at w
  refine test_mk R w x (fun d o s1 c1 k H1 F1 rh1 ⟨k', q1, q2⟩ e R1 e1 x1 => ?_) fun d o s1 c1 ⟨k, q, _⟩ => ⟨k, q⟩
  subst e
  cases q1
  cases k with
  | true => rw [if_pos rfl]; exact ⟨s1, c1, F1, rh1, _, Em, R1, q2, ok.step e1, x1⟩
  | false => rw [if_neg Bool.false_ne_true]; exact ⟨s1, c1, F1, rh1, _, Em, R1, q2, ok.step e1, x1⟩

/-! displays, subscripts -/
theorem snd_tup {k : Nat} (hl : PA X es (tWL Z X.K il)) : PE X (.Tuple es k pos) (tW Z X.K false (.tup il)) := by
  refine PE.imp (pe_tup hl) fun sg H Q ⟨s, c, F, rh, Qm, Em, R, w, ok, x⟩ => ?_
  unfold wpE at w
  refine tWL.mk R w x fun ds s1 c1 vs H1 F1 rh1 ⟨q0, q1⟩ R1 e1 x1 r1 => ⟨by rw [r1.len]; exact q0, fun p hp => (ok.step e1).out R1 (.tup hp r1) q1⟩
theorem snd_lst (hl : PA X es (tWL Z X.K il)) : PE X (.List es pos) (tW Z X.K false (.lst il)) := by
  refine PE.imp (pe_lst hl) fun sg H Q ⟨s, c, F, rh, Qm, Em, R, w, ok, x⟩ => ?_
  unfold wpE at w
  refine tWL.mk R w x fun ds s1 c1 vs H1 F1 rh1 ⟨q0, q1⟩ R1 e1 x1 r1 => ⟨by rw [r1.len]; exact q0, fun p hp => (ok.step e1).out R1 (.new (y := .lst ds) hp ⟨vs, rfl, r1⟩) q1⟩
theorem snd_idx (ha : PE X a (tW Z X.K false ia)) (hb : PE X b (tW Z X.K false ib)) (hs : PlainIx b) : PE X (.Subscript a b pos) (tW Z X.K false (.idx ia ib)) := by
  refine PE.imp (pe_ix idx_ok ha hb hs) fun sg H Q ⟨s, c, F, rh, Qm, Em, R, w, ok, x⟩ => ?_
  unfold wpE at w
  refine tW.mk R w x fun d o s1 c1 v H1 F1 rh1 q1 R1 e1 x1 r1 => ?_
  refine tW.mk R1 q1 x1 fun d2 o2 s2 c2 v2 H2 F2 rh2 q2 R2 e2 x2 r2 => ?_
  exact ⟨F2, rh2, c2, d, d2, _, R2.toCe, r1.ext e2.toExt, r2, q2, fun dd oo vv HH h u => ((ok.step e1).step e2).out R2 u h⟩
/-- a part of a slice -/
def tWO (Z : Sx) (K : PySem.W.Frag) (e : IO) : TO := fun sh H Q => ∃ s c F rh Qm Em, Rl K Z.H0 H F rh sh s c ∧ wpO Z.C e s c Qm Em ∧ (∀ l s' c' H' F' rh', Qm l s' c' → Rl K Z.H0 H' F' rh' sh s' c' → Ev H F rh (Owned sh s) H' F' rh' (Owned sh s') → OkX Z K sh H' F' rh' s' Em → Q l H') ∧ OkX Z K sh H F rh s Em
theorem PO.imp {e : Option Expr} {t t' : TO} (h : PO X e t) (i : ∀ sg H Q, t' sg H Q → t sg H Q) : PO X e t' := ⟨fun p s sg H Q I w => h.run p s sg H Q I (i sg H Q w)⟩
theorem sndO_no : PO X none (tWO Z X.K .no) := PO.imp po_none fun sg H Q ⟨s, c, F, rh, Qm, Em, R, w, ok, x⟩ => by
  unfold wpO at w
  exact ok none s c H F rh w R Ev.refl x
theorem sndO_so (ha : PE X a (tW Z X.K false ia)) : PO X (some a) (tWO Z X.K (.so ia)) := PO.imp (po_some ha) fun sg H Q ⟨s, c, F, rh, Qm, Em, R, w, ok, x⟩ => by
  unfold wpO at w
  refine tW.mk R w x fun d o s1 c1 v H1 F1 rh1 ⟨i, q1, q2⟩ R1 e1 x1 r1 => ?_
  subst q1
  cases r1
  exact ⟨i, rfl, ok (some i) s1 c1 H1 F1 rh1 q2 R1 e1 x1⟩
theorem snd_slc {lo hi : Option Expr} {il ih : IO} {p2 : Pos} (ha : PE X a (tW Z X.K false ia)) (hl : PO X lo (tWO Z X.K il)) (hh : PO X hi (tWO Z X.K ih)) : PE X (.Subscript a (.Slice lo hi none p2) pos) (tW Z X.K false (.slc ia il ih)) := by
  refine PE.imp (pe_slice slc_ok ha hl hh) fun sg H Q ⟨s, c, F, rh, Qm, Em, R, w, ok, x⟩ => ?_
  unfold wpE at w
  refine tW.mk R w x fun d o s1 c1 v H1 F1 rh1 q1 R1 e1 x1 r1 => ?_
  refine ⟨s1, c1, F1, rh1, _, Em, R1, q1, fun l s2 c2 H2 F2 rh2 q2 R2 e2 x2 => ?_, x1⟩
  refine ⟨s2, c2, F2, rh2, _, Em, R2, q2, fun h s3 c3 H3 F3 rh3 q3 R3 e3 x3 => ?_, x2⟩
  exact ⟨F3, rh3, c3, d, _, R3.toCe, (r1.ext e2.toExt).ext e3.toExt, q3, fun dd oo vv HH h u => (((ok.step e1).step e2).step e3).out R3 u h⟩

/-! calls -/
theorem call_use {f : Nat} {sg : L2.St} {Qm : QK} {Em : EK} {Q : VK} {ds : List D} {vs : List V} (R : Rl X.K Z.H0 H F rh sg s c) (r : RepL X.K H F rh vs ds) (w : Z.C.fn f ds c (fun d o c2 => Qm d o s c2) (fun ex c2 => Em ex s c2)) (ok : OkQ X.K Z.H0 sg H F rh s Qm Q) (x : OkX Z X.K sg H F rh s Em) :
    spF Z.S X.K (Z.C.fn f) vs H Q (WE Z.W sg) :=
  ⟨ds, c, F, rh, _, _, r, R.toCe, w, fun d o c' v H' F' rh' q C e rs => by
    obtain ⟨R2, e2⟩ := R.after C e
    exact ok d o s c' v H' F' rh' q R2 e2 (rs.ofCall R), fun ex c' cls da H' F' rh' q C e er => by
    obtain ⟨R2, e2⟩ := R.after C e
    exact x ex s c' cls da H' F' rh' q R2 e2 er⟩
theorem snd_call0 {f : Nat} {fx : Str} (G : GOk X M Z) (hg : Gl X fx) (hx : M.fn f = (fx, none)) (h1 : (fx == ("__debug__" : Str)) = false) : PE X (.Call (.Name fx p) [] [] pos) (tW Z X.K false (.call f .nil)) := by
  refine ⟨fun pins st sg H Q I ⟨s, c, F, rh, Qm, Em, R, w, ok, x⟩ => ?_⟩
  unfold wpE at w
  obtain ⟨fd, k, g1, g2, g3, g4, g5, _⟩ := (G.fn f w.1).ex
  have g1 := g1 (by rw [hx])
  rw [hx] at g1
  rw [hx] at g2 g4
  have g3 := g3 w.2.1
  have w2 := w.2.2
  unfold wpL at w2
  exact (pe_callG0 (E := WE Z.W) g4 (g5.mono (by omega)) G.gd hg g1 g2 g3 .nil (fun sg => passAt G.tk sg) h1).run pins st sg H Q I (call_use R .nil w2 ok x)
theorem snd_call {f : Nat} {fx : Str} (G : GOk X M Z) (hl : PA X (e :: es) (tWL Z X.K il)) (hg : Gl X fx) (hx : M.fn f = (fx, none)) (h1 : (fx == ("__debug__" : Str)) = false) (hs : notStar e = true) (hs2 : es.all notStar = true) :
    PE X (.Call (.Name fx p) (e :: es) [] pos) (tW Z X.K false (.call f il)) := by
  refine ⟨fun pins st sg H Q I ⟨s, c, F, rh, Qm, Em, R, w, ok, x⟩ => ?_⟩
  unfold wpE at w
  obtain ⟨fd, k, g1, g2, g3, g4, g5, _⟩ := (G.fn f w.1).ex
  have g1 := g1 (by rw [hx])
  rw [hx] at g1
  rw [hx] at g2 g4
  have g3 := g3 w.2.1
  refine (pe_callG (E := WE Z.W) g4 (g5.mono (by omega)) G.gd hg g1 g2 g3 .nil (fun sg => passAt G.tk sg) hl h1 (star_one hs) (star_plain hs2)).run pins st sg H Q I ?_
  refine tWL.mk R w.2.2 x fun ds s1 c1 vs H1 F1 rh1 q1 R1 e1 x1 r1 => ?_
  show spF Z.S X.K (Z.C.fn f) (vs ++ []) H1 Q (WE Z.W sg)
  rw [List.append_nil]
  exact call_use R1 r1 q1 (ok.step e1) x1
theorem snd_prim {pr : Prim} (G : GOk X M Z) (hl : PA X (e :: es) (tWL Z X.K il)) (hg : Gl X pr.name) (hs : notStar e = true) (hs2 : es.all notStar = true) : PE X (.Call (.Name pr.name p) (e :: es) [] pos) (tW Z X.K false (.prim pr il)) := by
  refine ⟨fun pins st sg H Q I ⟨s, c, F, rh, Qm, Em, R, w, ok, x⟩ => ?_⟩
  unfold wpE at w
  obtain ⟨k, hr⟩ := G.rm
  obtain ⟨b1, b2, b3⟩ := boot_prim pr
  have hp := G.prim pr w.1
  have main : tCB (rP X.K (primW pr)) (tWL Z X.K il) sg H Q := by
    refine tWL.mk R w.2 x fun ds s1 c1 vs H1 F1 rh1 q1 R1 e1 x1 r1 => ?_
    exact ⟨F1, rh1, c1, ds, _, R1.toCe, r1, q1, fun dd oo vv HH h u => (ok.step e1).out R1 u h⟩
  have cr := prim_ok G.cl.dig G.calm hr G.gd pr
  have st1 := star_one (X := X) (es := es) hs
  have st2 : (backTo pos (starEach es X.env)).any (·.1) = false := star_plain hs2
  generalize pr.name = nm at *
  cases hv : pr.val with
  | builtin id => rw [hv] at cr b1; exact (pe_callB cr hg hp b1 hl b2 b3 st1 st2).run pins st sg H Q I main
  | type T => rw [hv] at cr b1; exact (pe_callTy cr hg hp b1 hl b2 b3 st1 st2).run pins st sg H Q I main
  | _ => cases pr <;> cases hv
theorem ty_rep {K : PySem.W.Frag} (C : Ce K H F rh c) {v : V} {d : D} {u : String} (r : Rep K H F rh v d) (h : tyD c d = some u) : TyX K H v (.type u) ∧ u ∈ tyAll := by
  have seqT : ∀ {a vs}, SqT K H a vs → TyX K H (.ref a) (.type "tuple") := fun {a vs} h => by
    rcases h with (h | ⟨o, h⟩) | ⟨o, _, _, h1, h2, _⟩
    · exact .base (.tup h)
    · exact .fTuple h
    · exact .kTuple h1 h2
  have seqL : ∀ {a vs}, SqL K H a vs → TyX K H (.ref a) (.type "list") := fun {a vs} h => by
    rcases h with (h | ⟨o, h⟩) | ⟨o, _, _, h1, h2, _⟩
    · exact .base (.lst h)
    · exact .base (.frz h)
    · exact .kList h1 h2
  cases r with
  | non => cases h; exact ⟨.base .non, by decide⟩
  | bl => cases h; exact ⟨.base (.bl _), by decide⟩
  | int => cases h; exact ⟨.base (.int _), by decide⟩
  | str => cases h; exact ⟨.base (.str _), by decide⟩
  | tup hf _ => cases h; exact ⟨seqT hf.sq, by decide⟩
  | lst hf _ => cases h; exact ⟨seqL hf.sq, by decide⟩
  | scr hf _ => cases h; exact ⟨seqL hf.sq, by decide⟩
  | ins hf _ => cases h
  | cls => cases h
  | dic hf _ =>
    cases h
    refine ⟨?_, by decide⟩
    rcases hf.2.2 with z | ⟨o, z⟩
    · exact .base (.dK z)
    · exact .fDict z
  | @cell n a e =>
    have h' : (match c[n]? with | some (.lst _) => some "list" | _ => none) = some u := h
    cases q : c[n]? with
    | none => rw [q] at h'; cases h'
    | some x =>
      rw [q] at h'
      cases x with
      | lst xs =>
        cases h'
        obtain ⟨ob, g1, vs, g2, g3⟩ := C.ob n a _ e q
        subst g2
        exact ⟨seqL (SqL.of g1), by decide⟩
      | _ => cases h'
theorem snd_isi {T : String} {p2 p3 : Pos} (G : GOk X M Z) (ha : PE X a (tW Z X.K false ia)) (hT : T ∈ tyNames) (hm : X.mg (Str.ofString T) = none) (hg : Gl X "isinstance") (hgT : Gl X (Str.ofString T)) (hs : notStar a = true) :
    PE X (.Call (.Name "isinstance" p) [a, .Name (Str.ofString T) p2] [] pos) (tW Z X.K false (.isi ia T)) := by
  have bt := boot_ty
  rw [List.all_eq_true] at bt
  obtain ⟨b1, b2, b3⟩ := of_decide_eq_true (bt T hT)
  have hl : PA X [a, .Name (Str.ofString T) p2] (tCons (tW Z X.K false ia) (tCons (tC (.ty T)) tNil)) := pa_cons ha (pa_cons (pe_bltn hgT hm b1 (show L2.RelV (.ty T) (.type T) from rfl) b2 b3) pa_nil rfl) (star_one hs)
  refine PE.imp (pe_callB call_isi hg G.isi (by decide +kernel) hl (by decide) (by decide) (star_one hs) (by rfl)) fun sg H Q ⟨s, c, F, rh, Qm, Em, R, w, ok, x⟩ => ?_
  unfold wpE at w
  refine tW.mk R w x fun d o s1 c1 v H1 F1 rh1 ⟨u, q1, q2⟩ R1 e1 x1 r1 => ?_
  obtain ⟨t1, t2⟩ := ty_rep R1.toCe r1 q1
  have ka := kit_all
  rw [List.all_eq_true] at ka
  have k2 := ka u t2
  rw [List.all_eq_true] at k2
  exact ⟨v, .ty T, _, _, _, rfl, .ty T, t1, kit_ty (of_decide_eq_true (k2 T hT)), (ok.step e1).shr R1 .bl q2⟩
end
end Vm

/-! Vm: soundness of methods of built-in types -/
namespace Vm
open PySem PySem.Spec L2
open PyProof.Rows hiding St
section
variable {X : Cx} {K : PySem.W.Frag} {H0 H : Hp} {F : Fz} {rh : List Addr} {sh : L2.St} {s : List Sl} {c : Cl}
theorem ext_mut {a : Addr} {o : HO} (h : ¬ F a) : Ext H F rh (upd H a o) F rh :=
  ⟨fun _ h => h, fun b u f e => by
    have nb : b ≠ a := fun z => by subst z; exact h f
    rw [upd_ne nb]; exact .inl e, fun _ _ h => h⟩
theorem mono_upd {a : Addr} {o : HO} : ∀ b, H b ≠ none → upd H a o b ≠ none := fun b h => by
  by_cases e : b = a
  · subst e; rw [upd_same]; exact fun z => nomatch z
  · rw [upd_ne e]; exact h
/-- what a slot owns is changed -/
theorem Rl.mutOwn (R : Rl K H0 H F rh sh s c) {i : Nat} {d d' : D} {a : Addr} {o' : HO} (hi : s[i]? = some (.ow d)) (ha : sh[i]? = some (some (.ref a))) (ob : ObjD K H F rh o' d') :
    Rl K H0 (upd H a o') F rh sh (s.set i (.ow d')) c ∧ Ev H F rh (Owned sh s) (upd H a o') F rh (Owned sh (s.set i (.ow d'))) := by
  obtain ⟨b, o, h1, h2, h3, h4, h5⟩ := R.own i d hi
  rw [ha] at h1
  cases h1
  have hil : i < s.length := (List.getElem?_eq_some_iff.mp hi).1
  have e : Ext H F rh (upd H a o') F rh := ext_mut h4
  have back : ∀ {j : Nat} {x : D}, (s.set i (.ow d'))[j]? = some (.ow x) → ∃ y, s[j]? = some (.ow y) := fun {j x} g => by
    by_cases q : i = j
    · subst q; exact ⟨d, hi⟩
    · rw [List.getElem?_set_ne q] at g; exact ⟨x, g⟩
  refine ⟨⟨⟨R.len, R.nd, fun n b x g1 g2 => ?_, R.nf, fun b z => mono_upd b (R.ft b z)⟩, fun j x g => ?_, fun j x g => ?_, fun j k x y b g1 g2 g3 g4 => ?_, by rw [List.length_set]; exact R.ln, fun j x b g1 g2 => ?_, fun b z => ?_⟩, e, mono_upd, fun b u g1 g2 g3 g4 => ⟨?_, g2, g3, fun z => g4 ?_⟩⟩
  · obtain ⟨o2, k1, k2⟩ := R.ob n b x g1 g2
    have nb : b ≠ a := fun z => h5 (z ▸ List.mem_of_getElem? g1)
    exact ⟨o2, by rw [upd_ne nb]; exact k1, k2.ext e⟩
  · by_cases q : i = j
    · subst q; rw [List.getElem?_set_self hil] at g; cases g
    · rw [List.getElem?_set_ne q] at g
      obtain ⟨w, k1, k2⟩ := R.shr j x g
      exact ⟨w, k1, k2.ext e⟩
  · by_cases q : i = j
    · subst q
      rw [List.getElem?_set_self hil] at g
      cases g
      exact ⟨a, o', ha, upd_same, ob.ext e, h4, h5⟩
    · rw [List.getElem?_set_ne q] at g
      obtain ⟨b, o2, k1, k2, k3, k4, k5⟩ := R.own j x g
      have nb : b ≠ a := fun z => by subst z; exact q (R.uq i j _ _ b hi g ha k1)
      exact ⟨b, o2, k1, by rw [upd_ne nb]; exact k2, k3.ext e, k4, k5⟩
  · obtain ⟨x', y1⟩ := back g1
    obtain ⟨y', y2⟩ := back g2
    exact R.uq j k x' y' b y1 y2 g3 g4
  · obtain ⟨x', y1⟩ := back g1
    exact R.fr j x' b y1 g2
  · have nb : b ≠ a := fun q => by subst q; rw [upd_same] at z; cases z
    rw [upd_ne nb] at z
    exact R.mn b z
  · have nb : b ≠ a := fun q => by subst q; exact g4 ⟨i, d, hi, ha⟩
    rw [upd_ne nb]; exact g1
  · obtain ⟨j, x, z1, z2⟩ := z
    obtain ⟨y, y1⟩ := back z1
    exact ⟨j, y, y1, z2⟩
/-- a cell is changed -/
theorem Rl.mutCell (R : Rl K H0 H F rh sh s c) {n : Nat} {d d' : D} {a : Addr} {o' : HO} (ha : rh[n]? = some a) (hc : c[n]? = some d) (ob : ObjD K H F rh o' d') :
    Rl K H0 (upd H a o') F rh sh s (c.set n d') ∧ Ev H F rh (Owned sh s) (upd H a o') F rh (Owned sh s) := by
  have mem : a ∈ rh := List.mem_of_getElem? ha
  have nF : ¬ F a := R.nf a mem
  have hcl : n < c.length := (List.getElem?_eq_some_iff.mp hc).1
  have hrl : n < rh.length := (List.getElem?_eq_some_iff.mp ha).1
  have e : Ext H F rh (upd H a o') F rh := ext_mut nF
  refine ⟨⟨⟨by rw [List.length_set]; exact R.len, R.nd, fun m b x g1 g2 => ?_, R.nf, fun b z => mono_upd b (R.ft b z)⟩, fun j x g => ?_, fun j x g => ?_, R.uq, R.ln, R.fr, fun b z => ?_⟩, e, mono_upd, fun b u g1 g2 g3 g4 => ⟨?_, g2, g3, g4⟩⟩
  · by_cases q : n = m
    · subst q
      rw [List.getElem?_set_self hcl] at g2
      rw [ha] at g1
      cases g1; cases g2
      exact ⟨o', upd_same, ob.ext e⟩
    · rw [List.getElem?_set_ne q] at g2
      obtain ⟨o2, k1, k2⟩ := R.ob m b x g1 g2
      have nb : b ≠ a := fun z => by
        subst z
        obtain ⟨l1, e1⟩ := List.getElem?_eq_some_iff.mp ha
        obtain ⟨l2, e2⟩ := List.getElem?_eq_some_iff.mp g1
        exact q ((List.getElem_inj R.nd).mp (e1.trans e2.symm))
      exact ⟨o2, by rw [upd_ne nb]; exact k1, k2.ext e⟩
  · obtain ⟨w, k1, k2⟩ := R.shr j x g
    exact ⟨w, k1, k2.ext e⟩
  · obtain ⟨b, o2, k1, k2, k3, k4, k5⟩ := R.own j x g
    have nb : b ≠ a := fun z => k5 (z ▸ mem)
    exact ⟨b, o2, k1, by rw [upd_ne nb]; exact k2, k3.ext e, k4, k5⟩
  · have nb : b ≠ a := fun q => by subst q; rw [upd_same] at z; cases z
    rw [upd_ne nb] at z
    exact R.mn b z
  · have nb : b ≠ a := fun q => g3 (q ▸ mem)
    rw [upd_ne nb]; exact g1

/-! methods whose type is known when they run -/
/-- which method of a value is meant: its type, its own rule -/
def MOf (X : Cx) (name : Str) (x : V) (H : Hp) (r : List V → Hp → VK → Prop) : Prop :=
  ∃ T id rr, PlainAttrs T ∧ Slot T name id ∧ typeOf (.builtin id) = pure (.type "method_descriptor") ∧ MtR X id rr ∧ tyV X.K T x H ∧ ∀ vs H' Q, r vs H' Q → rr x vs H' Q
variable {o e : Expr} {es : List Expr} {to : TE} {t : TA} {name : Str} {apos cpos : Pos}
theorem pe_dyn0 (ho : PE X o to) (hb : attributeBase o name X.env (eval o X.env) = eval o X.env) (hl : (apos.endLine == cpos.line) = true) :
    PE X (.Call (.Attribute o name apos) [] [] cpos) (fun sg H Q => to sg H fun x H1 => ∃ r, MOf X name x H1 r ∧ r [] H1 Q) := by
  refine ⟨fun pins st sg H Q I h => wpAny_Call_method0_late hb hl (thn (ho.run pins st sg H _ I h) fun v s1 ⟨x, H1, I1, r1, r, ⟨T, id, rr, m1, m2, m3, m4, m5, m6⟩, q⟩ => ?_)⟩
  obtain ⟨t1, t2⟩ := tyV_is I1 r1 m5
  exact ⟨T, id, m1, m2, m3, t1, t2, Calls.callWith_builtin rfl (PySem.evalArgs_none (m4 pins s1 sg H1 x [] v [] Q I1 r1 .nil (m6 _ _ _ q)))⟩
theorem few_ok (pos : Pos) (hs : (es.all notStar) = true) (hn : es.length < 30) : ((backTo pos (starEach es X.env)).all (fun x => !x.1) && (backToKw pos (keywordEach [] X.env)).all (fun x => x.1.isSome)
      && decide (es.length + ([] : List Keyword).length + (if ([] : List Keyword).isEmpty then 0 else 1) < 30)) = true := by
  have h1 : (backTo pos (starEach es X.env)).all (fun x => !x.1) = true := by
    clear hn
    induction es with
    | nil => rfl
    | cons e r ih =>
      have h' : (notStar e && r.all notStar) = true := hs
      rw [Bool.and_eq_true] at h'
      rw [star_one h'.1]
      show (true && (backTo pos (starEach r X.env)).all (fun x => !x.1)) = true
      rw [ih h'.2]; rfl
  rw [h1]
  show (true && true && decide (es.length + 0 + 0 < 30)) = true
  rw [decide_eq_true (by omega)]; rfl
theorem pe_dyn (ho : PE X o to) (ha : PA X (e :: es) t) (hb : attributeBase o name X.env (eval o X.env) = eval o X.env) (hl : (apos.endLine == cpos.line) = true) (hs : notStar e = true) (hs2 : es.all notStar = true) (hn : es.length < 29) :
    PE X (.Call (.Attribute o name apos) (e :: es) [] cpos) (fun sg H Q => to sg H fun x H1 => ∃ r, MOf X name x H1 r ∧ t sg H1 fun vs H2 => r vs H2 Q) := by
  have fw := few_ok (X := X) (es := e :: es) cpos (by show (notStar e && es.all notStar) = true; rw [hs, hs2]; rfl) (by rw [List.length_cons]; omega)
  have pl : (backTo cpos (starEach (e :: es) X.env)).any (·.1) = false := star_plain (by show (notStar e && es.all notStar) = true; rw [hs, hs2]; rfl)
  refine ⟨fun pins st sg H Q I h => wpAny_Call_method_late hb fw hl rfl (thn (ho.run pins st sg H _ I h) fun v s1 ⟨x, H1, I1, r1, r, ⟨T, id, rr, m1, m2, m3, m4, m5, m6⟩, q⟩ => ?_)⟩
  obtain ⟨t1, t2⟩ := tyV_is I1 r1 m5
  refine ⟨T, id, m1, m2, m3, t1, t2, ?_⟩
  have hA := ha.run cpos pins s1 sg H1 _ I1 q
  rw [star_one hs] at hA pl ⊢
  refine Calls.callWith_builtin pl (Calls.evalArgs_plain ?_)
  exact thn hA fun us s2 ⟨vs, H2, I2, r2, q2⟩ => m4 pins s2 sg H2 x vs v us Q I2 r1 r2 (m6 _ _ _ q2)
end
section
variable {X : Cx} {M : Nm} {Z : Sx} {H : Hp} {F : Fz} {rh : List Addr} {sh : L2.St} {s : List Sl} {c : Cl} {o e : Expr} {es : List Expr} {io : IE} {il : IL} {apos cpos p : Pos}
/-- a pure method: the rule that serves it, ahead of its arguments -/
theorem meth_of (m : Mt) {v : V} {d : D} (r : Rep X.K H F rh v d) (hk : recvOk m d) :
    MOf X m.name v H (fun vs H' Q => ∃ F' rh' c' ds Qm, Ce X.K H' F' rh' c' ∧ RepL X.K H' F' rh' vs ds ∧ methW m c' d ds Qm ∧ ∀ dd o vv HH, Qm dd o → Out X.K H' F' rh' vv HH dd o → Q vv HH) := by
  obtain ⟨a, rfl⟩ : ∃ a, d = .str a := by cases m <;> cases d <;> first | exact ⟨_, rfl⟩ | exact hk.elim
  have hm : m = .upper ∨ m = .join ∨ m = .index ∨ m = .split ∨ m = .partition := by cases m <;> first | exact .inl rfl | exact .inr (.inl rfl) | exact .inr (.inr (.inl rfl)) | exact .inr (.inr (.inr (.inl rfl))) | exact .inr (.inr (.inr (.inr rfl))) | exact hk.elim
  cases r
  rcases hm with rfl | rfl | rfl | rfl | rfl
  · refine ⟨"str", "str.upper", _, PySem.F.plainAttrs_str, PySem.F.slot_str_upper, PySem.F.type_str_upper, mt_upper, rfl, fun vs H' Q ⟨F', rh', c', ds, Qm, C, R, w, q⟩ => ?_⟩
    match ds, R, w with
    | [], .nil, w => exact ⟨a, rfl, rfl, w.1, q _ _ _ _ w.2 (.old .str)⟩
  · refine ⟨"str", "str.join", _, PySem.F.plainAttrs_str, PySem.F.slot_str_join, PySem.F.type_str_join, mt_join, rfl, fun vs H' Q ⟨F', rh', c', ds, Qm, C, R, w, q⟩ => ?_⟩
    match ds, R, w with
    | [d], .cons hv .nil, w =>
      obtain ⟨xs, ys, h1, rfl, h3, h4⟩ := w
      obtain ⟨b, ws, rfl, hs, r'⟩ := asS_of C hv h1
      rw [r'.strs] at hs
      exact ⟨a, b, ys, rfl, rfl, hs, h3, q _ _ _ _ h4 (.old .str)⟩
  · refine ⟨"str", "str.index", _, PySem.F.plainAttrs_str, PySem.F.slot_str_index, PySem.F.type_str_index, mt_sindex, rfl, fun vs H' Q ⟨F', rh', c', ds, Qm, C, R, w, q⟩ => ?_⟩
    match ds, R, w with
    | [.str b], .cons hv .nil, w =>
      obtain ⟨i, rest, h1, h2⟩ := w
      cases hv
      exact ⟨a, b, i, rest, rfl, rfl, h1, q _ _ _ _ h2 (.old .int)⟩
  · refine ⟨"str", "str.split", _, PySem.F.plainAttrs_str, PySem.F.slot_str_split, PySem.F.type_str_split, mt_split, rfl, fun vs H' Q ⟨F', rh', c', ds, Qm, C, R, w, q⟩ => ?_⟩
    match ds, R, w with
    | [.str b], .cons hv .nil, w =>
      obtain ⟨h1, h2, h3⟩ := w
      cases hv
      exact ⟨a, b, rfl, rfl, h1, h2, fun p hp => q _ _ _ _ h3 (.new hp ⟨_, rfl, rep_strs _⟩)⟩
  · refine ⟨"str", "str.partition", _, PySem.F.plainAttrs_str, PySem.F.slot_str_partition, PySem.F.type_str_partition, mt_partition, rfl, fun vs H' Q ⟨F', rh', c', ds, Qm, C, R, w, q⟩ => ?_⟩
    match ds, R, w with
    | [.str b], .cons hv .nil, w =>
      obtain ⟨h1, h2, h3⟩ := w
      cases hv
      exact ⟨a, b, rfl, rfl, h1, h2, fun p hp => q _ _ _ _ h3 (.tup hp (.cons .str (.cons .str (.cons .str .nil))))⟩
theorem snd_meth0 {m : Mt} {nm : Str} (ho : PE X o (tW Z X.K false io)) (hn : nm = m.name) (hb : attributeBase o nm X.env (eval o X.env) = eval o X.env) (hl : (apos.endLine == cpos.line) = true) :
    PE X (.Call (.Attribute o nm apos) [] [] cpos) (tW Z X.K false (.meth m io .nil)) := by
  refine PE.imp (pe_dyn0 ho hb hl) fun sg H Q ⟨s, c, F, rh, Qm, Em, R, w, ok, x⟩ => ?_
  unfold wpE at w
  refine tW.mk R w x fun d o s1 c1 v H1 F1 rh1 ⟨q0, q1⟩ R1 e1 x1 r1 => ?_
  unfold wpL at q1
  subst hn
  exact ⟨_, meth_of m r1 q0, F1, rh1, c1, [], _, R1.toCe, .nil, q1, fun dd oo vv HH h u => (ok.step e1).out R1 u h⟩
theorem snd_meth {m : Mt} {nm : Str} (ho : PE X o (tW Z X.K false io)) (hl' : PA X (e :: es) (tWL Z X.K il)) (hn : nm = m.name) (hb : attributeBase o nm X.env (eval o X.env) = eval o X.env) (hl : (apos.endLine == cpos.line) = true)
    (hs : notStar e = true) (hs2 : es.all notStar = true) (hf : es.length < 29) :
    PE X (.Call (.Attribute o nm apos) (e :: es) [] cpos) (tW Z X.K false (.meth m io il)) := by
  refine PE.imp (pe_dyn ho hl' hb hl hs hs2 hf) fun sg H Q ⟨s, c, F, rh, Qm, Em, R, w, ok, x⟩ => ?_
  unfold wpE at w
  refine tW.mk R w x fun d o s1 c1 v H1 F1 rh1 ⟨q0, q1⟩ R1 e1 x1 r1 => ?_
  subst hn
  refine ⟨_, meth_of m r1 q0, ?_⟩
  refine tWL.mk R1 q1 x1 fun ds s2 c2 vs H2 F2 rh2 q2 R2 e2 x2 r2 => ?_
  exact ⟨F2, rh2, c2, ds, _, R2.toCe, r2, q2, fun dd oo vv HH h u => ((ok.step e1).step e2).out R2 u h⟩

/-! methods of a list that a slot owns or a cell holds -/
theorem slotL_at (R : Rl X.K Z.H0 H F rh sh s c) {i : Nat} (h : slotL c (s[i]?)) : ∃ a vs, sh[i]? = some (some (.ref a)) ∧ H a = some (.lst vs) := by
  cases q : s[i]? with
  | none => rw [q] at h; exact h.elim
  | some x =>
    rw [q] at h
    cases x with
    | no => exact h.elim
    | ow d =>
      cases d with
      | lst xs =>
        obtain ⟨a, o, g1, g2, ⟨vs, g3, _⟩, _⟩ := R.own i _ q
        subst g3
        exact ⟨a, vs, g1, g2⟩
      | _ => exact h.elim
    | sh d =>
      cases d with
      | cell n =>
        obtain ⟨xs, hc⟩ := h
        obtain ⟨v, g1, g2⟩ := R.shr i _ q
        cases g2 with
        | cell e =>
          obtain ⟨o, k1, vs, k2, _⟩ := R.ob n _ _ e hc
          subst k2
          exact ⟨_, vs, g1, k1⟩
      | _ => exact h.elim
theorem slot_use (R : Rl X.K Z.H0 H F rh sh s c) {i : Nat} {k : List D → (List D → List Sl × Cl) → Prop} (h : slotW s c i k) :
    ∃ a vs xs g, sh[i]? = some (some (.ref a)) ∧ H a = some (.lst vs) ∧ RepL X.K H F rh vs xs ∧ k xs g ∧ ¬ F a ∧
      ∀ ys ws, RepL X.K H F rh ws ys → Rl X.K Z.H0 (upd H a (.lst ws)) F rh sh (g ys).1 (g ys).2 ∧ Ev H F rh (Owned sh s) (upd H a (.lst ws)) F rh (Owned sh (g ys).1) := by
  unfold slotW at h
  split at h
  · rename_i xs q
    obtain ⟨a, o, g1, g2, ⟨vs, g3, g4⟩, g5, g6⟩ := R.own i _ q
    subst g3
    exact ⟨a, vs, xs, _, g1, g2, g4, h, g5, fun ys ws r => R.mutOwn (d' := .lst ys) q g1 ⟨ws, rfl, r⟩⟩
  · rename_i n q
    obtain ⟨xs, hc, hk⟩ := h
    obtain ⟨v, g1, g2⟩ := R.shr i _ q
    cases g2 with
    | cell e =>
      obtain ⟨o, k1, vs, k2, k3⟩ := R.ob n _ _ e hc
      subst k2
      exact ⟨_, vs, xs, _, g1, k1, k3, hk, R.nf _ (List.mem_of_getElem? e), fun ys ws r => R.mutCell (d' := .lst ys) e hc ⟨ws, rfl, r⟩⟩
  · exact h.elim
theorem drop_last {K : PySem.W.Frag} {vs : List V} {ds : List D} (r : RepL K H F rh vs ds) : RepL K H F rh vs.dropLast ds.dropLast := by
  rw [List.dropLast_eq_take, List.dropLast_eq_take, r.len]
  exact r.take _
/-- the mutating methods, by what stands at the receiver behind the arguments -/
theorem mut_of (m : Mt) {a : Addr} {vs0 : List V} (h0 : H a = some (.lst vs0)) :
    MOf X m.name (.ref a) H (fun vs H' Q => ∃ F' rh' c' ds ws xs Qm, Ce X.K H' F' rh' c' ∧ RepL X.K H' F' rh' vs ds ∧ H' a = some (.lst ws) ∧ RepL X.K H' F' rh' ws xs ∧ mutW m c' xs ds Qm ∧ ∀ r ys z zs, Qm r ys → Rep X.K H' F' rh' z r → RepL X.K H' F' rh' zs ys → Q z (upd H' a (.lst zs))) ∨ ∀ c xs ds Q, ¬ mutW m c xs ds Q := by
  have ty : tyV X.K "list" (.ref a) H := .inl ⟨rfl, vs0, SqL.of h0⟩
  cases m with
  | append =>
    refine .inl ⟨"list", "list.append", _, PySem.F.plainAttrs_list, PySem.F.slot_list_append, PySem.F.type_list_append, mt_append, ty, fun vs H' Q ⟨F', rh', c', ds, ws, xs, Qm, C, R, h1, h2, w, q⟩ => ?_⟩
    match ds, R, w with
    | [d], .cons (v := v) hv .nil, w => exact ⟨a, ws, v, rfl, rfl, h1, by rw [h2.len]; exact w.1, q _ _ _ _ w.2 .non (h2.app (.cons hv .nil))⟩
  | extend =>
    refine .inl ⟨"list", "list.extend", _, PySem.F.plainAttrs_list, PySem.F.slot_list_extend, PySem.F.type_list_extend, mt_extend, ty, fun vs H' Q ⟨F', rh', c', ds, ws, xs, Qm, C, R, h1, h2, w, q⟩ => ?_⟩
    match ds, R, w with
    | [d], .cons (v := v) hv .nil, w =>
      obtain ⟨ys, g1, g2, g3⟩ := w
      obtain ⟨b, zs, rfl, hb, rb⟩ := asL_of C hv g1
      exact ⟨a, b, ws, zs, rfl, rfl, h1, hb, by rw [h2.len, rb.len]; exact g2, q _ _ _ _ g3 .non (h2.app rb)⟩
  | pop =>
    refine .inl ⟨"list", "list.pop", _, PySem.F.plainAttrs_list, PySem.F.slot_list_pop, PySem.F.type_list_pop, MtR.or mt_pop mt_popAt, ty, fun vs H' Q ⟨F', rh', c', ds, ws, xs, Qm, C, R, h1, h2, w, q⟩ => ?_⟩
    match ds, R, w with
    | [], .nil, w =>
      obtain ⟨y, g1, g2⟩ := w
      rw [← h2.len] at g1
      obtain ⟨z, k1, k2⟩ := h2.at g1
      exact .inl ⟨a, ws, z, rfl, rfl, h1, k1, q _ _ _ _ g2 k2 (drop_last h2)⟩
    | [.int i], .cons (v := v) hv .nil, w =>
      obtain ⟨k, y, g0, g1, g2, g3⟩ := w
      cases hv
      obtain ⟨z, k1, k2⟩ := h2.at g2
      exact .inr ⟨a, ws, i, k, z, rfl, rfl, h1, by omega, by omega, by rw [h2.len]; exact g1, k1, q _ _ _ _ g3 k2 (h2.erase k)⟩
  | clear =>
    refine .inl ⟨"list", "list.clear", _, PySem.F.plainAttrs_list, PySem.F.slot_list_clear, PySem.F.type_list_clear, mt_clear, ty, fun vs H' Q ⟨F', rh', c', ds, ws, xs, Qm, C, R, h1, h2, w, q⟩ => ?_⟩
    match ds, R, w with
    | [], .nil, w => exact ⟨a, ws, rfl, rfl, h1, q _ _ _ _ w .non .nil⟩
  | upper => exact .inr fun c xs ds Q h => h
  | join => exact .inr fun c xs ds Q h => h
  | index => exact .inr fun c xs ds Q h => h
  | split => exact .inr fun c xs ds Q h => h
  | partition => exact .inr fun c xs ds Q h => h
  | insert =>
    refine .inl ⟨"list", "list.insert", _, PySem.F.plainAttrs_list, PySem.F.slot_list_insert, PySem.F.type_list_insert, mt_insert, ty, fun vs H' Q ⟨F', rh', c', ds, ws, xs, Qm, C, R, h1, h2, w, q⟩ => ?_⟩
    match ds, R, w with
    | [.int i, d], .cons ri (.cons (v := v) hv .nil), w =>
      obtain ⟨g1, g2, g3, g4⟩ := w
      cases ri
      exact ⟨a, ws, i, v, rfl, rfl, h1, by rw [h2.len]; exact g1, g2, g3, q _ _ _ _ g4 .non (((h2.take i.toNat).app (.cons hv .nil)).app (h2.drop i.toNat))⟩
theorem snd_methv_core {m : Mt} {i : Nat} {sg : L2.St} {Q : VK} {Qm : QK} {a : Addr} {ds : List D} {vs : List V} {r : List V → Hp → VK → Prop} (R : Rl X.K Z.H0 H F rh sg s c) (ok : OkQ X.K Z.H0 sg H F rh s Qm Q) (ra : RepL X.K H F rh vs ds)
    (w : slotW s c i (fun xs g => mutW m c xs ds fun r ys => Qm r false (g ys).1 (g ys).2)) (hv : sg[i]? = some (some (.ref a)))
    (hr : r = (fun vs H' Q => ∃ F' rh' c' ds ws xs Qm, Ce X.K H' F' rh' c' ∧ RepL X.K H' F' rh' vs ds ∧ H' a = some (.lst ws) ∧ RepL X.K H' F' rh' ws xs ∧ mutW m c' xs ds Qm ∧ ∀ r ys z zs, Qm r ys → Rep X.K H' F' rh' z r → RepL X.K H' F' rh' zs ys → Q z (upd H' a (.lst zs)))) : r vs H Q := by
  subst hr
  obtain ⟨b, ws, xs, g, g1, g2, g3, g4, g5, g6⟩ := slot_use R w
  rw [hv] at g1
  cases g1
  refine ⟨F, rh, c, ds, ws, xs, _, R.toCe, ra, g2, g3, g4, fun rr ys z zs q1 q2 q3 => ?_⟩
  obtain ⟨R2, e2⟩ := g6 ys zs q3
  exact (ok.step e2).shr R2 (q2.ext e2.toExt) q1
theorem snd_methv0 {m : Mt} {i : Nat} {x nm : Str} (hn : nm = m.name) (hN : X.N[i]? = some x) (hv : Vis X.env.scope x) (h1 : (x == ("__debug__" : Str)) = false) (h2 : (x == ("__classdict__" : Str)) = false) (hl : (apos.endLine == cpos.line) = true) :
    PE X (.Call (.Attribute (.Name x p) nm apos) [] [] cpos) (tW Z X.K false (.methv m i .nil)) := by
  refine PE.imp (pe_dyn0 (pe_var hN hv h1 h2) rfl hl) fun sg H Q ⟨s, c, F, rh, Qm, Em, R, w, ok, xk⟩ => ?_
  unfold wpE wpL at w
  obtain ⟨w0, w⟩ := w
  obtain ⟨a, vs0, g1, g2⟩ := slotL_at R w0
  subst hn
  refine ⟨_, g1, ?_⟩
  rcases mut_of (X := X) m g2 with mo | no
  · exact ⟨_, mo, snd_methv_core R ok .nil w g1 rfl⟩
  · obtain ⟨b, ws, xs, g, _, _, _, g4, _⟩ := slot_use R w
    exact (no _ _ _ _ g4).elim
theorem snd_methv {m : Mt} {i : Nat} {x nm : Str} (hl' : PA X (e :: es) (tWL Z X.K il)) (hn : nm = m.name) (hN : X.N[i]? = some x) (hv : Vis X.env.scope x) (h1 : (x == ("__debug__" : Str)) = false) (h2 : (x == ("__classdict__" : Str)) = false) (hl : (apos.endLine == cpos.line) = true)
    (hs : notStar e = true) (hs2 : es.all notStar = true) (hf : es.length < 29) (hm : m = .append ∨ m = .extend ∨ m = .pop ∨ m = .clear ∨ m = .insert) : PE X (.Call (.Attribute (.Name x p) nm apos) (e :: es) [] cpos) (tW Z X.K false (.methv m i il)) := by
  refine PE.imp (pe_dyn (pe_var hN hv h1 h2) hl' rfl hl hs hs2 hf) fun sg H Q ⟨s, c, F, rh, Qm, Em, R, w, ok, xk⟩ => ?_
  unfold wpE at w
  obtain ⟨w0, w⟩ := w
  obtain ⟨a, vs0, g1, g2⟩ := slotL_at R w0
  subst hn
  refine ⟨_, g1, ?_⟩
  have mo := (mut_of (X := X) m g2).resolve_right fun no => by
    rcases hm with rfl | rfl | rfl | rfl | rfl
    · exact no c [] [.non] (fun _ _ => True) ⟨by decide, trivial⟩
    · exact no c [] [.lst []] (fun _ _ => True) ⟨[], rfl, by decide, trivial⟩
    · exact no c [.non] [] (fun _ _ => True) ⟨.non, rfl, trivial⟩
    · exact no c [] [] (fun _ _ => True) trivial
    · exact no c [] [.int 0, .non] (fun _ _ => True) ⟨by decide, by decide, by decide, trivial⟩
  refine ⟨_, mo, ?_⟩
  refine tWL.mk R w xk fun ds s1 c1 vs H1 F1 rh1 q1 R1 e1 x1 r1 => ?_
  exact snd_methv_core R1 (ok.step e1) r1 q1 g1 rfl
end
end Vm

/-! Vm: calls by keywords -/
namespace Vm
open PySem PySem.Spec L2
open PyProof.Rows hiding St
section
variable {X : Cx} {M : Nm} {Z : Sx} {H H1 : Hp} {F F1 : Fz} {rh rh1 : List Addr} {s s1 : List Sl} {c c1 : Cl} {e : Expr} {es : List Expr} {kws : List Keyword} {ia : IE} {il kl : IL} {p pos kpos : Pos} {nm : Option Str} {k : Nat} {f : Addr} {fd : FuncData} {ps ks : List Str} {sp : Sp} {t tk : TA} {E : L2.St → XK} {x : Str} {n : Nat} {g : List Value → List Value → List Value} {gV : List V → List V → List V}
theorem PK.imp {t t' : TA} (h : PK X kws t) (i : ∀ sg H Q, t' sg H Q → t sg H Q) : PK X kws t' := ⟨fun q p s sg H Q I w => h.run q p s sg H Q I (i sg H Q w)⟩
theorem sndK_nil : PK X [] (tWL Z X.K .nil) := PK.imp pk_nil fun sg H Q ⟨s, c, F, rh, Qm, Em, R, w, ok, x⟩ => by
  unfold wpL at w
  exact ok [] s c [] H F rh w R Ev.refl .nil
theorem sndK_cons (ha : PE X e (tW Z X.K false ia)) (hl : PK X kws (tWL Z X.K il)) : PK X (⟨nm, e, kpos⟩ :: kws) (tWL Z X.K (.cons ia il)) := by
  refine PK.imp (pk_cons ha hl) fun sg H Q ⟨s, c, F, rh, Qm, Em, R, w, ok, x⟩ => ?_
  unfold wpL at w
  refine tW.mk R w x fun d o s1 c1 v H1 F1 rh1 q1 R1 e1 x1 r1 => ?_
  exact tWL.mk R1 q1 x1 fun ds s2 c2 vs H2 F2 rh2 q2 R2 e2 x2 r2 => ok (d :: ds) s2 c2 (v :: vs) H2 F2 rh2 q2 R2 (e1.trans e2) (.cons (r1.ext e2.toExt) r2)
theorem runG_kw {pins : List (Addr × Obj)} {sg : L2.St} {H : Hp} {s : Shared} {Q : VK} {us ws : List Value} {vs zs : List V} (G : FnG X.prog X.w X.K X.mg X.base k f fd ps sp) (hr : Room k X.A) (hg : X.A.guards = some []) (hb : KBn X.K fd ps n ks g gV)
    (hx : PassesAt (L2.CX X.prog X.w) X sg (E sg)) (I : Inv X pins sg H s) (r : Vals vs us) (rz : Vals zs ws) (l1 : vs.length = n) (l2 : zs.length = ks.length) (h : sp (gV vs zs) H Q (E sg)) : wpAny (model X.prog X.w) X.A (call (.ref f) us (ks.zip ws)) (EP X pins sg Q) X.xe s := by
  have r2 := hb.rel r rz
  refine wpAny_call (codeAny_mono (G.go X.A X.stack s H ⟨us, ks.zip ws⟩ (g us ws) (gV vs zs) Q (E sg) hr hg I.env0 (hb.to s us ws I.kIn (r.length.symm.trans l1) (rz.length.symm.trans l2)) r2 h) fun r s' hq => ?_)
  match r, hq with
  | .error e, hq => exact hx pins H s e s' I hq
  | .ok (.ret u), hq => exact I.after hq
  | .ok .next, hq => exact hq.elim
  | .ok .brk, hq => exact hq.elim
  | .ok .cont, hq => exact hq.elim
theorem kw_all {pos : Pos} : ∀ {kws : List Keyword} {ks : List Str}, kws.map (·.arg) = ks.map some → (backToKw pos (keywordEach kws X.env)).all (·.1.isSome) = true ∧ (backToKw pos (keywordEach kws X.env)).filterMap (·.1) = ks ∧ (backToKw pos (keywordEach kws X.env)).any (·.1.isNone) = false
  | [], [], _ => ⟨rfl, rfl, rfl⟩
  | [], _ :: _, h => by cases h
  | _ :: _, [], h => by cases h
  | ⟨a, v, q⟩ :: kws, k :: ks, h => by
    have h1 : a = some k := by injection h
    have h2 : kws.map (·.arg) = ks.map some := by injection h
    subst h1
    obtain ⟨g1, g2, g3⟩ := kw_all (pos := pos) h2
    refine ⟨?_, ?_, ?_⟩
    · show (true && (backToKw pos (keywordEach kws X.env)).all (·.1.isSome)) = true
      rw [g1]; rfl
    · show k :: (backToKw pos (keywordEach kws X.env)).filterMap (·.1) = k :: ks
      rw [g2]
    · show (false || (backToKw pos (keywordEach kws X.env)).any (·.1.isNone)) = false
      rw [g3]; rfl
theorem pe_kwG (G : FnG X.prog X.w X.K X.mg X.base k f fd ps sp) (hr : Room k X.A) (hgd : X.A.guards = some []) (hg : Gl X x) (hm : X.mg x = some (.ref f)) (hk : PySem.W.keepIn X.K (.ref f) = true) (hb : KBn X.K fd ps n ks g gV)
    (hx : ∀ sg, PassesAt (L2.CX X.prog X.w) X sg (E sg)) (ha : PA X (e :: es) t) (hkw : PK X kws tk) (hn : kws.map (·.arg) = ks.map some) (hdb : (x == ("__debug__" : Str)) = false) (hs : (e :: es).all notStar = true) :
    PE X (.Call (.Name x p) (e :: es) kws pos) (fun sg H Q => t sg H fun vs H1 => tk sg H1 fun zs H2 => vs.length = n ∧ zs.length = ks.length ∧ sp (gV vs zs) H2 Q (E sg)) := by
  obtain ⟨k1, k2, k3⟩ := kw_all (X := X) (pos := pos) hn
  have pl : (backTo pos (starEach (e :: es) X.env)).any (·.1) = false := star_plain hs
  refine ⟨fun pins s sg H Q I h => wpAny_Call_Name_kw (ld_glob I hg hm ?_ hdb)⟩
  rw [List.all_cons, Bool.and_eq_true] at hs
  refine PySem.W.callWith_KW (h₀ := X.base) I.ok.mod.kin hk k1 (thn (ha.run pos pins s sg H _ I h) fun us s1 ⟨vs, H1, I1, r, q⟩ => ?_) (by rw [pl, k3]; rfl) (star_one hs.1)
  refine thn (hkw.run pos pins s1 sg H1 _ I1 q) fun ws s2 ⟨zs, H2, I2, rz, l1, l2, q2⟩ => ⟨I2.kIn, ?_⟩
  rw [k2]
  exact runG_kw G hr hgd hb (hx sg) I2 r rz l1 l2 q2
theorem pe_kwG0 (G : FnG X.prog X.w X.K X.mg X.base k f fd ps sp) (hr : Room k X.A) (hgd : X.A.guards = some []) (hg : Gl X x) (hm : X.mg x = some (.ref f)) (hk : PySem.W.keepIn X.K (.ref f) = true) (hb : KBn X.K fd ps n ks g gV)
    (hx : ∀ sg, PassesAt (L2.CX X.prog X.w) X sg (E sg)) (hkw : PK X kws tk) (hn : kws.map (·.arg) = ks.map some) (hdb : (x == ("__debug__" : Str)) = false) :
    PE X (.Call (.Name x p) [] kws pos) (fun sg H Q => tk sg H fun zs H2 => ([] : List V).length = n ∧ zs.length = ks.length ∧ sp (gV [] zs) H2 Q (E sg)) := by
  obtain ⟨k1, k2, k3⟩ := kw_all (X := X) (pos := pos) hn
  refine ⟨fun pins s sg H Q I h => wpAny_Call_Name_kw (ld_glob I hg hm ?_ hdb)⟩
  refine PySem.W.callWith_KW0 (h₀ := X.base) I.ok.mod.kin hk k1 ?_ (by rw [k3]; rfl)
  refine thn (hkw.run pos pins s sg H _ I h) fun ws s2 ⟨zs, H2, I2, rz, l1, l2, q2⟩ => ⟨I2.kIn, ?_⟩
  rw [k2]
  exact runG_kw G hr hgd hb (hx sg) I2 .nil rz l1 l2 q2
end
end Vm

/-! Vm: instances: attributes, methods, what is made -/
namespace Vm
open PySem PySem.Spec L2
open PyProof.Rows hiding St
/-! names -/
theorem at_tab : ((List.range atNames.length).all fun n => decide (atN n ≠ "") && (List.range atNames.length).all fun m => decide (atN n = atN m → n = m)) = true := by decide +kernel
theorem mt_tab : ((List.range atNames.length).all fun n => (List.range mtNames.length).all fun m => decide (atN n ≠ mtN m)) = true := by decide +kernel
theorem atN_ge {n : Nat} (h : atNames.length ≤ n) : atN n = "" := by
  unfold atN
  rw [List.getElem?_eq_none h]; rfl
theorem atN_inj {n m : Nat} (h : n < atNames.length) (e : atN n = atN m) : n = m := by
  have t := List.all_eq_true.mp at_tab n (List.mem_range.mpr h)
  rw [Bool.and_eq_true] at t
  by_cases hm : m < atNames.length
  · exact of_decide_eq_true (List.all_eq_true.mp t.2 m (List.mem_range.mpr hm)) e
  · rw [atN_ge (Nat.le_of_not_lt hm)] at e
    exact absurd e (of_decide_eq_true t.1)
theorem at_ne_mt {m : Nat} (h : mtN m ≠ "") (n : Nat) : atN n ≠ mtN m := by
  intro e
  by_cases hn : n < atNames.length
  · have t := List.all_eq_true.mp mt_tab n (List.mem_range.mpr hn)
    by_cases hm : m < mtNames.length
    · exact of_decide_eq_true (List.all_eq_true.mp t m (List.mem_range.mpr hm)) e
    · refine h ?_
      unfold mtN
      rw [List.getElem?_eq_none (Nat.le_of_not_lt hm)]; rfl
  · rw [atN_ge (Nat.le_of_not_lt hn)] at e
    exact h e.symm
section
variable {K : PySem.W.Frag} {H : Hp} {F : Fz} {rh : List Addr} {c : Cl} {v : V} {d : D} {k : Nat} {ns : List Nat} {xs : List D}
theorem ins_rep (C : Ce K H F rh c) (r : Rep K H F rh v d) (h : insOf c d = some (k, ns, xs)) : ∃ a dx vs, v = .ref a ∧ H a = some (.ins (cAd K k) dx ((ns.map atN).zip vs)) ∧ ns.length = vs.length ∧ RepL K H F rh vs xs := by
  cases r with
  | ins hf r =>
    cases h
    obtain ⟨_, l, dx, g⟩ := hf
    exact ⟨_, dx, _, rfl, g, l, r⟩
  | @cell n a e =>
    have h' : (match c[n]? with | some (.ins k ns xs) => some (k, ns, xs) | _ => none) = some (k, ns, xs) := h
    cases q : c[n]? with
    | none => rw [q] at h'; cases h'
    | some x =>
      rw [q] at h'
      cases x with
      | ins k2 ns2 xs2 =>
        cases h'
        obtain ⟨ob, g1, dx, vs, g2, g3, g4⟩ := C.ob n a _ e q
        subst g2
        exact ⟨a, dx, vs, rfl, g1, g3, g4⟩
      | _ => cases h'
  | _ => cases h
theorem look_ne {f : Str} {ns : List Nat} {vs : List V} (h : ∀ n, atN n ≠ f) : ((ns.map atN).zip vs).lookup f = none := by
  induction ns generalizing vs with
  | nil => rfl
  | cons m ns ih =>
    cases vs with
    | nil => rfl
    | cons v vs =>
      rw [List.map_cons, List.zip_cons_cons, List.lookup_cons]
      have e : (f == atN m) = false := by simpa using fun z => h m z.symm
      rw [e]; exact ih
theorem getF_look {n : Nat} {d : D} (hn : n < atNames.length) : ∀ {ns : List Nat} {vs : List V} {xs : List D}, RepL K H F rh vs xs → getF ns xs n = some d → ∃ v, ((ns.map atN).zip vs).lookup (atN n) = some v ∧ Rep K H F rh v d
  | [], _, _, _, e => by cases (show (none : Option D) = some d from by unfold getF at e; exact e)
  | m :: ns, _, _, .nil, e => by cases (show (none : Option D) = some d from by unfold getF at e; exact e)
  | m :: ns, v :: vs, x :: xs, .cons r rs, e => by
    unfold getF at e
    rw [List.map_cons, List.zip_cons_cons, List.lookup_cons]
    by_cases q : m = n
    · rw [if_pos q] at e
      cases e
      subst q
      rw [show (atN m == atN m) = true by simp]
      exact ⟨v, rfl, r⟩
    · rw [if_neg q] at e
      have e2 : (atN n == atN m) = false := by simpa using fun z => q (atN_inj hn z).symm
      rw [e2]
      exact getF_look hn rs e
theorem putF_len {n : Nat} {y : D} : ∀ {ns : List Nat} {xs : List D}, ns.length = xs.length → (putF n y ns xs).1.length = (putF n y ns xs).2.length
  | [], [], _ => rfl
  | [], _ :: _, h => by cases h
  | _ :: _, [], h => by cases h
  | m :: ns, x :: xs, h => by
    unfold putF
    by_cases q : n = m
    · rw [if_pos q]; exact h
    · rw [if_neg q]
      show ((putF n y ns xs).1.length + 1) = ((putF n y ns xs).2.length + 1)
      rw [putF_len (Nat.succ.inj h)]
/-- the attributes behind a store -/
theorem putF_rep {n : Nat} {w : V} {y : D} (hn : n < atNames.length) (ry : Rep K H F rh w y) : ∀ {ns : List Nat} {vs : List V} {xs : List D}, ns.length = vs.length → RepL K H F rh vs xs →
    ∃ vs', L2.putF (atN n) w ((ns.map atN).zip vs) = ((putF n y ns xs).1.map atN).zip vs' ∧ (putF n y ns xs).1.length = vs'.length ∧ RepL K H F rh vs' (putF n y ns xs).2
  | [], [], _, _, .nil => ⟨[w], rfl, rfl, .cons ry .nil⟩
  | m :: ns, v :: vs, x :: xs, l, .cons r rs => by
    rw [List.map_cons, List.zip_cons_cons]
    unfold putF L2.putF
    by_cases q : n = m
    · subst q
      rw [if_pos rfl, if_pos rfl]
      exact ⟨w :: vs, rfl, l, .cons ry rs⟩
    · rw [if_neg q, if_neg fun z => q (atN_inj hn z.symm)]
      obtain ⟨vs', e1, e2, e3⟩ := putF_rep (y := y) hn ry (Nat.succ.inj l) rs
      refine ⟨v :: vs', ?_, by show _ + 1 = _ + 1; rw [e2], .cons r e3⟩
      rw [e1]; rfl
end
section
variable {X : Cx} {M : Nm} {Z : Sx} {H : Hp} {F : Fz} {rh : List Addr} {sh : L2.St} {s : List Sl} {c : Cl} {o e : Expr} {es : List Expr} {kws : List Keyword} {io : IE} {il : IL} {apos cpos pos p : Pos}
theorem wpOp1 {g : Gn} {t : Bool} {Q : QK} {E : EK} (w : wpE Z.C t (.op g (.cons io .nil)) s c Q E) : wpE Z.C false io s c (fun d _ s1 c1 => opW Z.C g [d] c1 (fun d o c2 => Qt t Q d o s1 c2) (fun ex c2 => E ex s1 c2)) E := by
  unfold wpE wpL wpL at w
  exact w.2
theorem snd_fld {n : Nat} {nm : Str} (G : GOk X M Z) (ho : PE X o (tW Z X.K false io)) (hn : nm = atN n) (hb : attributeBase o nm X.env (eval o X.env) = eval o X.env) : PE X (.Attribute o nm pos) (tW Z X.K false (.op (.fld n) (.cons io .nil))) := by
  refine PE.imp (pe_fld ho hb) fun sg H Q ⟨s, c, F, rh, Qm, Em, R, w, ok, x⟩ => ?_
  refine tW.mk R (wpOp1 w) x fun d o s1 c1 v H1 F1 rh1 ⟨k, ns, xs, y, q1, q2, q3, q4⟩ R1 e1 x1 r1 => ?_
  obtain ⟨a, dx, vs, rfl, g1, g2, g3⟩ := ins_rep R1.toCe r1 q1
  obtain ⟨h1, h2, h3⟩ := G.cl.fld k n q2
  obtain ⟨u, g4, g5⟩ := getF_look h3 g3 q3
  rw [hn]
  exact ⟨a, _, dx, _, u, rfl, g1, h1, h2, g4, (ok.step e1).shr R1 g5 q4⟩
/-! calls -/
/-- what runs behind the arguments -/
def RunW (X : Cx) (f : Addr) (ks : List Str) (vs zs : List V) (sg : L2.St) (H : Hp) (Q : VK) : Prop :=
  ∀ (pins : List (Addr × Obj)) (s : Shared) (us ws : List Value), Inv X pins sg H s → Vals vs us → Vals zs ws → wpAny (model X.prog X.w) X.A (call (.ref f) us (ks.zip ws)) (EP X pins sg Q) X.xe s
variable {t tk : TA} {to : TE} {ks : List Str} {name : Str}
theorem args_W {pins : List (Addr × Obj)} {st : Shared} {sg : L2.St} {H : Hp} {Q : VK} {f : Addr} {first : List Value} {fv : List V} (I : Inv X pins sg H st) (rf : Vals fv first) (hk : PySem.W.keepIn X.K (.ref f) = true) (ha : PA X es t) (hkw : PK X kws tk) (hn : kws.map (·.arg) = ks.map some) (hs : es.all notStar = true)
    (h0 : es = [] → ∀ sg H Q, t sg H Q → Q [] H) (h : t sg H fun vs H2 => tk sg H2 fun zs H3 => RunW X f ks (fv ++ vs) zs sg H3 Q) : wpAny (model X.prog X.w) X.A (callWith pos (.ref f) first (backTo pos (starEach es X.env)) (backToKw pos (keywordEach kws X.env))) (EP X pins sg Q) X.xe st := by
  obtain ⟨k1, k2, k3⟩ := kw_all (X := X) (pos := pos) hn
  have pl : (backTo pos (starEach es X.env)).any (·.1) = false := star_plain hs
  have fin : ∀ (us : List Value) (vs : List V) (s1 : Shared) (H1 : Hp), Inv X pins sg H1 s1 → Vals vs us → (tk sg H1 fun zs H3 => RunW X f ks (fv ++ vs) zs sg H3 Q) →
      wpAny (model X.prog X.w) X.A (evalAll ((backToKw pos (keywordEach kws X.env)).map (·.2))) (fun ws s2 => X.K.In s2.heap ∧ wpAny (model X.prog X.w) X.A (call (.ref f) (first ++ us) (((backToKw pos (keywordEach kws X.env)).filterMap (·.1)).zip ws)) (EP X pins sg Q) X.xe s2) X.xe s1 := fun us vs s1 H1 I1 r q => by
    refine thn (hkw.run pos pins s1 sg H1 _ I1 q) fun ws s2 ⟨zs, H2, I2, rz, q2⟩ => ⟨I2.kIn, ?_⟩
    rw [k2]
    exact q2 pins s2 (first ++ us) ws I2 (rf.append r) rz
  cases es with
  | nil =>
    refine PySem.W.callWith_KW0 (h₀ := X.base) I.ok.mod.kin hk k1 ?_ (by rw [k3]; rfl)
    exact fin [] [] st H I .nil (h0 rfl _ _ _ h)
  | cons e es =>
    rw [List.all_cons, Bool.and_eq_true] at hs
    refine PySem.W.callWith_KW (h₀ := X.base) I.ok.mod.kin hk k1 (thn (ha.run pos pins st sg H _ I h) fun us s1 ⟨vs, H1, I1, r, q⟩ => ?_) (by rw [pl, k3]; rfl) (star_one hs.1)
    exact fin us vs s1 H1 I1 r q
end
end Vm

/-! Vm: calls of defs and methods, with keywords and defaults -/
namespace Vm
open PySem PySem.Spec L2
open PyProof.Rows hiding St
def IL.len : IL → Nat
  | .nil => 0
  | .cons _ l => l.len + 1
def IL.tk : Nat → IL → IL
  | 0, _ => .nil
  | _ + 1, .nil => .nil
  | n + 1, .cons a l => .cons a (IL.tk n l)
def IL.dp : Nat → IL → IL
  | 0, l => l
  | _ + 1, .nil => .nil
  | n + 1, .cons _ l => IL.dp n l
theorem wpL_split {C : Ctx} {E : EK} : ∀ (n : Nat) (l : IL) (s : List Sl) (c : Cl) (Q : List D → List Sl → Cl → Prop), wpL C l s c Q E = wpL C (l.tk n) s c (fun ds s1 c1 => wpL C (l.dp n) s1 c1 (fun es s2 c2 => ds.length = min n l.len ∧ Q (ds ++ es) s2 c2) E) E
  | 0, l, s, c, Q => by
    unfold IL.tk IL.dp
    conv => rhs; unfold wpL
    congr 1
    funext ds s1 c1
    exact propext ⟨fun h => ⟨by simp, h⟩, fun h => h.2⟩
  | n + 1, .nil, s, c, Q => by
    unfold IL.tk IL.dp wpL wpL
    exact propext ⟨fun h => ⟨by simp [IL.len], h⟩, fun h => h.2⟩
  | n + 1, .cons a l, s, c, Q => by
    unfold IL.tk IL.dp
    unfold wpL
    congr 1
    funext d o s1 c1
    rw [wpL_split n l s1 c1 fun ds s2 c2 => Q (d :: ds) s2 c2]
    congr 1
    funext ds s2 c2
    congr 1
    funext es s3 c3
    refine propext ⟨fun h => ⟨?_, h.2⟩, fun h => ⟨?_, h.2⟩⟩
    · rw [List.length_cons, h.1]
      show _ = min (n + 1) (l.len + 1)
      omega
    · have h1 := h.1
      rw [List.length_cons] at h1
      have h2 : ds.length + 1 = min (n + 1) (l.len + 1) := h1
      omega
section
variable {X : Cx} {M : Nm} {Z : Sx} {H : Hp} {F : Fz} {rh : List Addr} {sh : L2.St} {s : List Sl} {c : Cl} {o e : Expr} {es : List Expr} {kws : List Keyword} {io : IE} {l il : IL} {apos cpos pos p : Pos} {t tk : TA} {to : TE} {name : Str} {n : Nat}
/-- a def runs -/
theorem runW_fn {f : Nat} {ks : List Nat} {pl : Pl} {sg : L2.St} {Qm : QK} {Em : EK} {Q : VK} {ds es : List D} {vs zs : List V} (G : GOk X M Z) (hf : Z.C.hasF f = true) (hp : Z.C.hasP2 f n ks pl = true) (R : Rl X.K Z.H0 H F rh sg s c) (r : RepL X.K H F rh vs ds) (rz : RepL X.K H F rh zs es) (l1 : ds.length = n) (l2 : es.length = ks.length)
    (w : Z.C.fn f (appD pl (ds ++ es)) c (fun d o c2 => Qm d o s c2) (fun ex c2 => Em ex s c2)) (ok : OkQ X.K Z.H0 sg H F rh s Qm Q) (x : OkX Z X.K sg H F rh s Em) : RunW X (fA X.K (M.fn f)) (kwN (M.ps f) n ks) vs zs sg H Q := by
  obtain ⟨fd, k, g1, g2, g3, g4, g5, g6⟩ := (G.fn f hf).ex
  obtain ⟨g, gV, kb, kr⟩ := g6 n ks pl hp
  have lk : (kwN (M.ps f) n ks).length = ks.length := by unfold kwN; rw [List.length_map]
  intro pins st us ws I rv rw_
  exact runG_kw (E := WE Z.W) g4 (g5.mono (by omega)) G.gd kb (passAt G.tk sg) I rv rw_ (by rw [r.len]; exact l1) (by rw [rz.len, lk]; exact l2) (call_use R (kr H F rh vs zs ds es r rz l1 (by rw [lk]; exact l2)) w ok x)
theorem tWL_nil {sg : L2.St} {Q : List V → Hp → Prop} (h : tWL Z X.K .nil sg H Q) : Q [] H := by
  obtain ⟨s, c, F, rh, Qm, Em, R, w, ok, x⟩ := h
  unfold wpL at w
  exact ok [] s c [] H F rh w R Ev.refl .nil
/-- the arguments, then the run -/
theorem args_use {f : Nat} {ks : List Nat} {pl : Pl} {sg : L2.St} {Qm : QK} {Em : EK} {Q : VK} {ds0 : List D} {fv : List V} (G : GOk X M Z) (R : Rl X.K Z.H0 H F rh sg s c) (r0 : RepL X.K H F rh fv ds0) (hl : n ≤ l.len)
    (w : wpL Z.C l s c (fun ds s1 c1 => callW Z.C f (ds0.length + n) ks pl (ds0 ++ ds) c1 (fun d o c2 => Qm d o s1 c2) (fun ex c2 => Em ex s1 c2)) Em) (ok : OkQ X.K Z.H0 sg H F rh s Qm Q) (x : OkX Z X.K sg H F rh s Em) :
    tWL Z X.K (l.tk n) sg H fun vs H2 => tWL Z X.K (l.dp n) sg H2 fun zs H3 => RunW X (fA X.K (M.fn f)) (kwN (M.ps f) (ds0.length + n) ks) (fv ++ vs) zs sg H3 Q := by
  rw [wpL_split n] at w
  refine tWL.mk R w x fun ds s1 c1 vs H1 F1 rh1 q1 R1 e1 x1 r1 => ?_
  refine tWL.mk R1 q1 x1 fun es s2 c2 zs H2 F2 rh2 ⟨q0, q2⟩ R2 e2 x2 r2 => ?_
  obtain ⟨w1, w2, w3, w4⟩ := q2
  rw [Nat.min_eq_left hl] at q0
  have l1 : (ds0 ++ ds).length = ds0.length + n := by rw [List.length_append, q0]
  have l2 : es.length = ks.length := by
    rw [List.length_append, List.length_append, q0] at w3
    omega
  refine runW_fn G w1 w2 R2 (((r0.ext e1.toExt).ext e2.toExt).app (r1.ext e2.toExt)) r2 l1 l2 ?_ ((ok.step e1).step e2) x2
  rw [List.append_assoc]; exact w4
/-- f(.., k = ..) -/
theorem snd_callp {f : Nat} {ks : List Nat} {pl : Pl} {fx : Str} (G : GOk X M Z) (hl : PA X es (tWL Z X.K (l.tk n))) (hk : PK X kws (tWL Z X.K (l.dp n))) (hs : es.all notStar = true) (hg : Gl X fx) (hx : M.fn f = (fx, none)) (h1 : (fx == ("__debug__" : Str)) = false) (hn : kws.map (·.arg) = (kwN (M.ps f) n ks).map some) (hz : n ≤ l.len) (h0 : es = [] → n = 0) :
    PE X (.Call (.Name fx p) es kws pos) (tW Z X.K false (.op (.call f n ks pl) l)) := by
  refine ⟨fun pins st sg H Q I ⟨s, c, F, rh, Qm, Em, R, w, ok, x⟩ => ?_⟩
  unfold wpE at w
  have z := args_use (n := n) (ds0 := []) (fv := []) G R .nil hz (by rw [List.length_nil, Nat.zero_add]; exact w.2) ok x
  rw [List.length_nil, Nat.zero_add] at z
  refine wpAny_Call_Name_kw ?_
  obtain ⟨fd, k, g1, g2, g3, g4, g5, g6⟩ := (G.fn f w.1).ex
  have g1 := g1 (by rw [hx])
  rw [hx] at g1 g2
  refine ld_glob I hg g1 ?_ h1
  rw [hx] at z
  exact args_W (fv := []) (first := []) I .nil g2 hl hk hn hs (fun e0 sg H Q q => by
    rw [h0 e0] at q
    unfold IL.tk at q
    exact tWL_nil q) z
/-! methods -/
theorem form_ok (pos : Pos) {ks : List Str} (hs : es.all notStar = true) (hn : kws.map (·.arg) = ks.map some) (hl : es.length + kws.length < 29) : methodCallForm (es.length + kws.length) (backTo pos (starEach es X.env)) (backToKw pos (keywordEach kws X.env)) = true := by
  obtain ⟨k1, _, _⟩ := kw_all (X := X) (pos := pos) hn
  have h1 : (backTo pos (starEach es X.env)).all (fun x => !x.1) = true := by
    clear hl
    induction es with
    | nil => rfl
    | cons e r ih =>
      have h' : (notStar e && r.all notStar) = true := hs
      rw [Bool.and_eq_true] at h'
      rw [star_one h'.1]
      show (true && (backTo pos (starEach r X.env)).all (fun x => !x.1)) = true
      rw [ih h'.2]; rfl
  unfold methodCallForm
  rw [h1, k1]
  simp only [Bool.true_and, decide_eq_true_eq]
  split <;> omega
theorem pe_methW {ks : List Str} (ho : PE X o to) (ha : PA X es t) (hkw : PK X kws tk) (hb : attributeBase o name X.env (eval o X.env) = eval o X.env) (hline : (apos.endLine == cpos.line) = true) (hn : kws.map (·.arg) = ks.map some) (hs : es.all notStar = true) (hl : es.length + kws.length < 29)
    (h0 : es = [] → ∀ sg H Q, t sg H Q → Q [] H) : PE X (.Call (.Attribute o name apos) es kws cpos) (fun sg H Q => to sg H fun x H1 => ∃ a C dx fs f, x = .ref a ∧ H1 a = some (.ins C dx fs) ∧ Cls X.K C ∧ Meth X.K C name f ∧ fs.lookup name = none ∧
      t sg H1 fun vs H2 => tk sg H2 fun zs H3 => RunW X f ks (.ref a :: vs) zs sg H3 Q) := by
  refine ⟨fun pins st sg H Q I h => ?_⟩
  rw [arm_eval_Call, hb]
  refine wpAny_bind (thn (ho.run pins st sg H _ I h) fun v s1 ⟨x, H1, I1, r1, a, C, dx, fs, f, ex, ea, cl, me, lk, q⟩ => ?_)
  subst ex
  obtain rfl : v = Value.ref a := r1
  refine wpAny_bind (wpAny_standAt ?_)
  have hform := form_ok (X := X) cpos hs hn hl
  have hpos : methodCallPos true o X.env apos cpos = pure cpos := by unfold methodCallPos; simp [hline]
  unfold methodCall
  rw [hform]
  refine wpAny_bind (wpAny_holding (getmeth_ok I1 ea cl me lk ?_))
  exact wpAny_bind (PySem.wpAny_of_eq hpos (args_W (fv := [.ref a]) (first := [.ref a]) I1 (.cons rfl .nil) me.kp ha hkw hn hs h0 q))
theorem cls_rep (C : Ce X.K H F rh c) {v : V} {d : D} {k : Nat} (r : Rep X.K H F rh v d) (h : clsOfD c d = some k) : ∃ a dx gs, v = .ref a ∧ H a = some (.ins (cAd X.K k) dx gs) ∧ (∀ f : Str, (∀ n, atN n ≠ f) → gs.lookup f = none) := by
  unfold clsOfD at h
  cases q : insOf c d with
  | none => rw [q] at h; cases h
  | some p =>
    obtain ⟨k2, ns, xs⟩ := p
    rw [q] at h
    cases h
    obtain ⟨a, dx, vs, e1, e2, e3, e4⟩ := ins_rep C r q
    exact ⟨a, dx, _, e1, e2, fun f hf => look_ne hf⟩
theorem snd_mcall {m : Nat} {ks : List Nat} {pl : Pl} (G : GOk X M Z) (ho : PE X o (tW Z X.K false io)) (hl : PA X es (tWL Z X.K (l.tk n))) (hk : PK X kws (tWL Z X.K (l.dp n))) (hb : attributeBase o name X.env (eval o X.env) = eval o X.env) (hline : (apos.endLine == cpos.line) = true)
    (hs : es.all notStar = true) (hf : es.length + kws.length < 29) (hnm : name = mtN m) (hm : m ≠ 0) (hkw : kws.map (·.arg) = (kwN (M.mp m) (n + 1) ks).map some) (hz : n ≤ l.len) (h0 : es = [] → n = 0) :
    PE X (.Call (.Attribute o name apos) es kws cpos) (tW Z X.K false (.mcall m n ks pl io l)) := by
  refine PE.imp (pe_methW (ks := kwN (M.mp m) (n + 1) ks) ho hl hk hb hline hkw hs hf (fun e0 sg H Q q => by
    rw [h0 e0] at q
    unfold IL.tk at q
    exact tWL_nil q)) fun sg H Q ⟨s, c, F, rh, Qm, Em, R, w, ok, x⟩ => ?_
  unfold wpE at w
  refine tW.mk R w x fun d o s1 c1 v H1 F1 rh1 ⟨k, q1, q2, q3⟩ R1 e1 x1 r1 => ?_
  obtain ⟨a, dx, gs, rfl, g1, g2⟩ := cls_rep R1.toCe r1 q1
  have mth := G.cl.mth k m q2
  have z := args_use (n := n) (ds0 := [d]) (fv := [.ref a]) G R1 (.cons r1 .nil) hz (by rw [List.length_singleton, Nat.add_comm]; exact q3) (ok.step e1) x1
  rw [List.length_singleton, Nat.add_comm 1 n, mth.mp hm] at z
  exact ⟨a, _, dx, gs, _, rfl, g1, mth.cls, by rw [hnm]; exact mth.meth, g2 _ (by rw [hnm]; exact at_ne_mt mth.ne), z⟩
end
end Vm

/-! Vm: what is made, operators and comparisons of instances, isinstance, properties -/
namespace Vm
open PySem PySem.Spec L2
open PyProof.Rows hiding St
section
variable {X : Cx} {M : Nm} {Z : Sx} {H : Hp} {F : Fz} {rh : List Addr} {sh : L2.St} {s : List Sl} {c : Cl} {o a b e : Expr} {es : List Expr} {kws : List Keyword} {io ia ib : IE} {l il : IL} {apos cpos pos p : Pos} {t tk : TA} {to : TE} {name : Str} {n : Nat}
theorem wpOp2 {g : Gn} {t : Bool} {Q : QK} {E : EK} (w : wpE Z.C t (.op g (.cons ia (.cons ib .nil))) s c Q E) :
    wpE Z.C false ia s c (fun d _ s1 c1 => wpE Z.C false ib s1 c1 (fun d2 _ s2 c2 => opW Z.C g [d, d2] c2 (fun d o c3 => Qt t Q d o s2 c3) (fun ex c3 => E ex s2 c3)) E) E := by
  unfold wpE wpL wpL wpL at w
  exact w.2
/-- a method of k, called by the machine itself -/
theorem runM {k m n : Nat} {sg : L2.St} {Qm : QK} {Em : EK} {Q : VK} {d : D} {ds : List D} {v : V} {vs : List V} (G : GOk X M Z) (R : Rl X.K Z.H0 H F rh sg s c) (r : Rep X.K H F rh v d) (rs : RepL X.K H F rh vs ds)
    (w : methK Z.C k m n [] (idP (n + 1)) d ds c (fun d o c2 => Qm d o s c2) (fun ex c2 => Em ex s c2)) (ok : OkQ X.K Z.H0 sg H F rh s Qm Q) (x : OkX Z X.K sg H F rh s Em) : RunW X (fA X.K (M.fn (mtF k m))) [] (v :: vs) [] sg H Q := by
  obtain ⟨w1, w2, w3, w4, w5⟩ := w
  have z := runW_fn (es := []) (zs := []) G w2 w3 R (.cons r rs) .nil (by simpa using w4) rfl (by rw [List.append_nil]; exact w5) ok x
  exact z
theorem RunW.go {f : Addr} {vs : List V} {sg : L2.St} {Q : VK} (h : RunW X f [] vs [] sg H Q) {pins : List (Addr × Obj)} {st : Shared} {us : List Value} (I : Inv X pins sg H st) (r : Vals vs us) : wpAny (model X.prog X.w) X.A (call (.ref f) us) (EP X pins sg Q) X.xe st :=
  h pins st us [] I r .nil
theorem inst_at {C dx q : Addr} {gs : List (Str × V)} {pins : List (Addr × Obj)} {st : Shared} {sg : L2.St} (I : Inv X pins sg H st) (e : H q = some (.ins C dx gs)) : ∃ ob od, PySem.W.InstAt st.heap q ob C od := by
  obtain ⟨mA, O, _⟩ := ins_get I.hok e
  obtain ⟨od, J, _⟩ := O.look
  exact ⟨_, _, J⟩
theorem xe_of {m : Model} {A : Around} {α : Type} {x : Sem α} {Q Q' : α → Shared → Prop} {E : Value → Shared → Prop} {st : Shared} (h : wpAny m A x Q E st) (q : ∀ v s, Q v s → Q' v s) : wpAny m A x Q' E st := wpAny_mono h (fun v s => q v s) fun _ _ z => z
theorem cmpBack {Q : Value → Shared → Prop} {v : Value} {x : V} {s' : Shared} (r : RelV x v) (q : Q v s') : PySem.W.CmpBack Q v s' := by
  unfold PySem.W.CmpBack
  have ni : v ≠ .notImplemented := fun e => by
    subst e
    cases x <;> first | (cases (show Value.notImplemented = _ from r); done) | (obtain ⟨_, z⟩ := r; exact nomatch z)
  cases v <;> first | exact q | exact absurd rfl ni
theorem Res.blv {K : PySem.W.Frag} {H0 H : Hp} {F : Fz} {rh : List Addr} {O : Addr → Prop} {v : V} {b o : Bool} (r : Res K H0 H F rh O v (.bl b) o) : v = .bl b := by
  cases o with
  | false => exact Rep.bl_of r
  | true =>
    obtain ⟨a, ob, _, _, _, h, _⟩ := r
    exact (show False from h).elim
theorem okQ_bl {K : PySem.W.Frag} {H0 : Hp} {Qm : QK} {Q : VK} (g : Bool → Bool) (ok : OkQ K H0 sh H F rh s Qm Q) : OkQ K H0 sh H F rh s (fun d _ s' c' => ∃ b, d = .bl b ∧ Qm (.bl (g b)) false s' c') (fun v H' => ∃ b, v = .bl b ∧ Q (.bl (g b)) H') :=
  fun d o s' c' v H' F' rh' ⟨b, e, q⟩ rl ev rs => by
    subst e
    exact ⟨b, rs.blv, ok _ _ _ _ _ _ _ _ q rl ev (show Rep K H' F' rh' (.bl (g b)) (.bl (g b)) from .bl)⟩
/-! -x, ~x -/
theorem snd_unI {op : UnaryOp} (G : GOk X M Z) (ho : op = .USub ∨ op = .Invert) (ha : PE X a (tW Z X.K false ia)) : PE X (.UnaryOp op a pos) (tW Z X.K false (.op (.un op) (.cons ia .nil))) := by
  refine ⟨fun pins st sg H Q I ⟨s, c, F, rh, Qm, Em, R, w, ok, x⟩ => ?_⟩
  refine UnaryOp_ (thn (ha.run pins st sg H _ I (tW.mk (Q := fun v H1 => ∃ q C dx gs f, v = .ref q ∧ H1 q = some (.ins C dx gs) ∧ PySem.W.findIn X.K (.ref C) (if op = .USub then "__neg__" else "__invert__") = some (some (.ref f)) ∧ PySem.W.isFn X.K (.ref f) = true ∧ RunW X f [] [.ref q] [] sg H1 Q) R (wpOp1 w) x fun d o s1 c1 v H1 F1 rh1 ⟨k, m, q1, q2, q3⟩ R1 e1 x1 r1 => ?_)) fun v s1 ⟨x, H1, I1, r1, q, C, dx, gs, f, ex, ea, g1, g2, g3⟩ => ?_)
  · obtain ⟨q, dx, gs, rfl, ea, _⟩ := cls_rep R1.toCe r1 q1
    have mth := G.cl.mth k m q3.1
    refine ⟨q, _, dx, gs, _, rfl, ea, ?_, mth.meth.fn, runM G R1 r1 .nil q3 (ok.step e1) x1⟩
    rcases ho with rfl | rfl
    · cases q2; exact mth.meth.at_
    · cases q2; exact mth.meth.at_
  · subst ex
    cases r1
    obtain ⟨ob, od, J⟩ := inst_at I1 ea
    obtain ⟨m, hF⟩ := I1.fr
    rcases ho with rfl | rfl
    · exact PySem.W.ksp_neg hF I1.ok.mod.kin J g1 g2 (g3.go I1 (.cons rfl .nil))
    · exact PySem.W.ksp_inv hF I1.ok.mod.kin J g1 g2 (g3.go I1 (.cons rfl .nil))
/-! == where the left one is an instance -/
theorem sub_of {K : PySem.W.Frag} {t : Value} {C : Addr} {v : Bool} (hne : (t == Value.ref C) = false) (h : PySem.W.kitOne K t (.ref C) = some v) : PySem.W.subIn K t (.ref C) = some v := by
  unfold PySem.W.kitOne at h
  rw [if_neg (by rw [hne]; exact Bool.false_ne_true)] at h
  have h' : (if ((PySem.W.clsIn K C).isSome && PySem.W.typeIn K (.ref C) == some (.type "type")) = true then PySem.W.subIn K t (.ref C) else none) = some v := h
  split at h'
  · exact h'
  · cases h'
/-- the other operand's type, and that it is none below the class -/
theorem oth_rep (G : GOk X M Z) (C : Ce X.K H F rh c) {k : Nat} {v : V} {d : D} (r : Rep X.K H F rh v d) (h : othOk Z.C c k d) : ∃ t, TyX X.K H v t ∧ PySem.W.notFirst X.K (cAd X.K k) t = true := by
  unfold othOk at h
  cases q : clsOfD c d with
  | none =>
    rw [q] at h
    obtain ⟨h1, t, h2⟩ := h
    obtain ⟨g1, g2⟩ := ty_rep C r h2
    refine ⟨_, g1, ?_⟩
    have s := sub_of (by rfl) ((G.cl.isn k h1).2 t g2)
    unfold PySem.W.notFirst
    rw [s]; rfl
  | some k2 =>
    rw [q] at h
    obtain ⟨q0, dx, gs, rfl, ea, _⟩ := cls_rep C r q
    obtain ⟨ci, kt⟩ := G.cl.isi k2 k h.1
    refine ⟨_, .base (.ins ea ci.cls ci.ha ci.hn ci.htk ci.hm), ?_⟩
    unfold PySem.W.notFirst
    by_cases e : cAd X.K k2 = cAd X.K k
    · rw [e]; simp
    · rcases h.2 with z | z
      · subst z; exact absurd rfl e
      · rw [z] at kt
        rw [sub_of (by simpa using e) kt]; simp
theorem eq_run {k : Nat} {sg : L2.St} {Q : VK} {d1 d2 : D} {v u : V} {Qm : QK} {Em : EK} (G : GOk X M Z) (R : Rl X.K Z.H0 H F rh sg s c) (r1 : Rep X.K H F rh v d1) (r2 : Rep X.K H F rh u d2) (hc : clsOfD c d1 = some k) (ho : othOk Z.C c k d2)
    (w : methK Z.C k 1 1 [] (idP 2) d1 [d2] c (fun d o c2 => Qm d o s c2) (fun ex c2 => Em ex s c2)) (ok : OkQ X.K Z.H0 sg H F rh s Qm Q) (x : OkX Z X.K sg H F rh s Em)
    {pins : List (Addr × Obj)} {st : Shared} {x1 x2 : Value} (I : Inv X pins sg H st) (rx : RelV v x1) (ry : RelV u x2) : wpAny (model X.prog X.w) X.A (richCompare .Eq x1 x2) (EP X pins sg Q) X.xe st := by
  obtain ⟨q, dx, gs, rfl, ea, _⟩ := cls_rep R.toCe r1 hc
  cases rx
  obtain ⟨t, ty, nf⟩ := oth_rep G R.toCe r2 ho
  obtain ⟨P, kx, p, _⟩ := kit_of I ry ty
  obtain ⟨ob, od, J⟩ := inst_at I ea
  obtain ⟨m, hF⟩ := I.fr
  have mth := G.cl.mth k 1 w.1
  have hu := G.hu
  have run := (runM G R r1 (.cons r2 .nil) w ok x).go I (.cons rfl (.cons ry .nil))
  refine PySem.W.cmp_K (op := .Eq) (by omega) hF I.ok.mod.kin J (kx.ty _ _ I.kIn p) nf mth.meth.at_ mth.meth.fn (xe_of run fun v s' ⟨z, H', I', rz, q⟩ => cmpBack rz ⟨z, H', I', rz, q⟩)
theorem snd_eqI (G : GOk X M Z) (ha : PE X a (tW Z X.K false ia)) (hb : PE X b (tW Z X.K false ib)) (hm : behindInMarks .Eq b = false) : PE X (.Compare a [.Eq] [b] pos) (tW Z X.K false (.op .eqI (.cons ia (.cons ib .nil)))) := by
  refine ⟨fun pins st sg H Q I ⟨s, c, F, rh, Qm, Em, R, w, ok, x⟩ => ?_⟩
  refine wpAny_Compare1 (thn (ha.run pins st sg H _ I (tW.mk (Q := fun v H1 => ∀ pins st y, Inv X pins sg H1 st → RelV v y → wpAny (model X.prog X.w) X.A (eval b X.env) (fun z st2 => wpAny (model X.prog X.w) X.A (compareOp .Eq y z) (EP X pins sg Q) X.xe st2) X.xe st) R (wpOp2 w) x fun d o s1 c1 v H1 F1 rh1 q1 R1 e1 x1 r1 => ?_)) fun v s1 ⟨x, H1, I1, r1, q⟩ => q pins s1 v I1 r1) hm
  intro pins st y I1 ry
  refine thn (hb.run pins st sg H1 _ I1 (tW.mk (Q := fun u H2 => ∀ pins st z, Inv X pins sg H2 st → RelV u z → wpAny (model X.prog X.w) X.A (compareOp .Eq y z) (EP X pins sg Q) X.xe st) R1 q1 x1 fun d2 o2 s2 c2 u H2 F2 rh2 ⟨k, q2, q3, q4⟩ R2 e2 x2 r2 => ?_)) fun z s2 ⟨u, H2, I2, r2, q⟩ => q pins s2 z I2 r2
  intro pins st z I2 rz
  exact xe_of (eq_run (Qm := fun d o s' c' => ∃ b, d = .bl b ∧ Qm (.bl b) false s' c') G R2 (r1.ext e2.toExt) r2 q2 q3 q4 (okQ_bl id ((ok.step e1).step e2)) x2 I2 ry rz) fun v s' ⟨w, H', I', rw_, b, e, q⟩ => by
    subst e
    exact ⟨_, H', I', rw_, q⟩
end
end Vm

/-! Vm: != of instances by their ==; properties -/
namespace Vm
open PySem PySem.Spec L2
open PyProof.Rows hiding St
section
open PySem.W
variable {prog : Program} {w : World} {M : Model} {A : Around} {E : Value → Shared → Prop} {s : Shared} {K : Frag} {x C f : Addr} {ox : Obj} {od : Option Obj}
theorem ifBound_ne {args : List Value} {Q : Option Value → Shared → Prop} (X : K.In s.heap) (I : InstAt s.heap x ox C od) (hs : findIn K (.ref C) "__ne__" = some (some (.builtin "object.__ne__")))
    (h : wpAny M A (call (.builtin "object.__ne__") (.ref x :: args)) (fun v => Q (some v)) E s) : wpAny M A (callSpecialIfBound? (.ref x) "__ne__" args) Q E s := by
  simp only [callSpecialIfBound?, bindSpecialIfBound?]
  refine wpAny_holding (wpAny_bind (wpAny_bind (wpAny_bind (I.type.here ((looks_findIn X hs).here ?_)))))
  simp only [F.cmp_object.ne.bind]
  refine wpAny_bind (wpAny_askSetting (wpAny_ite ?_))
  have fin : wpAny M A (call (.builtin "object.__ne__") ([.ref x] ++ args) >>= fun v => pure (some v)) Q E s := wpAny_bind (wpAny_mono h (fun v s' h' => wpAny_pure h') fun _ _ h' => h')
  split
  · exact wpAny_bind (wpAny_pure (wpAny_pure fin))
  · exact wpAny_tryCatch (wpAny_bind (wpAny_pure (wpAny_pure fin)))
theorem ne_K {b tb : Value} {Q : Value → Shared → Prop} (hu : A.units + 2 < cLine) (X : K.In s.heap) (I : InstAt s.heap x ox C od) (hb : Looks (model prog w) s.heap (typeOf b) tb) (hn : notFirst K C tb = true)
    (hne : findIn K (.ref C) "__ne__" = some (some (.builtin "object.__ne__"))) (hm : mroIn K C (.type "object") = some true) (hs : findIn K (.ref C) "__eq__" = some (some (.ref f))) (hf : isFn K (.ref f) = true)
    (h : codeAny (model prog w) A.in1 (.call (.ref f) ⟨[.ref x, b], []⟩) (fun r s' => ∃ k, r = .ok (.ret (.bool k)) ∧ Q (.bool (!k)) s') s) : wpAny (model prog w) A (richCompare .NotEq (.ref x) b) Q E s := by
  have sub : Looks (model prog w) s.heap (isInstance (.ref x) (.type "object")) true := I.type.andThen (looks_mroIn X hm)
  have one : wpAny (model prog w) A (tryCompare (.ref x) "__ne__" b) (fun r s' => ∃ v, r = some v ∧ Q v s') E s := by
    unfold tryCompare
    refine wpAny_bind (ifBound_ne X I hne (wpAny_call (codeAny_call_builtin F.cmp_object.ne.plain F.cmpEntry_ne (@check_slot (model prog w) _ _ s "object.__ne__" "object" "__ne__" (.ref x) [b] [] _ F.cmpKind_ne F.cmpSplit_ne sub (F.cmpArgs_ne _ _) ?_))))
    unfold Builtin.«object.__ne__»
    obtain ⟨hh, g, d, tk, os⟩ := s
    repeat (first | with_reducible refine wpAny_cRoomFor (show A.in1.units < cLine by show A.units + 1 < _; omega) ?_ | (with_reducible refine ifBound_K X I hs hf ?_) | wp_step)
    refine codeAny_mono h fun r s' ⟨k, e, q⟩ => ?_
    subst e
    obtain ⟨h2, g2, d2, tk2, os2⟩ := s'
    repeat (first | with_reducible refine wpAny_truthy_bool ?_ | wp_step)
    exact ⟨_, rfl, q⟩
  unfold richCompare
  simp only [oneThing_ref]
  refine wpAny_holding (wpAny_bind (wpAny_cRoomFor (by omega) ?_))
  refine wpAny_bind (I.type.here (wpAny_bind (hb.here ?_)))
  split
  · rename_i q
    have e : subIn K tb (.ref C) = some false := by
      rcases Bool.or_eq_true_iff.mp hn with e | e
      · rw [beq_iff_eq.mp e] at q; simp at q
      · exact beq_iff_eq.mp e
    refine wpAny_bind ((looks_subIn X e).here ?_)
    simp only [Bool.false_eq_true, if_false]
    refine wpAny_bind (wpAny_mono one (fun r s' z => ?_) fun _ _ e => e)
    obtain ⟨v, rfl, hq⟩ := z
    exact wpAny_pure hq
  · refine wpAny_bind (wpAny_pure ?_)
    simp only [Bool.false_eq_true, if_false]
    refine wpAny_bind (wpAny_mono one (fun r s' z => ?_) fun _ _ e => e)
    obtain ⟨v, rfl, hq⟩ := z
    exact wpAny_pure hq
end
section
variable {X : Cx} {M : Nm} {Z : Sx} {H : Hp} {F : Fz} {rh : List Addr} {sh : L2.St} {s : List Sl} {c : Cl} {o a b e : Expr} {es : List Expr} {kws : List Keyword} {io ia ib : IE} {l il : IL} {apos cpos pos p : Pos} {t tk : TA} {to : TE} {name : Str} {n : Nat}
/-- one frame of the machine deeper, where nothing is raised -/
theorem runIn1 {k m n : Nat} {sg : L2.St} {Qm : QK} {Q : VK} {d : D} {ds : List D} {v : V} {vs : List V} (G : GOk X M Z) (R : Rl X.K Z.H0 H F rh sg s c) (r : Rep X.K H F rh v d) (rs : RepL X.K H F rh vs ds)
    (w : callW Z.C (mtF k m) (n + 1) [] (idP (n + 1)) (d :: ds) c (fun d o c2 => Qm d o s c2) (fun _ _ => False)) (ok : OkQ X.K Z.H0 sg H F rh s Qm Q) {pins : List (Addr × Obj)} {st : Shared} {us : List Value} (I : Inv X pins sg H st) (ru : Vals (v :: vs) us) :
    codeAny (model X.prog X.w) X.A.in1 (.call (.ref (fA X.K (M.fn (mtF k m)))) ⟨us, []⟩) (fun r s' => ∃ u, r = .ok (.ret u) ∧ EP X pins sg Q u s') st := by
  obtain ⟨w2, w3, w4, w5⟩ := w
  obtain ⟨fd, j, g1, g2, g3, g4, g5, g6⟩ := (G.fn _ w2).ex
  obtain ⟨g, gV, kb, kr⟩ := g6 _ _ _ w3
  have l1 : (d :: ds).length = n + 1 := by simpa using w4
  have hr : Room j X.A.in1 := (g5.mono (show j + 1 ≤ j + 2 by omega)).in1
  have sp : spF Z.S X.K (Z.C.fn (mtF k m)) (gV (v :: vs) []) H Q (fun _ _ _ => False) :=
    ⟨_, c, F, rh, _, _, kr H F rh (v :: vs) [] (d :: ds) [] (.cons r rs) .nil l1 rfl, R.toCe, by rw [List.append_nil]; exact w5, fun d o c' v H' F' rh' q C e rs => by
      obtain ⟨R2, e2⟩ := R.after C e
      exact ok d o s c' v H' F' rh' q R2 e2 (rs.ofCall R), fun ex c' cls da H' F' rh' q => False.elim q⟩
  have lv : (v :: vs).length = n + 1 := (RepL.cons r rs).len.trans l1
  have e0 := I.env0
  refine codeAny_mono (g4.go X.A.in1 X.stack st H ⟨us, []⟩ _ _ Q (fun _ _ _ => False) hr G.gd e0.in1 (kb.to st us [] I.kIn (ru.length.symm.trans lv) rfl) (kb.rel ru .nil) sp) fun r s' hq => ?_
  cases r with
  | error er =>
    obtain ⟨_, _, _, _, _, _, _, _, _, _, _, _, z⟩ := (show L2.CX X.prog X.w X.stack H st (fun _ _ _ => False) er s' from hq)
    exact z.elim
  | ok fl =>
    cases fl with
    | ret u => exact ⟨u, rfl, I.after hq⟩
    | next => exact False.elim hq
    | brk => exact False.elim hq
    | cont => exact False.elim hq
theorem cmp2 {op : CmpOp} {g : Gn} (ha : PE X a (tW Z X.K false ia)) (hb : PE X b (tW Z X.K false ib)) (hm : behindInMarks op b = false)
    (h : ∀ (sg : L2.St) (H : Hp) (F : Fz) (rh : List Addr) (s : List Sl) (c : Cl) (Qm : QK) (Em : EK) (Q : VK) (d d2 : D) (v u : V), Rl X.K Z.H0 H F rh sg s c → Rep X.K H F rh v d → Rep X.K H F rh u d2 → opW Z.C g [d, d2] c (fun d o c3 => Qm d o s c3) (fun ex c3 => Em ex s c3) → OkQ X.K Z.H0 sg H F rh s Qm Q → OkX Z X.K sg H F rh s Em →
      ∀ (pins : List (Addr × Obj)) (st : Shared) (y z : Value), Inv X pins sg H st → RelV v y → RelV u z → wpAny (model X.prog X.w) X.A (compareOp op y z) (EP X pins sg Q) X.xe st) :
    PE X (.Compare a [op] [b] pos) (tW Z X.K false (.op g (.cons ia (.cons ib .nil)))) := by
  refine ⟨fun pins st sg H Q I ⟨s, c, F, rh, Qm, Em, R, w, ok, x⟩ => ?_⟩
  refine wpAny_Compare1 (thn (ha.run pins st sg H _ I (tW.mk (Q := fun v H1 => ∀ pins st y, Inv X pins sg H1 st → RelV v y → wpAny (model X.prog X.w) X.A (eval b X.env) (fun z st2 => wpAny (model X.prog X.w) X.A (compareOp op y z) (EP X pins sg Q) X.xe st2) X.xe st) R (wpOp2 w) x fun d o s1 c1 v H1 F1 rh1 q1 R1 e1 x1 r1 => ?_)) fun v s1 ⟨x, H1, I1, r1, q⟩ => q pins s1 v I1 r1) hm
  intro pins st y I1 ry
  refine thn (hb.run pins st sg H1 _ I1 (tW.mk (Q := fun u H2 => ∀ pins st z, Inv X pins sg H2 st → RelV u z → wpAny (model X.prog X.w) X.A (compareOp op y z) (EP X pins sg Q) X.xe st) R1 q1 x1 fun d2 o2 s2 c2 u H2 F2 rh2 q2 R2 e2 x2 r2 => ?_)) fun z s2 ⟨u, H2, I2, r2, q⟩ => q pins s2 z I2 r2
  intro pins st z I2 rz
  exact h sg H2 F2 rh2 s2 c2 Qm Em Q d d2 v u R2 (r1.ext e2.toExt) r2 q2 ((ok.step e1).step e2) x2 pins st y z I2 ry rz
theorem snd_neI (G : GOk X M Z) (ha : PE X a (tW Z X.K false ia)) (hb : PE X b (tW Z X.K false ib)) (hm : behindInMarks .NotEq b = false) : PE X (.Compare a [.NotEq] [b] pos) (tW Z X.K false (.op .neI (.cons ia (.cons ib .nil)))) := by
  refine cmp2 ha hb hm fun sg H F rh s c Qm Em Q d d2 v u R r1 r2 ⟨k, q2, q5, q3, q4⟩ ok x pins st y z I rx ry => ?_
  obtain ⟨q, dx, gs, rfl, ea, _⟩ := cls_rep R.toCe r1 q2
  cases rx
  obtain ⟨t, ty, nf⟩ := oth_rep G R.toCe r2 q3
  obtain ⟨P, kx, p, _⟩ := kit_of I ry ty
  obtain ⟨ob, od, J⟩ := inst_at I ea
  have mth := G.cl.mth k 1 q4.1
  obtain ⟨n1, n2⟩ := G.cl.ne k q5
  have hu := G.hu
  refine ne_K (by omega) I.kIn J (kx.ty _ _ I.kIn p) nf n1 n2 mth.meth.at_ mth.meth.fn (codeAny_mono (runIn1 (Qm := fun d o s' c' => ∃ b, d = .bl b ∧ Qm (.bl (!b)) false s' c') G R r1 (.cons r2 .nil) q4.2 (okQ_bl (fun b => !b) ok) I (.cons rfl (.cons ry .nil))) fun r s' ⟨w, e, hq⟩ => ?_)
  obtain ⟨w2, H', I', rw_, b, e2, q⟩ := hq
  subst e2
  cases rw_
  exact ⟨b, e, V.bl (!b), H', I', rfl, q⟩
/-! a property -/
theorem snd_prp {m : Nat} {nm : Str} (G : GOk X M Z) (ho : PE X o (tW Z X.K false io)) (hn : nm = mtN m) (hb : attributeBase o nm X.env (eval o X.env) = eval o X.env) : PE X (.Attribute o nm pos) (tW Z X.K false (.op (.prp m) (.cons io .nil))) := by
  refine ⟨fun pins st sg H Q I ⟨s, c, F, rh, Qm, Em, R, w, ok, x⟩ => ?_⟩
  refine attr_of hb (thn (ho.run pins st sg H _ I (tW.mk (Q := fun v H1 => ∀ pins st y, Inv X pins sg H1 st → RelV v y → wpAny (model X.prog X.w) X.A (getAttr y nm true) (EP X pins sg Q) X.xe st) R (wpOp1 w) x fun d o s1 c1 v H1 F1 rh1 ⟨k, q1, q2, q3⟩ R1 e1 x1 r1 => ?_)) fun v s1 ⟨x, H1, I1, r1, q⟩ => q pins s1 v I1 r1)
  intro pins st y I1 ry
  obtain ⟨q, dx, gs, rfl, ea, _⟩ := cls_rep R1.toCe r1 q1
  cases ry
  obtain ⟨cl, pr, hp⟩ := G.cl.prp k m q2
  obtain ⟨mA, O, _, _, _, _⟩ := ins_get I1.hok ea
  obtain ⟨od, J, _⟩ := O.look
  obtain ⟨rest, hrec⟩ := hp.rec_
  have hc : (PySem.W.clsIn X.K (cAd X.K k)).isSome = true := by
    obtain ⟨cd, hc, _⟩ := PySem.W.any_some cl.hd
    rw [hc]; rfl
  subst hn
  refine PySem.W.get_bind I1.kIn J (PySem.W.plainGet_of (cl.get (mtN m))).1 (PySem.W.findObj_data hc hp.at_ hp.get hp.tak) (PySem.W.plainGet_of (cl.get (mtN m))).2 (wpAny_call (PySem.W.prop_get (s := { st with toks := st.toks + 1 }) I1.kIn hrec ?_))
  refine codeAny_mono (runIn1 (Qm := Qm) G R1 r1 .nil q3 (ok.step e1) (I1.tok (st.toks + 1)) (.cons rfl .nil)) fun r s' ⟨u, e, hq⟩ => ?_
  subst e
  obtain ⟨v, H', I3, rv, q3⟩ := hq
  show wpAny _ _ (handedOut u) _ _ _
  rw [PySem.W.handedOut_of (handed_of rv)]
  exact wpAny_pure ⟨v, H', I3, rv, q3⟩
/-! isinstance(x, C) -/
theorem snd_isc {j : Nat} {p2 p3 : Pos} (G : GOk X M Z) (ha : PE X a (tW Z X.K false ia)) (hg : Gl X "isinstance") (hgT : Gl X (clsN j)) (hs : notStar a = true) (hd : (clsN j == ("__debug__" : Str)) = false) :
    PE X (.Call (.Name "isinstance" p3) [a, .Name (clsN j) p2] [] pos) (tW Z X.K false (.op (.isc j) (.cons ia .nil))) := by
  refine ⟨fun pins st sg H Q I ⟨s, c, F, rh, Qm, Em, R, w, ok, x⟩ => ?_⟩
  have hN := (show opOk Z.C (.isc j) = true from (by unfold wpE at w; exact w.1))
  obtain ⟨mc, kt⟩ := G.cl.isn j hN
  have pT : PE X (.Name (clsN j) p2) (tC (.ref (cAd X.K j))) := pe_glob hgT mc rfl hd
  have pa : PA X [a, .Name (clsN j) p2] (tCons (tW Z X.K false ia) (tCons (tC (.ref (cAd X.K j))) tNil)) := pa_cons ha (pa_cons pT pa_nil rfl) (star_one hs)
  refine (pe_callB call_isi hg G.isi (by decide +kernel) pa (by decide) (by decide) (star_one hs) rfl).run pins st sg H Q I ?_
  refine tW.mk R (wpOp1 w) x fun d o s1 c1 v H1 F1 rh1 ⟨q1, b, q2, q3⟩ R1 e1 x1 r1 => ?_
  unfold iscD at q2
  cases qi : insOf c1 d with
  | none =>
    rw [qi] at q2
    cases qt : tyD c1 d with
    | none => rw [qt] at q2; cases q2
    | some t =>
      rw [qt] at q2
      cases q2
      obtain ⟨g1, g2⟩ := ty_rep R1.toCe r1 qt
      exact ⟨v, _, _, _, false, rfl, .own _, g1, kt t g2, (ok.step e1).shr R1 .bl q3⟩
  | some p =>
    obtain ⟨k, ns, xs⟩ := p
    rw [qi] at q2
    cases q2
    have hk : clsOfD c1 d = some k := by unfold clsOfD; rw [qi]; rfl
    obtain ⟨q0, dx, gs, rfl, ea, _⟩ := cls_rep R1.toCe r1 hk
    obtain ⟨ci, kt2⟩ := G.cl.isi k j (q1 k hk)
    exact ⟨_, _, _, _, subC k j, rfl, .own _, .base (.ins ea ci.cls ci.ha ci.hn ci.htk ci.hm), kt2, (ok.step e1).shr R1 .bl q3⟩
end
end Vm

/-! Vm: instances are made; operators of two instances, of an instance and a number -/
namespace Vm
open PySem PySem.Spec L2
open PyProof.Rows hiding St
/-! ### cells below a bound -/
mutual
def belowD (n : Nat) : D → Bool
  | .tup xs | .lst xs | .ins _ _ xs | .dic _ xs | .scr xs => belowL n xs
  | .cell m => decide (m < n)
  | .non | .bl _ | .int _ | .str _ | .cls _ => true
def belowL (n : Nat) : List D → Bool
  | [] => true
  | x :: xs => belowD n x && belowL n xs
end
section
variable {K : PySem.W.Frag} {H H' : Hp} {F F' : Fz} {rh rh' : List Addr} {c : Cl}
mutual
theorem Rep.bnd : ∀ {v : V} {d : D}, Rep K H F rh v d → belowD rh.length d = true
  | _, _, .non => rfl
  | _, _, .bl => rfl
  | _, _, .int => rfl
  | _, _, .str => rfl
  | _, _, .cls => rfl
  | _, _, .tup _ r => by unfold belowD; exact RepL.bnd r
  | _, _, .lst _ r => by unfold belowD; exact RepL.bnd r
  | _, _, .scr _ r => by unfold belowD; exact RepL.bnd r
  | _, _, .ins _ r => by unfold belowD; exact RepL.bnd r
  | _, _, .dic _ r => by unfold belowD; exact RepL.bnd r
  | _, _, .cell h => by unfold belowD; exact decide_eq_true (List.getElem?_eq_some_iff.mp h).1
theorem RepL.bnd : ∀ {vs : List V} {ds : List D}, RepL K H F rh vs ds → belowL rh.length ds = true
  | _, _, .nil => rfl
  | _, _, .cons h r => by unfold belowL; rw [Rep.bnd h, RepL.bnd r]; rfl
end
mutual
theorem Rep.fall {n : Nat} (h : ∀ m, m < n → rh'[m]? = rh[m]?) : ∀ {v : V} {d : D}, Rep K H F rh v d → belowD n d = true → Rep K H F rh' v d
  | _, _, .non, _ => .non
  | _, _, .bl, _ => .bl
  | _, _, .int, _ => .int
  | _, _, .str, _ => .str
  | _, _, .cls, _ => .cls
  | _, _, .tup q r, b => .tup q (RepL.fall h r (by unfold belowD at b; exact b))
  | _, _, .lst q r, b => .lst q (RepL.fall h r (by unfold belowD at b; exact b))
  | _, _, .scr q r, b => .scr q (RepL.fall h r (by unfold belowD at b; exact b))
  | _, _, .ins q r, b => .ins q (RepL.fall h r (by unfold belowD at b; exact b))
  | _, _, .dic q r, b => .dic q (RepL.fall h r (by unfold belowD at b; exact b))
  | _, _, .cell q, b => .cell (by unfold belowD at b; rw [h _ (of_decide_eq_true b)]; exact q)
theorem RepL.fall {n : Nat} (h : ∀ m, m < n → rh'[m]? = rh[m]?) : ∀ {vs : List V} {ds : List D}, RepL K H F rh vs ds → belowL n ds = true → RepL K H F rh' vs ds
  | _, _, .nil, _ => .nil
  | _, _, .cons q r, b => by
    unfold belowL at b
    rw [Bool.and_eq_true] at b
    exact .cons (Rep.fall h q b.1) (RepL.fall h r b.2)
end
mutual
theorem flat_below : ∀ {d : D}, flatD d = true → ∀ n, belowD n d = true
  | .non, _, _ => rfl
  | .bl _, _, _ => rfl
  | .int _, _, _ => rfl
  | .str _, _, _ => rfl
  | .cls _, _, _ => rfl
  | .tup _, h, n => by unfold flatD at h; unfold belowD; exact flatL_below h n
  | .lst _, h, n => by unfold flatD at h; unfold belowD; exact flatL_below h n
  | .ins _ _ _, h, n => by unfold flatD at h; unfold belowD; exact flatL_below h n
  | .dic _ _, h, n => by unfold flatD at h; unfold belowD; exact flatL_below h n
  | .cell _, h, _ => by unfold flatD at h; cases h
  | .scr _, h, _ => by unfold flatD at h; cases h
theorem flatL_below : ∀ {ds : List D}, flatL ds = true → ∀ n, belowL n ds = true
  | [], _, _ => rfl
  | _ :: _, h, n => by
    unfold flatL at h
    rw [Bool.and_eq_true] at h
    unfold belowL
    rw [flat_below h.1 n, flatL_below h.2 n]; rfl
end
theorem ObjD.bnd {o : HO} {d : D} (h : ObjD K H F rh o d) : belowD rh.length d = true := by
  cases d with
  | lst ds => obtain ⟨vs, _, r⟩ := h; unfold belowD; exact r.bnd
  | ins k ns ds => obtain ⟨dx, vs, _, _, r⟩ := h; unfold belowD; exact r.bnd
  | dic ks ds => obtain ⟨vs, _, _, r⟩ := h; unfold belowD; exact r.bnd
  | _ => exact h.elim
theorem ObjD.fall {n : Nat} {o : HO} {d : D} (h : ∀ m, m < n → rh'[m]? = rh[m]?) (x : ObjD K H F rh o d) (b : belowD n d = true) : ObjD K H F rh' o d := by
  cases d with
  | lst ds => obtain ⟨vs, e, r⟩ := x; unfold belowD at b; exact ⟨vs, e, r.fall h b⟩
  | ins k ns ds => obtain ⟨dx, vs, e, l, r⟩ := x; unfold belowD at b; exact ⟨dx, vs, e, l, r.fall h b⟩
  | dic ks ds => obtain ⟨vs, e, l, r⟩ := x; unfold belowD at b; exact ⟨vs, e, l, r.fall h b⟩
  | _ => exact x.elim
theorem Ce.bnd (C : Ce K H F rh c) {d : D} (h : d ∈ c) : belowD rh.length d = true := by
  obtain ⟨n, hn, e⟩ := List.mem_iff_getElem.mp h
  have hr : n < rh.length := by rw [C.len]; exact hn
  obtain ⟨o, _, x⟩ := C.ob n rh[n] d (List.getElem?_eq_getElem hr) (by rw [List.getElem?_eq_getElem hn, e])
  exact x.bnd
/-! ### a cell is laid for what is made -/
def hpNew (H : Hp) (x dx : Addr) (C : Addr) : Hp := upd (upd H dx (.own x)) x (.ins C dx [])
theorem hpNew_old {x dx C a : Addr} {o : HO} (hx : H x = none) (hd : H dx = none) (h : H a = some o) : hpNew H x dx C a = some o := by
  unfold hpNew
  rw [upd_ne (ne_of_none h hx), upd_ne (ne_of_none h hd)]; exact h
theorem ext_make {x dx C : Addr} (hx : H x = none) (hd : H dx = none) : Ext H F rh (hpNew H x dx C) F (rh ++ [x]) :=
  ⟨fun _ h => h, fun a o _ h => .inl (hpNew_old hx hd h), fun n a h => by rw [List.getElem?_append_left (List.getElem?_eq_some_iff.mp h).1]; exact h⟩
theorem Ce.notin (C : Ce K H F rh c) {x : Addr} (hx : H x = none) : x ∉ rh := fun z => by
  obtain ⟨n, hn, e⟩ := List.mem_iff_getElem.mp z
  have hc : n < c.length := by rw [← C.len]; exact hn
  obtain ⟨o, g, _⟩ := C.ob n x c[n] (by rw [List.getElem?_eq_getElem hn, e]) (List.getElem?_eq_getElem hc)
  rw [hx] at g; cases g
theorem ce_make {x dx k : Nat} (C : Ce K H F rh c) (hx : H x = none) (hd : H dx = none) (hne : dx ≠ x) : Ce K (hpNew H x dx (cAd K k)) F (rh ++ [x]) (c ++ [.ins k [] []]) := by
  have ex : Ext H F rh (hpNew H x dx (cAd K k)) F (rh ++ [x]) := ext_make hx hd
  have ni := C.notin hx
  refine ⟨by rw [List.length_append, List.length_append, C.len]; rfl, ?_, fun n a d g1 g2 => ?_, fun a ha f => ?_, fun a f z => ?_⟩
  · rw [List.nodup_append]
    exact ⟨C.nd, by simp, fun u hu y hy z => by
      simp only [List.mem_singleton] at hy
      subst hy; subst z; exact ni hu⟩
  · by_cases hl : n < rh.length
    · rw [List.getElem?_append_left hl] at g1
      rw [List.getElem?_append_left (by rw [← C.len]; exact hl)] at g2
      obtain ⟨o, q1, q2⟩ := C.ob n a d g1 g2
      exact ⟨o, hpNew_old hx hd q1, q2.ext ex⟩
    · rw [List.getElem?_append_right (by omega)] at g1
      rw [List.getElem?_append_right (by rw [← C.len]; omega), ← C.len] at g2
      cases hz : n - rh.length with
      | zero =>
        rw [hz] at g1 g2
        cases g1; cases g2
        exact ⟨_, (by unfold hpNew; exact upd_same), dx, [], rfl, rfl, .nil⟩
      | succ m => rw [hz] at g1; simp at g1
  · rcases List.mem_append.mp ha with z | z
    · exact C.nf a z f
    · simp only [List.mem_singleton] at z
      subst z; exact C.ft _ f hx
  · cases q : H a with
    | none => exact C.ft a f q
    | some o => rw [hpNew_old hx hd q] at z; cases z
theorem ev_make {x dx C : Addr} (hx : H x = none) (hd : H dx = none) : Ev H F rh O0 (hpNew H x dx C) F (rh ++ [x]) O0 :=
  ⟨ext_make hx hd, fun a h z => by
    cases q : H a with
    | none => exact h q
    | some o => rw [hpNew_old hx hd q] at z; exact (nomatch z), fun a o g1 g2 g3 g4 => ⟨hpNew_old hx hd g1, g2, fun z => by
    rcases List.mem_append.mp z with z | z
    · exact g3 z
    · simp only [List.mem_singleton] at z
      subst z; rw [hx] at g1; exact (nomatch g1), fun z => z⟩⟩
theorem rh_last {x : Addr} {d : D} {H2 : Hp} (C' : Ce K H' F' rh' (c ++ [d])) (C : Ce K H F rh c) (e : Ext H2 F (rh ++ [x]) H' F' rh') : rh' = rh'.dropLast ++ [x] ∧ rh'.dropLast.length = rh.length ∧ ∀ m, m < rh.length → rh'.dropLast[m]? = rh'[m]? := by
  have hl : rh'.length = rh.length + 1 := by rw [C'.len, List.length_append, C.len]; rfl
  have hx : rh'[rh.length]? = some x := e.cel _ _ (by rw [List.getElem?_append_right (Nat.le_refl _)]; simp)
  have h1 : rh'.dropLast.length = rh.length := by rw [List.length_dropLast, hl]; rfl
  refine ⟨?_, h1, fun m hm => by rw [List.getElem?_dropLast, if_pos (by omega)]⟩
  refine List.ext_getElem? fun n => ?_
  by_cases hn : n < rh.length
  · rw [List.getElem?_append_left (by omega), List.getElem?_dropLast, if_pos (by omega)]
  · by_cases hn2 : n = rh.length
    · subst hn2
      rw [hx, List.getElem?_append_right (by omega), h1]; simp
    · rw [List.getElem?_eq_none (by omega), List.getElem?_eq_none (by rw [List.length_append, h1]; simp; omega)]
/-- the last cell is given up -/
theorem Ce.pop {d : D} {x : Addr} {H2 : Hp} (C' : Ce K H' F' rh' (c ++ [d])) (C : Ce K H F rh c) (e : Ext H2 F (rh ++ [x]) H' F' rh') : Ce K H' F' rh'.dropLast c := by
  obtain ⟨e1, e2, e3⟩ := rh_last C' C e
  refine ⟨by rw [e2, C.len], C'.nd.sublist (List.dropLast_sublist _), fun n a y g1 g2 => ?_, fun a ha => C'.nf a (List.dropLast_subset _ ha), C'.ft⟩
  have hn : n < c.length := (List.getElem?_eq_some_iff.mp g2).1
  obtain ⟨o, q1, q2⟩ := C'.ob n a y (by rw [← e3 n (by rw [C.len]; exact hn)]; exact g1) (by rw [List.getElem?_append_left hn]; exact g2)
  exact ⟨o, q1, q2.fall e3 (C.bnd (List.mem_of_getElem? g2))⟩
theorem Ev.pop {d : D} {x dx C0 : Addr} (hx : H x = none) (hd : H dx = none) (C' : Ce K H' F' rh' (c ++ [d])) (C : Ce K H F rh c) (e : Ev (hpNew H x dx C0) F (rh ++ [x]) O0 H' F' rh' O0) : Ev H F rh O0 H' F' rh'.dropLast O0 := by
  obtain ⟨e1, e2, e3⟩ := rh_last C' C e.toExt
  have e0 := (ev_make (F := F) (rh := rh) (C := C0) hx hd).trans e
  refine ⟨⟨e0.frz, e0.stab, fun n a h => ?_⟩, e0.mono, fun a o g1 g2 g3 g4 => ?_⟩
  · rw [e3 n (List.getElem?_eq_some_iff.mp h).1]; exact e0.cel n a h
  · obtain ⟨k1, k2, k3, k4⟩ := e0.priv a o g1 g2 g3 g4
    exact ⟨k1, k2, fun z => k3 (List.dropLast_subset _ z), k4⟩
theorem Ce.freeze {a : Addr} {o : HO} (C : Ce K H F rh c) (ha : H a = some o) (hr : a ∉ rh) : Ce K H (addF F a) rh c :=
  ⟨C.len, C.nd, fun n b d g1 g2 => by
    obtain ⟨o', q1, q2⟩ := C.ob n b d g1 g2
    exact ⟨o', q1, q2.ext ext_addF⟩, fun b hb z => by
    rcases z with z | z
    · exact C.nf b hb z
    · subst z; exact hr hb, fun b z => by
    rcases z with z | z
    · exact C.ft b z
    · subst z; rw [ha]; exact fun q => nomatch q⟩
theorem Ev.freeze {H0 : Hp} {F0 : Fz} {rh0 : List Addr} {a : Addr} (e : Ev H0 F0 rh0 O0 H F rh O0) (h : H0 a = none) : Ev H0 F0 rh0 O0 H (addF F a) rh O0 :=
  ⟨e.toExt.trans ext_addF, e.mono, fun b o g1 g2 g3 g4 => by
    obtain ⟨k1, k2, k3, k4⟩ := e.priv b o g1 g2 g3 g4
    refine ⟨k1, fun z => ?_, k3, k4⟩
    rcases z with z | z
    · exact k2 z
    · subst z; rw [h] at g1; cases g1⟩
end
section
variable {X : Cx} {M : Nm} {Z : Sx} {H : Hp} {F : Fz} {rh : List Addr} {sh : L2.St} {s : List Sl} {c : Cl} {o a b e : Expr} {es : List Expr} {kws : List Keyword} {io ia ib : IE} {l il : IL} {apos cpos pos p : Pos} {t tk : TA} {to : TE} {name : Str} {n : Nat}
theorem nonv {K : PySem.W.Frag} {H0 H : Hp} {F : Fz} {rh : List Addr} {O : Addr → Prop} {v : V} {o : Bool} (r : Res K H0 H F rh O v .non o) : v = .non := by
  cases o with
  | false => cases (show Rep K H F rh v .non from r); rfl
  | true =>
    obtain ⟨a, ob, _, _, _, h, _⟩ := r
    exact (show False from h).elim
/-- __init__'s promise at what is new -/
theorem make_use {k n : Nat} {ks : List Nat} {pl : Pl} {sg : L2.St} {Qf : List Nat → List D → Prop} {Ef : Ex → Prop} {Em : EK} {ds es : List D} {vs zs : List V} {Q : V → Hp → Prop} {x dx : Addr} {gV : List V → List V → List V} (R : Rl X.K Z.H0 H F rh sg s c) (r : RepL X.K H F rh vs ds) (rz : RepL X.K H F rh zs es) (l1 : ds.length = n) (l2 : es.length = ks.length)
    (kr : ∀ (H : Hp) (F : Fz) (rh : List Addr) (vs zs : List V) (ds es : List D), RepL X.K H F rh vs ds → RepL X.K H F rh zs es → ds.length = n + 1 → es.length = ks.length → RepL X.K H F rh (gV vs zs) (appD pl (ds ++ es)))
    (w : Z.C.fn (mtF k 0) (appD pl (.cell c.length :: (ds ++ es))) (c ++ [.ins k [] []]) (fun d _ c2 => d = .non ∧ ∃ ns xs, c2 = c ++ [.ins k ns xs] ∧ Qf ns xs) (fun ex c2 => (∃ y, c2 = c ++ [y]) ∧ flatL (ex.fs.map (·.2)) = true ∧ Ef ex))
    (hx : H x = none) (hd : H dx = none) (hne : dx ≠ x) (ok : ∀ ns xs H' F' rh', Qf ns xs → Ce X.K H' F' rh' (c ++ [.ins k ns xs]) → Ev (hpNew H x dx (cAd X.K k)) F (rh ++ [x]) O0 H' F' rh' O0 → Q (.ref x) H') (okx : ∀ ex, Ef ex → Em ex s c) (xk : OkX Z X.K sg H F rh s Em) :
    spF Z.S X.K (Z.C.fn (mtF k 0)) (gV (.ref x :: vs) zs) (hpNew H x dx (cAd X.K k)) (fun v H2 => v = .non ∧ Q (.ref x) H2) (WE Z.W sg) := by
  have ex : Ext H F rh (hpNew H x dx (cAd X.K k)) F (rh ++ [x]) := ext_make hx hd
  have rx : Rep X.K (hpNew H x dx (cAd X.K k)) F (rh ++ [x]) (.ref x) (.cell c.length) := .cell (by rw [← R.len, List.getElem?_append_right (Nat.le_refl _)]; simp)
  refine ⟨_, _, F, rh ++ [x], _, _, kr _ _ _ _ _ _ _ (.cons rx (r.ext ex)) (rz.ext ex) (by rw [List.length_cons, l1]) l2, ce_make R.toCe hx hd hne, w, ?_, ?_⟩
  · rintro d o c' v H' F' rh' ⟨rfl, ns, xs, rfl, q⟩ C' e rs
    exact ⟨nonv rs, ok ns xs H' F' rh' q C' e⟩
  · rintro ex' c' cls da H' F' rh' ⟨⟨y, rfl⟩, fl, q⟩ C' e er
    have C2 := C'.pop R.toCe e.toExt
    have E2 := Ev.pop hx hd C' R.toCe e
    obtain ⟨R2, e2⟩ := R.after C2 E2
    refine xk ex' s c cls da H' F' rh'.dropLast (okx _ q) R2 e2 ⟨er.1, er.2.imp id fun ⟨a, fs, h1, h2, h3, h4⟩ => ⟨a, fs, h1, h2, h3, fun n d z => ?_⟩⟩
    obtain ⟨g0, u, g1, g2⟩ := h4 n d z
    refine ⟨g0, u, g1, g2.fall (rh_last C' R.toCe e.toExt).2.2 (flat_below ?_ _)⟩
    have key : ∀ {l : List (Nat × D)}, flatL (l.map (·.2)) = true → l.lookup n = some d → flatD d = true := by
      intro l
      induction l with
      | nil => intro _ h; cases h
      | cons p l ih =>
        obtain ⟨m, y⟩ := p
        intro h1 h2
        have h1' : (flatD y && flatL (l.map (·.2))) = true := h1
        rw [Bool.and_eq_true] at h1'
        rw [List.lookup_cons] at h2
        split at h2
        · cases h2; exact h1'.1
        · exact ih h1'.2 h2
    exact key fl z
/-- the call of a class -/
theorem pe_makeW {k : Nat} {ks : List Str} {fx : Str} (hl : PA X es t) (hk : PK X kws tk) (hs : es.all notStar = true) (hg : Gl X fx) (mk : Mk X.K (cAd X.K k) (fA X.K (M.fn (mtF k 0)))) (hm : X.mg fx = some (.ref (cAd X.K k))) (h1 : (fx == ("__debug__" : Str)) = false) (hn : kws.map (·.arg) = ks.map some) (h0 : es = [] → ∀ sg H Q, t sg H Q → Q [] H) :
    PE X (.Call (.Name fx p) es kws pos) (fun sg H Q => t sg H fun vs H2 => tk sg H2 fun zs H3 => RunW X (cAd X.K k) ks vs zs sg H3 Q) := by
  refine ⟨fun pins st sg H Q I h => wpAny_Call_Name_kw (ld_glob I hg hm ?_ h1)⟩
  exact args_W (fv := []) (first := []) I .nil mk.kp hl hk hn hs h0 h
end
end Vm

/-! Vm: the rules of what is made; operators -/
namespace Vm
open PySem PySem.Spec L2
open PyProof.Rows hiding St
theorem make_guards {A : Around} {C : Addr} {us : List Value} {kw : List (Str × Value)} (h : A.guards = some []) : (A.under (.builtin "type.__call__" ⟨.ref C :: us, kw⟩)).guards = some [] := by
  first | exact h | (simp [Around.under, Code.weight, Code.isCreation, Code.isGuard, Code.isCaller, Code.frames, Code.isFrame, guardIds, h])
section
variable {X : Cx} {M : Nm} {Z : Sx} {H : Hp} {F : Fz} {rh : List Addr} {sh : L2.St} {s : List Sl} {c : Cl} {o a b e : Expr} {es : List Expr} {kws : List Keyword} {io ia ib : IE} {l il : IL} {apos cpos pos p : Pos} {t tk : TA} {to : TE} {name : Str} {n : Nat}
theorem runW_mk {k n : Nat} {ks : List Nat} {pl : Pl} {sg : L2.St} {Qf : List Nat → List D → Prop} {Ef : Ex → Prop} {Em : EK} {ds es : List D} {vs zs : List V} {Q : VK} (G : GOk X M Z) (hm : Z.C.hasM k 0 = true) (mk : Mk X.K (cAd X.K k) (fA X.K (M.fn (mtF k 0)))) (R : Rl X.K Z.H0 H F rh sg s c) (r : RepL X.K H F rh vs ds) (rz : RepL X.K H F rh zs es) (l1 : ds.length = n) (l2 : es.length = ks.length)
    (w : callW Z.C (mtF k 0) (n + 1) ks pl (.cell c.length :: (ds ++ es)) (c ++ [.ins k [] []]) (fun d _ c2 => d = .non ∧ ∃ ns xs, c2 = c ++ [.ins k ns xs] ∧ Qf ns xs) (fun ex c2 => (∃ y, c2 = c ++ [y]) ∧ flatL (ex.fs.map (·.2)) = true ∧ Ef ex))
    (ok : ∀ x dx ns xs H' F' rh', H x = none → H dx = none → Qf ns xs → Ce X.K H' F' rh' (c ++ [.ins k ns xs]) → Ev (hpNew H x dx (cAd X.K k)) F (rh ++ [x]) O0 H' F' rh' O0 → Q (.ref x) H') (okx : ∀ ex, Ef ex → Em ex s c) (xk : OkX Z X.K sg H F rh s Em) :
    RunW X (cAd X.K k) (kwN (M.ps (mtF k 0)) (n + 1) ks) vs zs sg H Q := by
  obtain ⟨w1, w2, w3, w4⟩ := w
  obtain ⟨fd, j, g1, g2, g3, g4, g5, g6⟩ := (G.fn _ w1).ex
  obtain ⟨g, gV, kb, kr⟩ := g6 _ _ _ w2
  have lk : (kwN (M.ps (mtF k 0)) (n + 1) ks).length = ks.length := by unfold kwN; rw [List.length_map]
  intro pins st us ws I rv rw_
  have hx := I.hok.fresh (Nat.le_succ st.heap.objs.size)
  have hd := I.hok.fresh (Nat.le_refl st.heap.objs.size)
  have I2 := Inv.made (C := cAd X.K k) I
  have sp := make_use (x := st.heap.objs.size + 1) (dx := st.heap.objs.size) (Q := Q) (gV := gV) (pl := pl) R r rz l1 l2 (fun H F rh vs zs ds es a b c1 d1 => kr H F rh vs zs ds es a b c1 (d1.trans lk.symm)) w4 hx hd (Nat.ne_of_lt (Nat.lt_succ_self _)) (fun ns xs H' F' rh' => ok _ _ ns xs H' F' rh' hx hd) okx xk
  have r1 : Vals (V.ref (st.heap.objs.size + 1) :: vs) (Value.ref (st.heap.objs.size + 1) :: us) := .cons rfl rv
  have e1 : (Value.ref (st.heap.objs.size + 1) :: us).length = n + 1 := by rw [List.length_cons, ← rv.length, r.len, l1]
  have e2 : ws.length = (kwN (M.ps (mtF k 0)) (n + 1) ks).length := by rw [← rw_.length, rz.len, lk, l2]
  have hr : Room (j + 1) X.A := g5.mono (by omega)
  refine wpAny_call (make_map (f := fA X.K (M.fn (mtF k 0))) I.kIn mk.makes mk.init (beq_iff_eq.mp mk.fn) (codeAny_mono (g4.go _ X.stack _ _ ⟨Value.ref (st.heap.objs.size + 1) :: us, (kwN (M.ps (mtF k 0)) (n + 1) ks).zip ws⟩ (g (Value.ref (st.heap.objs.size + 1) :: us) ws) _ _ _ (hr.make (cAd X.K k) us _) (make_guards G.gd)
    (I2.env0.make (cAd X.K k) us _) (kb.to _ (Value.ref (st.heap.objs.size + 1) :: us) ws I2.kIn e1 e2) (kb.rel r1 rw_) sp) fun r s' hq' => ?_))
  cases r with
  | error e => exact passAt G.tk sg pins _ _ e s' I2 hq'
  | ok fl =>
    cases fl with
    | ret u =>
      obtain ⟨v, H', I3, rv, ev, q3⟩ := I2.after hq'
      subst ev
      exact ⟨rv, ⟨V.ref (st.heap.objs.size + 1), H', I3, rfl, q3⟩⟩
    | next => exact False.elim hq'
    | brk => exact False.elim hq'
    | cont => exact False.elim hq'
/-- what is made and stays so -/
theorem snd_mk {k : Nat} {ks : List Nat} {pl : Pl} {fx : Str} (G : GOk X M Z) (hl : PA X es (tWL Z X.K (l.tk n))) (hk : PK X kws (tWL Z X.K (l.dp n))) (hs : es.all notStar = true) (hg : Gl X fx) (hx : fx = clsN k) (h1 : (fx == ("__debug__" : Str)) = false) (hn : kws.map (·.arg) = (kwN (M.ps (mtF k 0)) (n + 1) ks).map some) (hz : n ≤ l.len) (h0 : es = [] → n = 0) :
    PE X (.Call (.Name fx p) es kws pos) (tW Z X.K false (.op (.mk k n ks pl) l)) ∧ PE X (.Call (.Name fx p) es kws pos) (tW Z X.K false (.op (.mkc k n ks pl) l)) := by
  have h00 : es = [] → ∀ sg H Q, tWL Z X.K (l.tk n) sg H Q → Q [] H := fun e0 sg H Q q => by
    rw [h0 e0] at q
    unfold IL.tk at q
    exact tWL_nil q
  refine ⟨⟨fun pins st sg H Q I ⟨s, c, F, rh, Qm, Em, R, w, ok, x⟩ => ?_⟩, ⟨fun pins st sg H Q I ⟨s, c, F, rh, Qm, Em, R, w, ok, x⟩ => ?_⟩⟩
  · unfold wpE at w
    obtain ⟨mk, hm⟩ := G.cl.mak k w.1
    have w2 := w.2
    rw [wpL_split n] at w2
    refine (pe_makeW (k := k) (ks := kwN (M.ps (mtF k 0)) (n + 1) ks) hl hk hs hg mk (by rw [hx]; exact hm) h1 hn h00).run pins st sg H Q I ?_
    refine tWL.mk R w2 x fun ds s1 c1 vs H1 F1 rh1 q1 R1 e1 x1 r1 => ?_
    refine tWL.mk R1 q1 x1 fun es s2 c2 zs H2 F2 rh2 ⟨q0, qm, q2⟩ R2 e2 x2 r2 => ?_
    rw [Nat.min_eq_left hz] at q0
    have l2 : es.length = ks.length := by
      have := q2.2.2.1
      rw [List.length_cons, List.length_append, q0] at this
      omega
    refine runW_mk (Em := Em) (s := s2) G qm mk R2 (r1.ext e2.toExt) r2 q0 l2 q2 (fun x0 dx ns xs H' F' rh' hx hd ⟨fl, q⟩ C' e => ?_) (fun ex q => q) x2
    have C2 := C'.pop R2.toCe e.toExt
    have E2 := Ev.pop hx hd C' R2.toCe e
    obtain ⟨f1, f2, f3⟩ := rh_last C' R2.toCe e.toExt
    have hxl : rh'[rh2.length]? = some x0 := by rw [f1, List.getElem?_append_right (by omega), f2]; simp
    obtain ⟨ob, b1, b2⟩ := C'.ob rh2.length x0 (.ins k ns xs) hxl (by rw [R2.len, List.getElem?_append_right (Nat.le_refl _)]; simp)
    have nin : x0 ∉ rh'.dropLast := fun z => by
      have nd := C'.nd
      rw [f1, List.nodup_append] at nd
      exact nd.2.2 x0 z x0 (by simp) rfl
    have C3 := C2.freeze b1 nin
    have E3 := E2.freeze hx
    obtain ⟨R3, e3⟩ := R2.after C3 E3
    have rep : Rep X.K H' (addF F' x0) rh'.dropLast (.ref x0) (.ins k ns xs) := ((b2.fall f3 (by unfold belowD; exact flatL_below fl _)).ext ext_addF).rep b1 (.inr rfl)
    exact (((ok.step e1).step e2).step e3).shr R3 rep q
  · unfold wpE at w
    obtain ⟨mk, hm⟩ := G.cl.mak k w.1
    have w2 := w.2
    rw [wpL_split n] at w2
    refine (pe_makeW (k := k) (ks := kwN (M.ps (mtF k 0)) (n + 1) ks) hl hk hs hg mk (by rw [hx]; exact hm) h1 hn h00).run pins st sg H Q I ?_
    refine tWL.mk R w2 x fun ds s1 c1 vs H1 F1 rh1 q1 R1 e1 x1 r1 => ?_
    refine tWL.mk R1 q1 x1 fun es s2 c2 zs H2 F2 rh2 ⟨q0, qm, q2⟩ R2 e2 x2 r2 => ?_
    rw [Nat.min_eq_left hz] at q0
    have l2 : es.length = ks.length := by
      have := q2.2.2.1
      rw [List.length_cons, List.length_append, q0] at this
      omega
    refine runW_mk (Em := Em) (s := s2) G qm mk R2 (r1.ext e2.toExt) r2 q0 l2 q2 (fun x0 dx ns xs H' F' rh' hx hd q C' e => ?_) (fun ex q => q) x2
    have E2 := (ev_make (F := F2) (rh := rh2) (C := cAd X.K k) hx hd).trans e
    obtain ⟨R3, e3⟩ := R2.after C' E2
    have hxl : rh'[c2.length]? = some x0 := e.cel _ _ (by rw [← R2.len, List.getElem?_append_right (Nat.le_refl _)]; simp)
    exact (((ok.step e1).step e2).step e3).shr R3 (.cell hxl) q
/-! x + y of two instances of one class, of an instance and a number -/
theorem snd_binI {op : Operator} (G : GOk X M Z) (ha : PE X a (tW Z X.K false ia)) (hb : PE X b (tW Z X.K false ib)) (ho : op = .Add ∨ op = .Sub ∨ op = .Mult ∨ op = .BitOr ∨ op = .BitAnd ∨ op = .Pow) : PE X (.BinOp a op b pos) (tW Z X.K false (.op (.bin op) (.cons ia (.cons ib .nil)))) := by
  refine ⟨fun pins st sg H Q I ⟨s, c, F, rh, Qm, Em, R, w, ok, x⟩ => ?_⟩
  refine wpAny_BinOp (thn (ha.run pins st sg H _ I (tW.mk (Q := fun v H1 => ∀ pins st y, Inv X pins sg H1 st → RelV v y → wpAny (model X.prog X.w) X.A (eval b X.env) (fun z st2 => wpAny (model X.prog X.w) X.A (binaryOp op y z) (EP X pins sg Q) X.xe st2) X.xe st) R (wpOp2 w) x fun d o s1 c1 v H1 F1 rh1 q1 R1 e1 x1 r1 => ?_)) fun v s1 ⟨x, H1, I1, r1, q⟩ => q pins s1 v I1 r1)
  intro pins st y I1 ry
  refine thn (hb.run pins st sg H1 _ I1 (tW.mk (Q := fun u H2 => ∀ pins st z, Inv X pins sg H2 st → RelV u z → wpAny (model X.prog X.w) X.A (binaryOp op y z) (EP X pins sg Q) X.xe st) R1 q1 x1 fun d2 o2 s2 c2 u H2 F2 rh2 ⟨k, m, q2, q3, q4, q5, q6, q7⟩ R2 e2 x2 r2 => ?_)) fun z s2 ⟨u, H2, I2, r2, q⟩ => q pins s2 z I2 r2
  intro pins st z I2 rz
  obtain ⟨q, dx, gs, rfl, ea, _⟩ := cls_rep R2.toCe (r1.ext e2.toExt) q2
  cases ry
  obtain ⟨ob, od, J⟩ := inst_at I2 ea
  obtain ⟨mf, hF⟩ := I2.fr
  have mth := G.cl.mth k m q7.1
  have opf := G.cl.bin k m op q3 q4
  have hat : PySem.W.findIn X.K (.ref (cAd X.K k)) (PySem.dunder op.info.2) = some (some (.ref (fA X.K (M.fn (mtF k m))))) := by
    have h := mth.meth.at_
    rcases ho with rfl | rfl | rfl | rfl | rfl | rfl <;> (cases q3; exact h)
  have run := (runM G R2 (r1.ext e2.toExt) (.cons r2 .nil) q7 ((ok.step e1).step e2) x2).go I2 (.cons rfl (.cons rz .nil))
  have run2 := xe_of run fun v s' ⟨z, H', I', rz, q⟩ => cmpBack (Q := EP X pins sg Q) rz ⟨z, H', I', rz, q⟩
  rcases q6 with ⟨i, rfl⟩ | q6
  · cases r2
    obtain ⟨t, rfl⟩ := rz
    obtain ⟨rc, g1, g2⟩ := opf.r
    obtain ⟨⟨fo, g3⟩, ro, g4⟩ := opf.t "int" (by decide)
    exact PySem.W.ksp_binT hF I2.ok.mod.kin J (T := "int") rfl mth.sf hat mth.meth.fn g1 g2 g3 g4 (sub_of (by rfl) ((G.cl.isn k q5).2 "int" (by decide))) run2
  · obtain ⟨q', dx', gs', rfl, ea', _⟩ := cls_rep R2.toCe r2 q6
    cases rz
    obtain ⟨ob', od', J'⟩ := inst_at I2 ea'
    exact PySem.W.binop_K hF I2.ok.mod.kin J J'.type mth.sf hat mth.meth.fn run2
end
end Vm

/-! Vm: == of tuples of instances, each pair equal by its own == -/
namespace Vm
open PySem PySem.Spec L2
open PyProof.Rows hiding St
section
variable {X : Cx} {M : Nm} {Z : Sx} {H : Hp} {F : Fz} {rh : List Addr} {s : List Sl} {c : Cl}
/-- one pair, inside a builtin -/
theorem eq_in1 {k : Nat} {sg : L2.St} {d1 d2 : D} {v u : V} (G : GOk X M Z) (R : Rl X.K Z.H0 H F rh sg s c) (r1 : Rep X.K H F rh v d1) (r2 : Rep X.K H F rh u d2) (hc : clsOfD c d1 = some k) (ho : othOk Z.C c k d2)
    (w : methK Z.C k 1 1 [] (idP 2) d1 [d2] c (fun r _ c2 => r = .bl true ∧ c2 = c) (fun _ _ => False)) {E : Value → Shared → Prop}
    {pins : List (Addr × Obj)} {st : Shared} {x1 x2 : Value} (I : Inv X pins sg H st) (rx : RelV v x1) (ry : RelV u x2) :
    wpAny (model X.prog X.w) X.A.in1 (eqBool x1 x2) (fun r s' => r = true ∧ ∃ H' F' rh', Inv X pins sg H' s' ∧ Rl X.K Z.H0 H' F' rh' sg s c ∧ Ev H F rh (Owned sg s) H' F' rh' (Owned sg s)) E st := by
  by_cases same : x1 = x2
  · subst same
    exact PySem.SeqAt.EqAt.same x1 _ _ _ _ ⟨rfl, H, F, rh, I, R, Ev.refl⟩
  obtain ⟨q, dx, gs, rfl, ea, _⟩ := cls_rep R.toCe r1 hc
  cases rx
  obtain ⟨t, ty, nf⟩ := oth_rep G R.toCe r2 ho
  obtain ⟨P, kx, p, _⟩ := kit_of I ry ty
  obtain ⟨ob, od, J⟩ := inst_at I ea
  obtain ⟨m, hF⟩ := I.fr
  have mth := G.cl.mth k 1 w.1
  have hu := G.hu
  have hu1 : X.A.in1.units < cLine := by
    obtain ⟨j, r⟩ := G.rm
    have := r.un
    show X.A.units + 1 < cLine
    omega
  have run := runIn1 (Qm := fun r _ s' c' => (r = .bl true ∧ c' = c) ∧ s' = s) (Q := fun v H' => v = .bl true ∧ ∃ F' rh', Rl X.K Z.H0 H' F' rh' sg s c ∧ Ev H F rh (Owned sg s) H' F' rh' (Owned sg s)) (n := 1) (ds := [d2]) (vs := [u]) G R r1 (.cons r2 .nil)
    (by have w2 := w.2; unfold callW at w2 ⊢; obtain ⟨a1, a2, a3, a4⟩ := w2
        have e : (fun (r : D) (_ : Bool) (c2 : Cl) => r = .bl true ∧ c2 = c) = fun r _ c2 => (r = .bl true ∧ c2 = c) ∧ s = s := by funext r _ c2; simp
        rw [e] at a4
        exact ⟨a1, a2, a3, a4⟩)
    (OkQ.mk fun d o s' c' v' H' F' rh' hq rl e r => by
      obtain ⟨⟨rfl, rfl⟩, rfl⟩ := hq
      cases r
      exact ⟨rfl, F', rh', rl, e⟩) I (.cons rfl (.cons ry .nil))
  have cc : wpAny (model X.prog X.w) X.A.in1 (richCompare .Eq (.ref q) x2) (fun v s' => ∃ r, v = .bool r ∧ (r = true ∧ ∃ H' F' rh', Inv X pins sg H' s' ∧ Rl X.K Z.H0 H' F' rh' sg s c ∧ Ev H F rh (Owned sg s) H' F' rh' (Owned sg s))) E st := by
    refine PySem.W.cmp_K (op := .Eq) hu1 hF I.ok.mod.kin J (kx.ty _ _ I.kIn p) nf mth.meth.at_ mth.meth.fn (wpAny_call (codeAny_mono run fun r s' ⟨z, e, v, H', I', rz, ev, F', rh', R', e'⟩ => ?_))
    subst e ev
    cases rz
    exact ⟨true, rfl, rfl, H', F', rh', I', R', e'⟩
  cases x2 with
  | ref b => exact GQ.eqBool_refG (fun z => same (by rw [z])) cc
  | _ =>
    unfold eqBool
    refine wpAny_holding (wpAny_ite_split (fun hab => absurd (eq_of_beq hab) same) fun _ => ?_)
    exact wpAny_bind (wpAny_mono cc (fun v s' ⟨r, e, z⟩ => by subst e; exact wpAny_truthy_bool z) fun _ _ z => z)
/-- == of two tuples of instances that are equal one by one -/
theorem eqT_run {sg : L2.St} {Q : VK} {ds es : List D} {v u : V} {Qm : QK} {E : Value → Shared → Prop} (G : GOk X M Z) (R : Rl X.K Z.H0 H F rh sg s c) (r1 : Rep X.K H F rh v (.tup ds)) (r2 : Rep X.K H F rh u (.tup es)) (hl : ds.length = es.length)
    (hp : ∀ (i : Nat) d e, ds[i]? = some d → es[i]? = some e → ∃ k, clsOfD c d = some k ∧ othOk Z.C c k e ∧ methK Z.C k 1 1 [] (idP 2) d [e] c (fun r _ c2 => r = .bl true ∧ c2 = c) (fun _ _ => False))
    (q : Qm (.bl true) false s c) (ok : OkQ X.K Z.H0 sg H F rh s Qm Q) {pins : List (Addr × Obj)} {st : Shared} {x1 x2 : Value} (I : Inv X pins sg H st) (rx : RelV v x1) (ry : RelV u x2) : wpAny (model X.prog X.w) X.A (richCompare .Eq x1 x2) (EP X pins sg Q) E st := by
  obtain ⟨a, vs, rfl, hf, rv⟩ := r1.tup_of
  obtain ⟨b, us, rfl, hg, ru⟩ := r2.tup_of
  cases rx
  cases ry
  obtain ⟨its, v1, t1, _⟩ := I.tuple hf.sq
  obtain ⟨its2, v2, t2, _⟩ := I.tuple hg.sq
  have hu := G.hu
  have n1 : its.length = ds.length := v1.length.symm.trans rv.len
  have n2 : its2.length = es.length := v2.length.symm.trans ru.len
  refine GQ.rc_tupG (items := its.toArray) (items2 := its2.toArray) (by simp; omega) (by omega) (fun _ s' => ∃ H' F' rh', Inv X pins sg H' s' ∧ Rl X.K Z.H0 H' F' rh' sg s c ∧ Ev H F rh (Owned sg s) H' F' rh' (Owned sg s)) t1 t2
    (fun i h1 h2 s' ⟨H', F', rh', I', R', e'⟩ => ?_) (fun s' ⟨H', F', rh', I', R', e'⟩ => ?_) ⟨H, F, rh, I, R, Ev.refl⟩
  · have k1 : i < its.length := by simpa using h1
    have k2 : i < its2.length := by simpa using h2
    have g1 : its[i]? = some its.toArray[i] := by rw [List.getElem?_eq_getElem k1] <;> simp
    have g2 : its2[i]? = some its2.toArray[i] := by rw [List.getElem?_eq_getElem k2] <;> simp
    have d1 : ds[i]? = some (ds[i]'(by omega)) := List.getElem?_eq_getElem _
    have d2 : es[i]? = some (es[i]'(by omega)) := List.getElem?_eq_getElem _
    obtain ⟨k, c1, c2, c3⟩ := hp i _ _ d1 d2
    obtain ⟨y1, z1, w1⟩ := rv.at d1
    obtain ⟨y2, z2, w2⟩ := ru.at d2
    obtain ⟨p1, q1, rr1⟩ := v1.get z1
    obtain ⟨p2, q2, rr2⟩ := v2.get z2
    rw [g1] at q1
    rw [g2] at q2
    rw [Option.some.inj q1, Option.some.inj q2]
    refine wpAny_mono (eq_in1 (E := E) G R' (w1.ext e'.toExt) (w2.ext e'.toExt) c1 c2 c3 I' rr1 rr2) (fun r s2 ⟨hr, H2, F2, rh2, I2, R2, e2⟩ => ⟨hr, H2, F2, rh2, I2, R2, e'.trans e2⟩) fun _ _ z => z
  · exact ⟨.bl true, H', I', rfl, (ok.step e').shr R' .bl q⟩
end
end Vm

/-! Vm: comparisons of instances as tests; lists of expressions -/
namespace Vm
open PySem PySem.Spec L2
open PyProof.Rows hiding St
def isCmpG : Gn → Bool
  | .eqI | .neI | .eqR | .din _ | .inI _ | .eqT => true
  | _ => false
theorem Qt_bl2 (Q : QK) (b o : Bool) (s : List Sl) (c : Cl) : Qt true Q (.bl b) o s c = Q (.bl b) false s c := propext ⟨fun ⟨k, h, q⟩ => by cases h; exact q, fun q => ⟨b, rfl, q⟩⟩
theorem opW_test {C : Ctx} {g : Gn} (hg : isCmpG g = true) (Q : QK) {ds : List D} {s : List Sl} {c : Cl} {E : Ex → Cl → Prop} (w : opW C g ds c (fun d o c2 => Qt true Q d o s c2) E) : opW C g ds c (fun d o c2 => Q d o s c2) E := by
  cases g with
  | eqI => unfold opW at w ⊢; split at w <;> first | exact w.elim | (simp only [Qt_bl2] at w; exact w) | cases (by assumption : Gn.eqI = _)
  | neI => unfold opW at w ⊢; split at w <;> first | exact w.elim | (simp only [Qt_bl2] at w; exact w) | cases (by assumption : Gn.neI = _)
  | eqR => unfold opW at w ⊢; split at w <;> first | exact w.elim | (simp only [Qt_bl2] at w; exact w) | cases (by assumption : Gn.eqR = _)
  | eqT => unfold opW at w ⊢; split at w <;> first | exact w.elim | (simp only [Qt_bl2] at w; exact w) | cases (by assumption : Gn.eqT = _)
  | inI neg => unfold opW at w ⊢; split at w <;> first | exact w.elim | (simp only [Qt_bl2] at w; exact w) | cases (by assumption : Gn.inI neg = _)
  | din neg => unfold opW at w ⊢; split at w <;> first | exact w.elim | (simp only [Qt_bl2] at w; exact w) | cases (by assumption : Gn.din neg = _)
  | _ => cases hg
section
variable {X : Cx} {M : Nm} {Z : Sx} {H : Hp} {F : Fz} {rh : List Addr} {sh : L2.St} {s : List Sl} {c : Cl} {o a b e : Expr} {es : List Expr} {kws : List Keyword} {io ia ib : IE} {l il : IL} {apos cpos pos p : Pos} {t tk : TA} {to : TE} {name : Str} {n : Nat}
/-- what a comparison of two values gives -/
def CmpW (X : Cx) (Z : Sx) (op : CmpOp) (g : Gn) : Prop :=
  ∀ (sg : L2.St) (H : Hp) (F : Fz) (rh : List Addr) (s : List Sl) (c : Cl) (Qm : QK) (Em : EK) (Q : VK) (d d2 : D) (v u : V), Rl X.K Z.H0 H F rh sg s c → Rep X.K H F rh v d → Rep X.K H F rh u d2 → opW Z.C g [d, d2] c (fun d o c3 => Qm d o s c3) (fun ex c3 => Em ex s c3) → OkQ X.K Z.H0 sg H F rh s Qm Q → OkX Z X.K sg H F rh s Em →
      ∀ (pins : List (Addr × Obj)) (st : Shared) (y z : Value), Inv X pins sg H st → RelV v y → RelV u z → wpAny (model X.prog X.w) X.A (compareOp op y z) (EP X pins sg Q) X.xe st
theorem cmp2T {op : CmpOp} {g : Gn} (hgt : isCmpG g = true) (ha : PE X a (tW Z X.K false ia)) (hb : PE X b (tW Z X.K false ib)) (hm : behindInMarks op b = false) (h : CmpW X Z op g) :
    PT X (.Compare a [op] [b] pos) (tWT Z X.K (.op g (.cons ia (.cons ib .nil)))) := by
  refine ⟨fun pins st sg H Q I ⟨s, c, F, rh, Qm, Em, R, w, ok, x⟩ => ?_⟩
  refine wpAny_isTrue_Compare1 (thn (ha.run pins st sg H _ I (tW.mk (Q := fun v H1 => ∀ pins st y, Inv X pins sg H1 st → RelV v y → wpAny (model X.prog X.w) X.A (eval b X.env) (fun z st2 => wpAny (model X.prog X.w) X.A (compareOp op y z) (fun r st3 => wpAny (model X.prog X.w) X.A (truthy r) (fun k s4 => ∃ H4, Inv X pins sg H4 s4 ∧ Q k H4) X.xe st3) X.xe st2) X.xe st) R (wpOp2 w) x fun d o s1 c1 v H1 F1 rh1 q1 R1 e1 x1 r1 => ?_)) fun v s1 ⟨x, H1, I1, r1, q⟩ => q pins s1 v I1 r1) hm
  intro pins st y I1 ry
  refine thn (hb.run pins st sg H1 _ I1 (tW.mk (Q := fun u H2 => ∀ pins st z, Inv X pins sg H2 st → RelV u z → wpAny (model X.prog X.w) X.A (compareOp op y z) (fun r st3 => wpAny (model X.prog X.w) X.A (truthy r) (fun k s4 => ∃ H4, Inv X pins sg H4 s4 ∧ Q k H4) X.xe st3) X.xe st) R1 q1 x1 fun d2 o2 s2 c2 u H2 F2 rh2 q2 R2 e2 x2 r2 => ?_)) fun z s2 ⟨u, H2, I2, r2, q⟩ => q pins s2 z I2 r2
  intro pins st z I2 rz
  refine thn (h sg H2 F2 rh2 s2 c2 Qm Em _ d d2 v u R2 (r1.ext e2.toExt) r2 (opW_test hgt Qm q2) ((ok.step e1).step e2) x2 pins st y z I2 ry rz) fun r s3 ⟨w3, H3, I3, r3, k, e, q3⟩ => ?_
  subst e
  cases r3
  exact wpAny_truthy_bool ⟨H3, I3, q3⟩
theorem cmpW_eq (G : GOk X M Z) : CmpW X Z .Eq .eqI := fun sg H F rh s c Qm Em Q d d2 v u R r1 r2 ⟨k, q2, q3, q4⟩ ok x pins st y z I rx ry =>
  xe_of (eq_run (Qm := fun d o s' c' => ∃ b, d = .bl b ∧ Qm (.bl b) false s' c') G R r1 r2 q2 q3 q4 (okQ_bl id ok) x I rx ry) fun v s' ⟨w, H', I', rw_, b, e, q⟩ => by
    subst e
    exact ⟨_, H', I', rw_, q⟩
theorem cmpW_eqT (G : GOk X M Z) : CmpW X Z .Eq .eqT := fun sg H F rh s c Qm Em Q d d2 v u R r1 r2 ⟨ds, es, q1, q2, q3, q4, q5⟩ ok x pins st y z I rx ry => by
  subst q1 q2
  exact eqT_run G R r1 r2 q3 q4 q5 ok I rx ry
theorem cmpW_ne (G : GOk X M Z) : CmpW X Z .NotEq .neI := fun sg H F rh s c Qm Em Q d d2 v u R r1 r2 ⟨k, q2, q5, q3, q4⟩ ok x pins st y z I rx ry => by
  obtain ⟨q, dx, gs, rfl, ea, _⟩ := cls_rep R.toCe r1 q2
  cases rx
  obtain ⟨t, ty, nf⟩ := oth_rep G R.toCe r2 q3
  obtain ⟨P, kx, p, _⟩ := kit_of I ry ty
  obtain ⟨ob, od, J⟩ := inst_at I ea
  have mth := G.cl.mth k 1 q4.1
  obtain ⟨n1, n2⟩ := G.cl.ne k q5
  have hu := G.hu
  refine ne_K (by omega) I.kIn J (kx.ty _ _ I.kIn p) nf n1 n2 mth.meth.at_ mth.meth.fn (codeAny_mono (runIn1 (Qm := fun d o s' c' => ∃ b, d = .bl b ∧ Qm (.bl (!b)) false s' c') G R r1 (.cons r2 .nil) q4.2 (okQ_bl (fun b => !b) ok) I (.cons rfl (.cons ry .nil))) fun r s' ⟨w, e, hq⟩ => ?_)
  obtain ⟨w2, H', I', rw_, b, e2, q⟩ := hq
  subst e2
  cases rw_
  exact ⟨b, e, V.bl (!b), H', I', rfl, q⟩
/-- expressions, each by its term -/
inductive PEs (X : Cx) (Z : Sx) : List Expr → IL → Prop
  | nil : PEs X Z [] .nil
  | cons {e : Expr} {a : IE} {es : List Expr} {l : IL} : notStar e = true → PE X e (tW Z X.K false a) → PEs X Z es l → PEs X Z (e :: es) (.cons a l)
theorem PEs.len : ∀ {es : List Expr} {l : IL}, PEs X Z es l → l.len = es.length
  | _, _, .nil => rfl
  | _, _, .cons _ _ h => by show _ + 1 = _ + 1; rw [h.len]
theorem PEs.pa : ∀ {es : List Expr} {l : IL}, PEs X Z es l → PA X es (tWL Z X.K l)
  | _, _, .nil => sndL_nil
  | _, _, .cons s h r => sndL_cons h r.pa s
theorem PEs.pk : ∀ {kws : List Keyword} {l : IL}, PEs X Z (kws.map (·.value)) l → PK X kws (tWL Z X.K l)
  | [], _, .nil => sndK_nil
  | ⟨_, _, _⟩ :: kws, _, .cons _ h r => sndK_cons h (PEs.pk (kws := kws) r)
theorem PEs.star : ∀ {es : List Expr} {l : IL}, PEs X Z es l → es.all notStar = true
  | _, _, .nil => rfl
  | _, _, .cons s _ r => by rw [List.all_cons, s, r.star]; rfl
theorem PEs.split : ∀ {es fs : List Expr} {l : IL}, PEs X Z (es ++ fs) l → PEs X Z es (l.tk es.length) ∧ PEs X Z fs (l.dp es.length)
  | [], fs, l, h => by unfold IL.dp; exact ⟨by unfold IL.tk; exact .nil, h⟩
  | e :: es, fs, _, .cons s h r => by
    obtain ⟨h1, h2⟩ := PEs.split (es := es) r
    exact ⟨by show PEs X Z (e :: es) (.cons _ _); exact .cons s h h1, h2⟩
theorem PEs.one {e : Expr} {l : IL} (h : PEs X Z [e] l) : ∃ a, l = .cons a .nil ∧ PE X e (tW Z X.K false a) ∧ notStar e = true := by
  cases h with
  | cons s h r => cases r; exact ⟨_, rfl, h, s⟩
theorem PEs.two {e f : Expr} {l : IL} (h : PEs X Z [e, f] l) : ∃ a b, l = .cons a (.cons b .nil) ∧ PE X e (tW Z X.K false a) ∧ PE X f (tW Z X.K false b) := by
  cases h with
  | cons s h r => cases r with
    | cons s2 h2 r2 => cases r2; exact ⟨_, _, rfl, h, h2⟩
/-! f-strings -/
theorem snd_fmt (ha : PE X a (tW Z X.K false ia)) : PE X (.FormattedValue a (-1) none pos) (tW Z X.K false (.op .fmt (.cons ia .nil))) := by
  refine PE.imp (pe_fmt ha) fun sg H Q ⟨s, c, F, rh, Qm, Em, R, w, ok, x⟩ => ?_
  refine tW.mk R (wpOp1 w) x fun d o s1 c1 v H1 F1 rh1 q1 R1 e1 x1 r1 => ?_
  cases d with
  | str y =>
    cases r1
    exact .inl ⟨y, rfl, q1.1, (ok.step e1).shr R1 .str q1.2⟩
  | int i =>
    cases r1
    exact .inr ⟨i, rfl, q1.1, (ok.step e1).shr R1 .str q1.2⟩
  | _ => exact False.elim q1
theorem pj_of : ∀ {es : List Expr} {l : IL}, PEs X Z es l → ∃ ts, PJ X es ts ∧ ∀ (acc : Str) (sg : L2.St) (H : Hp) (Q : Str → Hp → Prop) (s : List Sl) (c : Cl) (F : Fz) (rh : List Addr) (Qm : Str → List Sl → Cl → Prop) (Em : EK), Rl X.K Z.H0 H F rh sg s c → wpJ Z.C l acc s c Qm Em → OkX Z X.K sg H F rh s Em →
    (∀ z s' c' H' F' rh', Qm z s' c' → Rl X.K Z.H0 H' F' rh' sg s' c' → Ev H F rh (Owned sg s) H' F' rh' (Owned sg s') → Q z H') → tJs ts acc sg H Q
  | _, _, .nil => ⟨[], .nil, fun acc sg H Q s c F rh Qm Em R w x k => by
      unfold wpJ at w
      exact k acc s c H F rh w R Ev.refl⟩
  | _, _, .cons _ h r => by
    obtain ⟨ts, p, k⟩ := pj_of r
    refine ⟨_, .cons h p, fun acc sg H Q s c F rh Qm Em R w x kk => ?_⟩
    unfold wpJ at w
    refine tW.mk R w x fun d o s1 c1 v H1 F1 rh1 ⟨y, e, q1, q2⟩ R1 e1 x1 r1 => ?_
    subst e
    cases r1
    exact ⟨y, rfl, q1, k _ sg H1 Q s1 c1 F1 rh1 Qm Em R1 q2 x1 fun z s' c' H' F' rh' q R' e' => kk z s' c' H' F' rh' q R' (e1.trans e')⟩
theorem snd_fstr {v1 v2 : Expr} {rest : List Expr} (p : PEs X Z (v1 :: v2 :: rest) l) : PE X (.JoinedStr (v1 :: v2 :: rest) pos) (tW Z X.K false (.fstr l)) := by
  obtain ⟨ts, pj, k⟩ := pj_of p
  refine PE.imp (pe_joined pj) fun sg H Q ⟨s, c, F, rh, Qm, Em, R, w, ok, x⟩ => ?_
  unfold wpE at w
  exact k _ sg H _ s c F rh _ Em R w x fun z s' c' H' F' rh' q R' e' => (ok.step e').shr R' .str q
end
end Vm

/-! Vm: class methods; a class that a variable holds is called -/
namespace Vm
open PySem PySem.Spec L2
open PyProof.Rows hiding St
section
variable {X : Cx} {M : Nm} {Z : Sx} {H : Hp} {F : Fz} {rh : List Addr} {sh : L2.St} {s : List Sl} {c : Cl} {o e : Expr} {es : List Expr} {kws : List Keyword} {io : IE} {l il : IL} {apos cpos pos p : Pos} {t tk : TA} {to : TE} {name : Str} {n : Nat}
/-- a def runs, said of the code -/
def RunC (X : Cx) (f : Addr) (ks : List Str) (vs zs : List V) (sg : L2.St) (H : Hp) (Q : VK) : Prop :=
  ∀ (pins : List (Addr × Obj)) (s : Shared) (us ws : List Value), Inv X pins sg H s → Vals vs us → Vals zs ws → codeAny (model X.prog X.w) X.A (.call (.ref f) ⟨us, ks.zip ws⟩) (fun r s' => match r with
    | .error e => X.xe e s'
    | .ok (.ret u) => EP X pins sg Q u s'
    | .ok _ => False) s
theorem runC_fn {f : Nat} {ks : List Nat} {pl : Pl} {sg : L2.St} {Qm : QK} {Em : EK} {Q : VK} {ds es : List D} {vs zs : List V} (G : GOk X M Z) (hf : Z.C.hasF f = true) (hp : Z.C.hasP2 f n ks pl = true) (R : Rl X.K Z.H0 H F rh sg s c) (r : RepL X.K H F rh vs ds) (rz : RepL X.K H F rh zs es) (l1 : ds.length = n) (l2 : es.length = ks.length)
    (w : Z.C.fn f (appD pl (ds ++ es)) c (fun d o c2 => Qm d o s c2) (fun ex c2 => Em ex s c2)) (ok : OkQ X.K Z.H0 sg H F rh s Qm Q) (x : OkX Z X.K sg H F rh s Em) : RunC X (fA X.K (M.fn f)) (kwN (M.ps f) n ks) vs zs sg H Q := by
  obtain ⟨fd, k, g1, g2, g3, g4, g5, g6⟩ := (G.fn f hf).ex
  obtain ⟨g, gV, kb, kr⟩ := g6 n ks pl hp
  have lk : (kwN (M.ps f) n ks).length = ks.length := by unfold kwN; rw [List.length_map]
  intro pins st us ws I rv rw_
  have r2 := kb.rel rv rw_
  have sp := call_use (Z := Z) (sg := sg) (Q := Q) R (kr H F rh vs zs ds es r rz l1 (by rw [lk]; exact l2)) w ok x
  refine codeAny_mono (g4.go X.A X.stack st H ⟨us, (kwN (M.ps f) n ks).zip ws⟩ (g us ws) (gV vs zs) Q _ (g5.mono (by omega)) G.gd I.env0 (kb.to st us ws I.kIn (rv.length.symm.trans (r.len.trans l1)) (rw_.length.symm.trans ((rz.len.trans l2).trans lk.symm))) r2 sp) fun r s' hq => ?_
  match r, hq with
  | .error e, hq => exact passAt G.tk sg pins H st e s' I hq
  | .ok (.ret u), hq => exact I.after hq
  | .ok .next, hq => exact hq.elim
  | .ok .brk, hq => exact hq.elim
  | .ok .cont, hq => exact hq.elim
/-- the arguments of a bound method, then its run -/
theorem args_M {pins : List (Addr × Obj)} {st : Shared} {sg : L2.St} {Q : VK} {q g C : Addr} {ks : List Str} (I : Inv X ((q, PySem.W.methodObj (.ref g) (.ref C)) :: pins) sg H st) (hf : PySem.W.fnIn X.K g = true) (ha : PA X es t) (hkw : PK X kws tk) (hn : kws.map (·.arg) = ks.map some) (hs : es.all notStar = true)
    (h0 : es = [] → ∀ sg H Q, t sg H Q → Q [] H) (h : t sg H fun vs H2 => tk sg H2 fun zs H3 => RunC X g ks (.ref C :: vs) zs sg H3 Q) : wpAny (model X.prog X.w) X.A (callWith pos (.ref q) [] (backTo pos (starEach es X.env)) (backToKw pos (keywordEach kws X.env))) (EP X pins sg Q) X.xe st := by
  obtain ⟨k1, k2, k3⟩ := kw_all (X := X) (pos := pos) hn
  have pl : (backTo pos (starEach es X.env)).any (·.1) = false := star_plain hs
  have fin : ∀ (us : List Value) (vs : List V) (s1 : Shared) (H1 : Hp), Inv X ((q, PySem.W.methodObj (.ref g) (.ref C)) :: pins) sg H1 s1 → Vals vs us → (tk sg H1 fun zs H3 => RunC X g ks (.ref C :: vs) zs sg H3 Q) →
      wpAny (model X.prog X.w) X.A (evalAll ((backToKw pos (keywordEach kws X.env)).map (·.2))) (fun ws s2 => PySem.W.MethP X.K q g (.ref C) s2.heap ∧ wpAny (model X.prog X.w) X.A (call (.ref q) ([] ++ us) (((backToKw pos (keywordEach kws X.env)).filterMap (·.1)).zip ws)) (EP X pins sg Q) X.xe s2) X.xe s1 := fun us vs s1 H1 I1 r qq => by
    refine thn (hkw.run pos _ s1 sg H1 _ I1 qq) fun ws s2 ⟨zs, H2, I2, rz, q2⟩ => ⟨⟨ClX.pin_at I2, I2.kIn⟩, ?_⟩
    rw [k2]
    refine wpAny_call (PySem.W.method_call (ClX.pin_at I2) ?_)
    exact codeAny_mono (q2 _ s2 (.ref C :: us) ws I2 (.cons rfl r) rz) fun r s' hq => by
      match r, hq with
      | .error e, hq => exact hq
      | .ok (.ret u), hq => exact ClX.unpinE hq
      | .ok .next, hq => exact hq.elim
      | .ok .brk, hq => exact hq.elim
      | .ok .cont, hq => exact hq.elim
  cases es with
  | nil =>
    refine PySem.W.callWith_of (P := PySem.W.MethP X.K q g (.ref C)) (by rw [pl, k3]; rfl) (PySem.W.keeps_M hf) (PyProof.Rows.evalArgs_kw2_nil k1 ?_)
    exact fin [] [] st H I .nil (h0 rfl _ _ _ h)
  | cons e es =>
    rw [List.all_cons, Bool.and_eq_true] at hs
    refine PySem.W.callWith_of (P := PySem.W.MethP X.K q g (.ref C)) (by rw [pl, k3]; rfl) (PySem.W.keeps_M hf) (PyProof.Rows.evalArgs_kw2 k1 (thn (ha.run pos _ st sg H _ I h) fun us s1 ⟨vs, H1, I1, r, qq⟩ => ?_) (star_one hs.1))
    exact fin us vs s1 H1 I1 r qq
/-- C.m(..), m a class method of the class that C names -/
theorem snd_cm {k m : Nat} {ks : List Nat} {pl : Pl} {fx : Str} (G : GOk X M Z) (hl : PA X es (tWL Z X.K (l.tk n))) (hk : PK X kws (tWL Z X.K (l.dp n))) (hg : Gl X fx) (hx : fx = clsN k) (h1 : (fx == ("__debug__" : Str)) = false) (hline : (apos.endLine == cpos.line) = true)
    (hs : es.all notStar = true) (hf : es.length + kws.length < 29) (hnm : name = mtN m) (hkw : kws.map (·.arg) = (kwN (M.mp m) (n + 1) ks).map some) (hz : n ≤ l.len) (h0 : es = [] → n = 0) :
    PE X (.Call (.Attribute (.Name fx p) name apos) es kws cpos) (tW Z X.K false (.op (.cm k m n ks pl) l)) := by
  refine ⟨fun pins st sg H Q I ⟨s, c, F, rh, Qm, Em, R, w, ok, x⟩ => ?_⟩
  unfold wpE at w
  obtain ⟨cm, hm⟩ := G.cl.cmt k m w.1
  obtain ⟨q, met⟩ := cm.met
  have w2 := w.2
  rw [wpL_split n] at w2
  rw [arm_eval_Call]
  refine wpAny_bind (thn ((pe_glob (v := .ref (cAd X.K k)) hg (by rw [hx]; exact hm) rfl h1).run pins st sg H (fun v H1 => v = .ref (cAd X.K k) ∧ H1 = H) I ⟨rfl, rfl⟩) fun v s1 ⟨x0, H1, I1, r1, ex, eh⟩ => ?_)
  subst ex eh
  obtain rfl : v = Value.ref (cAd X.K k) := r1
  refine wpAny_bind (wpAny_standAt ?_)
  have hform := form_ok (X := X) cpos hs hkw hf
  have hpos : methodCallPos true (.Name fx p) X.env apos cpos = pure cpos := by unfold methodCallPos; simp [hline]
  unfold methodCall
  rw [hform]
  refine wpAny_bind (wpAny_holding (ClX.getmethcm_ok I1 cm.rd (by rw [hnm]; exact met) fun s2 I2 => ?_))
  refine wpAny_bind (PySem.wpAny_of_eq hpos (args_M I2 met.fi hl hk hkw hs (fun e0 sg H Q q => by
    rw [h0 e0] at q
    unfold IL.tk at q
    exact tWL_nil q) ?_))
  refine tWL.mk R w2 x fun ds s1 c1 vs H1 F1 rh1 q1 R1 e1 x1 r1 => ?_
  refine tWL.mk R1 q1 x1 fun es s2 c2 zs H2 F2 rh2 ⟨q0, qm, qp, ql, q2⟩ R2 e2 x2 r2 => ?_
  rw [Nat.min_eq_left hz] at q0
  have l2 : es.length = ks.length := by
    rw [List.length_cons, List.length_append, q0] at ql
    omega
  have run := runC_fn (vs := .ref (cAd X.K k) :: vs) (ds := .cls k :: ds) (n := n + 1) (ks := ks) (pl := pl) G qm qp R2 (.cons .cls (r1.ext e2.toExt)) r2 (by rw [List.length_cons, q0]) l2 q2 ((ok.step e1).step e2) x2
  rw [cm.ps] at run
  exact run
/-- x(..), x a variable that holds a class -/
theorem snd_mkv {k i : Nat} {ks : List Nat} {pl : Pl} {fx : Str} (G : GOk X M Z) (hN : X.N[i]? = some fx) (hv : Vis X.env.scope fx) (h1 : (fx == ("__debug__" : Str)) = false) (h2 : (fx == ("__classdict__" : Str)) = false) (hl : PA X es (tWL Z X.K (l.tk n))) (hk : PK X kws (tWL Z X.K (l.dp n))) (hs : es.all notStar = true) (hn : kws.map (·.arg) = (kwN (M.ps (mtF k 0)) (n + 1) ks).map some) (hz : n ≤ l.len) (h0 : es = [] → n = 0) :
    PE X (.Call (.Name fx p) es kws pos) (tW Z X.K false (.mkv k i n ks pl l)) := by
  have h00 : es = [] → ∀ sg H Q, tWL Z X.K (l.tk n) sg H Q → Q [] H := fun e0 sg H Q q => by
    rw [h0 e0] at q
    unfold IL.tk at q
    exact tWL_nil q
  refine ⟨fun pins st sg H Q I ⟨s, c, F, rh, Qm, Em, R, w, ok, x⟩ => ?_⟩
  unfold wpE at w
  obtain ⟨w0, w1, w2⟩ := w
  obtain ⟨mk, _⟩ := G.cl.mak k w1
  obtain ⟨v0, g1, g2⟩ := R.shr i _ w0
  cases g2
  refine wpAny_Call_Name_kw (thn ((pe_var hN hv h1 h2).run pins st sg H (fun v H1 => v = .ref (cAd X.K k) ∧ H1 = H) I ⟨_, g1, rfl, rfl⟩) fun u s1 ⟨v, H1, I1, rv, ev, eh⟩ => ?_)
  subst ev eh
  obtain rfl : u = Value.ref (cAd X.K k) := rv
  refine args_W (ks := kwN (M.ps (mtF k 0)) (n + 1) ks) (fv := []) (first := []) I1 .nil mk.kp hl hk hn hs h00 ?_
  rw [wpL_split n] at w2
  refine tWL.mk R w2 x fun ds s1 c1 vs H1 F1 rh1 q1 R1 e1 x1 r1 => ?_
  refine tWL.mk R1 q1 x1 fun es s2 c2 zs H2 F2 rh2 ⟨q0, qm, q2⟩ R2 e2 x2 r2 => ?_
  rw [Nat.min_eq_left hz] at q0
  have l2 : es.length = ks.length := by
    have := q2.2.2.1
    rw [List.length_cons, List.length_append, q0] at this
    omega
  refine runW_mk (Em := Em) (s := s2) G qm mk R2 (r1.ext e2.toExt) r2 q0 l2 q2 (fun x0 dx ns xs H' F' rh' hx hd ⟨fl, q⟩ C' e => ?_) (fun ex q => q) x2
  have C2 := C'.pop R2.toCe e.toExt
  have E2 := Ev.pop hx hd C' R2.toCe e
  obtain ⟨f1, f2, f3⟩ := rh_last C' R2.toCe e.toExt
  have hxl : rh'[rh2.length]? = some x0 := by rw [f1, List.getElem?_append_right (by omega), f2]; simp
  obtain ⟨ob, b1, b2⟩ := C'.ob rh2.length x0 (.ins k ns xs) hxl (by rw [R2.len, List.getElem?_append_right (Nat.le_refl _)]; simp)
  have nin : x0 ∉ rh'.dropLast := fun z => by
    have nd := C'.nd
    rw [f1, List.nodup_append] at nd
    exact nd.2.2 x0 z x0 (by simp) rfl
  have C3 := C2.freeze b1 nin
  have E3 := E2.freeze hx
  obtain ⟨R3, e3⟩ := R2.after C3 E3
  have rep : Rep X.K H' (addF F' x0) rh'.dropLast (.ref x0) (.ins k ns xs) := ((b2.fall f3 (by unfold belowD; exact flatL_below fl _)).ext ext_addF).rep b1 (.inr rfl)
  exact (((ok.step e1).step e2).step e3).shr R3 rep q
end
end Vm

/-! Vm: x[::-1]; displays with starred parts -/
namespace Vm
open PySem PySem.Spec L2
open PyProof.Rows hiding St
section
variable {prog : Program} {w : World} {A : Around} {E : Value → Shared → Prop} {s : Shared}
theorem adj_back (n : Nat) : Builtin.Slice.sliceAdjust none none (-1) (n : Int) = ((n : Int) - 1, -1) := rfl
theorem places_back (n : Nat) : Builtin.Slice.slicePlaces ((n : Int) - 1) (-1) (-1) = n := by
  unfold Builtin.Slice.slicePlaces
  have h1 : ¬ ((-1 : Int) > 0) := by omega
  rw [if_neg h1]
  by_cases h : n = 0
  · subst h; rfl
  · rw [if_pos (by omega)]
    have e : (-(-1 : Int)) = 1 := rfl
    rw [e, Int.ediv_one]; omega
theorem fm_congr {α β : Type} {f g : α → Option β} : ∀ {l : List α}, (∀ x ∈ l, f x = g x) → l.filterMap f = l.filterMap g
  | [], _ => rfl
  | x :: l, h => by
    rw [List.filterMap_cons, List.filterMap_cons, h x List.mem_cons_self, fm_congr fun y hy => h y (List.mem_cons_of_mem _ hy)]
theorem back_pick (xs : Array Value) : ((List.range xs.size).filterMap fun (k : Nat) => xs[((xs.size : Int) - 1 + (k : Int) * (-1)).toNat]?) = xs.toList.reverse := by
  refine List.ext_getElem? fun i => ?_
  have h : ∀ k ∈ List.range xs.size, xs[((xs.size : Int) - 1 + (k : Int) * (-1)).toNat]? = some ((xs.toList.reverse)[k]?.getD .none) := fun k hk => by
    have hk := List.mem_range.mp hk
    have e : ((xs.size : Int) - 1 + (k : Int) * (-1)).toNat = xs.size - 1 - k := by omega
    have hl : k < xs.toList.length := by rw [Array.length_toList]; exact hk
    rw [e, List.getElem?_reverse hl, Array.length_toList, ← Array.getElem?_toList, List.getElem?_eq_getElem (by rw [Array.length_toList]; omega)]
    rfl
  rw [fm_congr (g := some ∘ fun k => (xs.toList.reverse)[k]?.getD .none) h, List.filterMap_eq_map, List.getElem?_map]
  by_cases hi : i < xs.size
  · rw [List.getElem?_range hi]
    have hl : i < xs.toList.reverse.length := by rw [List.length_reverse, Array.length_toList]; exact hi
    rw [List.getElem?_eq_getElem hl]
    show some (xs.toList.reverse[i]?.getD .none) = _
    rw [List.getElem?_eq_getElem hl]; rfl
  · rw [List.getElem?_eq_none (by rw [List.length_range]; omega), List.getElem?_eq_none (by rw [List.length_reverse, Array.length_toList]; omega)]; rfl
theorem part_m1 {v : Value} {Q : Option Int → Shared → Prop} (p : IsPart v (some (-1))) (h : Q (some (-1)) s) : wpAny (model prog w) A (Builtin.Slice.slicePartIndex v) Q E s := HT.slicePart_ p h
theorem applied_back {sl : Addr} {vl vu vs : Value} {n : Nat} {Q : Int × Int × Nat → Shared → Prop} (hs : s.heap.IsSliceOf sl vl vu vs) (pl : IsPart vl none) (pu : IsPart vu none) (ps : IsPart vs (some (-1)))
    (h : Q ((n : Int) - 1, -1, n) s) : wpAny (model prog w) A (Builtin.Slice.sliceApplied (.ref sl) (pure (n : Int))) Q E s := by
  obtain ⟨os, hos, hcs, hds⟩ := id hs
  unfold Builtin.Slice.sliceApplied Builtin.Slice.sliceFields
  refine wpAny_bind (wpAny_bind (wpAny_field hos hds (x := vl) rfl (wpAny_bind (wpAny_field hos hds (x := vu) rfl (wpAny_bind (wpAny_field hos hds (x := vs) rfl (wpAny_pure ?_)))))))
  refine wpAny_bind (part_m1 ps ?_)
  show wpAny _ _ (if ((-1 : Int) == 0) = true then _ else _) _ _ s
  rw [if_neg (by decide)]
  refine wpAny_bind (HT.slicePart_ pl (wpAny_bind (HT.slicePart_ pu (wpAny_bind (wpAny_pure ?_)))))
  show wpAny _ _ (match Builtin.Slice.sliceAdjust none none (-1) (n : Int) with | (lo, hi) => pure (lo, (-1 : Int), Builtin.Slice.slicePlaces lo hi (-1))) _ _ s
  rw [adj_back]
  show wpAny _ _ (pure ((n : Int) - 1, (-1 : Int), Builtin.Slice.slicePlaces ((n : Int) - 1) (-1) (-1))) _ _ s
  rw [places_back]
  exact wpAny_pure h
theorem getItem_tuple_back {t sl : Addr} {items : Array Value} {vl vu vs : Value} {Q : Value → Shared → Prop} (ht : IsTup s.heap t items) (hs : s.heap.IsSliceOf sl vl vu vs) (pl : IsPart vl none) (pu : IsPart vu none) (ps : IsPart vs (some (-1)))
    (h : Q (.ref s.heap.objs.size) { s with heap := s.heap.push { cls := .type "tuple", data := .seq items.toList.reverse.toArray } }) (hsz : items.size ≤ sizeLine) : wpAny (model prog w) A (getItem (.ref t) (.ref sl)) Q E s := by
  have hz : sizeOk (.seq items.toList.reverse.toArray) := by
    show items.toList.reverse.toArray.size ≤ sizeLine
    rw [List.size_toArray, List.length_reverse, Array.length_toList]
    exact hsz
  obtain ⟨os, hos, hcs, hds⟩ := id hs
  have hTs : s.TypeIs (.ref sl) "slice" := ⟨os, hos, hcs⟩
  unfold getItem
  try with_reducible refine wpAny_holding ?_
  first | refine wpAny_bind (wpAny_pure ?_) | skip
  refine wpAny_bind (wpAny_sequenceKey ht.typeIs (by decide) ?_)
  refine wpAny_bind (wpAny_callSpecial?_slot (name := Str.ofString "__getitem__") ht.typeIs PyProof.Rows.slot_tuple_getitem
    (wpAny_call_entry PyProof.Rows.slot_tuple_getitem ht.typeIs PyProof.Rows.entry_tuple_getitem ?_ (PyProof.Rows.args_tuple_getitem _ _)))
  show wpAny _ _ (Builtin.Tuple.tupleItemsOf (.ref t) >>= _) _ _ s
  refine wpAny_bind (tupleItemsOf_ ht ?_)
  refine wpAny_bind (wpAny_typeOf hTs ?_)
  rw [if_pos (by decide)]
  refine wpAny_bind (applied_back hs pl pu ps ?_)
  show wpAny _ _ (if (((items.size : Int) - 1) == 0 && (-1 : Int) == 1 && items.size == items.size) = true then _ else _) _ _ s
  rw [if_neg (by simp), back_pick]
  first
    | exact wpAny_bind (m := Builtin.Tuple.tupleExact _) (wpAny_newObj_type (wpAny_pure ⟨_, rfl, wpAny_pure h⟩) hz)
    | exact wpAny_bind (m := Builtin.Tuple.tupleExact _) (wpAny_newObj_type (wpAny_bind (wpAny_pure (wpAny_pure ⟨_, rfl, wpAny_pure h⟩))) hz)
end
def tRevA (K : PySem.W.Frag) (te : TE) : TE := fun σ H Q => te σ H fun x H1 => ∃ a xs, x = .ref a ∧ ((SqL K H1 a xs ∧ ∀ p, H1 p = none → Q (.ref p) (upd H1 p (.lst xs.reverse))) ∨ (SqT K H1 a xs ∧ ∀ p, H1 p = none → Q (.ref p) (upd H1 p (.tup xs.reverse))))
section
variable {X : Cx} {M : Nm} {Z : Sx} {a : Expr} {ia : IE} {pos : Pos}
theorem pe_revA {e : Expr} {te : TE} {k : Nat} {p1 p2 p3 pos : Pos} (he : PE X e te) : PE X (.Subscript e (.Slice none none (some (.UnaryOp .USub (.Constant (.int 1) k p1) p2)) p3) pos) (tRevA X.K te) := by
  refine ⟨fun pins s σ H Q I h => ?_⟩
  refine Subscript_ (thn (he.run pins s σ H _ I h) fun v s1 ⟨x, H1, I1, r1, q1⟩ => ?_)
  obtain ⟨b, xs, ex, q⟩ := q1
  subst ex
  cases r1
  have hst : PO X (some (.UnaryOp .USub (.Constant (.int 1) k p1) p2)) (tPart (tUn (rU fun i => .int (-i)) (tC (.int 1)))) := po_some (pe_un un_neg pe_int)
  refine wpAny_Slice (thn (po_none.run pins s1 σ H1 (fun o H2 => o = none ∧ H2 = H1) I1 ⟨rfl, rfl⟩) fun vl s2 ⟨l, H2, I2, pl, el, e2⟩ => ?_)
  subst el e2
  refine thn (po_none.run pins s2 σ H2 (fun o H3 => o = none ∧ H3 = H2) I2 ⟨rfl, rfl⟩) fun vu s3 ⟨u, H3, I3, pu, eu, e3⟩ => ?_
  subst eu e3
  refine thn (hst.run pins s3 σ H3 (fun o H4 => o = some (-1) ∧ H4 = H3) I3 ⟨1, rfl, -1, rfl, rfl, rfl⟩) fun vs s4 ⟨o, H4, I4, ps, eo, e4⟩ => ?_
  subst eo e4
  have I5 : Inv X pins σ H4 { s4 with heap := s4.heap.push { cls := .type "slice", data := .fields #[vl, vu, vs] } } := I4.kept (t' := s4.toks) fun b ob q => Heap.get?_push_of_some _ q
  show wpAny (model X.prog X.w) X.A (subscriptTail e (.Slice none none (some (.UnaryOp .USub (.Constant (.int 1) k p1) p2)) p3) (.ref b) (.ref s4.heap.objs.size)) (EP X pins σ Q) X.xe { s4 with heap := s4.heap.push { cls := .type "slice", data := .fields #[vl, vu, vs] } }
  rcases q with ⟨hx, q⟩ | ⟨hx, q⟩
  · obtain ⟨its, r, ht, hz⟩ := I5.list hx
    have hlen := r.length
    refine tail_any (ops := [.ref b, .ref s4.heap.objs.size]) ht.isList.typeIs (PySem.slot_list_getitem.lookup) ?_ (by with_unfolding_all rfl)
    refine wpAny_getItem_list_slice ht.isList (Heap.IsSliceOf.new _ vl vu vs) pl pu ps (by decide) ?_ (by rw [List.size_toArray]; omega)
    rw [PySem.W.krv_pick]
    refine ⟨.ref _, _, I5.laid (t' := s4.toks) (o := .lst xs.reverse) (fun b ob q => Heap.get?_push_of_some _ q) (Nat.le_refl _) ?_, rfl, q _ (I5.hok.fresh (Nat.le_refl _))⟩
    exact ⟨by rw [List.length_reverse]; exact hz, _, 0, r.reverse, Heap.get?_push_size _ rfl⟩
  · obtain ⟨its, r, ht, hz⟩ := I5.tuple hx
    have hlen := r.length
    refine tail_any (ops := [.ref b, .ref s4.heap.objs.size]) ht.typeIs (PyProof.Rows.slot_tuple_getitem.lookup) ?_ (by with_unfolding_all rfl)
    refine getItem_tuple_back ht (Heap.IsSliceOf.new _ vl vu vs) pl pu ps ?_ (by rw [List.size_toArray]; omega)
    refine ⟨.ref _, _, I5.laid (t' := s4.toks) (o := .tup xs.reverse) (fun b ob q => Heap.get?_push_of_some _ q) (Nat.le_refl _) ?_, rfl, q _ (I5.hok.fresh (Nat.le_refl _))⟩
    exact ⟨by rw [List.length_reverse]; exact hz, _, r.reverse, IsTup.new _ _⟩
theorem snd_rev {k : Nat} {p1 p2 p3 : Pos} (ha : PE X a (tW Z X.K false ia)) : PE X (.Subscript a (.Slice none none (some (.UnaryOp .USub (.Constant (.int 1) k p1) p2)) p3) pos) (tW Z X.K false (.op .rev (.cons ia .nil))) := by
  refine PE.imp (pe_revA ha) fun sg H Q ⟨s, c, F, rh, Qm, Em, R, w, ok, x⟩ => ?_
  refine tW.mk R (wpOp1 w) x fun d o s1 c1 v H1 F1 rh1 q1 R1 e1 x1 r1 => ?_
  have other : ∀ xs, (asL c1 d = some xs ∨ d = .scr xs) → Qm (.lst xs.reverse) true s1 c1 → ∃ b ys, v = V.ref b ∧ ((SqL X.K H1 b ys ∧ ∀ p, H1 p = none → Q (.ref p) (upd H1 p (.lst ys.reverse))) ∨ (SqT X.K H1 b ys ∧ ∀ p, H1 p = none → Q (.ref p) (upd H1 p (.tup ys.reverse)))) := fun xs hx q => by
    have hs : asS c1 d = some xs := by
      rcases hx with hx | rfl
      · cases d <;> first | exact hx | cases hx
      · rfl
    have hn : ∀ ds, d ≠ .tup ds := fun ds e => by
      subst e
      rcases hx with hx | hx <;> cases hx
    obtain ⟨b, vs, rfl, sl, rv⟩ := asSL_of R1.toCe r1 hs hn
    exact ⟨b, vs, rfl, .inl ⟨sl, fun p hp => (ok.step e1).out R1 (.new (y := .lst xs.reverse) hp ⟨_, rfl, rv.rev⟩) q⟩⟩
  cases d with
  | tup xs =>
    obtain ⟨b, vs, rfl, hf, rv⟩ := r1.tup_of
    exact ⟨b, vs, rfl, .inr ⟨hf.sq, fun p hp => (ok.step e1).out R1 (.tup hp rv.rev) q1⟩⟩
  | lst xs => obtain ⟨ys, h, q⟩ := q1; exact other ys h q
  | scr xs => obtain ⟨ys, h, q⟩ := q1; exact other ys h q
  | cell n => obtain ⟨ys, h, q⟩ := q1; exact other ys h q
  | _ => obtain ⟨ys, h, q⟩ := q1; exact other ys h q
/-! displays with starred parts -/
def isStar : Expr → Bool
  | .Starred _ _ => true
  | _ => false
def unStar : Expr → Expr
  | .Starred a _ => a
  | e => e
def tWD (Z : Sx) (K : PySem.W.Frag) (st : List Bool) (l : IL) : TA := fun sh H Q => ∃ s c F rh Qm Em, Rl K Z.H0 H F rh sh s c ∧ wpD Z.C st l s c Qm Em ∧ OkL K Z.H0 sh H F rh s Qm Q ∧ OkX Z K sh H F rh s Em
theorem sndD : ∀ {es : List Expr} {l : IL} {st : List Bool}, PEs X Z (es.map unStar) l → es.map isStar = st → PA X es (tWD Z X.K st l)
  | [], _, st, .nil, h => PA.imp pa_nil fun sg H Q ⟨s, c, F, rh, Qm, Em, R, w, ok, x⟩ => by
    unfold wpD at w
    exact ok [] s c [] H F rh w R Ev.refl .nil
  | e :: es, .cons ie l, st, h, hst => by
    cases hst
    have h' : PEs X Z (unStar e :: es.map unStar) (.cons ie l) := h
    cases h' with
    | cons s0 he hr =>
      have ih := sndD (es := es) hr rfl
      have plain : isStar e = false → unStar e = e → starEach (e :: es) X.env = (false, eval e X.env) :: starEach es X.env → PA X (e :: es) (tWD Z X.K (isStar e :: es.map isStar) (.cons ie l)) := fun e1 e2 e3 => by
        rw [e2] at he
        rw [e1]
        refine PA.imp (pa_cons he ih e3) fun sg H Q ⟨s, c, F, rh, Qm, Em, R, w, ok, x⟩ => ?_
        unfold wpD at w
        refine tW.mk R w x fun d o s1 c1 v H1 F1 rh1 q1 R1 e1 x1 r1 => ?_
        exact ⟨s1, c1, F1, rh1, _, _, R1, q1, fun ds s2 c2 vs H2 F2 rh2 q2 R2 e2 r2 => ok (d :: ds) s2 c2 (v :: vs) H2 F2 rh2 q2 R2 (e1.trans e2) (.cons (r1.ext e2.toExt) r2), x1⟩
      cases e with
      | Starred a p =>
        refine PA.imp (StX.pa_star (he : PE X a (tW Z X.K false ie)) ih) fun sg H Q ⟨s, c, F, rh, Qm, Em, R, w, ok, x⟩ => ?_
        have w : wpD Z.C (true :: es.map isStar) (.cons ie l) s c Qm Em := w
        unfold wpD at w
        refine tW.mk R w x fun d o s1 c1 v H1 F1 rh1 ⟨xs, hx, q1⟩ R1 e1 x1 r1 => ?_
        obtain ⟨b, vs0, rfl, hs, rv⟩ := asS_of R1.toCe r1 hx
        exact ⟨b, vs0, rfl, hs.symm, s1, c1, F1, rh1, _, _, R1, q1, fun ds s2 c2 vs H2 F2 rh2 q2 R2 e2 r2 => ok (xs ++ ds) s2 c2 (vs0 ++ vs) H2 F2 rh2 q2 R2 (e1.trans e2) ((rv.ext e2.toExt).app r2), x1⟩
      | _ => exact plain rfl rfl rfl
theorem snd_disp {tp : Bool} {st : List Bool} {es : List Expr} {l : IL} {k : Nat} (h : PEs X Z (es.map unStar) l) (hst : es.map isStar = st) :
    PE X (if tp = true then .Tuple es k pos else .List es pos) (tW Z X.K false (.disp tp st l)) := by
  have pa := sndD h hst
  cases tp with
  | true =>
    refine PE.imp (pe_tup (x1 := k) (pos := pos) pa) fun sg H Q ⟨s, c, F, rh, Qm, Em, R, w, ok, x⟩ => ?_
    unfold wpE at w
    exact ⟨s, c, F, rh, _, _, R, w, fun ds s1 c1 vs H1 F1 rh1 ⟨q0, q1⟩ R1 e1 r1 => ⟨by rw [r1.len]; exact q0, fun p hp => (ok.step e1).out R1 (.tup hp r1) q1⟩, x⟩
  | false =>
    refine PE.imp (pe_lst (pos := pos) pa) fun sg H Q ⟨s, c, F, rh, Qm, Em, R, w, ok, x⟩ => ?_
    unfold wpE at w
    exact ⟨s, c, F, rh, _, _, R, w, fun ds s1 c1 vs H1 F1 rh1 ⟨q0, q1⟩ R1 e1 r1 => ⟨by rw [r1.len]; exact q0, fun p hp => (ok.step e1).out R1 (.new (y := .lst ds) hp ⟨vs, rfl, r1⟩) q1⟩, x⟩
end
end Vm

/-! Vm: == with an instance on the right and a value of the language on the left -/
namespace Vm
open PySem PySem.Spec L2
open PyProof.Rows hiding St
section
open PySem.W
variable {prog : Program} {w : World} {M : Model} {A : Around} {E : Value → Shared → Prop} {s : Shared} {K : Frag} {x C f dx : Addr} {od : Option Obj}
theorem eqR_K {T id : String} {a : Value} {ox : Obj} {Q : Value → Shared → Prop} (hu : A.units < cLine) (ha : s.TypeIs a T) (hsl : Slot T "__eq__" id) (X : K.In s.heap) (I : InstAt s.heap x ox C od)
    (hsub : subIn K (.ref C) (.type T) = some false) (dec : ∀ Q' : Value → Shared → Prop, Q' .notImplemented s → wpAny (model prog w) A (call (.builtin id) [a, .ref x]) Q' E s)
    (hs : findIn K (.ref C) "__eq__" = some (some (.ref f))) (hf : isFn K (.ref f) = true) (h : wpAny (model prog w) A (call (.ref f) [.ref x, a]) (PySem.W.CmpBack Q) E s) : wpAny (model prog w) A (richCompare .Eq a (.ref x)) Q E s := by
  unfold richCompare
  simp only [ha.oneThing_none]
  refine wpAny_holding (wpAny_bind (wpAny_cRoomFor_or (.inr hu) ?_))
  refine wpAny_bind (wpAny_typeOf ha (wpAny_bind (I.type.here ?_)))
  have hne : (Value.type T != Value.ref C) = true := rfl
  simp only [hne, if_true]
  refine wpAny_bind ((looks_subIn X hsub).here ?_)
  simp only [Bool.false_eq_true, if_false, Bool.not_false, if_true]
  refine wpAny_bind (m := tryCompare a _ (.ref x)) (wpAny_tryCompare_declines ha hsl (dec _ ⟨rfl, ?_⟩))
  refine wpAny_bind (m := tryCompare (.ref x) _ a) ?_
  unfold tryCompare
  refine wpAny_bind (ifBound_K X I hs hf (wpAny_mono h (fun v s' z => ?_) fun _ _ z => z))
  cases v <;> first | exact False.elim z | exact wpAny_pure (wpAny_pure z)
theorem dec_tuple {l : Addr} {items : Array Value} {n : Nat} {dd : Option Addr} {sl : Array (Option Value)} {ox : Obj} (hl : s.heap.get? l = some { cls := .type "tuple", dict := dd, data := .seq items n, slots := sl }) (X : K.In s.heap) (I : InstAt s.heap x ox C od) (hsub : mroIn K C (.type "tuple") = some false) (Q' : Value → Shared → Prop) (q : Q' .notImplemented s) :
    wpAny (model prog w) A (call (.builtin "tuple.__eq__") [.ref l, .ref x]) Q' E s := by
  have sub : Looks (model prog w) s.heap (isInstance (.ref x) (.type "tuple")) false := I.type.andThen (looks_mroIn X hsub)
  refine wpAny_call_entry F.slot_tuple_eq ⟨_, hl, rfl⟩ F.entry_tuple_eq ?_ (F.args_tuple_eq_2 _ _)
  obtain ⟨hh, g, d, tk, os⟩ := s
  wp_walk using sub.here
  exact ⟨_, rfl, q⟩
theorem dec_int {b : Int} {u : Tok} (hx : s.heap.get? x = some (instObj C dx)) (Q' : Value → Shared → Prop) (q : Q' .notImplemented s) : wpAny (model prog w) A (call (.builtin "int.__eq__") [.int b u, .ref x]) Q' E s := by
  refine wpAny_call_entry F.slot_int_eq (typeIs_int s b u) F.entry_int_eq ?_ (F.args_int_eq_2 _ _)
  unfold instObj at hx
  obtain ⟨hh, g, d, tk, os⟩ := s
  wp_walk using wpAny_loadPart' hx, wpAny_load hx
  exact ⟨_, rfl, q⟩
theorem dec_bool {b : Bool} (hx : s.heap.get? x = some (instObj C dx)) (Q' : Value → Shared → Prop) (q : Q' .notImplemented s) : wpAny (model prog w) A (call (.builtin "int.__eq__") [.bool b, .ref x]) Q' E s := by
  refine wpAny_call_entry F.slot_bool_eq rfl F.entry_int_eq ?_ (F.args_int_eq_2 _ _)
  unfold instObj at hx
  obtain ⟨hh, g, d, tk, os⟩ := s
  wp_walk using wpAny_loadPart' hx, wpAny_load hx
  exact ⟨_, rfl, q⟩
theorem dec_str {b : Str} {u : Tok} (hx : s.heap.get? x = some (instObj C dx)) (Q' : Value → Shared → Prop) (q : Q' .notImplemented s) : wpAny (model prog w) A (call (.builtin "str.__eq__") [.str b u, .ref x]) Q' E s := by
  refine wpAny_call_entry F.slot_str_eq (typeIs_str s b u) F.entry_str_eq ?_ (F.args_str_eq_2 _ _)
  unfold instObj at hx
  obtain ⟨hh, g, d, tk, os⟩ := s
  wp_walk using wpAny_loadPart' hx, wpAny_load hx
  exact ⟨_, rfl, q⟩
theorem sl_none : Slot "NoneType" "__eq__" "NoneType.__eq__" := F.slot_NoneType_eq
theorem sl_bool : Slot "bool" "__eq__" "int.__eq__" := F.slot_bool_eq
theorem sl_int : Slot "int" "__eq__" "int.__eq__" := F.slot_int_eq
theorem sl_str : Slot "str" "__eq__" "str.__eq__" := F.slot_str_eq
theorem sl_tuple : Slot "tuple" "__eq__" "tuple.__eq__" := F.slot_tuple_eq
theorem dec_none (Q' : Value → Shared → Prop) (q : Q' .notImplemented s) : wpAny (model prog w) A (call (.builtin "NoneType.__eq__") [.none, .ref x]) Q' E s :=
  call_gives F.slot_NoneType_eq rfl F.entry_NoneType_eq (F.args_NoneType_eq_2 _ _) (PySem.SeqAt.NoneType___eq___none_ref_0 x) q
end
section
variable {X : Cx} {M : Nm} {Z : Sx} {H : Hp} {F : Fz} {rh : List Addr} {sh : L2.St} {s : List Sl} {c : Cl}
theorem cmpW_eqR (G : GOk X M Z) : CmpW X Z .Eq .eqR := fun sg H F rh s c Qm Em Q d d2 v u R r1 r2 ⟨k, q2, q3, q5, q4⟩ ok x pins st y z I rx ry => by
  obtain ⟨q, dx, gs, rfl, ea, _⟩ := cls_rep R.toCe r2 q2
  cases ry
  obtain ⟨mA, O, _, _, _, _⟩ := ins_get I.hok ea
  obtain ⟨od, J, _⟩ := O.look
  have hx := O.obj
  have mth := G.cl.mth k 1 q4.1
  have hu := G.hu
  have run := (runM (Qm := fun d o s' c' => ∃ b, d = .bl b ∧ Qm (.bl b) false s' c') G R r2 (.cons r1 .nil) q4 (okQ_bl id ok) x).go I (.cons rfl (.cons rx .nil))
  have rev := G.cl.rev k q3
  have run2 : wpAny (model X.prog X.w) X.A (call (.ref (fA X.K (M.fn (mtF k 1)))) [.ref q, y]) (PySem.W.CmpBack (EP X pins sg Q)) X.xe st := xe_of run fun v s' ⟨w, H', I', rw_, b, e, q⟩ => by
    subst e
    exact cmpBack rw_ ⟨_, H', I', rw_, q⟩
  cases r1 with
  | non =>
    cases rx
    exact eqR_K (T := "NoneType") (by omega) rfl sl_none I.kIn J (rev _ (by decide)) (fun _ => dec_none _) mth.meth.at_ mth.meth.fn run2
  | bl =>
    cases rx
    exact eqR_K (T := "bool") (by omega) rfl sl_bool I.kIn J (rev _ (by decide)) (fun _ => dec_bool hx _) mth.meth.at_ mth.meth.fn run2
  | int =>
    obtain ⟨t, rfl⟩ := rx
    exact eqR_K (T := "int") (by omega) (typeIs_int _ _ _) sl_int I.kIn J (rev _ (by decide)) (fun _ => dec_int hx _) mth.meth.at_ mth.meth.fn run2
  | str =>
    obtain ⟨t, rfl⟩ := rx
    exact eqR_K (T := "str") (by omega) (typeIs_str _ _ _) sl_str I.kIn J (rev _ (by decide)) (fun _ => dec_str hx _) mth.meth.at_ mth.meth.fn run2
  | tup hs =>
    cases rx
    obtain ⟨its, _, hl, _⟩ := I.tuple hs.sq
    obtain ⟨⟨cls, dd, data, sl⟩, ho, hc, n, hd⟩ := hl
    simp only at hc hd
    subst hc hd
    exact eqR_K (T := "tuple") (by omega) ⟨_, ho, rfl⟩ sl_tuple I.kIn J (rev _ (by decide)) (fun _ => dec_tuple ho I.kIn J (rev _ (by decide)) _) mth.meth.at_ mth.meth.fn run2
  | _ => cases q5
theorem snd_eqR {a b : Expr} {ia ib : IE} {pos : Pos} (G : GOk X M Z) (ha : PE X a (tW Z X.K false ia)) (hb : PE X b (tW Z X.K false ib)) (hm : behindInMarks .Eq b = false) : PE X (.Compare a [.Eq] [b] pos) (tW Z X.K false (.op .eqR (.cons ia (.cons ib .nil)))) :=
  cmp2 ha hb hm (cmpW_eqR G)
end
end Vm

/-! Vm: bool(x), len(x), x[y], y in x, if x: of an instance, by its own methods -/
namespace Vm
open PySem PySem.Spec L2
open PyProof.Rows hiding St
section
open PySem.W
variable {prog : Program} {w : World} {A : Around} {E : Value → Shared → Prop} {s : Shared}
theorem boolI_meets (x : Addr) : MeetsIn prog w (Builtin.«bool.__new__» ⟨[.type "bool", .ref x], []⟩) (fun A R s => wpAny (model prog w) A.in1 (truthy (.ref x)) (fun b s' => R (.ok (.ret (.bool b))) s') (fun e s' => R (.error e) s') s) :=
  .of_wp fun A R s hs => by
    have f1 := F.conv_sub_bool
    obtain ⟨hp, g, d, tk, os⟩ := s
    repeat (any_goals (first | assumption | (with_reducible refine wpAny_mono hs (fun b s' q => ?_) (fun _ _ q => q)) | wp_step))
    exact ⟨_, rfl, q⟩
theorem call_boolI {x : Addr} {Q : Value → Shared → Prop} (h : wpAny (model prog w) A.in1.in1 (truthy (.ref x)) (fun b s' => Q (.bool b) s') E s) : wpAny (model prog w) A (call (.type "bool") [.ref x]) Q E s :=
  callType_newIn F.called_bool F.newNe_bool (F.typeCall_bool_1 (.ref x)) (F.newCall_bool_1 (.ref x)) (fun obj => F.args_object_init_2 obj (.ref x)) F.entry_bool_new (boolI_meets x) (wpAny_mono h (fun b s' q => ⟨rfl, q⟩) fun _ _ e => e)
end
section
variable {X : Cx} {M : Nm} {Z : Sx} {H : Hp} {F : Fz} {rh : List Addr} {sh : L2.St} {s : List Sl} {c : Cl} {o a b e : Expr} {es : List Expr} {io ia ib : IE} {l il : IL} {pos p : Pos}
/-- a method runs, in surroundings of the machine's own -/
theorem runAt {k m n : Nat} {sg : L2.St} {Qm : QK} {Em : EK} {Q : VK} {d : D} {ds : List D} {v : V} {vs : List V} {A : Around} (hA : ∀ j, Room (j + 2) X.A → Room j A) (hgA : A.guards = some []) (heA : ∀ {st : Shared} {H : Hp}, Env0 X.prog X.w X.K X.mg X.base X.A X.stack st H → Env0 X.prog X.w X.K X.mg X.base A X.stack st H) (G : GOk X M Z) (R : Rl X.K Z.H0 H F rh sg s c) (r : Rep X.K H F rh v d) (rs : RepL X.K H F rh vs ds)
    (w : callW Z.C (mtF k m) (n + 1) [] (idP (n + 1)) (d :: ds) c (fun d o c2 => Qm d o s c2) (fun ex c2 => Em ex s c2)) (ok : OkQ X.K Z.H0 sg H F rh s Qm Q) (x : OkX Z X.K sg H F rh s Em) {pins : List (Addr × Obj)} {st : Shared} {us : List Value} (I : Inv X pins sg H st) (ru : Vals (v :: vs) us) :
    wpAny (model X.prog X.w) A (call (.ref (fA X.K (M.fn (mtF k m)))) us) (EP X pins sg Q) X.xe st := by
  obtain ⟨w2, w3, w4, w5⟩ := w
  obtain ⟨fd, j, g1, g2, g3, g4, g5, g6⟩ := (G.fn _ w2).ex
  obtain ⟨g, gV, kb, kr⟩ := g6 _ _ _ w3
  have l1 : (d :: ds).length = n + 1 := by simpa using w4
  have lv : (v :: vs).length = n + 1 := (RepL.cons r rs).len.trans l1
  have sp := call_use (Z := Z) (sg := sg) (Q := Q) R (kr H F rh (v :: vs) [] (d :: ds) [] (.cons r rs) .nil l1 rfl) (by rw [List.append_nil]; exact w5) ok x
  refine wpAny_call (codeAny_mono (g4.go A X.stack st H ⟨us, []⟩ _ _ Q (WE Z.W sg) (hA j g5) hgA (heA I.env0) (kb.to st us [] I.kIn (ru.length.symm.trans lv) rfl) (kb.rel ru .nil) sp) fun r s' hq => ?_)
  cases r with
  | error er => exact passAt G.tk sg pins H st er s' I hq
  | ok fl =>
    cases fl with
    | ret u => exact I.after hq
    | next => exact False.elim hq
    | brk => exact False.elim hq
    | cont => exact False.elim hq
theorem room0 {j : Nat} (h : Room (j + 2) X.A) : Room j X.A := h.mono (by omega)
theorem room1 {j : Nat} (h : Room (j + 2) X.A) : Room j X.A.in1 := (h.mono (show j + 1 ≤ j + 2 by omega)).in1
theorem room2 {j : Nat} (h : Room (j + 2) X.A) : Room j X.A.in1.in1 := h.in1.in1
theorem okQ_blN {K : PySem.W.Frag} {H0 : Hp} {Qm : QK} {Q : VK} (ok : OkQ K H0 sh H F rh s Qm Q) : OkQ K H0 sh H F rh s (fun d o s' c' => ∃ n : Int, d = .int n ∧ (0 ≤ n ∧ n < 2 ^ 63) ∧ Qm (.int n) false s' c') (fun v H' => ∃ n : Int, v = .int n ∧ (0 ≤ n ∧ n < 2 ^ 63) ∧ Q (.int n) H') :=
  fun d o s' c' v H' F' rh' ⟨b, e, hb, q⟩ rl ev rs => by
    subst e
    refine ⟨b, ?_, hb, ok _ _ _ _ _ _ _ _ q rl ev (show Rep K H' F' rh' (.int b) (.int b) from .int)⟩
    cases o with
    | false => exact Rep.int_of rs
    | true =>
      obtain ⟨a, ob, _, _, _, h, _⟩ := rs
      exact (show False from h).elim
theorem boolBack {pins : List (Addr × Obj)} {sg : L2.St} {Q : VK} {Q' : Bool → Shared → Prop} (h : ∀ b st H', Inv X pins sg H' st → Q (.bl b) H' → Q' b st) {u : Value} {st : Shared} (q : EP X pins sg (fun v H' => ∃ b, v = .bl b ∧ Q (.bl b) H') u st) : PySem.W.BoolBack Q' u st := by
  obtain ⟨v, H', I', rv, b, e, q⟩ := q
  subst e
  cases rv
  exact h b st H' I' q
theorem okx0 {sg : L2.St} : OkX Z X.K sg H F rh s (fun _ _ _ => False) := fun ex s' c' cls da H' F' rh' q => q.elim
/-- bool(x) -/
theorem snd_boolI (G : GOk X M Z) (ha : PE X a (tW Z X.K false ia)) (hg : Gl X "bool") (hs : notStar a = true) : PE X (.Call (.Name "bool" p) [a] [] pos) (tW Z X.K false (.op .boolI (.cons ia .nil))) := by
  refine ⟨fun pins st sg H Q I ⟨s, c, F, rh, Qm, Em, R, w, ok, x⟩ => ?_⟩
  have hP : Z.C.hasP .bool = true := by unfold wpE at w; exact w.1
  refine Call_ (ld_blt I hg (G.prim .bool hP) PyProof.Rows.boot_bool ?_)
  refine PyProof.Rows.callWith_type1 (PyProof.Rows.args_cons (thn (ha.run pins st sg H _ I (tW.mk (Q := fun v H1 => ∀ pins st y, Inv X pins sg H1 st → RelV v y → wpAny (model X.prog X.w) X.A (call (.type "bool") [y]) (EP X pins sg Q) X.xe st) R (wpOp1 w) x fun d o s1 c1 v H1 F1 rh1 q1 R1 e1 x1 r1 => ?_)) fun v s1 ⟨x, H1, I1, r1, q⟩ => PyProof.Rows.args_nil (q pins s1 v I1 r1)) (star_one hs)) (star_one hs) rfl
  intro pins st y I1 ry
  obtain ⟨k, q1, q2, q3⟩ := q1
  obtain ⟨q, dx, gs, rfl, ea, _⟩ := cls_rep R1.toCe r1 q1
  cases ry
  obtain ⟨ob, od, J⟩ := inst_at I1 ea
  obtain ⟨m, hF⟩ := I1.fr
  have mth := G.cl.mth k 5 q2
  refine call_boolI (PySem.W.truthy_K hF I1.ok.mod.kin J mth.meth.at_ mth.meth.fn ?_)
  refine xe_of (runAt (fun j => room2) G.gd (fun e => e.in1.in1) (n := 0) (Em := fun _ _ _ => False) (Qm := fun d o s' c' => ∃ b, d = .bl b ∧ Qm (.bl b) false s' c') G R1 r1 .nil q3 (okQ_bl id (ok.step e1)) okx0 I1 (.cons rfl .nil)) fun u st2 hq => boolBack (fun b st H' I' q => ⟨.bl b, H', I', rfl, q⟩) hq
/-- len(x) -/
theorem snd_lenI (G : GOk X M Z) (ha : PE X a (tW Z X.K false ia)) (hg : Gl X "len") (hs : notStar a = true) : PE X (.Call (.Name "len" p) [a] [] pos) (tW Z X.K false (.op .lenI (.cons ia .nil))) := by
  refine ⟨fun pins st sg H Q I ⟨s, c, F, rh, Qm, Em, R, w, ok, x⟩ => ?_⟩
  have hP : Z.C.hasP .len = true := by unfold wpE at w; exact w.1
  refine Call_ (ld_blt I hg (G.prim .len hP) PySem.boot_len ?_)
  refine PyProof.Rows.callWith_builtin1 (PyProof.Rows.args_cons (thn (ha.run pins st sg H _ I (tW.mk (Q := fun v H1 => ∀ pins st y, Inv X pins sg H1 st → RelV v y → wpAny (model X.prog X.w) X.A (call (.builtin "len") [y]) (EP X pins sg Q) X.xe st) R (wpOp1 w) x fun d o s1 c1 v H1 F1 rh1 q1 R1 e1 x1 r1 => ?_)) fun v s1 ⟨x, H1, I1, r1, q⟩ => PyProof.Rows.args_nil (q pins s1 v I1 r1)) (star_one hs)) (star_one hs) rfl
  intro pins st y I1 ry
  obtain ⟨k, q1, q2, q3⟩ := q1
  obtain ⟨q, dx, gs, rfl, ea, _⟩ := cls_rep R1.toCe r1 q1
  cases ry
  obtain ⟨ob, od, J⟩ := inst_at I1 ea
  obtain ⟨m, hF⟩ := I1.fr
  have mth := G.cl.mth k 6 q2
  refine PySem.W.len_K hF I1.ok.mod.kin J mth.meth.at_ mth.meth.fn ?_
  refine xe_of (runAt (fun j => room1) G.gd (fun e => e.in1) (Qm := fun d o s' c' => ∃ n : Int, d = .int n ∧ (0 ≤ n ∧ n < 2 ^ 63) ∧ Qm (.int n) false s' c') (n := 0) (Em := fun _ _ _ => False) G R1 r1 .nil q3 (okQ_blN (ok.step e1)) okx0 I1 (.cons rfl .nil)) fun u st2 ⟨v, H', I', rv, n, e, hn, q⟩ => ?_
  subst e
  obtain ⟨t, rfl⟩ := rv
  exact ⟨hn, .int n, H', I'.tok _, ⟨_, rfl⟩, q⟩
/-- x[y] -/
theorem snd_getI (G : GOk X M Z) (ha : PE X a (tW Z X.K false ia)) (hb : PE X b (tW Z X.K false ib)) (hsl : ∀ o i, subscripted b true o i = runValue (.builtin "lifetime.subscript" ⟨[o, i], []⟩)) : PE X (.Subscript a b pos) (tW Z X.K false (.op .getI (.cons ia (.cons ib .nil)))) := by
  refine ⟨fun pins st sg H Q I ⟨s, c, F, rh, Qm, Em, R, w, ok, x⟩ => ?_⟩
  refine Subscript_ (thn (ha.run pins st sg H _ I (tW.mk (Q := fun v H1 => ∀ pins st y, Inv X pins sg H1 st → RelV v y → wpAny (model X.prog X.w) X.A (eval b X.env) (fun z st2 => wpAny (model X.prog X.w) X.A (subscriptTail a b y z) (EP X pins sg Q) X.xe st2) X.xe st) R (wpOp2 w) x fun d o s1 c1 v H1 F1 rh1 q1 R1 e1 x1 r1 => ?_)) fun v s1 ⟨x, H1, I1, r1, q⟩ => q pins s1 v I1 r1)
  intro pins st y I1 ry
  refine thn (hb.run pins st sg H1 _ I1 (tW.mk (Q := fun u H2 => ∀ pins st z, Inv X pins sg H2 st → RelV u z → wpAny (model X.prog X.w) X.A (subscriptTail a b y z) (EP X pins sg Q) X.xe st) R1 q1 x1 fun d2 o2 s2 c2 u H2 F2 rh2 q2 R2 e2 x2 r2 => ?_)) fun z s2 ⟨u, H2, I2, r2, q⟩ => q pins s2 z I2 r2
  intro pins st z I2 rz
  obtain ⟨k, g1, g2, g3⟩ := q2
  have r1' := r1.ext e2.toExt
  obtain ⟨q, dx, gs, rfl, ea, _⟩ := cls_rep R2.toCe r1' g1
  cases ry
  obtain ⟨ob, od, J⟩ := inst_at I2 ea
  obtain ⟨m, hF⟩ := I2.fr
  have mth := G.cl.mth k 7 g2
  exact PySem.W.sub_K hF I2.ok.mod.kin J mth.meth.at_ mth.fi mth.meth.fn (runAt (fun j => room1) G.gd (fun e => e.in1) G R2 r1' (.cons r2 .nil) g3 ((ok.step e1).step e2) x2 I2 (.cons rfl (.cons rz .nil))) (hsl _ _)
/-- y in x -/
theorem cmpW_inI (G : GOk X M Z) (neg : Bool) : CmpW X Z (if neg then .NotIn else .In) (.inI neg) := fun sg H F rh s c Qm Em Q d d2 v u R r1 r2 ⟨k, q2, q3, q4⟩ ok x pins st y z I rx ry => by
  obtain ⟨q, dx, gs, rfl, ea, _⟩ := cls_rep R.toCe r2 q2
  cases ry
  obtain ⟨ob, od, J⟩ := inst_at I ea
  obtain ⟨m, hF⟩ := I.fr
  have mth := G.cl.mth k 15 q3
  have run := runAt (A := X.A) (fun j => room0) G.gd (fun e => e) (Qm := fun d o s' c' => ∃ b, d = .bl b ∧ Qm (.bl (neg != b)) false s' c') G R r2 (.cons r1 .nil) q4 (okQ_bl (fun b => neg != b) ok) x I (.cons rfl (.cons rx .nil))
  cases neg with
  | false =>
    refine PySem.W.in_K hF I.ok.mod.kin J mth.meth.at_ mth.meth.fn (xe_of run fun w s' ⟨w2, H', I', rw_, b, e, q⟩ => ?_)
    subst e
    cases rw_
    exact wpAny_truthy_bool ⟨.bl b, H', I', rfl, by simpa using q⟩
  | true =>
    refine PySem.W.notIn_K hF I.ok.mod.kin J mth.meth.at_ mth.meth.fn (xe_of run fun w s' ⟨w2, H', I', rw_, b, e, q⟩ => ?_)
    subst e
    cases rw_
    exact wpAny_truthy_bool ⟨.bl (!b), H', I', rfl, by simpa using q⟩
/-- an instance in a test -/
theorem pt_truI (G : GOk X M Z) (ha : PE X a (tW Z X.K false ia)) (he : ∀ whole, isTrue a X.env whole = (do let v ← whole; standAt a.pos; holding [v] (truthy v))) : PT X a (fun sg H Q => ∃ (s : List Sl) (c : Cl) (F : Fz) (rh : List Addr) (Qm : Bool → List Sl → Cl → Prop) (Em : EK), Rl X.K Z.H0 H F rh sg s c ∧ wpE Z.C false ia s c (fun d _ s1 c1 => truW Z.C d c1 fun b c2 => Qm b s1 c2) Em ∧
    (∀ b s' c' H' F' rh', Qm b s' c' → Rl X.K Z.H0 H' F' rh' sg s' c' → Ev H F rh (Owned sg s) H' F' rh' (Owned sg s') → Q b H') ∧ OkX Z X.K sg H F rh s Em) := by
  refine ⟨fun pins st sg H Q I ⟨s, c, F, rh, Qm, Em, R, w, ok, x⟩ => ?_⟩
  refine isTrue_plain (thn (ha.run pins st sg H _ I (tW.mk (Q := fun v H1 => ∀ pins st y, Inv X pins sg H1 st → RelV v y → wpAny (model X.prog X.w) X.A (truthy y) (fun k s4 => ∃ H4, Inv X pins sg H4 s4 ∧ Q k H4) X.xe st) R w x fun d o s1 c1 v H1 F1 rh1 q1 R1 e1 x1 r1 => ?_)) fun v s1 ⟨x, H1, I1, r1, q⟩ => q pins s1 v I1 r1) (he _)
  intro pins st y I1 ry
  obtain ⟨k, q1, q2, q3⟩ := q1
  obtain ⟨q, dx, gs, rfl, ea, _⟩ := cls_rep R1.toCe r1 q1
  cases ry
  obtain ⟨ob, od, J⟩ := inst_at I1 ea
  obtain ⟨m, hF⟩ := I1.fr
  have mth := G.cl.mth k 5 q2
  refine PySem.W.truthy_K hF I1.ok.mod.kin J mth.meth.at_ mth.meth.fn ?_
  have ok2 : OkQ X.K Z.H0 sg H1 F1 rh1 s1 (fun d o s' c' => ∃ b, d = .bl b ∧ Qm b s' c') (fun v H' => ∃ b, v = .bl b ∧ Q b H') := fun d o s' c' v H' F' rh' ⟨b, e, q⟩ rl ev rs => by
    subst e
    exact ⟨b, rs.blv, ok b s' c' H' F' rh' q rl (e1.trans ev)⟩
  refine xe_of (runAt (A := X.A) (fun j => room0) G.gd (fun e => e) (n := 0) (Em := fun _ _ _ => False) (Qm := fun d o s' c' => ∃ b, d = .bl b ∧ Qm b s' c') G R1 r1 .nil q3 ok2 okx0 I1 (.cons rfl .nil)) fun u st2 ⟨v, H', I', rv, b, e, q⟩ => ?_
  subst e
  cases rv
  exact ⟨H', I', q⟩
end
end Vm

/-! Vm: dicts that are read -/
namespace Vm
open PySem PySem.Spec L2
open PyProof.Rows hiding St
theorem getK_rep {K : PySem.W.Frag} {H : Hp} {F : Fz} {rh : List Addr} {k : Key} : ∀ {ks : List Key} {vs : List V} {xs : List D}, ks.length = vs.length → RepL K H F rh vs xs →
    (getK ks xs k = none ∧ valV (ks.zip vs) k = none) ∨ ∃ v d, getK ks xs k = some d ∧ valV (ks.zip vs) k = some v ∧ Rep K H F rh v d
  | [], vs, xs, _, _ => .inl ⟨by unfold getK; rfl, rfl⟩
  | k' :: ks, [], _, h, _ => by cases h
  | k' :: ks, v :: vs, _, hl, .cons r rs => by
    by_cases e : k' = k
    · subst e
      exact .inr ⟨v, _, by unfold getK; rw [if_pos rfl], valV_pos rfl, r⟩
    · have e1 : valV ((k' :: ks).zip (v :: vs)) k = valV (ks.zip vs) k := valV_neg e
      rcases getK_rep (k := k) (show ks.length = vs.length by simpa using hl) rs with ⟨h1, h2⟩ | ⟨v2, d2, h1, h2, h3⟩
      · exact .inl ⟨by unfold getK; rw [if_neg e]; exact h1, by rw [e1]; exact h2⟩
      · exact .inr ⟨v2, d2, by unfold getK; rw [if_neg e]; exact h1, by rw [e1]; exact h2, h3⟩
theorem key_of {K : PySem.W.Frag} {H : Hp} {F : Fz} {rh : List Addr} {v : V} {k : Key} (h : Rep K H F rh v (keyD k)) : v = kV k := by
  cases k with
  | inl i => cases h; rfl
  | inr z => cases h; rfl
section
variable {X : Cx} {M : Nm} {Z : Sx} {H : Hp} {F : Fz} {rh : List Addr} {sh : L2.St} {s : List Sl} {c : Cl} {a b e : Expr} {ia ib : IE} {pos : Pos}
theorem dget_use {d : D} {v : V} {ks : List Key} {xs : List D} {k : Key} (C : Ce X.K H F rh c) (r : Rep X.K H F rh v d) (h : asDic c d = some (ks, xs)) :
    ∃ q o, v = .ref q ∧ DGet H q (kV k) o ∧ ((o = none ∧ getK ks xs k = none) ∨ ∃ w y, o = some w ∧ getK ks xs k = some y ∧ Rep X.K H F rh w y) := by
  obtain ⟨q, vs, rfl, hr, hl, rs⟩ := asDic_of C r h
  refine ⟨q, valV (ks.zip vs) k, rfl, .inl ⟨_, k, hr, rfl, rfl⟩, ?_⟩
  rcases getK_rep (k := k) hl rs with ⟨h1, h2⟩ | ⟨w, y, h1, h2, h3⟩
  · exact .inl ⟨h2, h1⟩
  · exact .inr ⟨w, y, h2, h1, h3⟩
theorem snd_dget (G : GOk X M Z) (ha : PE X a (tW Z X.K false ia)) (hb : PE X b (tW Z X.K false ib)) (hs : NoSl b) : PE X (.Subscript a b pos) (tW Z X.K false (.op .dget (.cons ia (.cons ib .nil)))) := by
  have hu := G.hu
  refine PE.imp (pe_dget (by omega) ha hb hs) fun sg H Q ⟨s, c, F, rh, Qm, Em, R, w, ok, x⟩ => ?_
  refine tW.mk R (wpOp2 w) x fun d o s1 c1 v H1 F1 rh1 q1 R1 e1 x1 r1 => ?_
  refine tW.mk R1 q1 x1 fun d2 o2 s2 c2 u H2 F2 rh2 ⟨ks, xs, k, y, h1, h2, h3, h4⟩ R2 e2 x2 r2 => ?_
  subst h2
  obtain rfl := key_of r2
  obtain ⟨q, o, rfl, g, hh⟩ := dget_use (k := k) R2.toCe (r1.ext e2.toExt) h1
  rcases hh with ⟨_, g2⟩ | ⟨w, y2, rfl, g2, g3⟩
  · rw [h3] at g2; cases g2
  · rw [h3] at g2
    cases g2
    exact ⟨q, w, rfl, g, ((ok.step e1).step e2).shr R2 g3 h4⟩
theorem cmpW_din (G : GOk X M Z) : CmpW X Z .In (.din false) := fun sg H F rh s c Qm Em Q d d2 v u R r1 r2 ⟨ks, xs, k, h1, h2, h3⟩ ok x pins st y z I rx ry => by
  subst h2
  obtain rfl := key_of r1
  obtain ⟨q, o, rfl, g, hh⟩ := dget_use (k := k) R.toCe r2 h1
  cases ry
  have hu := G.hu
  have e : (false != (getK ks xs k).isSome) = o.isSome := by
    rcases hh with ⟨rfl, g2⟩ | ⟨w, y2, rfl, g2, _⟩ <;> rw [g2] <;> rfl
  rw [e] at h3
  exact d_in (by omega) I g rx fun s' J => ⟨V.bl _, H, J, rfl, ok.shr R .bl h3⟩
theorem cmpW_dni (G : GOk X M Z) : CmpW X Z .NotIn (.din true) := fun sg H F rh s c Qm Em Q d d2 v u R r1 r2 ⟨ks, xs, k, h1, h2, h3⟩ ok x pins st y z I rx ry => by
  subst h2
  obtain rfl := key_of r1
  obtain ⟨q, o, rfl, g, hh⟩ := dget_use (k := k) R.toCe r2 h1
  cases ry
  have hu := G.hu
  have e : (true != (getK ks xs k).isSome) = !o.isSome := by
    rcases hh with ⟨rfl, g2⟩ | ⟨w, y2, rfl, g2, _⟩ <;> rw [g2] <;> rfl
  rw [e] at h3
  exact d_notIn (by omega) I g rx fun s' J => ⟨V.bl _, H, J, rfl, ok.shr R .bl h3⟩
end
end Vm

/-! Vm: what loops and comprehensions walk -/
namespace Vm
open PySem PySem.Spec L2
open PyProof.Rows hiding St
/-- the pairs (i, sign) of a text -/
def ItEs (z : Str) : It := ⟨fun i _ => i < z.cps.size, fun i H v H' => ∃ T ch, v = .ref T ∧ H T = none ∧ H' = upd H T (.tup [.int (i : Nat), .str ⟨#[ch]⟩]) ∧ z.cps[i]? = some ch, fun i _ => i = z.cps.size⟩
section
variable {X : Cx} {pins : List (Addr × Obj)} {sg : L2.St} {H : Hp} {s : Shared}
/-- iterators' own cells have turned -/
theorem _root_.L2.Inv.steps {h' : Heap} {tk : Nat} {ch : List Addr} (I : Inv X pins sg H s) (hf : ∀ b ∈ ch, FpOk X pins H b) (kk' : ∀ b o, b ∉ ch → s.heap.get? b = some o → h'.get? b = some o) : Inv X pins sg H { s with heap := h', toks := tk } :=
  I.step (g' := s.gens) (d' := s.drawn) (ch := ch) (fun b hb => ⟨(hf b hb).2.2.2.1, (hf b hb).2.1, (hf b hb).2.2.2.2.1, (hf b hb).2.2.2.2.2⟩) (fun b o _ _ hc e' _ => kk' b o hc e') (fun b o _ _ hc e' _ => ⟨o.slots, kk' b o hc e'⟩) (fun _ _ _ _ n => n)
    (fun b o hc e' => ⟨o, kk' b o hc e'⟩) (fun _ _ q => q) (fun _ _ _ q => q) (fun b ps q => ⟨#[], by rw [q]; simp⟩) (fun m hm => (by
      obtain ⟨o, es, ep, ho, r⟩ := hm
      exact ⟨o, es, ep, kk' _ o (fun z => (hf _ z).2.1 rfl) ho, r⟩)) (fun b u q => (I.hok b u q).stay (fun cc v hc q2 => kk' cc v (fun z => by
        have n0 := (hf cc z).1
        rcases hc with r | r
        · subst r; rw [n0] at q; cases q
        · rw [n0] at r; cases r) q2) (fun _ q => q) fun _ _ q => q) I.bare
theorem goesN_item {elts : List Expr} {kk : Nat} {tpos : Pos} {I0 : Addr} {fp wr : List Addr} {n i : Nat} {PA PB : Nat → Value → Prop} {St : Nat → Heap → Prop} {E : Value → Shared → Prop} {G : V → V → Prop}
    (W : GoesN X.prog X.w X.A (.Tuple elts kk tpos) I0 fp wr n (fun i h0 v h => ∃ T a b, v = .ref T ∧ h0.objs.size ≤ T ∧ PA i a ∧ PB i b ∧ h.IsTuple T #[a, b]) St) (I : Inv X pins sg H s) (hf : ∀ b ∈ wr, FpOk X pins H b) (st : St i s.heap) (hi : i < n)
    (rel : ∀ a b, PA i a → PB i b → ∃ x y, L2.RelV x a ∧ L2.RelV y b ∧ G x y) :
    wpAny (model X.prog X.w) X.A (pyNext (.ref I0)) (fun r s1 => ∃ u, r = some u ∧ wpAny (model X.prog X.w) X.A (letOwnedTupleGo (.Tuple elts kk tpos) (.ref I0) u)
      (fun _ s2 => ∃ T x y, Inv X pins sg (upd H T (.tup [x, y])) s2 ∧ u = .ref T ∧ s.heap.objs.size ≤ T ∧ G x y ∧ St (i + 1) s2.heap) E s1) E s := by
  refine W.goes i s (fun v s2 => ∃ T x y, Inv X pins sg (upd H T (.tup [x, y])) s2 ∧ v = .ref T ∧ s.heap.objs.size ≤ T ∧ G x y ∧ St (i + 1) s2.heap) E hi st ?_
  rintro v h' tk ⟨T, a, b, rfl, hT, pa, pb, o, ho, hc, nn, hd⟩ st' hk htk
  obtain ⟨x, y, rx, ry, g⟩ := rel a b pa pb
  refine ⟨T, x, y, I.turnedNew (ch := wr) (fun c ob hc' q => hk c ob hc' q) hf hT ?_, rfl, hT, g, st'⟩
  exact ⟨by show 2 ≤ sizeLine; decide, [a, b], .cons rx (.cons ry .nil), ⟨o, ho, hc, nn, by simpa using hd⟩⟩
theorem turn_es {P : Program} {w : World} {K : PySem.W.Frag} {elts : List Expr} {kk : Nat} {tpos : Pos} (z : Str) (t : Tok) (e it : Addr) :
    Turn P w K (.Tuple elts kk tpos) (ItEs z) [e, it] e (fun i h => (∃ old, IsEnum h e it ((i : Nat) : Int) old) ∧ h.IsStrIter it (strIterType z) z t i ∧ e ≠ it) where
  mem := List.mem_cons_self
  obj := fun i h ⟨⟨old, h1⟩, ⟨o, g1, g2, g3⟩, _⟩ b hb => by
    rcases List.mem_cons.mp hb with r | r
    · subst r; exact ⟨_, h1, fun v q => nomatch q⟩
    · have r' : b = it := by simpa using r
      subst r'; exact ⟨o, g1, fun v q => by rw [g3] at q; cases q⟩
  keep := fun i h h' ⟨⟨old, h1⟩, ⟨o, g1, g2⟩, ne⟩ k => ⟨⟨old, k e List.mem_cons_self _ h1⟩, ⟨o, k it (List.mem_cons_of_mem _ List.mem_cons_self) _ g1, g2⟩, ne⟩
  item := by
    intro X hP hw hK hc i pins s sg H E I hf st hg
    subst hP hw hK
    obtain ⟨⟨old, h1⟩, h2, ne⟩ := st
    have D : Draws X.prog X.w X.A.in1 it [it] z.cps.size (fun i v => ∃ c u, z.cps[i]? = some c ∧ v = .str ⟨#[c]⟩ u) (fun i h => h.IsStrIter it (strIterType z) z t i) := Draws.text (A := X.A.in1) (show X.A.in1.handled = none from I.ok.hd hc) it z t
    have W := (GoesN.enumFrom (prog := X.prog) (w := X.w) (A := X.A) (elts := elts) (x1 := kk) (pos := tpos) 0 D e ne (by simpa using ne) List.mem_cons_self).mono
      (Y' := fun i h0 v h => ∃ T a b, v = .ref T ∧ h0.objs.size ≤ T ∧ (∃ t, a = .int ((i : Nat) : Int) t) ∧ (∃ c u, z.cps[i]? = some c ∧ b = .str ⟨#[c]⟩ u) ∧ h.IsTuple T #[a, b])
      (fun i h0 v h _ ⟨T, tt, x, q1, q2, q3, q4⟩ => ⟨T, .int (0 + (i : Int)) tt, x, q1, q2, ⟨tt, by rw [Int.zero_add]⟩, q3, q4⟩)
    have le : e < s.heap.objs.size := Heap.lt_size h1
    have li : it < s.heap.objs.size := by obtain ⟨_, q, _⟩ := h2; exact Heap.lt_size q
    refine thn (goesN_item (G := fun x y => x = .int (i : Nat) ∧ ∃ c, z.cps[i]? = some c ∧ y = .str ⟨#[c]⟩) W I hf ⟨⟨old, by rw [Int.zero_add]; exact h1⟩, h2⟩ hg ?_) fun r s1 ⟨u, hu, q⟩ => ⟨u, hu, thn q fun _ s2 ⟨T, x, y, I2, e1, hT, ⟨ex, c, ec, ey⟩, ⟨old', k1⟩, k2⟩ => ?_⟩
    · rintro a b ⟨t', rfl⟩ ⟨c, u, hc', rfl⟩
      exact ⟨.int (i : Nat), .str ⟨#[c]⟩, ⟨t', rfl⟩, ⟨u, rfl⟩, rfl, c, hc', rfl⟩
    · subst ex; subst ey
      refine ⟨.ref T, _, I2, by rw [e1]; rfl, ⟨T, c, rfl, I.hok.fresh hT, rfl, ec⟩, ⟨⟨old', by rw [Int.zero_add] at k1; exact k1⟩, k2, ne⟩, fun b hb => ?_⟩
      have lb : b < s.heap.objs.size := by
        rcases List.mem_cons.mp hb with r | r
        · subst r; exact le
        · have r' : b = it := by simpa using r
          subst r'; exact li
      rw [upd_ne (Nat.ne_of_lt (Nat.lt_of_lt_of_le lb hT))]
      exact (hf b hb).1
  done := by
    intro X hP hw hK hc i pins s sg H E I hf st hg
    subst hP hw hK
    obtain ⟨⟨old, h1⟩, h2, ne⟩ := st
    have D : Draws X.prog X.w X.A.in1 it [it] z.cps.size (fun i v => ∃ c u, z.cps[i]? = some c ∧ v = .str ⟨#[c]⟩ u) (fun i h => h.IsStrIter it (strIterType z) z t i) := Draws.text (A := X.A.in1) (show X.A.in1.handled = none from I.ok.hd hc) it z t
    have W := GoesN.enumFrom (prog := X.prog) (w := X.w) (A := X.A) (elts := elts) (x1 := kk) (pos := tpos) 0 D e ne (by simpa using ne) List.mem_cons_self
    have hn : i = z.cps.size := hg
    subst hn
    refine W.stops s (fun s1 => Inv X pins sg H s1) E ⟨⟨old, by rw [Int.zero_add]; exact h1⟩, h2⟩ fun h' tk hk _ => ?_
    exact I.steps (ch := [e, it]) hf hk
  self := fun A i s Q E ⟨⟨_, h1⟩, _⟩ h => wpAny_pyIter_enum h1 h
/-- enumerate(v), v anything whose iteration begins: its two new cells -/
theorem meets_enum1 {v : Value} {ob : Obj} {G : Heap → Prop} (B : Begins v ob G) :
    Meets (Builtin.«enumerate.__new__» ⟨[.type "enumerate", v], []⟩) (fun _ R st => G st.heap ∧
      R (.ok (.ret (.ref (st.heap.push ob).objs.size))) { st with heap := (st.heap.push ob).push { cls := .type "enumerate", data := .fields #[.none, .bool false, .ref st.heap.objs.size, rawInt 0, .none, .none] } }) :=
  .of_wp fun prog w A R st hh => by
    obtain ⟨hp, gs, dr, tk, os⟩ := st
    obtain ⟨hG, hh⟩ := hh
    have hsub := sub_enumerate
    have it1 : ∀ {A2 : Around} {E2 : Value → Shared → Prop} {Q2 : Value → Shared → Prop}, Q2 (.ref hp.objs.size) ⟨hp.push ob, gs, dr, tk, os⟩ → wpAny (model prog w) A2 (pyIter v) Q2 E2 ⟨hp, gs, dr, tk, os⟩ :=
      fun z => B.iter prog w _ _ ⟨hp, gs, dr, tk, os⟩ _ hG z
    wp_walk using it1
    refine wpAny_stack_any fun stk => wpAny_pure ?_
    split
    · rename_i cc _ _ _ _ _
      cases (cc == Value.type "enumerate") <;> (wp_walk using it1; exact ⟨_, rfl, hh⟩)
    · wp_walk using it1
      exact ⟨_, rfl, hh⟩
theorem call_enum1 {prog : Program} {w : World} {A : Around} {E : Value → Shared → Prop} {st : Shared} {v : Value} {ob : Obj} {G : Heap → Prop} {Q : Value → Shared → Prop} (B : Begins v ob G) (hG : G st.heap)
    (h : ∀ h', IsEnum h' (st.heap.objs.size + 1) st.heap.objs.size 0 .none → h'.get? st.heap.objs.size = some ob → (∀ b o, st.heap.get? b = some o → h'.get? b = some o) → Q (.ref (st.heap.objs.size + 1)) { st with heap := h' }) :
    wpAny (model prog w) A (call (.type "enumerate") [v]) Q E st := by
  refine callType_new PySem.F.called_enumerate (by decide) (PySem.F.typeCall_enumerate_1 _) (PySem.F.newCall_enumerate_1 _) (fun obj => PySem.F.args_object_init_2 obj _) PySem.F.entry_enumerate_new (meets_enum1 B) ⟨hG, ?_⟩
  have e1 : (st.heap.push ob).objs.size = st.heap.objs.size + 1 := Heap.size_push ..
  show _ ∧ _
  rw [e1]
  have g : IsEnum ((st.heap.push ob).push { cls := .type "enumerate", data := .fields #[.none, .bool false, .ref st.heap.objs.size, rawInt 0, .none, .none] }) (st.heap.objs.size + 1) st.heap.objs.size 0 .none := by
    have g2 := Heap.get?_push_size (st.heap.push ob) (o := { cls := .type "enumerate", data := .fields #[.none, .bool false, .ref st.heap.objs.size, rawInt 0, .none, .none] }) rfl
    rw [e1] at g2
    exact g2
  exact ⟨⟨_, g, rfl⟩, h _ g (Heap.get?_push_of_some _ (Heap.get?_push_size _ B.free)) fun b o z => Heap.get?_push_of_some _ (Heap.get?_push_of_some _ z)⟩
/-- the pairs (i, item) of a tuple -/
def ItEt (K : PySem.W.Frag) (a : Addr) : It := ⟨fun i H => ∃ vs x, SqT K H a vs ∧ vs[i]? = some x, fun i H v H' => ∃ T x, v = .ref T ∧ H T = none ∧ H' = upd H T (.tup [.int (i : Nat), x]) ∧ ∀ vs, SqT K H a vs → vs[i]? = some x, fun i H => ∃ vs, SqT K H a vs ∧ i = vs.length⟩
theorem turn_et {P : Program} {w : World} {K : PySem.W.Frag} {elts : List Expr} {kk : Nat} {tpos : Pos} (a e it : Addr) (hai : a ≠ it) (hae : a ≠ e) :
    Turn P w K (.Tuple elts kk tpos) (ItEt K a) [e, it] e (fun i h => (∃ old, IsEnum h e it ((i : Nat) : Int) old) ∧ h.IsTupleIter it a i ∧ e ≠ it) where
  mem := List.mem_cons_self
  obj := fun i h ⟨⟨old, h1⟩, ⟨o, g1, g2, g3⟩, _⟩ b hb => by
    rcases List.mem_cons.mp hb with r | r
    · subst r; exact ⟨_, h1, fun v q => nomatch q⟩
    · have r' : b = it := by simpa using r
      subst r'; exact ⟨o, g1, fun v q => by rw [g3] at q; cases q⟩
  keep := fun i h h' ⟨⟨old, h1⟩, h2, ne⟩ k => ⟨⟨old, k e List.mem_cons_self _ h1⟩, h2.at fun o z => k it (List.mem_cons_of_mem _ List.mem_cons_self) o z, ne⟩
  item := by
    intro X hP hw hK hc i pins s sg H E I hf st hg
    subst hP hw hK
    obtain ⟨⟨old, h1⟩, h2, ne⟩ := st
    obtain ⟨vs, x0, hq, hx⟩ := hg
    obtain ⟨its, rv, pt, _⟩ := I.tuple hq
    have hT : s.heap.IsTuple a its.toArray := pt
    obtain ⟨u0, hu0, ru0⟩ := rv.get hx
    have D := Draws.tuple (prog := X.prog) (w := X.w) (A := X.A.in1) (show X.A.in1.handled = none from I.ok.hd hc) it a hai its.toArray
    have W := (GoesN.enumFrom (prog := X.prog) (w := X.w) (A := X.A) (elts := elts) (x1 := kk) (pos := tpos) 0 D e ne (by simp; exact ⟨ne, fun z => hae z.symm⟩) List.mem_cons_self).mono
      (Y' := fun i h0 v h => ∃ T a b, v = .ref T ∧ h0.objs.size ≤ T ∧ (∃ t, a = .int ((i : Nat) : Int) t) ∧ its.toArray[i]? = some b ∧ h.IsTuple T #[a, b])
      (fun i h0 v h _ ⟨T, tt, x, q1, q2, q3, q4⟩ => ⟨T, .int (0 + (i : Int)) tt, x, q1, q2, ⟨tt, by rw [Int.zero_add]⟩, q3, q4⟩)
    have le : e < s.heap.objs.size := Heap.lt_size h1
    have li : it < s.heap.objs.size := by obtain ⟨_, q, _⟩ := h2; exact Heap.lt_size q
    have hi : i < its.toArray.size := by
      obtain ⟨z, _⟩ := List.getElem?_eq_some_iff.mp hu0
      simpa using z
    refine thn (goesN_item (G := fun x y => x = .int (i : Nat) ∧ y = x0) W I hf ⟨⟨old, by rw [Int.zero_add]; exact h1⟩, h2, hT⟩ hi ?_) fun r s1 ⟨u, hu, q⟩ => ⟨u, hu, thn q fun _ s2 ⟨T, x, y, I2, e1, hT', ⟨ex, ey⟩, ⟨old', k1⟩, k2, k3⟩ => ?_⟩
    · rintro a' b ⟨t', rfl⟩ hb
      have hb' : its[i]? = some b := by simpa using hb
      rw [hu0] at hb'
      cases hb'
      exact ⟨.int (i : Nat), x0, ⟨t', rfl⟩, ru0, rfl, rfl⟩
    · subst ex; subst ey
      refine ⟨.ref T, _, I2, by rw [e1]; rfl, ⟨T, y, rfl, I.hok.fresh hT', rfl, fun ws hw => by rw [I.tuple_inj hw hq]; exact hx⟩, ⟨⟨old', by rw [Int.zero_add] at k1; exact k1⟩, k2, ne⟩, fun b hb => ?_⟩
      have lb : b < s.heap.objs.size := by
        rcases List.mem_cons.mp hb with r | r
        · subst r; exact le
        · have r' : b = it := by simpa using r
          subst r'; exact li
      rw [upd_ne (Nat.ne_of_lt (Nat.lt_of_lt_of_le lb hT'))]
      exact (hf b hb).1
  done := by
    intro X hP hw hK hc i pins s sg H E I hf st hg
    subst hP hw hK
    obtain ⟨⟨old, h1⟩, h2, ne⟩ := st
    obtain ⟨vs, hq, hn⟩ := hg
    obtain ⟨its, rv, pt, _⟩ := I.tuple hq
    have hT : s.heap.IsTuple a its.toArray := pt
    have D := Draws.tuple (prog := X.prog) (w := X.w) (A := X.A.in1) (show X.A.in1.handled = none from I.ok.hd hc) it a hai its.toArray
    have W := GoesN.enumFrom (prog := X.prog) (w := X.w) (A := X.A) (elts := elts) (x1 := kk) (pos := tpos) 0 D e ne (by simp; exact ⟨ne, fun z => hae z.symm⟩) List.mem_cons_self
    have hn' : i = its.toArray.size := by rw [hn, rv.length]; simp
    subst hn'
    refine W.stops s (fun s1 => Inv X pins sg H s1) E ⟨⟨old, by rw [Int.zero_add]; exact h1⟩, h2, hT⟩ fun h' tk hk _ => ?_
    exact I.steps (ch := [e, it]) hf hk
  self := fun A i s Q E ⟨⟨_, h1⟩, _⟩ h => wpAny_pyIter_enum h1 h
end
end Vm

/-! Vm: sources of loops, soundness -/
namespace Vm
open PySem PySem.Spec L2
open PyProof.Rows hiding St
structure WalkD (K : PySem.W.Frag) (J : It) (xs : List D) (g : Cl → Prop) (Hs : Hp) (Fs : Fz) (rs : List Addr) : Prop where
  go : ∀ i H F rh c, i < xs.length → Ext Hs Fs rs H F rh → Ce K H F rh c → g c → J.go i H
  stop : ∀ H F rh c, Ext Hs Fs rs H F rh → Ce K H F rh c → g c → J.stop xs.length H
  yld : ∀ i H F rh c x H', i < xs.length → Ext Hs Fs rs H F rh → Ce K H F rh c → g c → J.yld i H x H' → ∃ d, xs[i]? = some d ∧ Out K H F rh x H' d false
/-- where a list, a tuple or a text is read while its guard holds -/
inductive Src (K : PySem.W.Frag) (H : Hp) (F : Fz) (rh : List Addr) : V → List D → (Cl → Prop) → Prop where
  | lst {a : Addr} {xs : List D} {g : Cl → Prop} : (∀ H' F' rh' c, Ext H F rh H' F' rh' → Ce K H' F' rh' c → g c → ∃ vs, SqL K H' a vs ∧ RepL K H' F' rh' vs xs) → Src K H F rh (.ref a) xs g
  | tup {a : Addr} {xs : List D} {g : Cl → Prop} : (∀ H' F' rh' c, Ext H F rh H' F' rh' → Ce K H' F' rh' c → g c → ∃ vs, SqT K H' a vs ∧ RepL K H' F' rh' vs xs) → Src K H F rh (.ref a) xs g
  | str {z : Str} {g : Cl → Prop} : Src K H F rh (.str z) (signs z) g
theorem signs_at {z : Str} {i : Nat} {ch : Nat} (h : z.cps[i]? = some ch) : (signs z)[i]? = some (D.str ⟨#[ch]⟩) := by
  unfold signs
  rw [List.getElem?_map, Array.getElem?_toList, h]; rfl
theorem signs_len (z : Str) : (signs z).length = z.cps.size := by unfold signs; simp
theorem src_of {K : PySem.W.Frag} {H : Hp} {F : Fz} {rh : List Addr} {c : Cl} {v : V} {d : D} {k : List D → (Cl → Prop) → Prop} (C : Ce K H F rh c) (r : Rep K H F rh v d) (w : itemsW c d k) : ∃ xs g, k xs g ∧ g c ∧ Src K H F rh v xs g := by
  cases r with
  | str => exact ⟨_, _, w, trivial, .str⟩
  | tup hf r => exact ⟨_, _, w, trivial, .tup fun H' F' rh' c' e _ _ => ⟨_, (hf.ext e).sq, r.ext e⟩⟩
  | lst hf r => exact ⟨_, _, w, trivial, .lst fun H' F' rh' c' e _ _ => ⟨_, (hf.ext e).sq, r.ext e⟩⟩
  | scr hf r => exact ⟨_, _, w, trivial, .lst fun H' F' rh' c' e _ _ => ⟨_, (hf.ext e).sq, r.ext e⟩⟩
  | @cell n a e =>
    obtain ⟨xs, h1, h2⟩ := w
    refine ⟨xs, _, h2, h1, .lst fun H' F' rh' c' ex C' g => ?_⟩
    obtain ⟨o, k1, vs, k2, k3⟩ := C'.ob n a _ (ex.cel n a e) g
    subst k2
    exact ⟨vs, SqL.of k1, k3⟩
  | _ => exact w.elim
theorem list_det {K : PySem.W.Frag} {H : Hp} {a : Addr} {vs ws : List V} {i : Nat} {x : V} (h : SqL K H a vs) (q : ∀ xs, SqL K H a xs → xs[i]? = some x) : vs[i]? = some x := q vs h
/-- a for (or a comprehension) over the value itself -/
theorem walk_val {K : PySem.W.Frag} {H : Hp} {F : Fz} {rh : List Addr} {xs : List D} {g : Cl → Prop} :
    (∀ {a}, Src K H F rh (.ref a) xs g → (WalkD K (Itl K a) xs g H F rh ∧ ∀ c, Ce K H F rh c → g c → ∃ vs, SqL K H a vs) ∨ (WalkD K (Itt K a) xs g H F rh ∧ ∀ c, Ce K H F rh c → g c → ∃ vs, SqT K H a vs)) ∧ ∀ {z}, Src K H F rh (.str z) xs g → WalkD K (Its z) xs g H F rh := by
  constructor
  · intro a s
    cases s with
    | lst f =>
      refine .inl ⟨⟨fun i H' F' rh' c hi e C h => ?_, fun H' F' rh' c e C h => ?_, fun i H' F' rh' c x H2 hi e C h y => ?_⟩, fun c C h => ?_⟩
      · obtain ⟨vs, k1, k2⟩ := f H' F' rh' c e C h
        have hl : i < vs.length := by rw [k2.len]; exact hi
        exact walk_list.goes i H' hl k1
      · obtain ⟨vs, k1, k2⟩ := f H' F' rh' c e C h
        rw [← k2.len]
        exact walk_list.stops H' k1
      · obtain ⟨vs, k1, k2⟩ := f H' F' rh' c e C h
        have hl : i < vs.length := by rw [k2.len]; exact hi
        obtain ⟨y1, y2⟩ := walk_list.yields i H' x H2 hl k1 y
        subst y1
        obtain ⟨d, d1, d2⟩ := k2.atV y2
        exact ⟨d, d1, .old d2⟩
      · obtain ⟨vs, k1, _⟩ := f H F rh c Ext.refl C h
        exact ⟨vs, k1⟩
    | tup f =>
      refine .inr ⟨⟨fun i H' F' rh' c hi e C h => ?_, fun H' F' rh' c e C h => ?_, fun i H' F' rh' c x H2 hi e C h y => ?_⟩, fun c C h => ?_⟩
      · obtain ⟨vs, k1, k2⟩ := f H' F' rh' c e C h
        have hl : i < vs.length := by rw [k2.len]; exact hi
        exact walk_tup.goes i H' hl k1
      · obtain ⟨vs, k1, k2⟩ := f H' F' rh' c e C h
        rw [← k2.len]
        exact walk_tup.stops H' k1
      · obtain ⟨vs, k1, k2⟩ := f H' F' rh' c e C h
        have hl : i < vs.length := by rw [k2.len]; exact hi
        obtain ⟨y1, y2⟩ := walk_tup.yields i H' x H2 hl k1 y
        subst y1
        obtain ⟨d, d1, d2⟩ := k2.atV y2
        exact ⟨d, d1, .old d2⟩
      · obtain ⟨vs, k1, _⟩ := f H F rh c Ext.refl C h
        exact ⟨vs, k1⟩
  · intro z s
    cases s
    refine ⟨fun i H' F' rh' c hi e C h => ?_, fun H' F' rh' c e C h => ?_, fun i H' F' rh' c x H2 hi e C h y => ?_⟩
    · rw [signs_len] at hi; exact walk_str.goes i H' hi trivial
    · rw [signs_len]; exact walk_str.stops H' trivial
    · rw [signs_len] at hi
      obtain ⟨y1, ch, y2, y3⟩ := walk_str.yields i H' x H2 hi trivial y
      subst y1; subst y3
      exact ⟨_, signs_at y2, .old .str⟩
def tWI (Z : Sx) (K : PySem.W.Frag) (src : IT) : TI := fun sh H R => ∃ s c F rh km Em, Rl K Z.H0 H F rh sh s c ∧ wpI Z.C src s c km Em ∧
  (∀ xs g s' c' J H' F' rh', km xs g s' c' → g c' → Rl K Z.H0 H' F' rh' sh s' c' → Ev H F rh (Owned sh s) H' F' rh' (Owned sh s') → OkX Z K sh H' F' rh' s' Em → WalkD K J xs g H' F' rh' → R J H') ∧ OkX Z K sh H F rh s Em
theorem PI.imp {X : Cx} {tg it : Expr} {t t' : TI} (h : PI X tg it t) (i : ∀ sg H Q, t' sg H Q → t sg H Q) : PI X tg it t' := ⟨fun p s sg H Q I w => h.run p s sg H Q I (i sg H Q w)⟩
section
variable {X : Cx} {M : Nm} {Z : Sx} {tg e e2 : Expr} {es : List Expr} {ie ib : IE} {il : IL} {p pos tpos : Pos} {elts : List Expr} {kk : Nat}
/-- iter(value), whatever kind of sequence -/
theorem pi_dyn {te : TE} (he : PE X e te) : PI X tg e (fun sg H R => te sg H fun x H1 => (∃ a, x = .ref a ∧ (∃ vs, SqL X.K H1 a vs) ∧ R (Itl X.K a) H1) ∨ (∃ a, x = .ref a ∧ (∃ vs, SqT X.K H1 a vs) ∧ R (Itt X.K a) H1) ∨ ∃ z, x = .str z ∧ R (Its z) H1) := by
  refine ⟨fun pins s sg H R I h => thn (he.run pins s sg H _ I h) fun v s1 ⟨x, H1, I1, r1, q⟩ => ?_⟩
  rcases q with ⟨a, ex, ⟨vs, hq⟩, q⟩ | ⟨a, ex, ⟨vs, hq⟩, q⟩ | ⟨z, ex, q⟩
  · subst ex
    cases (show v = Value.ref a from r1)
    obtain ⟨its, _, pl, _⟩ := I1.list hq
    exact wpAny_pyIter_list pl.isList (pi_one (tk := s1.toks) I1 _ (turn_list a _) ⟨_, Heap.get?_push_size _ rfl, rfl, rfl⟩ q)
  · subst ex
    cases (show v = Value.ref a from r1)
    obtain ⟨its, _, pt, _⟩ := I1.tuple hq
    exact wpAny_pyIter_tuple (show s1.heap.IsTuple a its.toArray from pt) (pi_one (tk := s1.toks) I1 _ (turn_tuple a _) ⟨_, Heap.get?_push_size _ rfl, rfl, rfl⟩ q)
  · subst ex
    obtain ⟨t, rfl⟩ := (show ∃ t, v = Value.str z t from r1)
    cases ha : z.cps.all (· < 128) with
    | false => exact wpAny_pyIter_wide ha (pi_one (tk := s1.toks) I1 _ (turn_str _ z t "str_iterator" (.inr rfl)) ⟨_, Heap.get?_push_size _ rfl, rfl, rfl⟩ q)
    | true => exact wpAny_pyIter_ascii ha (pi_one (tk := s1.toks) I1 _ (turn_str _ z t "str_ascii_iterator" (.inl rfl)) ⟨_, Heap.get?_push_size _ rfl, rfl, rfl⟩ q)
theorem sndI_val (he : PE X e (tW Z X.K false ie)) : PI X tg e (tWI Z X.K (.val ie)) := by
  refine PI.imp (pi_dyn he) fun sg H R ⟨s, c, F, rh, km, Em, Rr, w, ok, x⟩ => ?_
  unfold wpI at w
  refine tW.mk Rr w x fun d o s1 c1 v H1 F1 rh1 q1 R1 e1 x1 r1 => ?_
  obtain ⟨xs, g, k1, k2, sr⟩ := src_of R1.toCe r1 q1
  cases v with
  | ref a =>
    rcases walk_val.1 sr with ⟨wd, t⟩ | ⟨wd, t⟩
    · exact .inl ⟨a, rfl, t c1 R1.toCe k2, ok xs g s1 c1 _ H1 F1 rh1 k1 k2 R1 e1 x1 wd⟩
    · exact .inr (.inl ⟨a, rfl, t c1 R1.toCe k2, ok xs g s1 c1 _ H1 F1 rh1 k1 k2 R1 e1 x1 wd⟩)
  | str z => exact .inr (.inr ⟨z, rfl, ok xs g s1 c1 _ H1 F1 rh1 k1 k2 R1 e1 x1 (walk_val.2 sr)⟩)
  | _ => cases sr
theorem walk_rangeD {K : PySem.W.Frag} {H : Hp} {F : Fz} {rh : List Addr} {lo : Int} {n : Nat} : WalkD K (Itr lo n) (rangeD lo n) (fun _ => True) H F rh := by
  have hl : (rangeD lo n).length = n := by unfold rangeD; simp
  refine ⟨fun i H' F' rh' c hi e C h => ?_, fun H' F' rh' c e C h => ?_, fun i H' F' rh' c x H2 hi e C h y => ?_⟩
  · rw [hl] at hi; exact hi
  · rw [hl]; exact Nat.le_refl n
  · rw [hl] at hi
    obtain ⟨y1, y2⟩ := y
    subst y1; subst y2
    exact ⟨.int (lo + (i : Nat)), by unfold rangeD; rw [List.getElem?_map, List.getElem?_range hi]; rfl, .old .int⟩
theorem sndI_range1 (G : GOk X M Z) (he : PE X e (tW Z X.K false ie)) (hg : Gl X "range") (hs : notStar e = true) : PI X tg (.Call (.Name "range" p) [e] [] pos) (tWI Z X.K (.range1 ie)) := by
  refine PI.imp (pi_range1 hg G.rng (pa_cons he pa_nil (star_one hs)) (star_one hs)) fun sg H R ⟨s, c, F, rh, km, Em, Rr, w, ok, x⟩ => ?_
  unfold wpI at w
  refine tW.mk Rr w x fun d o s1 c1 v H1 F1 rh1 ⟨j, q0, q1, q2⟩ R1 e1 x1 r1 => ?_
  subst q0
  cases r1
  exact ⟨j, rfl, q1.1, q1.2, ok _ _ s1 c1 _ H1 F1 rh1 q2 trivial R1 e1 x1 walk_rangeD⟩
theorem sndI_range2 (G : GOk X M Z) (he : PE X e (tW Z X.K false ie)) (he2 : PE X e2 (tW Z X.K false ib)) (hg : Gl X "range") (hs : notStar e = true) (hs2 : notStar e2 = true) : PI X tg (.Call (.Name "range" p) [e, e2] [] pos) (tWI Z X.K (.range2 ie ib)) := by
  refine PI.imp (pi_range2 hg G.rng (pa_cons he (pa_cons he2 pa_nil (star_one hs2)) (star_one hs)) (by rw [star_one hs, star_one hs2]; rfl) (star_one hs2)) fun sg H R ⟨s, c, F, rh, km, Em, Rr, w, ok, x⟩ => ?_
  unfold wpI at w
  refine tW.mk Rr w x fun d o s1 c1 v H1 F1 rh1 q1 R1 e1 x1 r1 => ?_
  refine tW.mk R1 q1 x1 fun d2 o2 s2 c2 v2 H2 F2 rh2 ⟨i, j, g1, g2, g3, g4, q2⟩ R2 e2 x2 r2 => ?_
  subst g1; subst g2
  cases r1; cases r2
  exact ⟨i, j, rfl, ⟨g3.1, g3.2, g4.1, g4.2⟩, ok _ _ s2 c2 _ H2 F2 rh2 q2 trivial R2 (e1.trans e2) x2 walk_rangeD⟩
theorem walk_rangeCD {K : PySem.W.Frag} {H : Hp} {F : Fz} {rh : List Addr} {lo k : Int} {n : Nat} : WalkD K (Itc lo k n) (rangeCD lo k n) (fun _ => True) H F rh := by
  have hl : (rangeCD lo k n).length = n := by unfold rangeCD; simp
  refine ⟨fun i H' F' rh' c hi e C h => ?_, fun H' F' rh' c e C h => ?_, fun i H' F' rh' c x H2 hi e C h y => ?_⟩
  · rw [hl] at hi; exact hi
  · rw [hl]; exact Nat.le_refl n
  · rw [hl] at hi
    obtain ⟨y1, y2⟩ := y
    subst y1; subst y2
    exact ⟨.int (lo + (i : Nat) * k), by unfold rangeCD; rw [List.getElem?_map, List.getElem?_range hi]; rfl, .old .int⟩
theorem sndI_range3 {e3 : Expr} {ic : IE} (G : GOk X M Z) (he : PE X e (tW Z X.K false ie)) (he2 : PE X e2 (tW Z X.K false ib)) (he3 : PE X e3 (tW Z X.K false ic)) (hg : Gl X "range") (hs : notStar e = true) (hs2 : notStar e2 = true) (hs3 : notStar e3 = true) : PI X tg (.Call (.Name "range" p) [e, e2, e3] [] pos) (tWI Z X.K (.range3 ie ib ic)) := by
  refine PI.imp (pi_range3 hg G.rng (pa_cons he (pa_cons he2 (pa_cons he3 pa_nil (star_one hs3)) (star_one hs2)) (star_one hs)) (star_one hs) (star_plain (by show (notStar e2 && (notStar e3 && true)) = true; rw [hs2, hs3]; rfl))) fun sg H R ⟨s, c, F, rh, km, Em, Rr, w, ok, x⟩ => ?_
  unfold wpI at w
  refine tW.mk Rr w x fun d o s1 c1 v H1 F1 rh1 q1 R1 e1 x1 r1 => ?_
  refine tW.mk R1 q1 x1 fun d2 o2 s2 c2 v2 H2 F2 rh2 q2 R2 e2 x2 r2 => ?_
  refine tW.mk R2 q2 x2 fun d3 o3 s3 c3 v3 H3 F3 rh3 ⟨i, j, l, n, g1, g2, g3, g4, q3⟩ R3 e3 x3 r3 => ?_
  subst g1; subst g2; subst g3
  cases r1; cases r2; cases r3
  exact ⟨i, j, l, n, rfl, g4, ok _ _ s3 c3 _ H3 F3 rh3 q3 trivial R3 ((e1.trans e2).trans e3) x3 walk_rangeCD⟩
theorem enumD_at : ∀ {xs : List D} {k i : Nat} {d : D}, xs[i]? = some d → (enumD k xs)[i]? = some (.tup [.int ((k + i : Nat)), d])
  | [], _, _, _, h => by simp at h
  | x :: xs, k, 0, d, h => by simp at h; subst h; rfl
  | x :: xs, k, i + 1, d, h => by
    have h' : xs[i]? = some d := by simpa using h
    have e : k + (i + 1) = k + 1 + i := by omega
    rw [e]
    exact enumD_at (k := k + 1) h'
theorem enumD_len : ∀ (k : Nat) (xs : List D), (enumD k xs).length = xs.length
  | _, [] => rfl
  | k, x :: xs => by show (enumD (k + 1) xs).length + 1 = _; rw [enumD_len (k + 1) xs]; rfl
/-- enumerate(a list or a text) -/
theorem pi_enumD {te : TE} (he : PE X e te) (hg : Gl X "enumerate") (hm : X.mg "enumerate" = none) (hs : notStar e = true) :
    PI X (.Tuple elts kk tpos) (.Call (.Name "enumerate" p) [e] [] pos) (fun sg H R => te sg H fun x H1 => (∃ a, x = .ref a ∧ (∃ vs, SqL X.K H1 a vs) ∧ R (Ite X.K a) H1) ∨ (∃ a, x = .ref a ∧ (∃ vs, SqT X.K H1 a vs) ∧ R (ItEt X.K a) H1) ∨ ∃ z, x = .str z ∧ R (ItEs z) H1) := by
  have ha : PA X [e] (tCons te tNil) := pa_cons he pa_nil (star_one hs)
  refine ⟨fun pins s sg H R I h => Call_ (ld_blt I hg hm boot_enumerate (PyProof.Rows.callWith_type1 (thn (ha.run pos pins s sg H (fun vs H1 => match vs with
    | [x] => (∃ a, x = V.ref a ∧ (∃ vs, SqL X.K H1 a vs) ∧ R (Ite X.K a) H1) ∨ (∃ a, x = V.ref a ∧ (∃ vs, SqT X.K H1 a vs) ∧ R (ItEt X.K a) H1) ∨ ∃ z, x = V.str z ∧ R (ItEs z) H1
    | _ => False) I h) fun us s1 ⟨vs, H1, I1, r1, q1⟩ => ?_) (star_one hs) rfl))⟩
  match vs, r1, q1 with
  | [x], .cons (b := u) r .nil, q1 =>
    have fpk : ∀ b, b = s1.heap.objs.size + 1 ∨ b = s1.heap.objs.size → FpOk X pins H1 b := fun b hb => by
      have le : s1.heap.objs.size ≤ b := by
        rcases hb with z | z
        · rw [z]; exact Nat.le_add_right _ _
        · rw [z]; exact Nat.le_refl _
      exact I1.fpOk le (I1.hok.fresh le)
    rcases q1 with ⟨a, ex, ⟨ws, hq⟩, q⟩ | ⟨a, ex, ⟨ws, hq⟩, q⟩ | ⟨z, ex, q⟩
    rotate_left
    · subst ex
      cases (show u = Value.ref a from r)
      obtain ⟨its, _, pt, _⟩ := I1.tuple hq
      have hal : a < s1.heap.objs.size := pt.lt
      refine call_enum1 (begins_tuple a its.toArray) pt fun h' k1 k2 k4 => wpAny_pyIter_enum k1 ?_
      exact ⟨s1.heap.objs.size + 1, [s1.heap.objs.size + 1, s1.heap.objs.size], _, _, H1, rfl, I1.kept (t' := s1.toks) k4, turn_et a _ _ (Nat.ne_of_lt hal) (Nat.ne_of_lt (Nat.lt_succ_of_lt hal)), ⟨⟨.none, k1⟩, ⟨_, k2, rfl, rfl⟩, Nat.succ_ne_self _⟩, fun b hb => fpk b (by simpa using hb), q⟩
    rotate_left
    · subst ex
      cases (show u = Value.ref a from r)
      obtain ⟨its, _, pl, _⟩ := I1.list hq
      refine call_enumerate_list pl.isList fun h' k1 k2 _ k4 => wpAny_pyIter_enum k1 ?_
      exact ⟨s1.heap.objs.size + 1, [s1.heap.objs.size + 1, s1.heap.objs.size], _, _, H1, rfl, I1.kept (t' := s1.toks) k4, turn_enum a _ _, ⟨⟨.none, k1⟩, k2, Nat.succ_ne_self _⟩, fun b hb => fpk b (by simpa using hb), q⟩
    · subst ex
      obtain ⟨t, rfl⟩ := (show ∃ t, u = Value.str z t from r)
      refine call_enumerate_str fun h' k1 k2 _ k4 => wpAny_pyIter_enum k1 ?_
      exact ⟨s1.heap.objs.size + 1, [s1.heap.objs.size + 1, s1.heap.objs.size], _, _, H1, rfl, I1.kept (t' := s1.toks) k4, turn_es z t _ _, ⟨⟨.none, k1⟩, k2, Nat.succ_ne_self _⟩, fun b hb => fpk b (by simpa using hb), q⟩
theorem walk_enumL {K : PySem.W.Frag} {H : Hp} {F : Fz} {rh : List Addr} {xs : List D} {g : Cl → Prop} {a : Addr} (f : ∀ H' F' rh' c, Ext H F rh H' F' rh' → Ce K H' F' rh' c → g c → ∃ vs, SqL K H' a vs ∧ RepL K H' F' rh' vs xs) : WalkD K (Ite K a) (enumD 0 xs) g H F rh := by
  refine ⟨fun i H' F' rh' c hi e C h => ?_, fun H' F' rh' c e C h => ?_, fun i H' F' rh' c x H2 hi e C h y => ?_⟩
  · rw [enumD_len] at hi
    obtain ⟨vs, k1, k2⟩ := f H' F' rh' c e C h
    have hl : i < vs.length := by rw [k2.len]; exact hi
    exact walk_enum.goes i H' hl k1
  · rw [enumD_len]
    obtain ⟨vs, k1, k2⟩ := f H' F' rh' c e C h
    rw [← k2.len]
    exact walk_enum.stops H' k1
  · rw [enumD_len] at hi
    obtain ⟨vs, k1, k2⟩ := f H' F' rh' c e C h
    have hl : i < vs.length := by rw [k2.len]; exact hi
    obtain ⟨T, v1, v2, y1, y2, y3, y4, y5⟩ := walk_enum.yields i H' x H2 hl k1 y
    subst y1; subst y3
    cases y4
    obtain ⟨d, d1, d2⟩ := k2.atV y5
    have en := enumD_at (k := 0) d1
    rw [Nat.zero_add] at en
    exact ⟨_, en, .tup y2 (.cons .int (.cons d2 .nil))⟩
theorem walk_enumS {K : PySem.W.Frag} {H : Hp} {F : Fz} {rh : List Addr} {z : Str} {g : Cl → Prop} : WalkD K (ItEs z) (enumD 0 (signs z)) g H F rh := by
  refine ⟨fun i H' F' rh' c hi e C h => ?_, fun H' F' rh' c e C h => ?_, fun i H' F' rh' c x H2 hi e C h y => ?_⟩
  · rw [enumD_len, signs_len] at hi; exact hi
  · rw [enumD_len, signs_len]; rfl
  · obtain ⟨T, ch, y1, y2, y3, y4⟩ := y
    subst y1; subst y3
    have en := enumD_at (k := 0) (signs_at y4)
    rw [Nat.zero_add] at en
    exact ⟨_, en, .tup y2 (.cons .int (.cons .str .nil))⟩
theorem walk_enumT {K : PySem.W.Frag} {H : Hp} {F : Fz} {rh : List Addr} {xs : List D} {g : Cl → Prop} {a : Addr} (f : ∀ H' F' rh' c, Ext H F rh H' F' rh' → Ce K H' F' rh' c → g c → ∃ vs, SqT K H' a vs ∧ RepL K H' F' rh' vs xs) : WalkD K (ItEt K a) (enumD 0 xs) g H F rh := by
  refine ⟨fun i H' F' rh' c hi e C h => ?_, fun H' F' rh' c e C h => ?_, fun i H' F' rh' c x H2 hi e C h y => ?_⟩
  · rw [enumD_len] at hi
    obtain ⟨vs, k1, k2⟩ := f H' F' rh' c e C h
    have hl : i < vs.length := by rw [k2.len]; exact hi
    exact ⟨vs, vs[i], k1, List.getElem?_eq_getElem hl⟩
  · rw [enumD_len]
    obtain ⟨vs, k1, k2⟩ := f H' F' rh' c e C h
    exact ⟨vs, k1, k2.len.symm⟩
  · obtain ⟨vs, k1, k2⟩ := f H' F' rh' c e C h
    obtain ⟨T, x', y1, y2, y3, y4⟩ := y
    subst y1; subst y3
    obtain ⟨d, d1, d2⟩ := k2.atV (y4 vs k1)
    have en := enumD_at (k := 0) d1
    rw [Nat.zero_add] at en
    exact ⟨_, en, .tup y2 (.cons .int (.cons d2 .nil))⟩
theorem sndI_enum (G : GOk X M Z) (he : PE X e (tW Z X.K false ie)) (hg : Gl X "enumerate") (hs : notStar e = true) : PI X (.Tuple elts kk tpos) (.Call (.Name "enumerate" p) [e] [] pos) (tWI Z X.K (.enum ie)) := by
  refine PI.imp (pi_enumD he hg G.enm hs) fun sg H R ⟨s, c, F, rh, km, Em, Rr, w, ok, x⟩ => ?_
  unfold wpI at w
  refine tW.mk Rr w x fun d o s1 c1 v H1 F1 rh1 q1 R1 e1 x1 r1 => ?_
  obtain ⟨xs, g, k1, k2, sr⟩ := src_of R1.toCe r1 q1
  cases sr with
  | lst f =>
    obtain ⟨vs, g1, _⟩ := f H1 F1 rh1 c1 Ext.refl R1.toCe k2
    exact .inl ⟨_, rfl, ⟨vs, g1⟩, ok _ g s1 c1 _ H1 F1 rh1 k1 k2 R1 e1 x1 (walk_enumL f)⟩
  | tup f =>
    obtain ⟨vs, g1, _⟩ := f H1 F1 rh1 c1 Ext.refl R1.toCe k2
    exact .inr (.inl ⟨_, rfl, ⟨vs, g1⟩, ok _ g s1 c1 _ H1 F1 rh1 k1 k2 R1 e1 x1 (walk_enumT f)⟩)
  | str => exact .inr (.inr ⟨_, rfl, ok _ g s1 c1 _ H1 F1 rh1 k1 k2 R1 e1 x1 walk_enumS⟩)
end
end Vm

/-! Vm: targets, comprehensions -/
namespace Vm
open PySem PySem.Spec L2
open PyProof.Rows hiding St
theorem wipe_get (sg : L2.St) (i : Nat) : ∀ own : List Nat, (wipe sg own)[i]? = if i ∈ own then sg[i]?.map (fun _ => none) else sg[i]?
  | [] => by simp [wipe]
  | v :: vs => by
    unfold wipe
    have ih := wipe_get sg i vs
    have hl := wipe_length sg vs
    by_cases e : v = i
    · subst e
      rw [if_pos List.mem_cons_self]
      cases q : sg[v]? with
      | none =>
        have : sg.length ≤ v := List.getElem?_eq_none_iff.mp q
        rw [List.getElem?_eq_none (by rw [List.length_set, hl]; exact this)]; rfl
      | some x =>
        obtain ⟨lt, _⟩ := List.getElem?_eq_some_iff.mp q
        rw [List.getElem?_set_self (by rw [hl]; exact lt)]; rfl
    · rw [List.getElem?_set_ne e, ih]
      have : (i ∈ v :: vs) ↔ i ∈ vs := by simp; intro z; exact absurd z.symm e
      simp only [this]
theorem wipeS_len (s : List Sl) : ∀ own : List Nat, (wipeS s own).length = s.length
  | [] => rfl
  | v :: vs => by unfold wipeS; rw [List.length_set, wipeS_len s vs]
theorem wipeS_get (s : List Sl) (i : Nat) : ∀ own : List Nat, (wipeS s own)[i]? = if i ∈ own then s[i]?.map (fun _ => .no) else s[i]?
  | [] => by simp [wipeS]
  | v :: vs => by
    unfold wipeS
    have ih := wipeS_get s i vs
    have hl := wipeS_len s vs
    by_cases e : v = i
    · subst e
      rw [if_pos List.mem_cons_self]
      cases q : s[v]? with
      | none =>
        have : s.length ≤ v := List.getElem?_eq_none_iff.mp q
        rw [List.getElem?_eq_none (by rw [List.length_set, hl]; exact this)]; rfl
      | some x =>
        obtain ⟨lt, _⟩ := List.getElem?_eq_some_iff.mp q
        rw [List.getElem?_set_self (by rw [hl]; exact lt)]; rfl
    · rw [List.getElem?_set_ne e, ih]
      have : (i ∈ v :: vs) ↔ i ∈ vs := by simp; intro z; exact absurd z.symm e
      simp only [this]
theorem backS_len (s0 s : List Sl) : ∀ own : List Nat, (backS s0 s own).length = s.length
  | [] => rfl
  | v :: vs => by unfold backS; rw [List.length_set, backS_len s0 s vs]
theorem backS_get (s0 s : List Sl) (hl : s0.length = s.length) (i : Nat) : ∀ own : List Nat, (backS s0 s own)[i]? = if i ∈ own then s0[i]? else s[i]?
  | [] => by simp [backS]
  | v :: vs => by
    unfold backS
    have ih := backS_get s0 s hl i vs
    have h2 := backS_len s0 s vs
    by_cases e : v = i
    · subst e
      rw [if_pos List.mem_cons_self]
      cases q : s0[v]? with
      | none =>
        have : s0.length ≤ v := List.getElem?_eq_none_iff.mp q
        rw [List.getElem?_eq_none (by rw [List.length_set, h2]; omega)]
      | some x =>
        obtain ⟨lt, _⟩ := List.getElem?_eq_some_iff.mp q
        rw [List.getElem?_set_self (by rw [h2]; omega)]; rfl
    · rw [List.getElem?_set_ne e, ih]
      have : (i ∈ v :: vs) ↔ i ∈ vs := by simp; intro z; exact absurd z.symm e
      simp only [this]
theorem wipe_set {sg : L2.St} {own : List Nat} {i : Nat} {x : Option V} (hi : i ∈ own) : wipe (sg.set i x) own = wipe sg own := by
  refine List.ext_getElem? fun j => ?_
  rw [wipe_get, wipe_get]
  by_cases hj : j ∈ own
  · rw [if_pos hj, if_pos hj]
    by_cases e : i = j
    · subst e
      by_cases hl : i < sg.length
      · rw [List.getElem?_set_self hl, List.getElem?_eq_getElem hl]; rfl
      · rw [List.getElem?_eq_none (by simpa using hl), List.getElem?_eq_none (by simpa using hl)]
    · rw [List.getElem?_set_ne e]
  · rw [if_neg hj, if_neg hj, List.getElem?_set_ne (fun e => by subst e; exact hj hi)]
theorem wipe_wipe (sg : L2.St) (own : List Nat) : wipe (wipe sg own) own = wipe sg own := by
  refine List.ext_getElem? fun j => ?_
  rw [wipe_get, wipe_get]
  by_cases hj : j ∈ own
  · rw [if_pos hj, if_pos hj]; cases sg[j]? <;> rfl
  · rw [if_neg hj, if_neg hj]

section
variable {K : PySem.W.Frag} {H0 H H1 H' : Hp} {F F1 F' : Fz} {rh rh1 rh' : List Addr} {sh sh2 : L2.St} {s s1 : List Sl} {c c1 c' : Cl} {v : V} {d : D} {own : List Nat} {O O' O2 : Addr → Prop}
theorem Ev.less (e : Ev H F rh O2 H' F' rh' O') (h : ∀ a, O2 a → O a) : Ev H F rh O H' F' rh' O' := ⟨e.toExt, e.mono, fun a o h1 h2 h3 h4 => e.priv a o h1 h2 h3 fun z => h4 (h a z)⟩
theorem Ev.lessR (e : Ev H F rh O H' F' rh' O') (h : ∀ a, O2 a → O' a) : Ev H F rh O H' F' rh' O2 := ⟨e.toExt, e.mono, fun a o h1 h2 h3 h4 => by
  obtain ⟨g1, g2, g3, g4⟩ := e.priv a o h1 h2 h3 h4
  exact ⟨g1, g2, g3, fun z => g4 (h a z)⟩⟩
/-- a fresh object is written again -/
theorem Ev.upd {p : Addr} {o : HO} (e : Ev H F rh O H' F' rh' O') (hp : H p = none) (hf : ∀ a, F a → H a ≠ none) : Ev H F rh O (upd H' p o) F' rh' O' := by
  have ne : ∀ a u, H a = some u → a ≠ p := fun a u h z => by subst z; rw [hp] at h; cases h
  refine ⟨⟨e.frz, fun a u f h => ?_, e.cel⟩, fun a h => ?_, fun a u g1 g2 g3 g4 => ?_⟩
  · rw [upd_ne (ne a u h)]; exact e.stab a u f h
  · exact mono_upd a (e.mono a h)
  · obtain ⟨k1, k2, k3, k4⟩ := e.priv a u g1 g2 g3 g4
    exact ⟨by rw [upd_ne (ne a u g1)]; exact k1, k2, k3, k4⟩
/-- a private object is written: what is represented stands -/
theorem Rl.privUpd (R : Rl K H0 H F rh sh s c) {p : Addr} {o o' : HO} (hp : H p = some o) (h1 : ¬ F p) (h2 : p ∉ rh) (h3 : ¬ Owned sh s p) : Rl K H0 (L2.upd H p o') F rh sh s c ∧ Ext H F rh (L2.upd H p o') F rh := by
  have e : Ext H F rh (L2.upd H p o') F rh := ext_mut h1
  refine ⟨⟨⟨R.len, R.nd, fun n b x g1 g2 => ?_, R.nf, fun b z => mono_upd b (R.ft b z)⟩, fun i x h => ?_, fun i x h => ?_, R.uq, R.ln, R.fr, fun b z => ?_⟩, e⟩
  · obtain ⟨o2, k1, k2⟩ := R.ob n b x g1 g2
    have nb : b ≠ p := fun z => h2 (z ▸ List.mem_of_getElem? g1)
    exact ⟨o2, by rw [upd_ne nb]; exact k1, k2.ext e⟩
  · obtain ⟨w, k1, k2⟩ := R.shr i x h
    exact ⟨w, k1, k2.ext e⟩
  · obtain ⟨b, o2, k1, k2, k3, k4, k5⟩ := R.own i x h
    have nb : b ≠ p := fun z => h3 (z ▸ ⟨i, x, h, k1⟩)
    exact ⟨b, o2, k1, by rw [upd_ne nb]; exact k2, k3.ext e, k4, k5⟩
  · have nb : b ≠ p := fun q => by subst q; rw [upd_same] at z; cases z
    rw [upd_ne nb] at z
    exact R.mn b z
/-- a slot is set to a shared value -/
theorem Rl.setSh (R : Rl K H0 H F rh sh s c) {i : Nat} (r : Rep K H F rh v d) : Rl K H0 H F rh (sh.set i (some v)) (s.set i (.sh d)) c ∧ ∀ a, Owned (sh.set i (some v)) (s.set i (.sh d)) a → Owned sh s a := by
  have low : ∀ {j : Nat} {x : D}, (s.set i (.sh d))[j]? = some (.ow x) → j ≠ i ∧ s[j]? = some (.ow x) := fun {j x} g => by
    by_cases q : i = j
    · subst q
      by_cases hl : i < s.length
      · rw [List.getElem?_set_self hl] at g; cases g
      · rw [List.getElem?_eq_none (by simpa using hl)] at g; cases g
    · rw [List.getElem?_set_ne q] at g; exact ⟨fun z => q z.symm, g⟩
  refine ⟨⟨R.toCe, fun j x g => ?_, fun j x g => ?_, fun j k x y b g1 g2 g3 g4 => ?_, by rw [List.length_set, List.length_set]; exact R.ln, fun j x b g1 g2 => ?_, R.mn⟩, fun a ⟨j, x, g1, g2⟩ => ?_⟩
  · by_cases q : i = j
    · subst q
      by_cases hl : i < s.length
      · rw [List.getElem?_set_self hl] at g
        cases g
        exact ⟨v, List.getElem?_set_self (by rw [← R.ln]; exact hl), r⟩
      · rw [List.getElem?_eq_none (by simpa using hl)] at g; cases g
    · rw [List.getElem?_set_ne q] at g
      rw [List.getElem?_set_ne q]
      exact R.shr j x g
  · obtain ⟨q, g'⟩ := low g
    obtain ⟨b, o, k1, k2⟩ := R.own j x g'
    exact ⟨b, o, by rw [List.getElem?_set_ne (fun z => q z.symm)]; exact k1, k2⟩
  · obtain ⟨q1, y1⟩ := low g1
    obtain ⟨q2, y2⟩ := low g2
    rw [List.getElem?_set_ne (fun z => q1 z.symm)] at g3
    rw [List.getElem?_set_ne (fun z => q2 z.symm)] at g4
    exact R.uq j k x y b y1 y2 g3 g4
  · obtain ⟨q, y⟩ := low g1
    rw [List.getElem?_set_ne (fun z => q z.symm)] at g2
    exact R.fr j x b y g2
  · obtain ⟨q, y⟩ := low g1
    rw [List.getElem?_set_ne (fun z => q z.symm)] at g2
    exact ⟨j, x, y, g2⟩
/-- the block's own slots forgotten -/
theorem Rl.wipe (R : Rl K H0 H F rh sh s c) (own : List Nat) : Rl K H0 H F rh (L2.wipe sh own) (wipeS s own) c ∧ ∀ a, Owned (L2.wipe sh own) (wipeS s own) a → Owned sh s a := by
  have low : ∀ {j : Nat} {x : Sl}, (wipeS s own)[j]? = some x → x ≠ .no → j ∉ own ∧ s[j]? = some x := fun {j x} g hx => by
    rw [wipeS_get] at g
    by_cases q : j ∈ own
    · rw [if_pos q] at g
      cases z : s[j]? with
      | none => rw [z] at g; cases g
      | some y => rw [z] at g; exact absurd (Option.some.inj g).symm hx
    · rw [if_neg q] at g; exact ⟨q, g⟩
  have at_ : ∀ {j : Nat}, j ∉ own → (L2.wipe sh own)[j]? = sh[j]? := fun {j} q => by rw [wipe_get, if_neg q]
  refine ⟨⟨R.toCe, fun j x g => ?_, fun j x g => ?_, fun j k x y b g1 g2 g3 g4 => ?_, by rw [wipeS_len, wipe_length]; exact R.ln, fun j x b g1 g2 => ?_, R.mn⟩, fun a ⟨j, x, g1, g2⟩ => ?_⟩
  · obtain ⟨q, y⟩ := low g (fun z => by cases z)
    rw [at_ q]; exact R.shr j x y
  · obtain ⟨q, y⟩ := low g (fun z => by cases z)
    rw [at_ q]; exact R.own j x y
  · obtain ⟨q1, y1⟩ := low g1 (fun z => by cases z)
    obtain ⟨q2, y2⟩ := low g2 (fun z => by cases z)
    rw [at_ q1] at g3
    rw [at_ q2] at g4
    exact R.uq j k x y b y1 y2 g3 g4
  · obtain ⟨q, y⟩ := low g1 (fun z => by cases z)
    rw [at_ q] at g2
    exact R.fr j x b y g2
  · obtain ⟨q, y⟩ := low g1 (fun z => by cases z)
    rw [at_ q] at g2
    exact ⟨j, x, y, g2⟩
/-- behind the block: its own slots as they were -/
theorem Rl.back (R1 : Rl K H0 H1 F1 rh1 sh s1 c1) (R : Rl K H0 H F rh (L2.wipe sh own) (wipeS s own) c) (E : Ev H1 F1 rh1 (Owned (L2.wipe sh own) (wipeS s1 own)) H F rh (Owned (L2.wipe sh own) (wipeS s own))) (hl : s1.length = s.length) :
    Rl K H0 H F rh sh (backS s1 s own) c ∧ Ev H1 F1 rh1 (Owned sh s1) H F rh (Owned sh (backS s1 s own)) ∧ ∀ a, Owned sh (backS s1 s own) a → H1 a ≠ none ∨ Owned (L2.wipe sh own) (wipeS s own) a := by
  have get := fun j => backS_get s1 s hl j own
  have wg := fun j => wipeS_get s j own
  have ag := fun j => wipe_get sh j own
  -- an own slot outside, of the block's names
  have outer : ∀ (j : Nat) (x : D) a o, j ∈ own → s1[j]? = some (.ow x) → sh[j]? = some (some (.ref a)) → H1 a = some o → ¬ F1 a → a ∉ rh1 → H a = some o ∧ ¬ F a ∧ a ∉ rh ∧ ¬ Owned (L2.wipe sh own) (wipeS s own) a := fun j x a o hj h1 h2 h3 h4 h5 =>
    E.priv a o h3 h4 h5 fun ⟨k, y, g1, g2⟩ => by
      rw [wipeS_get] at g1
      by_cases q : k ∈ own
      · rw [if_pos q] at g1
        cases z : s1[k]? with
        | none => rw [z] at g1; cases g1
        | some w => rw [z] at g1; cases g1
      · rw [if_neg q] at g1
        rw [wipe_get, if_neg q] at g2
        have := R1.uq j k x y a h1 g1 h2 g2
        subst this
        exact q hj
  have inner : ∀ {j : Nat} {x : Sl}, j ∉ own → (backS s1 s own)[j]? = some x → (wipeS s own)[j]? = some x ∧ (L2.wipe sh own)[j]? = sh[j]? := fun {j x} q g => by
    rw [get, if_neg q] at g
    exact ⟨by rw [wg, if_neg q]; exact g, by rw [ag, if_neg q]⟩
  have sub : ∀ a, Owned sh (backS s1 s own) a → (∃ j x, j ∈ own ∧ s1[j]? = some (.ow x) ∧ sh[j]? = some (some (.ref a))) ∨ Owned (L2.wipe sh own) (wipeS s own) a := fun a ⟨j, x, g1, g2⟩ => by
    by_cases q : j ∈ own
    · rw [get, if_pos q] at g1
      exact .inl ⟨j, x, q, g1, g2⟩
    · obtain ⟨k1, k2⟩ := inner q g1
      exact .inr ⟨j, x, k1, by rw [k2]; exact g2⟩
  refine ⟨⟨R.toCe, fun j x g => ?_, fun j x g => ?_, fun j k x y b g1 g2 g3 g4 => ?_, by rw [backS_len, ← hl]; exact R1.ln, fun j x b g1 g2 => ?_, R.mn⟩, ⟨E.toExt, E.mono, fun a o h1 h2 h3 h4 => ?_⟩, fun a z => ?_⟩
  rotate_left 5
  · rcases sub a z with ⟨j, x, _, z1, z2⟩ | z
    · obtain ⟨b, o, k1, k2, _⟩ := R1.own j x z1
      rw [z2] at k1; cases k1
      exact .inl (by rw [k2]; exact fun q => nomatch q)
    · exact .inr z
  · by_cases q : j ∈ own
    · rw [get, if_pos q] at g
      obtain ⟨w, k1, k2⟩ := R1.shr j x g
      exact ⟨w, k1, k2.ext E.toExt⟩
    · obtain ⟨k1, k2⟩ := inner q g
      obtain ⟨w, k3, k4⟩ := R.shr j x k1
      exact ⟨w, by rw [← k2]; exact k3, k4⟩
  · by_cases q : j ∈ own
    · rw [get, if_pos q] at g
      obtain ⟨a, o, k1, k2, k3, k4, k5⟩ := R1.own j x g
      obtain ⟨m1, m2, m3, _⟩ := outer j x a o q g k1 k2 k4 k5
      exact ⟨a, o, k1, m1, k3.ext E.toExt, m2, m3⟩
    · obtain ⟨k1, k2⟩ := inner q g
      obtain ⟨a, o, k3, k4⟩ := R.own j x k1
      exact ⟨a, o, by rw [← k2]; exact k3, k4⟩
  · by_cases q1 : j ∈ own
    · rw [get, if_pos q1] at g1
      by_cases q2 : k ∈ own
      · rw [get, if_pos q2] at g2
        exact R1.uq j k x y b g1 g2 g3 g4
      · exfalso
        obtain ⟨k1, k2⟩ := inner q2 g2
        obtain ⟨a, o, m1, m2, m3, m4, m5⟩ := R1.own j x g1
        rw [m1] at g3; cases g3
        exact (outer j x _ o q1 g1 m1 m2 m4 m5).2.2.2 ⟨k, y, k1, by rw [k2]; exact g4⟩
    · obtain ⟨k1, k2⟩ := inner q1 g1
      by_cases q2 : k ∈ own
      · exfalso
        rw [get, if_pos q2] at g2
        obtain ⟨a, o, m1, m2, m3, m4, m5⟩ := R1.own k y g2
        rw [m1] at g4; cases g4
        exact (outer k y _ o q2 g2 m1 m2 m4 m5).2.2.2 ⟨j, x, k1, by rw [k2]; exact g3⟩
      · obtain ⟨k3, k4⟩ := inner q2 g2
        exact R.uq j k x y b k1 k3 (by rw [k2]; exact g3) (by rw [k4]; exact g4)
  · by_cases q : j ∈ own
    · rw [get, if_pos q] at g1
      exact R1.fr j x b g1 g2
    · obtain ⟨k1, k2⟩ := inner q g1
      exact R.fr j x b k1 (by rw [k2]; exact g2)
  · have hO : ¬ Owned (L2.wipe sh own) (wipeS s1 own) a := fun z => h4 ((R1.wipe own).2 a z)
    obtain ⟨k1, k2, k3, k4⟩ := E.priv a o h1 h2 h3 hO
    refine ⟨k1, k2, k3, fun z => ?_⟩
    rcases sub a z with ⟨j, x, _, z1, z2⟩ | z
    · exact h4 ⟨j, x, z1, z2⟩
    · exact k4 z
end
end Vm

/-! Vm: comprehensions are sound -/
namespace Vm
open PySem PySem.Spec L2
open PyProof.Rows hiding St
/-- a tuple or a list is unpacked -/
def gTupA (K : PySem.W.Frag) (n : Nat) (t : TGs) : TG := fun v σ H Q => ∃ a xs, v = .ref a ∧ (SqT K H a xs ∨ SqL K H a xs) ∧ xs.length = n ∧ t xs σ H Q
theorem pg_tupA {X : Cx} {es : List Expr} {k : Nat} {pos : Pos} {t : TGs} {n : Nat} (hc : X.calm = true) (h : PGs X es t) (hn : (assignEach es X.env).length = n) (hst : (assignEach es X.env).findIdx? (·.1) = none) : PG X (.Tuple es k pos) (gTupA X.K n t) := by
  refine ⟨fun pins s σ H v u Q I r hw => ?_⟩
  obtain ⟨a, xs, e1, hq, hl, hw⟩ := hw
  rcases hq with hq | hq
  · exact (pg_tup (n := n) (k := k) (pos := pos) hc h hn hst).run pins s σ H v u Q I r ⟨a, xs, e1, hq, hl, hw⟩
  · subst e1
    cases r
    obtain ⟨its, rv, ht, hz⟩ := I.list hq
    rw [assign_Tuple]
    refine wpAny_bind (wpAny_standAt ?_)
    unfold unpack
    rw [hn, hst, show n = its.toArray.size by rw [List.size_toArray, ← rv.length]; exact hl.symm]
    refine wpAny_bind (wpAny_holding (PySem.W.kun_itemsOf (I.ok.hd hc) ht.isList fun h' hx => ?_))
    have I1 : Inv X pins σ H { s with heap := h' } := I.kept (t' := s.toks) fun b o e => hx b o (Nat.ne_of_lt (Heap.lt_size e)) e
    exact h.run pins _ σ H xs _ Q I1 (by simpa using rv) hw
def lenT : TgL → Nat
  | .nil => 0
  | .cons _ l => lenT l + 1
mutual
def gOf (K : PySem.W.Frag) : Tg → TG
  | .nm i => gName i
  | .tp l => gTupA K (lenT l) (gsOf K l)
def gsOf (K : PySem.W.Frag) : TgL → TGs
  | .nil => gNil
  | .cons t l => gCons (gOf K t) (gsOf K l)
end
mutual
def tgIn (own : List Nat) : Tg → Bool
  | .nm i => decide (i ∈ own)
  | .tp l => tgsIn own l
def tgsIn (own : List Nat) : TgL → Bool
  | .nil => true
  | .cons t l => tgIn own t && tgsIn own l
end
section
variable {K : PySem.W.Frag} {H0 H H1 H' : Hp} {F F1 F' : Fz} {rh rh1 rh' : List Addr} {c c1 c' : Cl} {own : List Nat}
mutual
theorem bind_use : ∀ (t : Tg) {d : D} {s s1 : List Sl} {v : V} {sh : L2.St} {Q : L2.St → Hp → Prop}, Rl K H0 H F rh sh s c → Rep K H F rh v d → bindT t d s = some s1 →
    (∀ sh1, Rl K H0 H F rh sh1 s1 c → (∀ a, Owned sh1 s1 a → Owned sh s a) → (tgIn own t = true → wipe sh1 own = wipe sh own) → Q sh1 H) → gOf K t v sh H Q
  | .nm i, d, s, s1, v, sh, Q, R, r, e, k => by
    have e' : some (s.set i (.sh d)) = some s1 := e
    cases e'
    obtain ⟨R2, ow⟩ := R.setSh (i := i) r
    exact k _ R2 ow fun z => wipe_set (of_decide_eq_true z)
  | .tp l, d, s, s1, v, sh, Q, R, r, e, k => by
    cases d with
    | tup ds =>
      obtain ⟨a, vs, rfl, hf, rl⟩ := r.tup_of
      have e' : bindTs l ds s = some s1 := e
      exact ⟨a, vs, rfl, .inl hf.sq, by rw [rl.len]; exact binds_len l e', binds_use l R rl e' k⟩
    | lst ds =>
      cases r with
      | lst hf rl =>
        have e' : bindTs l ds s = some s1 := e
        exact ⟨_, _, rfl, .inr hf.sq, by rw [rl.len]; exact binds_len l e', binds_use l R rl e' k⟩
    | _ => cases e
theorem binds_use : ∀ (l : TgL) {ds : List D} {s s1 : List Sl} {vs : List V} {sh : L2.St} {Q : L2.St → Hp → Prop}, Rl K H0 H F rh sh s c → RepL K H F rh vs ds → bindTs l ds s = some s1 →
    (∀ sh1, Rl K H0 H F rh sh1 s1 c → (∀ a, Owned sh1 s1 a → Owned sh s a) → (tgsIn own l = true → wipe sh1 own = wipe sh own) → Q sh1 H) → gsOf K l vs sh H Q
  | .nil, ds, s, s1, vs, sh, Q, R, r, e, k => by
    cases r with
    | nil =>
      have e' : some s = some s1 := e
      cases e'
      exact ⟨rfl, k sh R (fun _ h => h) fun _ => rfl⟩
    | cons _ _ => cases e
  | .cons t l, ds, s, s1, vs, sh, Q, R, r, e, k => by
    cases r with
    | nil => cases e
    | @cons v d vs ds h r =>
      have e' : (match bindT t d s with | some s2 => bindTs l ds s2 | none => none) = some s1 := e
      cases q : bindT t d s with
      | none => rw [q] at e'; cases e'
      | some s2 =>
        rw [q] at e'
        refine ⟨v, vs, rfl, bind_use t R h q fun sh2 R2 ow2 w2 => binds_use l R2 r e' fun sh3 R3 ow3 w3 => k sh3 R3 (fun a z => ow2 a (ow3 a z)) fun z => ?_⟩
        have z' : (tgIn own t && tgsIn own l) = true := z
        rw [Bool.and_eq_true] at z'
        rw [w3 z'.2, w2 z'.1]
theorem binds_len : ∀ (l : TgL) {ds : List D} {s s1 : List Sl}, bindTs l ds s = some s1 → ds.length = lenT l
  | .nil, [], _, _, _ => rfl
  | .nil, _ :: _, _, _, e => by cases e
  | .cons _ _, [], _, _, e => by cases e
  | .cons t l, d :: ds, s, s1, e => by
    have e' : (match bindT t d s with | some s2 => bindTs l ds s2 | none => none) = some s1 := e
    cases q : bindT t d s with
    | none => rw [q] at e'; cases e'
    | some s2 =>
      rw [q] at e'
      show ds.length + 1 = lenT l + 1
      rw [binds_len l e']
end
/-- a value that was handed out is taken in -/
theorem Out.enter {sh : L2.St} {s : List Sl} {v : V} {d : D} (u : Out K H F rh v H' d false) (R : Rl K H0 H F rh sh s c) : ∃ F2, Rl K H0 H' F2 rh sh s c ∧ Ev H F rh (Owned sh s) H' F2 rh (Owned sh s) ∧ Rep K H' F2 rh v d := by
  cases u with
  | old r => exact ⟨F, R, Ev.refl, r⟩
  | @tup p vs ds hp r =>
    have g := R.free hp
    have R1 : Rl K H0 (upd H p (.tup vs)) F rh sh s c := R.laid hp
    have e1 : Ev H F rh (Owned sh s) (upd H p (.tup vs)) F rh (Owned sh s) := ev_new hp R.ft
    refine ⟨addF F p, R1.freeze upd_same g.2.1 g.2.2, ⟨e1.toExt.trans ext_addF, e1.mono, fun a u g1 g2 g3 g4 => ?_⟩, .tup (.inl ⟨.inr rfl, SqT.of upd_same⟩) (r.ext (e1.toExt.trans ext_addF))⟩
    obtain ⟨k1, k2, k3, k4⟩ := e1.priv a u g1 g2 g3 g4
    refine ⟨k1, fun z => ?_, k3, k4⟩
    rcases z with z | z
    · exact k2 z
    · subst z; rw [hp] at g1; cases g1
end
def cB (C : Ctx) (own : List Nat) (t : Tg) (ifs : IL) (ie : IE) : D → List Sl → Cl → (Option D → List Sl → Cl → Prop) → Prop := fun x s2 c2 k => match bindT t x (wipeS s2 own) with
  | none => False
  | some s3 => wpIf C ifs s3 c2 (fun b s4 c4 => match b with
    | true => wpE C false ie s4 c4 (fun d _ s5 c5 => k (some d) s5 c5) EK0
    | false => k none s4 c4)
def tWIf (Z : Sx) (K : PySem.W.Frag) (l : IL) : TT := fun sh H Q => ∃ s c F rh Qm, Rl K Z.H0 H F rh sh s c ∧ wpIf Z.C l s c Qm ∧ ∀ b s' c' H' F' rh', Qm b s' c' → Rl K Z.H0 H' F' rh' sh s' c' → Ev H F rh (Owned sh s) H' F' rh' (Owned sh s') → Q b H'
abbrev Sx.mute (Z : Sx) : Sx := { Z with W := fun _ _ _ _ => False }
section
variable {X : Cx} {M : Nm} {Z : Sx} {e : Expr} {ie : IE}
theorem PTs.imp {es : List Expr} {t t' : TT} (h : PTs X es t) (i : ∀ sg H Q, t' sg H Q → t sg H Q) : PTs X es t' := ⟨fun p s sg H Q I w => h.run p s sg H Q I (i sg H Q w)⟩
theorem sndIf_nil : PTs X [] (tWIf Z X.K .nil) := PTs.imp pts_nil fun sg H Q ⟨s, c, F, rh, Qm, R, w, ok⟩ => by
  unfold wpIf at w
  exact ok true s c H F rh w R Ev.refl
theorem sndIf_one (h : PT X e (tWT Z X.K ie)) : PTs X [e] (tWIf Z X.K (.cons ie .nil)) := PTs.imp (pts_one h) fun sg H Q ⟨s, c, F, rh, Qm, R, w, ok⟩ => by
  unfold wpIf at w
  exact test_mk R w (fun ex s' c' cls da H' F' rh' z => z.elim) (fun d o s1 c1 k H1 F1 rh1 ⟨k', q1, q2⟩ ed R1 e1 x1 => by
    subst ed
    cases q1
    exact ok k s1 c1 H1 F1 rh1 q2 R1 e1) fun d o s1 c1 ⟨k, q, _⟩ => ⟨k, q⟩
/-- what a comprehension asks, from its weakest precondition -/
theorem comp_use {own : List Nat} {t : Tg} {src : IT} {ifs : IL} (ti : tgIn own t = true) {sg : L2.St} {H : Hp} {Q : VK} (h : tW Z X.K false (.comp own t src ifs ie) sg H Q) :
    tLc (tWI Z X.K src) (gOf X.K t) (tWIf Z.mute X.K ifs) (tW Z.mute X.K false ie) own sg H Q := by
  obtain ⟨s0, c0, F0, rh0, Qm, Em, R0, w, ok, x0⟩ := h
  unfold wpE at w
  refine ⟨s0, c0, F0, rh0, _, Em, R0, w, fun xs g s1 c1 J H1 F1 rh1 lp gc R1 e1 x1 wd Dl hD => ?_, x0⟩
  have ok1 := ok.step e1
  obtain ⟨Rw, Ow⟩ := R1.wipe own
  have fD := R1.free hD
  refine ⟨fun i m H => m = xs.length - i ∧ i ≤ xs.length ∧ ∃ s c F rh acc av, s.length = s1.length ∧ Rl X.K Z.H0 H F rh (wipe sg own) (wipeS s own) c ∧
    Ev H1 F1 rh1 (Owned (wipe sg own) (wipeS s1 own)) H F rh (Owned (wipe sg own) (wipeS s own)) ∧ H Dl = some (.lst av) ∧ ¬ F Dl ∧ Dl ∉ rh ∧ ¬ Owned (wipe sg own) (wipeS s own) Dl ∧ RepL X.K H F rh av acc ∧
    loopC g (cB Z.C own t ifs ie) (xs.drop i) acc s c (fun acc s6 c6 => Qt false Qm (.lst acc) true (backS s1 s6 own) c6), ⟨xs.length, by rw [Nat.sub_zero], Nat.zero_le _, s1, c1, F1, rh1, [], [], rfl, Rw.laid hD, ev_new hD R1.ft, upd_same, fD.1, fD.2.1, fun z => fD.2.2 (Ow _ z), .nil, lp⟩, ?_⟩
  rintro i m H ⟨rfl, hi, s, c, F, rh, acc, av, hl, R, E, h1, h2, h3, h4, ra, lp⟩
  by_cases hlt : i < xs.length
  · have dr : xs.drop i = xs[i] :: xs.drop (i + 1) := List.drop_eq_getElem_cons hlt
    rw [dr] at lp
    unfold loopC at lp
    obtain ⟨gc', lp⟩ := lp
    unfold cB at lp
    refine .inr ⟨wd.go i H F rh c hlt E.toExt R.toCe gc', fun H' => ∃ m', m' < xs.length - i ∧ _, fun H' z => z, fun xv H2 y => ?_⟩
    obtain ⟨d, hd, u⟩ := wd.yld i H F rh c xv H2 hlt E.toExt R.toCe gc' y
    rw [List.getElem?_eq_getElem hlt] at hd
    cases hd
    obtain ⟨F2, R2, E2, r2⟩ := u.enter R
    cases hb : bindT t xs[i] (wipeS s own) with
    | none => rw [hb] at lp; exact lp.elim
    | some s3 =>
      rw [hb] at lp
      refine bind_use (own := own) t R2 r2 hb fun sh3 R3 o3 w3 => ⟨by rw [w3 ti, wipe_wipe], ?_⟩
      have wsh : wipe sh3 own = wipe sg own := by rw [w3 ti, wipe_wipe]
      obtain ⟨d1, d2, d3, d4⟩ := E2.priv Dl _ h1 h2 h3 h4
      have len : ∀ {F : Fz} {rh : List Addr} {s : List Sl} {c : Cl} {H : Hp}, Rl X.K Z.H0 H F rh sh3 s c → s.length = s1.length := fun {F rh s c H} R => by
        have l1 := R.ln
        have l2 := congrArg List.length wsh
        rw [wipe_length, wipe_length] at l2
        have l3 := R1.ln
        omega
      -- the invariant of the next turn
      have next : ∀ {H5 : Hp} {F5 : Fz} {rh5 : List Addr} {s5 : List Sl} {c5 : Cl} {acc5 : List D} {av5 : List V}, Rl X.K Z.H0 H5 F5 rh5 sh3 s5 c5 → Ev H2 F2 rh (Owned sh3 s3) H5 F5 rh5 (Owned sh3 s5) → H5 Dl = some (.lst av) → ¬ F5 Dl → Dl ∉ rh5 → ¬ Owned sh3 s5 Dl → RepL X.K H5 F5 rh5 av5 acc5 →
          loopC g (cB Z.C own t ifs ie) (xs.drop (i + 1)) acc5 s5 c5 (fun acc s6 c6 => Qt false Qm (.lst acc) true (backS s1 s6 own) c6) → ∃ m', m' < xs.length - i ∧ (fun i m H => m = xs.length - i ∧ i ≤ xs.length ∧ ∃ s c F rh acc av, s.length = s1.length ∧ Rl X.K Z.H0 H F rh (wipe sg own) (wipeS s own) c ∧
    Ev H1 F1 rh1 (Owned (wipe sg own) (wipeS s1 own)) H F rh (Owned (wipe sg own) (wipeS s own)) ∧ H Dl = some (.lst av) ∧ ¬ F Dl ∧ Dl ∉ rh ∧ ¬ Owned (wipe sg own) (wipeS s own) Dl ∧ RepL X.K H F rh av acc ∧
    loopC g (cB Z.C own t ifs ie) (xs.drop i) acc s c (fun acc s6 c6 => Qt false Qm (.lst acc) true (backS s1 s6 own) c6)) (i + 1) m' (upd H5 Dl (.lst av5)) := by
        intro H5 F5 rh5 s5 c5 acc5 av5 R5 E5 p1 p2 p3 p4 ra5 lp5
        obtain ⟨Rp, ep⟩ := R5.privUpd (o' := .lst av5) p1 p2 p3 p4
        obtain ⟨Rq, Oq⟩ := Rp.wipe own
        rw [wsh] at Rq Oq
        have E5' : Ev H2 F2 rh (Owned (wipe sg own) (wipeS s own)) H5 F5 rh5 (Owned (wipe sg own) (wipeS s5 own)) := (E5.less fun a z => o3 a z).lessR fun a z => Oq a z
        refine ⟨xs.length - (i + 1), by omega, rfl, hlt, s5, c5, F5, rh5, acc5, av5, len R5, Rq, ((E.trans E2).trans E5').upd hD R1.ft, upd_same, p2, p3, fun z => p4 (Oq _ z), ra5.ext ep, lp5⟩
      refine ⟨s3, c, F2, rh, _, R3, lp, fun b s4 c4 H4 F4 rh4 q4 R4 E4 => ?_⟩
      obtain ⟨t1, t2, t3, t4⟩ := E4.priv Dl _ d1 d2 d3 fun z => d4 (o3 _ z)
      cases b with
      | false =>
        rw [if_neg Bool.false_ne_true]
        -- nothing is put in: the list as it stands
        have same : upd H4 Dl (.lst av) = H4 := by
          funext b
          by_cases q : b = Dl
          · subst q; rw [upd_same, t1]
          · rw [upd_ne q]
        have z := next R4 E4 t1 t2 t3 t4 (ra.ext (E2.toExt.trans E4.toExt)) q4
        rw [same] at z
        exact z
      | true =>
        rw [if_pos rfl]
        refine tW.mk (Z := Z.mute) R4 q4 (fun ex s' c' cls da H' F' rh' z => z.elim) fun d' o' s5 c5 v5 H5 F5 rh5 ⟨q5, q6⟩ R5 E5 x5 r5 => ?_
        obtain ⟨u1, u2, u3, u4⟩ := E5.priv Dl _ t1 t2 t3 t4
        refine ⟨av, u1, by rw [ra.len]; exact q5, ?_⟩
        exact next R5 (E4.trans E5) u1 u2 u3 u4 ((ra.ext ((E2.toExt.trans E4.toExt).trans E5.toExt)).app (.cons r5 .nil)) q6
  · have e : i = xs.length := by omega
    subst e
    rw [List.drop_length] at lp
    unfold loopC at lp
    obtain ⟨gc', kf⟩ := lp
    refine .inl ⟨wd.stop H F rh c E.toExt R.toCe gc', ?_⟩
    obtain ⟨Rb, Eb, Ob⟩ := R1.back R E hl.symm
    refine ok1 (.lst acc) true (backS s1 s own) c (.ref Dl) H F rh kf Rb Eb ⟨Dl, .lst av, rfl, hD, h1, ⟨av, rfl, ra⟩, h2, h3, fun z => ?_⟩
    rcases Ob Dl z with z | z
    · exact z hD
    · exact h4 z
theorem snd_comp {elt tgE iter : Expr} {ifsE : List Expr} {scope : Scope} {ownP : List (Str × Nat)} {own : List Nat} {pos : Pos} {t : Tg} {src : IT} {ifs : IL} (G : GOk X M Z) (hi : PI X tgE iter (tWI Z X.K src)) (bo : BlkOk X.N X.env.scope scope ownP) (ho : ownP.map (·.2) = own)
    (hg : ∀ (s : Shared) (H : Hp) (C : Addr) (cl : List (Str × Addr)) (fp : List Addr), PG (X.blk s H scope (compEnvC scope cl C X.env) fp) tgE (gOf X.K t))
    (ht : ∀ (s : Shared) (H : Hp) (C : Addr) (cl : List (Str × Addr)) (fp : List Addr), PTs (X.blk s H scope (compEnvC scope cl C X.env) fp) ifsE (tWIf Z.mute X.K ifs))
    (he : ∀ (s : Shared) (H : Hp) (C : Addr) (cl : List (Str × Addr)) (fp : List Addr), PE (X.blk s H scope (compEnvC scope cl C X.env) fp) elt (tW Z.mute X.K false ie))
    (hs : ∀ x, foldedSetIterable iter X.env x = pure x) (ti : tgIn own t = true) : PE X (.ListComp elt [⟨tgE, iter, ifsE, 0⟩] scope pos) (tW Z X.K false (.comp own t src ifs ie)) := by
  subst ho
  exact PE.imp (pe_lc G.calm G.nd hi bo hg ht he hs) fun sg H Q h => comp_use ti h
end
end Vm

/-! Vm: sets of texts -/
namespace Vm
open PySem PySem.Spec L2 PySem.Froz
open PyProof.Rows hiding St
def txOf : Value → Option Str
  | .str k _ => some k
  | _ => none
theorem txOf_eq {v : Value} {k : Str} (h : txOf v = some k) : ∃ u, v = .str k u := by
  cases v with
  | str z u => exact ⟨u, by have e : some z = some k := h; cases e; rfl⟩
  | _ => cases h
/-! ### what an add lays -/
section
variable {ep : Nat} {es : Array (Int × Value)} {t : SetTable} {b : Bool}
theorem tail_perm : (tailTx ep es t b).1.toList.Perm es.toList := by
  unfold tailTx
  split
  · exact relayAll_perm _ _ _
  · exact .refl _
theorem tail_ris (r : Ris t.place.toList) : Ris (tailTx ep es t b).2.2.place.toList := by
  unfold tailTx
  split
  · exact relayAll_ris _ _ _
  · exact r
theorem tail_led : (tailTx ep es t b).2.2.led = t.led := by
  unfold tailTx
  split
  · exact relayAll_led _ _ _
  · rfl
end
theorem plain_place (t : SetTable) : (if t.plain = true then { t with plain := false } else t).place = t.place := by split <;> rfl
theorem plain_led (t : SetTable) : (if t.plain = true then { t with plain := false } else t).led = t.led := by split <;> rfl
theorem add_perm (g : Int) (v : Value) (d : SD) : (addTx g v d).1.toList.Perm (d.1.toList ++ [(g, v)]) := by
  have p1 := layNew_perm d.2.2 d.1 g v
  rw [Array.toList_push] at p1
  exact tail_perm.trans p1
theorem add_ris (g : Int) (v : Value) (d : SD) (r : Ris d.2.2.place.toList) : Ris (addTx g v d).2.2.place.toList :=
  tail_ris (by rw [plain_place]; exact layNew_ris d.2.2 d.1 g v r)
theorem add_led (g : Int) (v : Value) (d : SD) : (addTx g v d).2.2.led = d.2.2.led :=
  tail_led.trans ((plain_led _).trans (layNew_led d.2.2 d.1 g v))
/-- the set at a holds the texts l, each once -/
def TsAt (P : Program) (w : World) (h : Heap) (a : Addr) (l : List Str) : Prop := ∃ d : SD, h.get? a = some (sObj "set" d) ∧ TxOk P w d l ∧ (d.1.toList.map fun e => txOf e.2).Perm (l.map some) ∧ Ris d.2.2.place.toList ∧ (w.params.followText "set-order" = true ∨ d.2.2.led = true)
theorem TsAt.keep {P : Program} {w : World} {h h' : Heap} {a : Addr} {l : List Str} (R : TsAt P w h a l) (k : ∀ o, h.get? a = some o → h'.get? a = some o) : TsAt P w h' a l := by
  obtain ⟨d, ho, r⟩ := R
  exact ⟨d, k _ ho, r⟩
theorem ts_new {P : Program} {h : Heap} (w : World) : TsAt P w (h.push (sObj "set" (#[], 0, .fresh 0 0 (!w.params.followText "set-order")))) h.objs.size [] :=
  ⟨_, Heap.get?_push_size _ rfl, .nil rfl, .nil, List.Pairwise.nil, by
    cases z : w.params.followText "set-order"
    · exact .inr rfl
    · exact .inl rfl⟩
section
variable {P : Program} {w : World} {A : Around} {E : Value → Shared → Prop} {s : Shared} {a : Addr} {l : List Str} {k : Str} {u : Tok}
theorem ts_have {d : SD} {Q : Bool → Shared → Prop} (ho : s.heap.get? a = some (sObj "set" d)) (F : TxOk P w d l) (hk : k ∈ l) (hb : l.length < scanBound) (h : Q false s) : wpAny (model P w) A (setAddHashed a (.str k u) (hashStr w k)) Q E s := by
  obtain ⟨es, ep, t⟩ := d
  have e0 : es.size < scanBound := Nat.lt_of_le_of_lt (Nat.le_of_eq F.sz) hb
  unfold setAddHashed setAddHashedIn
  refine wpAny_holding (wpAny_bind (wpAny_setState_of ho rfl F.fit ?_)); dsimp only
  rw [byScan_of (knd := strKind P w) rfl e0 F.el]; simp only [↓reduceIte]
  unfold setAddByScan
  refine wpAny_bind (wpAny_bind (wpAny_rule (wpAny_bind (wpAny_setScan_of (knd := strKind P w) (k := k) (is_str k u) ho rfl F.fit F.el ?_))))
  cases z : List.findIdx? (fun e => (strKind P w).is k e.2) es.toList with
  | none =>
    obtain ⟨e, he, q⟩ := (F.mem k).mp hk
    have c := List.findIdx?_eq_none_iff.mp z e he
    rw [q] at c; cases c
  | some j => dsimp only; exact wpAny_pure (wpAny_pure h)
/-- add -/
theorem ts_add {Q : Value → Shared → Prop} (R : TsAt P w s.heap a l) (hb : l.length + 1 < scanBound)
    (hQ : ∀ h', Heap.SameBut a s.heap h' → TsAt P w h' a (if k ∈ l then l else k :: l) → Q .none { s with heap := h', toks := s.toks + 1 }) : wpAny (model P w) A (call (.builtin "set.add") [.ref a, .str k u]) Q E s := by
  obtain ⟨d, ho, F, pm, rs, ld⟩ := R
  refine wpAny_call_entry PySem.F.slot_set_add (T := "set") ⟨_, ho, rfl⟩ PySem.F.entry_set_add ?_ (PySem.F.args_set_add_2 _ _)
  unfold Builtin.«set.add» Builtin.Frozenset.oneOther Builtin.Frozenset.addrOf setAdd; simp only [List.isEmpty_nil, bind_assoc]
  refine wpAny_bind (wpAny_pure ?_); try dsimp only
  refine wpAny_bind (wpAny_pure ?_); try dsimp only
  refine wpAny_bind (wpAny_holding (wpAny_bind ((strKind P w).pyHash (k := k) (is_str k u) ?_)))
  by_cases hk : k ∈ l
  · refine ts_have (s := { s with toks := s.toks + 1 }) ho F hk (by omega) (wpAny_pure ⟨_, rfl, ?_⟩)
    have q := hQ s.heap (Heap.SameBut.refl a s.heap)
    rw [if_pos hk] at q
    exact q ⟨d, ho, F, pm, rs, ld⟩
  · refine add_x (s := { s with toks := s.toks + 1 }) ho F hk hb (wpAny_pure ⟨_, rfl, ?_⟩)
    have q := hQ (s.heap.update a fun _ => sObj "set" (addTx (hashStr w k) (.str k u) d)) (Heap.SameBut.update s.heap a _)
    rw [if_neg hk] at q
    refine q ⟨_, get_upd _ ho rfl, add_ok u F, ?_, add_ris _ _ _ rs, ld.imp id fun z => (add_led _ _ _).trans z⟩
    refine ((add_perm _ _ _).map _).trans ?_
    rw [List.map_append]
    exact (pm.append_right _).trans (List.perm_append_singleton _ _)
/-- what comes out of it, as texts -/
theorem strs_of : ∀ {vs : List Value} {l : List Str}, (vs.map txOf).Perm (l.map some) → ∃ zs, PyProof.Rows.StrsAre vs zs ∧ zs.Perm l := fun {vs l} h => by
  have hs : ∀ v ∈ vs, ∃ z, txOf v = some z := fun v hv => by
    have m := h.mem_iff.mp (List.mem_map_of_mem (f := txOf) hv)
    obtain ⟨z, _, e⟩ := List.mem_map.mp m
    exact ⟨z, e.symm⟩
  have main : ∀ vs : List Value, (∀ v ∈ vs, ∃ z, txOf v = some z) → ∃ zs : List Str, PyProof.Rows.StrsAre vs zs ∧ vs.map txOf = zs.map some := by
    intro vs
    induction vs with
    | nil => intro _; exact ⟨[], .nil, rfl⟩
    | cons v vs ih =>
      intro hv
      obtain ⟨zs, s1, e1⟩ := ih fun x hx => hv x (List.mem_cons_of_mem _ hx)
      obtain ⟨z, ez⟩ := hv v List.mem_cons_self
      obtain ⟨u, rfl⟩ := txOf_eq ez
      exact ⟨z :: zs, .cons z u s1, by rw [List.map_cons, e1, ez]; rfl⟩
  obtain ⟨zs, s1, e1⟩ := main vs hs
  rw [e1] at h
  refine ⟨zs, s1, ?_⟩
  have g := h.filterMap (id : Option Str → Option Str)
  rw [List.filterMap_map, List.filterMap_map] at g
  have e : ∀ l : List Str, List.filterMap ((id : Option Str → Option Str) ∘ some) l = l := fun l => List.filterMap_some
  rw [e, e] at g
  exact g
theorem ts_sorted {Q : Value → Shared → Prop} (R : TsAt P w s.heap a l) (hh : A.handled = none) (hb : l.length < scanBound)
    (hQ : ∀ s' p (out : Array Value) (c : Nat) (ys : List Str), (∀ b o, s.heap.get? b = some o → s'.heap.get? b = some o) → s'.gens = s.gens → s'.os = s.os → s.heap.objs.size ≤ p →
      s'.heap.get? p = some (PyProof.Rows.seqObj "list" out c) → PyProof.Rows.StrsAre out.toList ys → ys.Perm l → PyProof.Rows.sortedS ys = true → Q (.ref p) s') :
    wpAny (model P w) A (call (.builtin "sorted") [.ref a]) Q E s := by
  obtain ⟨d, ho, F, pm, rs, ld⟩ := R
  have e0 : d.1.size < scanBound := Nat.lt_of_le_of_lt (Nat.le_of_eq F.sz) hb
  refine Calls.call_function_entry PyProof.Rows.kind_sorted PyProof.Rows.plain_sorted PyProof.Rows.entry_sorted (PyProof.Rows.args_sorted1 _) ?_
  unfold Builtin.«sorted»; refine wpAny_bind (m := checkCount "sorted" 1 1 _) (wpAny_pure ?_)
  refine wpAny_bind (collect_set (A := A.in1) hh ⟨_, ho, rfl, rfl⟩ F.fit e0 rs ld fun s1 vs k1 hz g1 o1 p1 => ?_)
  have p2 : (vs.map txOf).Perm (l.map some) := by
    have q := p1.map txOf
    rw [List.map_map] at q
    exact q.trans pm
  obtain ⟨zs, st, pz⟩ := strs_of p2
  have lv : vs.length ≤ sizeLine := by
    have q := p1.length_eq
    rw [List.length_map] at q
    rw [q, Array.length_toList]
    exact fits_of_scanBound e0
  refine wpAny_bind (wpAny_newList ?_ lv)
  have hoL : (s1.heap.push (PyProof.Rows.seqObj "list" vs.toArray 0)).get? s1.heap.objs.size = some (PyProof.Rows.seqObj "list" vs.toArray 0) := Heap.get?_push_size _ rfl
  refine wpAny_bind (wpAny_holding (wpAny_call_entry PyProof.Rows.slot_list_sort (T := "list") ⟨_, hoL, rfl⟩ PyProof.Rows.entry_list_sort
    (PyProof.Rows.list_sort_treeKAny PyProof.Rows.strKind_oneLt hoL st.keysOf (fun v₁ v₂ rest e => PyProof.Rows.keyKind_strs (by rw [← e]; exact st)) lv fun st' a1 a2 => ⟨_, rfl, ?_⟩) (PyProof.Rows.args_list_sort _)))
  obtain ⟨ys, b1, b2, b3⟩ := PyProof.Rows.sorted_out_str st a1 a2
  obtain ⟨c, hc⟩ := PyProof.Rows.sortedHeap_at (vs := vs) (out := (PyProof.Rows.arrOf st').map (·.2)) hoL
  refine wpAny_pure ⟨_, rfl, hQ _ s1.heap.objs.size _ c ys (fun b u e => ?_) g1 o1 hz hc b1 (b2.trans pz) b3⟩
  have q := k1 b u e
  have lt := Heap.lt_size q
  show (PyProof.Rows.sortedHeap (s1.heap.push (PyProof.Rows.seqObj "list" vs.toArray 0)) s1.heap.objs.size vs _).get? b = some u
  rw [PyProof.Rows.sortedHeap_old (Nat.ne_of_lt lt) (by rw [PyProof.Rows.size_push']; exact Nat.lt_succ_of_lt lt)]
  exact Heap.get?_push_of_some _ q
end
end Vm

/-! Vm: sets of texts as tracked things; {e for a in x for b in y} -/
namespace Vm
open PySem PySem.Spec L2 PySem.Froz
open PyProof.Rows hiding St
/-- the set of texts at a -/
def TsO (P : Program) (w : World) (a : Addr) (l : List Str) : HO := .ext fun h => TsAt P w h a l
theorem tsO_new {P : Program} {w : World} {H : Hp} {h : Heap} {a : Addr} {l : List Str} (R : TsAt P w h a l) : ObjOk P w H h a (TsO P w a l) := by
  have ⟨_, ho, _⟩ := R
  exact ⟨R, ⟨_, ho⟩, fun h1 h2 p k => p.keep k⟩
section
variable {X : Cx} {pins : List (Addr × Obj)} {σ : L2.St} {H : Hp} {s : Shared}
theorem tsO_at {a : Addr} {l : List Str} (I : Inv X pins σ H s) (ha : H a = some (TsO X.prog X.w a l)) : TsAt X.prog X.w s.heap a l := (I.hok a _ ha).1
theorem tsO_add {E : Value → Shared → Prop} {a : Addr} {l : List Str} {k : Str} {u : Tok} {Q : Value → Shared → Prop} (I : Inv X pins σ H s) (ha : H a = some (TsO X.prog X.w a l)) (hb : l.length + 1 < scanBound)
    (q : ∀ s', Inv X pins σ (upd H a (TsO X.prog X.w a (if k ∈ l then l else k :: l))) s' → Q .none s') : wpAny (model X.prog X.w) X.A (call (.builtin "set.add") [.ref a, .str k u]) Q E s := by
  refine ts_add (tsO_at I ha) hb fun h' sb R => ?_
  have ⟨_, ho, _⟩ := R
  exact q _ (I.write (e := a) (t' := s.toks + 1) (by rw [ha]; trivial) (.inl rfl) (fun b u hb hu => (sb.2 b hb).trans hu) ⟨_, ho⟩ (tsO_new R))
/-- sorted(a set of texts) -/
def rSortTs (P : Program) (w : World) : List V → Hp → VK → Prop := fun vs H Q => ∃ (a : Addr) (l : List Str), vs = [V.ref a] ∧ H a = some (TsO P w a l) ∧ l.length < scanBound ∧
  ∀ (ys : List Str) (p : Addr), ys.Perm l → PyProof.Rows.sortedS ys = true → H p = none → Q (.ref p) (upd H p (.lst (ys.map V.str)))
theorem cr_sortTs (hc : X.calm = true) : CallR X (.builtin "sorted") (rSortTs X.prog X.w) := by
  rintro pins s σ H vs us Q I r ⟨a, l, rfl, ha, hb, q⟩
  rw [Vals.ref1 r]
  refine ts_sorted (tsO_at I ha) (I.ok.hd hc) hb fun s' p out c ys k g o hp hg hi pm so => ?_
  have hl : (ys.map V.str).length ≤ sizeLine := by rw [List.length_map, pm.length_eq]; exact fits_of_scanBound hb
  have hn : H p = none := I.hok.fresh hp
  have J : Inv X pins σ (upd H p (.lst (ys.map V.str))) { s with heap := s'.heap, gens := s'.gens, drawn := s'.drawn, toks := s'.toks } :=
    I.call (ch := []) (Un.laid k hp hn) (I.hok.laid k hp ⟨hl, out.toList, c, vals_of_strs hi, hg⟩) (by rw [g]; exact I.bare) nofun
  have e : s' = { s with heap := s'.heap, gens := s'.gens, drawn := s'.drawn, toks := s'.toks } := by
    cases s'; cases s; cases o; rfl
  rw [e]
  exact ⟨.ref p, _, J, rfl, q ys p pm so hn⟩
end
/-! ### the loops of a set comprehension of two clauses -/
abbrev sc2 (elt t0 i0 t1 i1 : Expr) (sc : Scope) (pos : Pos) : Expr := .SetComp elt [⟨t0, i0, [], 0⟩, ⟨t1, i1, [], 0⟩] sc pos
theorem sc2_turn0 (elt t0 i0 t1 i1 : Expr) (sc : Scope) (pos : Pos) (it acc : Value) (env : Env) : compTurn (sc2 elt t0 i0 t1 i1 sc pos) 0 it acc env = (do
    standAt i0.pos
    match ← pyNext it with
    | none => pure (.done .next)
    | some v =>
      letOwnedTupleGo t0 it v; assign t0 env v
      let mut ok := true
      for c in ([] : List Expr) do if ok then ok ← isTrue c env (eval c env)
      if ok then
        let x ← eval i1 env
        standAt i1.pos; let x ← foldedSetIterable i1 env x
        let _ ← runOwn (.compStart (sc2 elt t0 i0 t1 i1 sc pos) 1 (← holding [x] (pyIter x)) acc env) env
      again (.compLoop (sc2 elt t0 i0 t1 i1 sc pos) 0 it acc env)) := by rfl
theorem sc2_turn1 (elt t0 i0 t1 i1 : Expr) (sc : Scope) (pos : Pos) (it acc : Value) (env : Env) : compTurn (sc2 elt t0 i0 t1 i1 sc pos) 1 it acc env = (do
    standAt i1.pos
    match ← pyNext it with
    | none => pure (.done .next)
    | some v =>
      letOwnedTupleGo t1 it v; assign t1 env v
      let mut ok := true
      for c in ([] : List Expr) do if ok then ok ← isTrue c env (eval c env)
      if ok then
        (do let v ← eval elt env; standAt elt.pos; let _ ← call (.builtin "set.add") [acc, v])
      again (.compLoop (sc2 elt t0 i0 t1 i1 sc pos) 1 it acc env)) := by rfl
section
variable {prog : Program} {w : World} {A : Around} {R : Result → Shared → Prop} {s : Shared} {elt t0 i0 t1 i1 : Expr} {sc : Scope} {pos : Pos} {it acc : Value} {env : Env}
/-- what is left when an item raises -/
abbrev oops (prog : Program) (w : World) (A : Around) (env : Env) (R : Result → Shared → Prop) : Value → Shared → Prop := notedBy (model prog w) A env fun e s' => R (.error e) s'
theorem sc2_loop0 (hs : ∀ x, foldedSetIterable i1 env x = pure x) (I : Nat → Shared → Prop)
    (turn : ∀ n s, I n s → wpAny (model prog w) A (pyNext it) (fun r s₁ => match r with
      | none => R (.ok .next) s₁
      | some v => wpAny (model prog w) A (letOwnedTupleGo t0 it v) (fun _ s₂ => wpAny (model prog w) A (assign t0 env v) (fun _ s₃ =>
        wpAny (model prog w) A (eval i1 env) (fun x s₄ => wpAny (model prog w) A (pyIter x) (fun it1 s₅ => codeAny (model prog w) A (.compStart (sc2 elt t0 i0 t1 i1 sc pos) 1 it1 acc env) (fun r s' => match r with
          | .ok _ => ∃ m, m < n ∧ I m s'
          | .error _ => False) s₅) (oops prog w A env R) s₄) (oops prog w A env R) s₃) (oops prog w A env R) s₂) (oops prog w A env R) s₁) (oops prog w A env R) s)
    (n : Nat) (h : I n s) : codeAny (model prog w) A (.compLoop (sc2 elt t0 i0 t1 i1 sc pos) 0 it acc env) R s := by
  refine codeAny_loop rfl I (fun n s hI => ?_) n h
  show wpAny _ A ((compTurn (sc2 elt t0 i0 t1 i1 sc pos) 0 it acc env).onRaise (fun x => do noteFrame x env; theTreesLotGoes x)) _ _ s
  refine wpAny_noted ?_; rw [sc2_turn0]
  refine wpAny_bind (wpAny_standAt (wpAny_bind (wpAny_mono (turn n s hI) (fun r s₁ h₁ => ?_) fun _ _ z => z)))
  cases r with
  | none => exact wpAny_pure h₁
  | some v =>
    refine wpAny_bind (wpAny_mono h₁ (fun _ s₂ h₂ => wpAny_bind (wpAny_mono h₂ (fun _ s₃ h₃ => wpAny_bind (wpAny_tests_nil ?_)) fun _ _ z => z)) fun _ _ z => z)
    refine wpAny_bind (wpAny_mono h₃ (fun x s₄ h₄ => wpAny_bind (wpAny_standAt (wpAny_bind (wpAny_of_eq (hs x) (wpAny_bind (wpAny_holding (wpAny_mono h₄ (fun it1 s₅ h₅ => ?_) fun _ _ z => z))))))) fun _ _ z => z)
    refine wpAny_bind (wpAny_runOwn ?_); rw [Around.mark_none]
    refine codeAny_mono h₅ fun r s' hr => ?_
    cases r with
    | ok f => first | exact wpAny_pure ⟨rfl, hr⟩ | exact wpAny_bind (wpAny_pure (wpAny_pure ⟨rfl, hr⟩))
    | error e => exact hr.elim
theorem sc2_loop1 (I : Nat → Shared → Prop)
    (turn : ∀ n s, I n s → wpAny (model prog w) A (pyNext it) (fun r s₁ => match r with
      | none => R (.ok .next) s₁
      | some v => wpAny (model prog w) A (letOwnedTupleGo t1 it v) (fun _ s₂ => wpAny (model prog w) A (assign t1 env v) (fun _ s₃ =>
        wpAny (model prog w) A (eval elt env) (fun x s₄ => wpAny (model prog w) A (call (.builtin "set.add") [acc, x]) (fun _ s₅ => ∃ m, m < n ∧ I m s₅) (oops prog w A env R) s₄) (oops prog w A env R) s₃) (oops prog w A env R) s₂) (oops prog w A env R) s₁) (oops prog w A env R) s)
    (n : Nat) (h : I n s) : codeAny (model prog w) A (.compLoop (sc2 elt t0 i0 t1 i1 sc pos) 1 it acc env) R s := by
  refine codeAny_loop rfl I (fun n s hI => ?_) n h
  show wpAny _ A ((compTurn (sc2 elt t0 i0 t1 i1 sc pos) 1 it acc env).onRaise (fun x => do noteFrame x env; theTreesLotGoes x)) _ _ s
  refine wpAny_noted ?_; rw [sc2_turn1]
  refine wpAny_bind (wpAny_standAt (wpAny_bind (wpAny_mono (turn n s hI) (fun r s₁ h₁ => ?_) fun _ _ z => z)))
  cases r with
  | none => exact wpAny_pure h₁
  | some v =>
    refine wpAny_bind (wpAny_mono h₁ (fun _ s₂ h₂ => wpAny_bind (wpAny_mono h₂ (fun _ s₃ h₃ => wpAny_bind (wpAny_tests_nil ?_)) fun _ _ z => z)) fun _ _ z => z)
    exact wpAny_bind (wpAny_bind (wpAny_mono h₃ (fun x s₄ h₄ => wpAny_bind (wpAny_standAt (wpAny_bind (wpAny_mono h₄ (fun _ s₅ h₅ => wpAny_pure (wpAny_pure ⟨rfl, h₅⟩)) fun _ _ z => z)))) fun _ _ z => z))
theorem sc2_start (h0 : codeAny (model prog w) A (.compLoop (sc2 elt t0 i0 t1 i1 sc pos) 1 it acc env) R s)
    (h : wpAny (model prog w) A (pyIter it) (fun it' s' => codeAny (model prog w) A (.compLoop (sc2 elt t0 i0 t1 i1 sc pos) 1 it' acc env) R s') (notedBy (model prog w) A env fun x s' => R (.error x) s') s) :
    codeAny (model prog w) A (.compStart (sc2 elt t0 i0 t1 i1 sc pos) 1 it acc env) R s := by
  refine codeAny_of_tree ?_
  show wpAny _ _ ((compStart (sc2 elt t0 i0 t1 i1 sc pos) 1 it acc env).onRaise (fun x => do noteFrame x env; standAt theWindowsPlace)) _ _ s
  refine wpAny_notedAt ?_; unfold compStart
  show wpAny _ _ (ask >>= _) _ _ s
  refine wpAny_bind (wpAny_askSetting (wpAny_ite ?_)); split
  · first | exact wpAny_bind (wpAny_pure (wpAny_pure ⟨rfl, h0⟩)) | exact wpAny_pure ⟨rfl, h0⟩
  · refine wpAny_bind (wpAny_rule ?_); show wpAny _ _ (standAt i1.pos >>= _) _ _ s; exact wpAny_bind (wpAny_standAt (wpAny_bind (wpAny_mono h (fun it' s' h' => wpAny_pure ⟨rfl, h'⟩) fun _ _ z => z)))
end
end Vm

/-! Vm: {e for a in x for b in y} of texts: the rule -/
namespace Vm
open PySem PySem.Spec L2 PySem.Froz
open PyProof.Rows hiding St
/-- what holds of a clause's parts in every context of the block -/
abbrev InBlk (X : Cx) (scope : Scope) (p : Cx → Prop) : Prop := ∀ (s : Shared) (H : Hp) (C : Addr) (cl : List (Str × Addr)) (fp : List Addr), p (X.blk s H scope (compEnvC scope cl C X.env) fp)
def tSc2 (P : Program) (w : World) (wi : TI) (g : TG) (wi1 : TI) (g1 : TG) (te : TE) (vs vs1 : List Nat) : TE := fun σ H Q => wi σ H fun J H1 => ∀ D, H1 D = none →
  ∃ W : Nat → Nat → Hp → Prop, (∃ m, W 0 m (upd H1 D (TsO P w D []))) ∧ ∀ i m H, W i m H → (J.stop i H ∧ Q (.ref D) H) ∨
    (J.go i H ∧ ∃ Nx : Hp → Prop, (∀ H', Nx H' → ∃ m', m' < m ∧ W (i + 1) m' H') ∧ ∀ x H', J.yld i H x H' → g x (wipe σ vs) H' fun σ2 H2 => wipe σ2 vs = wipe σ vs ∧
      wi1 σ2 H2 fun J1 H4 => ∃ W1 : Nat → Nat → Hp → Prop, (∃ m, W1 0 m H4) ∧ ∀ j k H, W1 j k H → (J1.stop j H ∧ Nx H) ∨
        (J1.go j H ∧ ∃ Nx1 : Hp → Prop, (∀ H', Nx1 H' → ∃ k', k' < k ∧ W1 (j + 1) k' H') ∧ ∀ x H', J1.yld j H x H' → g1 x (wipe σ2 vs1) H' fun σ3 H5 => wipe σ3 vs1 = wipe σ2 vs1 ∧
          te σ3 H5 fun y H6 => ∃ z l, y = .str z ∧ H6 D = some (TsO P w D l) ∧ l.length + 1 < scanBound ∧ Nx1 (upd H6 D (TsO P w D (if z ∈ l then l else z :: l)))))
section
variable {X : Cx}
theorem pe_sc2 {elt t0 i0 t1 i1 : Expr} {scope : Scope} {own : List (Str × Nat)} {vs1 : List Nat} {pos : Pos} {wi wi1 : TI} {g g1 : TG} {te : TE} (hc : X.calm = true) (hN : X.N.Nodup) (hi : PI X t0 i0 wi) (ok : BlkOk X.N X.env.scope scope own)
    (hv : ∀ i ∈ vs1, i ∈ own.map (·.2)) (hg : InBlk X scope fun Y => PG Y t0 g) (hi1 : InBlk X scope fun Y => PI Y t1 i1 wi1) (hg1 : InBlk X scope fun Y => PG Y t1 g1) (he : InBlk X scope fun Y => PE Y elt te)
    (hs : ∀ x, foldedSetIterable i0 X.env x = pure x) (hs1 : ∀ env x, foldedSetIterable i1 env x = pure x) : PE X (sc2 elt t0 i0 t1 i1 scope pos) (tSc2 X.prog X.w wi g wi1 g1 te (own.map (·.2)) vs1) := by
  refine ⟨fun pins s σ H Q I h => ?_⟩
  have hfree : ∀ y ∈ scope.names, y.2 = .free → ∃ c, X.env.cells.lookup y.1 = some c := fun y hy e => (ok.free y hy e).elim (fun k => I.ok.has _ (.inl k)) fun k => I.ok.has _ (.inr k)
  show wpAny _ _ (comprehension (sc2 elt t0 i0 t1 i1 scope pos) scope X.env (firstIterPos [⟨t0, i0, [], 0⟩, ⟨t1, i1, [], 0⟩] pos) (newSet (.type "set")) (firstAsync [⟨t0, i0, [], 0⟩, ⟨t1, i1, [], 0⟩]) (firstIter [⟨t0, i0, [], 0⟩, ⟨t1, i1, [], 0⟩] X.env)) _ _ _
  refine wpAny_comprehension_free rfl hs (closure_ok hfree) ok.kind (fun y hy e => by rw [ok.uniq y hy, e]) (thn (hi.run pins s σ H _ I h) fun xv s1 hx => thn hx fun itv s2 ⟨it, fp, tn, J, H2, e, I2, T, st2, f2, q⟩ => ?_)
  subst e
  refine PpSet.newSet_ok (newEnv_comp ?_)
  generalize hD : s2.heap.objs.size = D
  have hDn : H2 D = none := I2.hok.fresh (Nat.le_of_eq hD)
  obtain ⟨W, ⟨m0, w0⟩, turn⟩ := q D hDn
  -- the new set
  generalize hs3 : ({ s2 with heap := s2.heap.push { cls := .type "set", dict := none, data := .set #[] 0 (.fresh 0 0 (!X.w.params.followText "set-order")) } } : Shared) = s3
  have h3 : s3.heap = s2.heap.push { cls := .type "set", dict := none, data := .set #[] 0 (.fresh 0 0 (!X.w.params.followText "set-order")) } := by rw [← hs3]
  have I3 : Inv X pins σ (upd H2 D (TsO X.prog X.w D [])) s3 := by
    subst hs3 hD
    exact I2.laid (t' := s2.toks) (fun b o e => Heap.get?_push_of_some _ e) (Nat.le_refl _) (tsO_new (ts_new X.w))
  have f3 : ∀ b ∈ fp, FpOk X pins (upd H2 D (TsO X.prog X.w D [])) b ∧ b < s3.heap.objs.size := fun b hb => by
    obtain ⟨o, e, _⟩ := T.obj _ _ st2 b hb
    have lt := Heap.lt_size e
    exact ⟨⟨by rw [upd_ne (by rw [← hD]; exact Nat.ne_of_lt lt)]; exact (f2 b hb).1, (f2 b hb).2⟩, by rw [h3, Heap.size_push]; exact Nat.lt_succ_of_lt lt⟩
  have st3 : tn 0 s3.heap := T.keep _ _ _ st2 fun b _ o e => by rw [h3]; exact Heap.get?_push_of_some _ e
  have I4 := block_start I3 ok hN f3
  generalize hcl : cellsFrom (s3.heap.objs.size + 1) scope.names (cloFrom X.env.cells scope.names []) = cl at I4 ⊢
  generalize hH3 : upd H2 D (TsO X.prog X.w D []) = H3 at I3 I4 f3 w0
  have pg := hg s3 H3 s3.heap.objs.size cl fp
  have pi1 := hi1 s3 H3 s3.heap.objs.size cl fp
  have pg1 := hg1 s3 H3 s3.heap.objs.size cl fp
  have pe := he s3 H3 s3.heap.objs.size cl fp
  show codeAny _ _ (.compStart (sc2 elt t0 i0 t1 i1 scope pos) 0 (.ref it) (.ref D) (compEnvC scope cl s3.heap.objs.size X.env)) _ { s3 with heap := pushCells (s3.heap.push { cls := .type "dict", data := .dict #[] }) scope.names }
  have nfp : ∀ b ∈ fp, H3 b = none := fun b hb => (f3 b hb).1.1
  generalize hce : compEnvC scope cl s3.heap.objs.size X.env = ce at I4 pg pi1 pg1 pe ⊢
  have cL : ce.locals = s3.heap.objs.size := by subst hce; rfl
  generalize hs4 : ({ s3 with heap := pushCells (s3.heap.push { cls := .type "dict", data := .dict #[] }) scope.names } : Shared) = s4 at I4 ⊢
  have st4 : tn 0 s4.heap := T.keep _ _ _ st3 fun b _ o e => by rw [← hs4]; exact pushCells_keeps _ _ _ _ (Heap.get?_push_of_some _ e)
  -- the block's own iterators are no tracked things
  have own0 : ∀ {σ' : L2.St} {H' : Hp} {s' : Shared}, Inv (X.blk s3 H3 scope ce fp) [] σ' H' s' → (∀ b ∈ fp, H' b = none) → ∀ b ∈ fp, FpOk (X.blk s3 H3 scope ce fp) [] H' b :=
    fun J hn b hb => ⟨hn b hb, (J.ok.exf b hb).1, J.ok.exfs b hb, .inl hb, fun x c e => (J.ok.exf b hb).2 x c e, fun p hp => absurd (show p ∈ ([] : List (Addr × Obj)) ++ [] from hp) (by simp)⟩
  have loop : ∀ R : Result → Shared → Prop, (∀ s' H' m, Inv X pins σ H' s' → Q (.ref D) H' → s'.heap.Ns s3.heap.objs.size m → FpOk X pins H' s3.heap.objs.size → R (.ok .next) s') →
      codeAny (model X.prog X.w) X.A (.compLoop (sc2 elt t0 i0 t1 i1 scope pos) 0 (.ref it) (.ref D) ce) R s4 := fun R hR => by
    refine sc2_loop0 (hs1 ce) (fun n s' => ∃ i H', Inv (X.blk s3 H3 scope ce fp) [] (wipe σ (own.map (·.2))) H' s' ∧ tn i s'.heap ∧ (∀ b ∈ fp, H' b = none) ∧ W i n H') ?_ m0 ⟨0, H3, I4, st4, nfp, w0⟩
    rintro n s5 ⟨i, H5, I5, st5, n5, w5⟩
    rcases turn i n H5 w5 with ⟨stop, qq⟩ | ⟨go, Nx, hNx, step⟩
    · refine thnF (T.done (X.blk s3 H3 scope ce fp) rfl rfl rfl hc i [] s5 _ H5 (fun _ _ => False) I5 (own0 I5 n5) st5 stop) fun r s6 ⟨hr, I6⟩ => ?_
      subst hr
      have I7 : Inv X pins σ H5 s6 := I3.call' (ch := fp) I6.os I6.base I6.hok I6.bare fun b hb => ⟨(f3 b hb).1.2.2.2.1, (f3 b hb).1.2.1, (f3 b hb).1.2.2.2.2.1, (f3 b hb).1.2.2.2.2.2⟩
      have nC : H5 ce.locals = none := I6.free
      obtain ⟨m, hn, _⟩ := I6.loc
      have hn : s6.heap.Ns ce.locals m := hn
      rw [cL] at hn nC
      exact hR s6 H5 m I7 qq hn (I3.fpOk (Nat.le_refl _) nC)
    · refine thnF (T.item (X.blk s3 H3 scope ce fp) rfl rfl rfl hc i [] s5 _ H5 (fun _ _ => False) I5 (own0 I5 n5) st5 go) fun r s6 ⟨u, hr, h6⟩ => ?_
      subst hr
      refine thnF h6 fun _ s7 ⟨x, H7, I7, r7, y7, st7, n7⟩ => ?_
      refine thnF (pg.run _ s7 _ H7 x u _ (I7.pinned (own0 I7 n7) (T.obj _ _ st7)) r7 (step x H7 y7)) fun _ s8 ⟨σ8, H8, I8, hw8, q8⟩ => ?_
      -- behind the inner loop
      have hl8 : (wipe σ (own.map (·.2))).length = (wipe σ8 vs1).length := by rw [← hw8, wipe_length, wipe_length]
      have hk8 : ∀ (j : Nat) v, (wipe σ (own.map (·.2)))[j]? = some (some v) → (wipe σ8 vs1)[j]? = some (some v) := fun j v e => by
        rw [← hw8] at e
        obtain ⟨e1, e2⟩ := wipe_some e
        rw [wipe_out fun z => e2 (hv j z)]; exact e1
      have fin : ∀ {s' : Shared} {H' : Hp}, Inv (X.blk s3 H3 scope ce fp) ([] ++ pinsAt fp s7.heap) (wipe σ8 vs1) H' s' → Nx H' → ∃ m, m < n ∧ ∃ i H', Inv (X.blk s3 H3 scope ce fp) [] (wipe σ (own.map (·.2))) H' s' ∧ tn i s'.heap ∧ (∀ b ∈ fp, H' b = none) ∧ W i m H' := fun {s' H'} J nx => by
        obtain ⟨m', hm, w'⟩ := hNx H' nx
        have pin : ∀ b ∈ fp, ∀ o, s7.heap.get? b = some o → s'.heap.get? b = some o ∧ H' b = none := fun b hb o e => ⟨(J.pin (b, o) (List.mem_append_right _ (List.mem_append_right _ (mem_pinsAt hb e)))).1, (J.pin (b, o) (List.mem_append_right _ (List.mem_append_right _ (mem_pinsAt hb e)))).2.1⟩
        refine ⟨m', hm, i + 1, H', (J.unpinned (pins := [])).weak hl8 hk8, T.keep _ _ _ st7 fun b hb o e => (pin b hb o e).1, fun b hb => ?_, w'⟩
        obtain ⟨o, e, _⟩ := T.obj _ _ st7 b hb
        exact (pin b hb o e).2
      refine thnF (pi1.run _ s8 σ8 H8 _ I8 q8) fun xv s9 hx => thnF hx fun itv s10 ⟨it1, fp1, tn1, J1, H10, e1, I10, T1, st10, f10, W1, ⟨m1, w1⟩, turn1⟩ => ?_
      subst e1
      have own1 : ∀ {H' : Hp}, (∀ b ∈ fp1, H' b = none) → ∀ b ∈ fp1, FpOk (X.blk s3 H3 scope ce fp) ([] ++ pinsAt fp s7.heap) H' b := fun hn b hb => ⟨hn b hb, (f10 b hb).2⟩
      have loop1 : codeAny (model X.prog X.w) X.A (.compLoop (sc2 elt t0 i0 t1 i1 scope pos) 1 (.ref it1) (.ref D) ce) (fun r s' => match r with
          | .ok _ => ∃ m, m < n ∧ ∃ i H', Inv (X.blk s3 H3 scope ce fp) [] (wipe σ (own.map (·.2))) H' s' ∧ tn i s'.heap ∧ (∀ b ∈ fp, H' b = none) ∧ W i m H'
          | .error _ => False) s10 := by
        refine sc2_loop1 (fun k s' => ∃ j H', Inv (X.blk s3 H3 scope ce fp) ([] ++ pinsAt fp s7.heap) (wipe σ8 vs1) H' s' ∧ tn1 j s'.heap ∧ (∀ b ∈ fp1, H' b = none) ∧ W1 j k H') ?_ m1 ⟨0, H10, I10.weak (wipe_length _ _) (fun j v e => (wipe_some e).1), st10, fun b hb => (f10 b hb).1, w1⟩
        rintro k s12 ⟨j, H12, I12, st12, n12, w12⟩
        rcases turn1 j k H12 w12 with ⟨stop1, nx1⟩ | ⟨go1, Nx1, hNx1, step1⟩
        · refine thnF (T1.done (X.blk s3 H3 scope ce fp) rfl rfl rfl hc j _ s12 (wipe σ8 vs1) H12 (fun _ _ => False) I12 (own1 n12) st12 stop1) fun r s13 ⟨hr, I13⟩ => ?_
          subst hr
          exact fin I13 nx1
        · refine thnF (T1.item (X.blk s3 H3 scope ce fp) rfl rfl rfl hc j _ s12 (wipe σ8 vs1) H12 (fun _ _ => False) I12 (own1 n12) st12 go1) fun r s13 ⟨u1, hr, h13⟩ => ?_
          subst hr
          refine thnF h13 fun _ s14 ⟨x1, H14, I14, r14, y14, st14, n14⟩ => ?_
          refine thnF (pg1.run _ s14 (wipe σ8 vs1) H14 x1 u1 _ (I14.pinned (own1 n14) (T1.obj _ _ st14)) r14 (step1 x1 H14 y14)) fun _ s15 ⟨σ15, H15, I15, hw15, q15⟩ => ?_
          refine thnF (pe.run _ s15 σ15 H15 _ I15 q15) fun z s16 ⟨yv, H16, I16, r16, zt, l, ey, hD16, hb16, nx⟩ => ?_
          subst ey
          obtain ⟨u, rfl⟩ := r16
          refine tsO_add (X := X.blk s3 H3 scope ce fp) I16 hD16 hb16 fun s17 I17 => ?_
          obtain ⟨m', hm, w'⟩ := hNx1 _ nx
          have pin : ∀ b ∈ fp1, ∀ o, s14.heap.get? b = some o → s17.heap.get? b = some o ∧ (upd H16 D (TsO X.prog X.w D (if zt ∈ l then l else zt :: l))) b = none := fun b hb o e => ⟨(I17.pin (b, o) (List.mem_append_right _ (List.mem_append_right _ (mem_pinsAt hb e)))).1, (I17.pin (b, o) (List.mem_append_right _ (List.mem_append_right _ (mem_pinsAt hb e)))).2.1⟩
          refine ⟨m', hm, j + 1, _, I17.unpinned.weak (by rw [← hw15, wipe_length]) (fun j v e => by rw [← hw15] at e; exact (wipe_some e).1), T1.keep _ _ _ st14 fun b hb o e => (pin b hb o e).1, fun b hb => ?_, w'⟩
          obtain ⟨o, e, _⟩ := T1.obj _ _ st14 b hb
          exact (pin b hb o e).2
      exact sc2_start loop1 (T1.self X.A 0 _ _ _ st10 loop1)
  refine PpSet.codeAny_compStart_set (loop _ ?_) (T.self X.A 0 _ _ _ st4 (loop _ ?_))
  all_goals
    intro s' H' m J q hn f
    exact ⟨m, hn, fun h'' sb => ⟨.ref D, H', J.turned (t' := s'.toks) (fun b o hb e => (sb.2 b hb).trans e) f.1 f.2.1 f.2.2.2.1 f.2.2.2.2.1 f.2.2.2.2.2, rfl, q⟩⟩
end
end Vm

/-! Vm: sorted({name for x in xs for name in x.f}) is sound -/
namespace Vm
open PySem PySem.Spec L2 PySem.Froz
open PyProof.Rows hiding St
theorem take_flat {α : Type} {l : List (List α)} {i : Nat} {x : List α} (h : l[i]? = some x) : (l.take (i + 1)).flatten = (l.take i).flatten ++ x := by
  rw [List.take_add_one, h, List.flatten_append]
  show _ ++ (x ++ []) = _
  rw [List.append_nil]
def dynT (K : PySem.W.Frag) (te : TE) : TI := fun sg H R => te sg H fun x H1 => (∃ a, x = .ref a ∧ (∃ vs, SqL K H1 a vs) ∧ R (Itl K a) H1) ∨ (∃ a, x = .ref a ∧ (∃ vs, SqT K H1 a vs) ∧ R (Itt K a) H1) ∨ ∃ z, x = .str z ∧ R (Its z) H1
section
variable {X : Cx} {M : Nm} {Z : Sx} {a : Expr} {ia : IE} {p p1 p2 p3 p4 p5 p6 pos : Pos} {u v n : Nat} {nu nv nm : Str} {scope : Scope}
theorem snd_srt (G : GOk X M Z) (ha : PE X a (tW Z X.K false ia)) (hg : Gl X "sorted") (hu : X.N[u]? = some nu) (hv : X.N[v]? = some nv) (huv : u ≠ v) (bo : BlkOk X.N X.env.scope scope [(nu, u), (nv, v)])
    (lu : Loc (relS scope X.env.scope) nu) (lv : Loc (relS scope X.env.scope) nv) (ou : (relS scope X.env.scope).names.lookup nu = some .local) (ov : (relS scope X.env.scope).names.lookup nv = some .local) (vu : Vis (relS scope X.env.scope) nu) (vv : Vis (relS scope X.env.scope) nv)
    (du : (nu == ("__debug__" : Str)) = false) (cu : (nu == ("__classdict__" : Str)) = false) (dv : (nv == ("__debug__" : Str)) = false) (cv : (nv == ("__classdict__" : Str)) = false) (hn : nm = atN n)
    (hs : ∀ env x, foldedSetIterable a env x = pure x) :
    PE X (.Call (.Name "sorted" p) [sc2 (.Name nv p1) (.Name nu p2) a (.Name nv p3) (.Attribute (.Name nu p4) nm p5) scope p6] [] pos) (tW Z X.K false (.op (.srt u v n) (.cons ia .nil))) := by
  refine ⟨fun pins st sg H Q I ⟨s, c, F, rh, Qm, Em, R, w, ok, x⟩ => ?_⟩
  have lu1 : u < sg.length := by rw [I.len]; exact (List.getElem?_eq_some_iff.mp hu).1
  have lv1 : v < sg.length := by rw [I.len]; exact (List.getElem?_eq_some_iff.mp hv).1
  have hC : Z.C.hasP .sorted = true := by unfold wpE at w; exact w.1
  obtain ⟨b1, b2, b3⟩ := boot_prim .sorted
  have hsc := pe_sc2 (X := X) (elt := .Name nv p1) (t0 := .Name nu p2) (t1 := .Name nv p3) (i1 := .Attribute (.Name nu p4) nm p5) (pos := p6) (vs1 := [v]) (wi := dynT X.K (tW Z X.K false ia)) (g := gName u) (wi1 := dynT X.K (tFld X.K (tVar u) nm)) (g1 := gName v) (te := tVar v) G.calm G.nd (pi_dyn (tg := .Name nu p2) ha) bo (fun i h => by rw [List.mem_singleton.mp h]; exact List.mem_cons_of_mem _ List.mem_cons_self)
    (fun s H C cl fp => pg_name (X := X.blk s H scope (compEnvC scope cl C X.env) fp) (i := u) G.nd hu lu (.inr ou)) (fun s H C cl fp => pi_dyn (pe_fld (X := X.blk s H scope (compEnvC scope cl C X.env) fp) (f := nm) (pe_var (X := X.blk s H scope (compEnvC scope cl C X.env) fp) hu vu du cu) rfl))
    (fun s H C cl fp => pg_name (X := X.blk s H scope (compEnvC scope cl C X.env) fp) (i := v) G.nd hv lv (.inr ov)) (fun s H C cl fp => pe_var (X := X.blk s H scope (compEnvC scope cl C X.env) fp) hv vv dv cv) (hs _) (fun _ _ => rfl)
  refine (pe_callB (cr_sortTs G.calm) hg (G.prim .sorted hC) b1 (pa_cons hsc pa_nil) b2 b3).run pins st sg H Q I ?_
  show tW Z X.K false ia sg H _
  refine tW.mk R (wpOp1 w) x fun d o s1 c1 va H1 F1 rh1 hq R1 e1 x1 r1 => ?_
  obtain ⟨ds, nss, rfl, hl, hd, hb, q⟩ := hq
  obtain ⟨aa, vs, rfl, hf, rv⟩ := r1.tup_of
  refine .inr (.inl ⟨aa, rfl, ⟨vs, hf.sq⟩, fun D hD => ?_⟩)
  have ok1 := ok.step e1
  have vl : vs.length = ds.length := rv.len
  have sq : ∀ o, SqT X.K (upd H1 D o) aa vs := fun o => (hf.ext (ext_new (rh := rh1) (o := o) hD R1.ft)).sq
  refine ⟨fun i m H => m = ds.length - i ∧ i ≤ ds.length ∧ ∃ l, H = upd H1 D (TsO X.prog X.w D l) ∧ l.Nodup ∧ (∀ z, z ∈ l ↔ z ∈ (nss.take i).flatten) ∧ l.length ≤ (nss.take i).flatten.length,
    ⟨ds.length, rfl, Nat.zero_le _, [], rfl, List.nodup_nil, fun z => by simp, Nat.le_refl _⟩, ?_⟩
  rintro i m H ⟨rfl, hi, l, rfl, nd, mem, len⟩
  by_cases hlt : i < ds.length
  · have hv1 : vs[i]? = some (vs[i]'(by omega)) := List.getElem?_eq_getElem _
    have hn1 : nss[i]? = some (nss[i]'(by omega)) := List.getElem?_eq_getElem _
    generalize vs[i]'(by omega) = xv at hv1
    generalize nss[i]'(by omega) = zs at hn1
    obtain ⟨dd, hd1, rx⟩ := rv.atV hv1
    obtain ⟨k, ns, xs, q1, q2, q3⟩ := hd i dd zs hd1 hn1
    refine .inr ⟨⟨vs, xv, sq _, hv1⟩, fun H' => ∃ l', H' = upd H1 D (TsO X.prog X.w D l') ∧ l'.Nodup ∧ (∀ z, z ∈ l' ↔ z ∈ (nss.take (i + 1)).flatten) ∧ l'.length ≤ (nss.take (i + 1)).flatten.length,
      fun H' ⟨l', e, r⟩ => ⟨ds.length - (i + 1), by omega, rfl, by omega, l', e, r⟩, fun x0 H' y => ?_⟩
    obtain ⟨rfl, y⟩ := y
    have ex := (y vs (sq _)).symm.trans hv1
    cases ex
    refine ⟨(wipe_set (by simp)).trans (wipe_wipe sg _), ?_⟩
    have st2 : ((wipe sg [u, v]).set u (some xv))[u]? = some (some xv) := List.getElem?_set_self (by rw [wipe_length]; exact lu1)
    -- the instance as it stands there
    obtain ⟨b, dx, vs1, rfl, g1, g2, g3⟩ := ins_rep R1.toCe rx q1
    obtain ⟨h1, h2, h3⟩ := G.cl.fld k n q2
    obtain ⟨fv, g4, g5⟩ := getF_look h3 g3 q3
    obtain ⟨ba, ws, rfl, wf, rw1⟩ := g5.tup_of
    have ews := rw1.strs
    subst ews
    have sqi : ∀ o, SqT X.K (upd H1 D o) ba (zs.map V.str) := fun o => (wf.ext (ext_new (rh := rh1) (o := o) hD R1.ft)).sq
    have g1' : upd H1 D (TsO X.prog X.w D l) b = some (.ins (cAd X.K k) dx ((ns.map atN).zip vs1)) := by rw [upd_ne (ne_of_none g1 hD)]; exact g1
    rw [hn]
    refine ⟨_, st2, b, _, dx, _, _, rfl, g1', h1, h2, g4, .inr (.inl ⟨ba, rfl, ⟨_, sqi _⟩, ?_⟩)⟩
    refine ⟨fun j m H => m = zs.length - j ∧ j ≤ zs.length ∧ ∃ l', H = upd H1 D (TsO X.prog X.w D l') ∧ l'.Nodup ∧ (∀ z, z ∈ l' ↔ z ∈ (nss.take i).flatten ∨ z ∈ zs.take j) ∧ l'.length ≤ (nss.take i).flatten.length + j,
      ⟨zs.length, rfl, Nat.zero_le _, l, rfl, nd, fun z => by rw [mem]; simp, by omega⟩, ?_⟩
    rintro j m H ⟨rfl, hj, l1, rfl, nd1, mem1, len1⟩
    have zb : (nss.take i).flatten.length + zs.length < 4000 := by
      have e1 := congrArg List.length (take_flat hn1)
      rw [List.length_append] at e1
      have e2 : (nss.take (i + 1)).flatten.length + (nss.drop (i + 1)).flatten.length = nss.flatten.length := by rw [← List.length_append, ← List.flatten_append, List.take_append_drop]
      omega
    by_cases hjt : j < zs.length
    · have hz1 : zs[j]? = some zs[j] := List.getElem?_eq_getElem hjt
      generalize zs[j] = z0 at hz1
      have hz2 : (zs.map V.str)[j]? = some (V.str z0) := by rw [List.getElem?_map, hz1]; rfl
      refine .inr ⟨⟨_, _, sqi _, hz2⟩, fun H' => ∃ l', H' = upd H1 D (TsO X.prog X.w D l') ∧ l'.Nodup ∧ (∀ z, z ∈ l' ↔ z ∈ (nss.take i).flatten ∨ z ∈ zs.take (j + 1)) ∧ l'.length ≤ (nss.take i).flatten.length + (j + 1),
        fun H' ⟨l', e, r⟩ => ⟨zs.length - (j + 1), by omega, rfl, by omega, l', e, r⟩, fun x0 H' y => ?_⟩
      obtain ⟨rfl, y⟩ := y
      have ex := (y _ (sqi _)).symm.trans hz2
      cases ex
      have tk1 : ∀ z, z ∈ zs.take (j + 1) ↔ z ∈ zs.take j ∨ z = z0 := fun z => by rw [List.take_add_one, hz1]; simp
      refine ⟨(wipe_set (by simp)).trans (wipe_wipe _ _), _, List.getElem?_set_self (by rw [wipe_length, List.length_set, wipe_length]; exact lv1), z0, l1, rfl, upd_same, by show l1.length + 1 < 4096; omega, (if z0 ∈ l1 then l1 else z0 :: l1), ?_, ?_, ?_, ?_⟩
      · funext t
        by_cases q0 : t = D
        · subst q0; rw [upd_same, upd_same]
        · rw [upd_ne q0, upd_ne q0, upd_ne q0]
      · split
        · exact nd1
        · rename_i hm; exact List.nodup_cons.mpr ⟨hm, nd1⟩
      · intro z
        rw [tk1]
        split
        · rename_i hm
          rw [mem1]
          exact ⟨fun h => h.elim .inl fun h => .inr (.inl h), fun h => h.elim .inl fun h => h.elim .inr fun e => by rw [e]; exact (mem1 z0).mp hm⟩
        · rw [List.mem_cons, mem1]
          exact ⟨fun h => h.elim (fun e => .inr (.inr e)) fun h => h.elim .inl fun h => .inr (.inl h), fun h => h.elim (fun h => .inr (.inl h)) fun h => h.elim (fun h => .inr (.inr h)) .inl⟩
      · split
        · omega
        · show l1.length + 1 ≤ _
          omega
    · have e : j = zs.length := by omega
      subst e
      refine .inl ⟨⟨_, sqi _, by rw [List.length_map]; exact Nat.le_refl _⟩, l1, rfl, nd1, fun z => ?_, ?_⟩
      · rw [mem1, List.take_length, take_flat hn1, List.mem_append]
      · rw [take_flat hn1, List.length_append]; exact len1
  · have e : i = ds.length := by omega
    subst e
    have tk : nss.take ds.length = nss := List.take_of_length_le (by omega)
    rw [tk] at mem len
    refine .inl ⟨⟨vs, sq _, Nat.le_of_eq vl⟩, D, l, rfl, upd_same, by show l.length < 4096; omega, fun ys t pm so hp => ?_⟩
    exact (ok1.step (ev_new (o := TsO X.prog X.w D l) hD R1.ft)).out (R1.laid hD) (d := .lst (ys.map .str)) (.new hp ⟨_, rfl, rep_strs ys⟩) (q ys (pm.nodup_iff.mpr nd) so fun z => (pm.mem_iff).trans (mem z))
end
end Vm

/-! Vm: statements are sound -/
namespace Vm
open PySem PySem.Spec L2
open PyProof.Rows hiding St
def OkXs (Z : Sx) (K : PySem.W.Frag) (sh : L2.St) (H : Hp) (F : Fz) (rh : List Addr) (s : List Sl) (Em : EK) : Prop :=
  ∀ ex s' c' cls da sh' H' F' rh', Em ex s' c' → Rl K Z.H0 H' F' rh' sh' s' c' → Ev H F rh (Owned sh s) H' F' rh' (Owned sh' s') → ExR Z.S K H' F' rh' cls da ex → Z.W cls da sh' H'
def Jp (K : PySem.W.Frag) (H0 : Hp) (sh : L2.St) (H : Hp) (F : Fz) (rh : List Addr) (s : List Sl) (P : List Sl → Cl → Prop) (q : L2.St → Hp → Prop) : Prop :=
  ∀ s' c' sh' H' F' rh', P s' c' → Rl K H0 H' F' rh' sh' s' c' → Ev H F rh (Owned sh s) H' F' rh' (Owned sh' s') → q sh' H'
structure OkD (K : PySem.W.Frag) (H0 : Hp) (sh : L2.St) (H : Hp) (F : Fz) (rh : List Addr) (s : List Sl) (N : En) (T : Ends) : Prop where
  nx : Jp K H0 sh H F rh s N.nx T.nx
  bk : Jp K H0 sh H F rh s N.bk T.bk
  ct : Jp K H0 sh H F rh s N.ct T.ct
  rt : ∀ d o s' c' v sh' H' F' rh', N.rt d o s' c' → Rl K H0 H' F' rh' sh' s' c' → Ev H F rh (Owned sh s) H' F' rh' (Owned sh' s') → Res K H0 H' F' rh' (Owned sh' s') v d o → T.rt v H'
def tWS (Z : Sx) (K : PySem.W.Frag) (st : IS) : TS := fun T sg H => ∃ s c F rh N Em, Rl K Z.H0 H F rh sg s c ∧ wpS Z.C st s c N Em ∧ OkD K Z.H0 sg H F rh s N T ∧ OkXs Z K sg H F rh s Em
def tWSs (Z : Sx) (K : PySem.W.Frag) (st : ISs) : TS := fun T sg H => ∃ s c F rh N Em, Rl K Z.H0 H F rh sg s c ∧ wpSs Z.C st s c N Em ∧ OkD K Z.H0 sg H F rh s N T ∧ OkXs Z K sg H F rh s Em
section
variable {K : PySem.W.Frag} {Z : Sx} {H0 H H1 H' : Hp} {F F1 F' : Fz} {rh rh1 rh' : List Addr} {sh sh1 : L2.St} {s s1 : List Sl} {c c1 c' : Cl} {v : V} {d : D} {o : Bool} {N : En} {T : Ends} {Em : EK}
theorem Jp.step {P : List Sl → Cl → Prop} {q : L2.St → Hp → Prop} (j : Jp K H0 sh H F rh s P q) (e : Ev H F rh (Owned sh s) H1 F1 rh1 (Owned sh1 s1)) : Jp K H0 sh1 H1 F1 rh1 s1 P q :=
  fun s' c' sh' H' F' rh' p R e' => j s' c' sh' H' F' rh' p R (e.trans e')
theorem OkD.step (k : OkD K H0 sh H F rh s N T) (e : Ev H F rh (Owned sh s) H1 F1 rh1 (Owned sh1 s1)) : OkD K H0 sh1 H1 F1 rh1 s1 N T :=
  ⟨k.nx.step e, k.bk.step e, k.ct.step e, fun d o s' c' v sh' H' F' rh' n R e' r => k.rt d o s' c' v sh' H' F' rh' n R (e.trans e') r⟩
theorem OkXs.step (x : OkXs Z K sh H F rh s Em) (e : Ev H F rh (Owned sh s) H1 F1 rh1 (Owned sh1 s1)) : OkXs Z K sh1 H1 F1 rh1 s1 Em :=
  fun ex s' c' cls da sh' H' F' rh' q R e' r => x ex s' c' cls da sh' H' F' rh' q R (e.trans e') r
theorem OkXs.x (x : OkXs Z K sh H F rh s Em) : OkX Z K sh H F rh s Em := fun ex s' c' cls da H' F' rh' q R e r => x ex s' c' cls da sh H' F' rh' q R e r
/-- a slot takes what is its own from now on -/
theorem Rl.setOw (R : Rl K H0 H F rh sh s c) {i : Nat} {a : Addr} {ob : HO} (h0 : H0 a = none) (h1 : H a = some ob) (h2 : ObjD K H F rh ob d) (h3 : ¬ F a) (h4 : a ∉ rh) (h5 : ¬ Owned sh s a) :
    Rl K H0 H F rh (sh.set i (some (.ref a))) (s.set i (.ow d)) c ∧ ∀ b, Owned (sh.set i (some (.ref a))) (s.set i (.ow d)) b → Owned sh s b ∨ b = a := by
  have ln := R.ln
  have other : ∀ {j : Nat} {e : D}, i ≠ j → (s.set i (.ow d))[j]? = some (.ow e) → s[j]? = some (.ow e) := fun hj g => by rwa [List.getElem?_set_ne hj] at g
  have here : ∀ {j : Nat} {e : D}, i = j → (s.set i (.ow d))[j]? = some (.ow e) → e = d ∧ (sh.set i (some (V.ref a)))[j]? = some (some (.ref a)) := fun {j e} hj g => by
    subst hj
    by_cases hl : i < s.length
    · rw [List.getElem?_set_self hl] at g
      cases g
      exact ⟨rfl, by rw [List.getElem?_set_self (by omega)]⟩
    · rw [List.getElem?_eq_none (by simpa using hl)] at g; cases g
  refine ⟨⟨R.toCe, fun j e g => ?_, fun j e g => ?_, fun j k e e' b g1 g2 g3 g4 => ?_, by rw [List.length_set, List.length_set]; exact ln, fun j e b g1 g2 => ?_, R.mn⟩, fun b ⟨j, e, g1, g2⟩ => ?_⟩
  · by_cases q : i = j
    · subst q
      by_cases hl : i < s.length
      · rw [List.getElem?_set_self hl] at g; cases g
      · rw [List.getElem?_eq_none (by simpa using hl)] at g; cases g
    · rw [List.getElem?_set_ne q] at g
      rw [List.getElem?_set_ne q]
      exact R.shr j e g
  · by_cases q : i = j
    · obtain ⟨rfl, g2⟩ := here q g
      exact ⟨a, ob, g2, h1, h2, h3, h4⟩
    · rw [List.getElem?_set_ne q]
      exact R.own j e (other q g)
  · by_cases q : i = j
    · obtain ⟨rfl, k1⟩ := here q g1
      rw [k1] at g3; cases g3
      by_cases q2 : i = k
      · exact q.symm.trans q2
      · rw [List.getElem?_set_ne q2] at g4
        exact (h5 ⟨k, e', other q2 g2, g4⟩).elim
    · by_cases q2 : i = k
      · obtain ⟨rfl, k1⟩ := here q2 g2
        rw [k1] at g4; cases g4
        rw [List.getElem?_set_ne q] at g3
        exact (h5 ⟨j, e, other q g1, g3⟩).elim
      · rw [List.getElem?_set_ne q] at g3
        rw [List.getElem?_set_ne q2] at g4
        exact R.uq j k e e' b (other q g1) (other q2 g2) g3 g4
  · by_cases q : i = j
    · obtain ⟨rfl, k1⟩ := here q g1
      rw [k1] at g2; cases g2
      exact h0
    · rw [List.getElem?_set_ne q] at g2
      exact R.fr j e b (other q g1) g2
  · by_cases q : i = j
    · obtain ⟨rfl, k1⟩ := here q g1
      rw [k1] at g2; cases g2
      exact .inr rfl
    · rw [List.getElem?_set_ne q] at g2
      exact .inl ⟨j, e, other q g1, g2⟩
/-- what an expression gave is stored -/
theorem Rl.store (R : Rl K H0 H' F' rh' sh s1 c) (E : Ev H F rh (Owned sh s) H' F' rh' (Owned sh s1)) (r : Res K H H' F' rh' (Owned sh s1) v d o) (h0 : ∀ a, H a = none → H0 a = none) (i : Nat) :
    Rl K H0 H' F' rh' (sh.set i (some v)) (s1.set i (slOf d o)) c ∧ Ev H F rh (Owned sh s) H' F' rh' (Owned (sh.set i (some v)) (s1.set i (slOf d o))) := by
  cases o with
  | false =>
    obtain ⟨R2, ow⟩ := R.setSh (i := i) r
    exact ⟨R2, E.lessR ow⟩
  | true =>
    obtain ⟨a, ob, rfl, g0, g1, g2, g3, g4, g5⟩ := r
    obtain ⟨R2, ow⟩ := R.setOw (i := i) (h0 a g0) g1 g2 g3 g4 g5
    refine ⟨R2, ⟨E.toExt, E.mono, fun b o h1 h2 h3 h4 => ?_⟩⟩
    obtain ⟨k1, k2, k3, k4⟩ := E.priv b o h1 h2 h3 h4
    refine ⟨k1, k2, k3, fun z => ?_⟩
    rcases ow b z with z | z
    · exact k4 z
    · subst z; rw [g0] at h1; cases h1
/-- what an expression gave, a new list, becomes a cell -/
theorem Rl.cellify (R : Rl K H0 H' F' rh' sh s1 c) {O : Addr → Prop} (E : Ev H F rh O H' F' rh' (Owned sh s1)) (r : Res K H H' F' rh' (Owned sh s1) v d true) (i : Nat) :
    Rl K H0 H' F' (rh' ++ [match v with | .ref a => a | _ => 0]) (sh.set i (some v)) (s1.set i (.sh (.cell c.length))) (c ++ [d]) ∧ Ev H F rh O H' F' (rh' ++ [match v with | .ref a => a | _ => 0]) (Owned (sh.set i (some v)) (s1.set i (.sh (.cell c.length)))) := by
  obtain ⟨a, ob, rfl, g0, g1, g2, g3, g4, g5⟩ := r
  show Rl K H0 H' F' (rh' ++ [a]) _ _ _ ∧ Ev H F rh _ H' F' (rh' ++ [a]) _
  have ex : Ext H' F' rh' H' F' (rh' ++ [a]) := ⟨fun _ h => h, fun _ _ _ h => .inl h, fun n b h => by
    rw [List.getElem?_append_left (List.getElem?_eq_some_iff.mp h).1]; exact h⟩
  have len := R.len
  have R1 : Rl K H0 H' F' (rh' ++ [a]) sh s1 (c ++ [d]) := by
    refine ⟨⟨by rw [List.length_append, List.length_append, len]; rfl, ?_, fun n b x k1 k2 => ?_, fun b hb => ?_, R.ft⟩, fun j x g => ?_, fun j x g => ?_, R.uq, R.ln, R.fr, R.mn⟩
    · rw [List.nodup_append]
      exact ⟨R.nd, by simp, fun x hx y hy z => by
        simp only [List.mem_singleton] at hy
        subst hy; subst z; exact g4 hx⟩
    · by_cases hl : n < rh'.length
      · rw [List.getElem?_append_left hl] at k1
        rw [List.getElem?_append_left (by omega)] at k2
        obtain ⟨o', q1, q2⟩ := R.ob n b x k1 k2
        exact ⟨o', q1, q2.ext ex⟩
      · rw [List.getElem?_append_right (by omega)] at k1 k2
        rw [← len] at k2
        cases hz : n - rh'.length with
        | zero =>
          rw [hz] at k1 k2
          cases k1; cases k2
          exact ⟨ob, g1, g2.ext ex⟩
        | succ m => rw [hz] at k1; simp at k1
    · rcases List.mem_append.mp hb with z | z
      · exact R.nf b z
      · simp only [List.mem_singleton] at z
        subst z; exact g3
    · obtain ⟨w, q1, q2⟩ := R.shr j x g
      exact ⟨w, q1, q2.ext ex⟩
    · obtain ⟨b, o', q1, q2, q3, q4, q5⟩ := R.own j x g
      refine ⟨b, o', q1, q2, q3.ext ex, q4, fun z => ?_⟩
      rcases List.mem_append.mp z with z | z
      · exact q5 z
      · simp only [List.mem_singleton] at z
        subst z; exact g5 ⟨j, x, g, q1⟩
  obtain ⟨R2, ow⟩ := R1.setSh (i := i) (v := .ref a) (d := .cell c.length) (.cell (by rw [List.getElem?_append_right (by omega), len]; simp))
  refine ⟨R2, ⟨E.toExt.trans ex, E.mono, fun b o h1 h2 h3 h4 => ?_⟩⟩
  obtain ⟨k1, k2, k3, k4⟩ := E.priv b o h1 h2 h3 h4
  refine ⟨k1, k2, fun z => ?_, fun z => k4 (ow b z)⟩
  rcases List.mem_append.mp z with z | z
  · exact k3 z
  · simp only [List.mem_singleton] at z
    subst z; rw [g0] at h1; cases h1
/-- what a slot owns is handed on -/
theorem Rl.take (R : Rl K H0 H F rh sh s c) {i : Nat} (hi : s[i]? = some (.ow d)) : ∃ a, sh[i]? = some (some (.ref a)) ∧ Rl K H0 H F rh sh (s.set i .no) c ∧ (∀ b, Owned sh (s.set i .no) b → Owned sh s b) ∧ Res K H0 H F rh (Owned sh (s.set i .no)) (.ref a) d true := by
  obtain ⟨a, ob, h1, h2, h3, h4, h5⟩ := R.own i d hi
  have hil : i < s.length := (List.getElem?_eq_some_iff.mp hi).1
  have no : ∀ (e : D), Sl.no ≠ .ow e := fun e z => nomatch z
  have lift : ∀ {j : Nat} {x : Sl}, x ≠ .no → (s.set i .no)[j]? = some x → s[j]? = some x := fun {j x} hx g => by
    by_cases q : i = j
    · subst q; rw [List.getElem?_set_self hil] at g; cases g; exact (hx rfl).elim
    · rwa [List.getElem?_set_ne q] at g
  refine ⟨a, h1, ⟨R.toCe, fun j x g => R.shr j x (lift (fun z => nomatch z) g), fun j x g => R.own j x (lift (fun z => nomatch z) g), fun j k x y b g1 g2 => R.uq j k x y b (lift (fun z => nomatch z) g1) (lift (fun z => nomatch z) g2), by rw [List.length_set]; exact R.ln, fun j x b g => R.fr j x b (lift (fun z => nomatch z) g), R.mn⟩,
    fun b h => owned_set no h, a, ob, rfl, R.fr i d a hi h1, h2, h3, h4, h5, fun ⟨j, x, g1, g2⟩ => ?_⟩
  have q := R.uq i j d x a hi (lift (fun z => nomatch z) g1) h1 g2
  subst q
  rw [List.getElem?_set_self hil] at g1; cases g1
theorem RepL.two {vs : List V} {ds : List D} (r : RepL K H F rh vs ds) (h : ds.length = 2) : ∃ x y a b, vs = [x, y] ∧ ds = [a, b] ∧ Rep K H F rh x a ∧ Rep K H F rh y b := by
  cases r with
  | nil => cases h
  | cons p r => cases r with
    | nil => cases h
    | cons q r => cases r with
      | nil => exact ⟨_, _, _, _, rfl, rfl, p, q⟩
      | cons _ _ => simp at h
theorem RepL.three {vs : List V} {ds : List D} (r : RepL K H F rh vs ds) (h : ds.length = 3) : ∃ x y z a b e, vs = [x, y, z] ∧ ds = [a, b, e] ∧ Rep K H F rh x a ∧ Rep K H F rh y b ∧ Rep K H F rh z e := by
  cases r with
  | nil => cases h
  | cons p r => cases r with
    | nil => cases h
    | cons q r => cases r with
      | nil => cases h
      | cons w r => cases r with
        | nil => exact ⟨_, _, _, _, _, _, rfl, rfl, p, q, w⟩
        | cons _ _ => simp at h
theorem Rep.shr_of {i : Nat} (R : Rl K H0 H F rh sh s c) (h : s[i]? = some (.sh d)) : ∃ v, sh[i]? = some (some v) ∧ Rep K H F rh v d := R.shr i d h
end
section
variable {X : Cx} {M : Nm} {Z : Sx} {H H1 : Hp} {F F1 : Fz} {rh rh1 : List Addr} {sh : L2.St} {s s1 : List Sl} {c c1 : Cl} {e : Expr} {ie : IE} {pos : Pos} {st : Stmt} {rest body : List Stmt} {a : IS} {l b : ISs}
theorem PS.imp {t t' : TS} (h : PS X st t) (i : ∀ T sg H, t' T sg H → t T sg H) : PS X st t' := ⟨fun p s sg H T I w => h.run p s sg H T I (i T sg H w)⟩
theorem PSs.imp {t t' : TS} (h : PSs X rest t) (i : ∀ T sg H, t' T sg H → t T sg H) : PSs X rest t' := ⟨fun p s sg H T I w => h.run p s sg H T I (i T sg H w)⟩
theorem sndS_nil : PSs X [] (tWSs Z X.K .nil) := PSs.imp pss_nil fun T sg H ⟨s, c, F, rh, N, Em, R, w, ok, x⟩ => by
  unfold wpSs at w
  exact ok.nx s c sg H F rh w R Ev.refl
theorem sndS_cons (h1 : PS X st (tWS Z X.K a)) (h2 : PSs X rest (tWSs Z X.K l)) : PSs X (st :: rest) (tWSs Z X.K (.cons a l)) := PSs.imp (pss_cons h1 h2) fun T sg H ⟨s, c, F, rh, N, Em, R, w, ok, x⟩ => by
  unfold wpSs at w
  exact ⟨s, c, F, rh, _, Em, R, w, ⟨fun s' c' sh' H' F' rh' q R' e => ⟨s', c', F', rh', N, Em, R', q, ok.step e, x.step e⟩, ok.bk, ok.ct, ok.rt⟩, x⟩
theorem snd_pass : PS X (.Pass pos) (tWS Z X.K .pass) := PS.imp ps_pass fun T sg H ⟨s, c, F, rh, N, Em, R, w, ok, x⟩ => by
  unfold wpS at w
  exact ok.nx s c sg H F rh w R Ev.refl
theorem snd_brk : PS X (.Break pos) (tWS Z X.K .brk) := PS.imp ps_break fun T sg H ⟨s, c, F, rh, N, Em, R, w, ok, x⟩ => by
  unfold wpS at w
  exact ok.bk s c sg H F rh w R Ev.refl
theorem snd_cont : PS X (.Continue pos) (tWS Z X.K .cont) := PS.imp ps_continue fun T sg H ⟨s, c, F, rh, N, Em, R, w, ok, x⟩ => by
  unfold wpS at w
  exact ok.ct s c sg H F rh w R Ev.refl
theorem snd_doc {x : Str} {j : Nat} {pos' : Pos} : PS X (.Expr (.Constant (.str x) j pos) pos') (tWS Z X.K .pass) := PS.imp ps_doc fun T sg H ⟨s, c, F, rh, N, Em, R, w, ok, x⟩ => by
  unfold wpS at w
  exact ok.nx s c sg H F rh w R Ev.refl
theorem asg_use {i : Nat} {T : Ends} (h : tWS Z X.K (.asg i ie) T sh H) : tW Z X.K false ie sh H fun v H1 => T.nx (sh.set i (some v)) H1 := by
  obtain ⟨s, c, F, rh, N, Em, R, w, ok, x⟩ := h
  unfold wpS at w
  refine ⟨s, c, F, rh, _, Em, R, w, fun d o s' c' v H' F' rh' q R' e r => ?_, x.x⟩
  obtain ⟨R2, e2⟩ := R'.store e r R.mn i
  exact ok.nx _ c' _ H' F' rh' q R2 e2
theorem cellify_use {i : Nat} {T : Ends} (h : tWS Z X.K (.cellify i ie) T sh H) : tW Z X.K false ie sh H fun v H1 => T.nx (sh.set i (some v)) H1 := by
  obtain ⟨s, c, F, rh, N, Em, R, w, ok, x⟩ := h
  unfold wpS at w
  refine ⟨s, c, F, rh, _, Em, R, w, fun d o s' c' v H' F' rh' q R' e r => ?_, x.x⟩
  obtain ⟨rfl, q⟩ := q
  obtain ⟨R2, e2⟩ := R'.cellify e r i
  exact ok.nx _ _ _ H' F' _ q R2 e2
theorem snd_asg {i : Nat} {x : Str} {p : Pos} (G : GOk X M Z) (hi : X.N[i]? = some x) (hx : Loc X.env.scope x) (he : PE X e (tW Z X.K false ie)) (hs : swapsWith e (some (.Name x p)) pos.line X.env = pure false) (hf : X.fn x = true ∨ X.env.scope.names.lookup x = some .local) :
    PS X (.Assign [.Name x p] e pos) (tWS Z X.K (.asg i ie)) ∧ PS X (.Assign [.Name x p] e pos) (tWS Z X.K (.cellify i ie)) :=
  ⟨PS.imp (ps_set G.nd hi hx he hs hf) fun T sg H h => asg_use h, PS.imp (ps_set G.nd hi hx he hs hf) fun T sg H h => cellify_use h⟩
theorem snd_dead : PS X st (tWS Z X.K .dead) := ⟨fun p s sg H T I ⟨s', c, F, rh, N, Em, R, w, ok, x⟩ => by
  unfold wpS at w
  exact w.elim⟩
theorem snd_expr (he : PE X e (tW Z X.K false ie)) (hs : swapsWith e none pos.line X.env = pure false) : PS X (.Expr e pos) (tWS Z X.K (.expr ie)) := PS.imp (ps_expr he hs) fun T sg H ⟨s, c, F, rh, N, Em, R, w, ok, x⟩ => by
  unfold wpS at w
  exact tW.mk R w x.x fun d o s1 c1 v H1 F1 rh1 q R1 e1 x1 r1 => ok.nx s1 c1 sg H1 F1 rh1 q R1 e1
theorem snd_ret (he : PE X e (tW Z X.K false ie)) : PS X (.Return (some e) pos) (tWS Z X.K (.ret ie)) := PS.imp (ps_ret he) fun T sg H ⟨s, c, F, rh, N, Em, R, w, ok, x⟩ => by
  unfold wpS at w
  refine ⟨s, c, F, rh, _, Em, R, w, fun d o s' c' v H' F' rh' q R' e r => ok.rt d o s' c' v sg H' F' rh' q R' e ?_, x.x⟩
  cases o with
  | false => exact r
  | true =>
    obtain ⟨a, ob, g1, g2, g3⟩ := r
    exact ⟨a, ob, g1, R.mn a g2, g3⟩
theorem snd_retN : PS X (.Return none pos) (tWS Z X.K .retN) := PS.imp ps_retN fun T sg H ⟨s, c, F, rh, N, Em, R, w, ok, x⟩ => by
  unfold wpS at w
  exact ok.rt .non false s c .non sg H F rh w R Ev.refl .non
theorem snd_retv {i : Nat} {x : Str} {p : Pos} (hN : X.N[i]? = some x) (hv : Vis X.env.scope x) (h1 : (x == ("__debug__" : Str)) = false) (h2 : (x == ("__classdict__" : Str)) = false) : PS X (.Return (some (.Name x p)) pos) (tWS Z X.K (.retv i)) :=
  PS.imp (ps_ret (pe_var hN hv h1 h2)) fun T sg H ⟨s, c, F, rh, N, Em, R, w, ok, x⟩ => by
    unfold wpS at w
    split at w
    · rename_i d hs
      obtain ⟨v, g1, g2⟩ := R.shr i d hs
      exact ⟨v, g1, ok.rt d false s c v sg H F rh w R Ev.refl g2⟩
    · rename_i d hs
      obtain ⟨a, g1, R2, ow, r⟩ := R.take hs
      exact ⟨_, g1, ok.rt d true _ c _ sg H F rh w R2 (Ev.refl.lessR ow) r⟩
    · exact w.elim
theorem snd_if {cc : Expr} {p q : List Stmt} {la lb : ISs} (hc : PT X cc (tWT Z X.K ie)) (ha : PSs X p (tWSs Z X.K la)) (hb : PSs X q (tWSs Z X.K lb)) : PS X (.If cc p q pos) (tWS Z X.K (.ifs ie la lb)) :=
  PS.imp (ps_if hc ha hb) fun T sg H ⟨s, c, F, rh, N, Em, R, w, ok, x⟩ => by
    unfold wpS at w
    refine test_mk R w x.x (fun d o s1 c1 k H1 F1 rh1 q ed R1 e1 x1 => ?_) fun d o s1 c1 ⟨k, q, _⟩ => ⟨k, q⟩
    subst ed
    obtain ⟨k', q1, q2⟩ := q
    cases q1
    cases k with
    | true => exact ⟨s1, c1, F1, rh1, N, Em, R1, q2, ok.step e1, x.step e1⟩
    | false => exact ⟨s1, c1, F1, rh1, N, Em, R1, q2, ok.step e1, x.step e1⟩
end
end Vm

/-! Vm: assignments and loops are sound -/
namespace Vm
open PySem PySem.Spec L2
open PyProof.Rows hiding St
section
variable {X : Cx} {M : Nm} {Z : Sx} {H H1 : Hp} {F F1 : Fz} {rh rh1 : List Addr} {sh : L2.St} {s s1 : List Sl} {c c1 : Cl} {e e2 : Expr} {ie ib : IE} {pos : Pos} {st : Stmt} {rest body : List Stmt} {a : IS} {l b : ISs} {il : IL}
theorem snd_setLc {i : Nat} {y : Str} {py spos : Pos} {elt tgE iter : Expr} {ifsE : List Expr} {scope : Scope} {ownP : List (Str × Nat)} {own : List Nat} {t : Tg} {src : IT} {ifs : IL} (G : GOk X M Z) (hy : X.N[i]? = some y) (hyl : X.env.scope.names.lookup y = some .local)
    (hsw : swapsWith (.ListComp elt [⟨tgE, iter, ifsE, 0⟩] scope pos) (some (.Name y py)) spos.line X.env = pure true) (hi : PI X tgE iter (tWI Z X.K src)) (bo : BlkOk X.N X.env.scope scope ownP) (ho : ownP.map (·.2) = own)
    (hg : ∀ (s : Shared) (H : Hp) (C : Addr) (cl : List (Str × Addr)) (fp : List Addr), PG (X.blk s H scope (compEnvC scope cl C X.env) fp) tgE (gOf X.K t))
    (ht : ∀ (s : Shared) (H : Hp) (C : Addr) (cl : List (Str × Addr)) (fp : List Addr), PTs (X.blk s H scope (compEnvC scope cl C X.env) fp) ifsE (tWIf Z.mute X.K ifs))
    (he : ∀ (s : Shared) (H : Hp) (C : Addr) (cl : List (Str × Addr)) (fp : List Addr), PE (X.blk s H scope (compEnvC scope cl C X.env) fp) elt (tW Z.mute X.K false ie))
    (hs : ∀ x, foldedSetIterable iter X.env x = pure x) (ti : tgIn own t = true) :
    PS X (.Assign [.Name y py] (.ListComp elt [⟨tgE, iter, ifsE, 0⟩] scope pos) spos) (tWS Z X.K (.asg i (.comp own t src ifs ie))) ∧ PS X (.Assign [.Name y py] (.ListComp elt [⟨tgE, iter, ifsE, 0⟩] scope pos) spos) (tWS Z X.K (.cellify i (.comp own t src ifs ie))) := by
  subst ho
  have main := ps_setLc G.calm G.nd hy hyl hsw hi bo hg ht he hs
  exact ⟨PS.imp main fun T sg H h => comp_use ti (asg_use h), PS.imp main fun T sg H h => comp_use ti (cellify_use h)⟩
theorem snd_asgT {tgE : Expr} {l : TgL} (he : PE X e (tW Z X.K false ie)) (hg : PG X tgE (gOf X.K (.tp l))) (hs : swapsWithSole [tgE] e pos.line X.env = pure false) (hw : swappedStores [tgE] e X.env = pure none) (h1 : (assignEach [tgE] X.env).map (·.2) = [assign tgE X.env]) :
    PS X (.Assign [tgE] e pos) (tWS Z X.K (.asgT l ie)) := PS.imp (ps_asg he hg hs hw h1) fun T sg H ⟨s, c, F, rh, N, Em, R, w, ok, x⟩ => by
  unfold wpS at w
  refine tW.mk R w x.x fun d o s1 c1 v H1 F1 rh1 q R1 e1 x1 r1 => ?_
  cases hb : bindT (.tp l) d s1 with
  | none => rw [hb] at q; exact q.elim
  | some s2 =>
    rw [hb] at q
    exact bind_use (own := []) (.tp l) R1 r1 hb fun sh2 R2 o2 _ => ok.nx s2 c1 sh2 H1 F1 rh1 q R2 (e1.lessR o2)
theorem par_use {is : List Nat} {T : Ends} {vs : List V} {ds : List D} {N : En} (R : Rl X.K Z.H0 H F rh sh s c) (ok : OkD X.K Z.H0 sh H F rh s N T) : ∀ (is : List Nat) {vs : List V} {ds : List D} {sh1 : L2.St} {s1 : List Sl}, Rl X.K Z.H0 H F rh sh1 s1 c → Ev H F rh (Owned sh s) H F rh (Owned sh1 s1) → RepL X.K H F rh vs ds → ds.length = is.length → N.nx (setAll s1 is ds) c →
    T.nx ((is.zip vs).foldl (fun sg p => sg.set p.1 (some p.2)) sh1) H := by
  intro is
  induction is with
  | nil =>
    intro vs ds sh1 s1 R1 E1 r hl q
    exact ok.nx _ c _ H F rh q R1 E1
  | cons i is ih =>
    intro vs ds sh1 s1 R1 E1 r hl q
    cases r with
    | nil => cases hl
    | cons h r =>
      obtain ⟨R2, ow⟩ := R1.setSh (i := i) h
      exact ih R2 (E1.lessR ow) r (by simpa using hl) q
theorem snd_par2 {i j : Nat} {x y : Str} {p q : Expr} {px py pt : Pos} {kt k2 pt2} (G : GOk X M Z) (hi : X.N[i]? = some x) (hj : X.N[j]? = some y) (hij : i ≠ j) (hx : X.env.scope.names.lookup x = some .local) (hy : X.env.scope.names.lookup y = some .local) (ha : PA X [p, q] (tWL Z X.K il))
    (hw : swappedStores [.Tuple [.Name x px, .Name y py] kt pt] (.Tuple [p, q] k2 pt2) X.env = pure (some [x, y])) (hs : swapsWithSole [.Tuple [.Name x px, .Name y py] kt pt] (.Tuple [p, q] k2 pt2) pos.line X.env = pure false) :
    PS X (.Assign [.Tuple [.Name x px, .Name y py] kt pt] (.Tuple [p, q] k2 pt2) pos) (tWS Z X.K (.par [i, j] il)) := PS.imp (ps_par G.calm G.nd hi hj hij hx hy ha hw hs) fun T sg H ⟨s, c, F, rh, N, Em, R, w, ok, x⟩ => by
  unfold wpS at w
  refine tWL.mk R w x.x fun ds s1 c1 vs H1 F1 rh1 q R1 e1 x1 r1 => ?_
  obtain ⟨u, v, a, b, rfl, rfl, r2, r3⟩ := r1.two q.1
  exact ⟨u, v, rfl, par_use (vs := [u, v]) (ds := []) (is := []) R1 (ok.step e1) [i, j] R1 Ev.refl (.cons r2 (.cons r3 .nil)) rfl q.2⟩
/-- x, y = (e, a new list): the list a cell -/
theorem snd_parL {i j : Nat} {x y : Str} {p q : Expr} {px py pt : Pos} {kt k2 pt2} {i1 i2 : IE} (G : GOk X M Z) (hi : X.N[i]? = some x) (hj : X.N[j]? = some y) (hij : i ≠ j) (hx : X.env.scope.names.lookup x = some .local) (hy : X.env.scope.names.lookup y = some .local)
    (hp : PE X p (tW Z X.K false i1)) (hq : PE X q (tW Z X.K false i2)) (sp : notStar p = true) (sq : notStar q = true)
    (hw : swappedStores [.Tuple [.Name x px, .Name y py] kt pt] (.Tuple [p, q] k2 pt2) X.env = pure (some [x, y])) (hs : swapsWithSole [.Tuple [.Name x px, .Name y py] kt pt] (.Tuple [p, q] k2 pt2) pos.line X.env = pure false) :
    PS X (.Assign [.Tuple [.Name x px, .Name y py] kt pt] (.Tuple [p, q] k2 pt2) pos) (tWS Z X.K (.parL i j i1 i2)) :=
  PS.imp (ps_par G.calm G.nd hi hj hij hx hy (pa_cons hp (pa_cons hq pa_nil (star_one sq)) (star_one sp)) hw hs) fun T sg H ⟨s, c, F, rh, N, Em, R, w, ok, x⟩ => by
    unfold wpS at w
    refine tW.mk (Q := fun u H1 => tW Z X.K false i2 sg H1 fun v H2 => ∃ a b, [u, v] = [a, b] ∧ T.nx ((sg.set i (some a)).set j (some b)) H2) R w x.x fun d1 o1 s1 c1 v1 H1 F1 rh1 q1 R1 e1 x1 r1 => ?_
    refine ⟨s1, c1, F1, rh1, _, Em, R1, q1, fun d2 o2 s2 c2 v2 H2 F2 rh2 q2 R2 e2 r2 => ?_, x1⟩
    obtain ⟨rfl, q2⟩ := q2
    obtain ⟨R3, ow⟩ := R2.setSh (i := i) (r1.ext e2.toExt)
    obtain ⟨a, ob, ea, g0, g1, g2, g3, g4, g5⟩ := r2
    obtain ⟨R4, e4⟩ := R3.cellify ((e1.trans e2).lessR ow) ⟨a, ob, ea, by
      by_cases z : H a = none
      · exact z
      · exact absurd g0 (e1.mono a z), g1, g2, g3, g4, fun z => g5 (ow a z)⟩ j
    exact ⟨v1, v2, rfl, ok.nx _ _ _ _ _ _ q2 R4 e4⟩
theorem snd_par3 {i j k : Nat} {x y z : Str} {p q r : Expr} {px py pz pt : Pos} {kt k2 pt2} (G : GOk X M Z) (hi : X.N[i]? = some x) (hj : X.N[j]? = some y) (hk : X.N[k]? = some z) (hij : i ≠ j) (hik : i ≠ k) (hjk : j ≠ k) (hx : X.env.scope.names.lookup x = some .local) (hy : X.env.scope.names.lookup y = some .local) (hz : X.env.scope.names.lookup z = some .local) (ha : PA X [p, q, r] (tWL Z X.K il))
    (hw : swappedStores [.Tuple [.Name x px, .Name y py, .Name z pz] kt pt] (.Tuple [p, q, r] k2 pt2) X.env = pure (some [x, y, z])) (hs : swapsWithSole [.Tuple [.Name x px, .Name y py, .Name z pz] kt pt] (.Tuple [p, q, r] k2 pt2) pos.line X.env = pure false) :
    PS X (.Assign [.Tuple [.Name x px, .Name y py, .Name z pz] kt pt] (.Tuple [p, q, r] k2 pt2) pos) (tWS Z X.K (.par [i, j, k] il)) := PS.imp (ps_par3 G.calm G.nd hi hj hk hij hik hjk hx hy hz ha hw hs) fun T sg H ⟨s, c, F, rh, N, Em, R, w, ok, x⟩ => by
  unfold wpS at w
  refine tWL.mk R w x.x fun ds s1 c1 vs H1 F1 rh1 q R1 e1 x1 r1 => ?_
  obtain ⟨u, v, t, a, b, d, rfl, rfl, r2, r3, r4⟩ := r1.three q.1
  exact ⟨u, v, t, rfl, par_use (vs := [u, v, t]) (ds := []) (is := []) R1 (ok.step e1) [i, j, k] R1 Ev.refl (.cons r2 (.cons r3 (.cons r4 .nil))) rfl q.2⟩
/-- name op= value, by values -/
def rA (K : PySem.W.Frag) (op : Operator) : R2 := fun v u H Q => ((∃ i : Int, v = .int i) ∨ (∃ z : Str, v = .str z) ∧ op = .Add) ∧ r2 K (binW op) v u H Q
theorem ip_ok {op : Operator} (ho : op = .Add ∨ op = .Sub ∨ op = .Mult) : PIp X op (rA X.K op) := by
  intro pins s sg H x y v u Q I rx ry ⟨hv, F, rh, c, dx, dy, Qm, C, hx, hy, w, q⟩
  rcases ho with rfl | rfl | rfl
  · simp only [binW] at w
    split at w
    · cases hx; cases hy
      exact ip_add pins s sg H _ _ v u Q I rx ry ⟨_, _, rfl, rfl, q _ _ _ _ w (.old .int)⟩
    · cases hx; cases hy
      exact iop_add_str pins s sg H _ _ v u Q I rx ry ⟨_, _, rfl, rfl, w.1, q _ _ _ _ w.2 (.old .str)⟩
    · obtain ⟨a, vs, rfl, _⟩ := hx.tup_of
      rcases hv with ⟨i, z⟩ | ⟨⟨i, z⟩, _⟩ <;> cases z
    · obtain ⟨xs, ys, h1, h2, h3, h4⟩ := w
      obtain ⟨a, vs, rfl, _⟩ := asL_of C hx h1
      rcases hv with ⟨i, z⟩ | ⟨⟨i, z⟩, _⟩ <;> cases z
  · simp only [binW] at w
    split at w
    · cases hx; cases hy
      exact ip_sub pins s sg H _ _ v u Q I rx ry ⟨_, _, rfl, rfl, q _ _ _ _ w (.old .int)⟩
    · exact w.elim
  · rcases hv with ⟨k, rfl⟩ | ⟨_, z⟩
    · cases hx
      cases dy with
      | int j =>
        cases hy
        have w' : (CMul k j ∨ CMulW k j) ∧ Qm (.int (k * j)) false := w
        obtain ⟨t, rfl⟩ := (rx : ∃ t, v = Value.int k t)
        obtain ⟨t2, rfl⟩ := (ry : ∃ t, u = Value.int j t)
        have kk := q _ _ _ _ w'.2 (.old .int)
        refine imul_int ⟨.int _, H, I.tok _, ⟨_, rfl⟩, kk⟩ ?_
        rcases w'.1 with w1 | w1
        · exact w1.ok
        · exact w1.ok
      | _ => exact (show False from w).elim
    · cases z
theorem snd_aug {i : Nat} {x : Str} {p : Pos} {op : Operator} (G : GOk X M Z) (hi : X.N[i]? = some x) (hx : Loc X.env.scope x) (he : PE X e (tW Z X.K false ie)) (ho : op = .Add ∨ op = .Sub ∨ op = .Mult) (hf : X.fn x = true ∨ X.env.scope.names.lookup x = some .local) :
    PS X (.AugAssign (.Name x p) op e pos) (tWS Z X.K (.aug i op ie)) := PS.imp (ps_aug G.nd hi hx he (ip_ok ho) hf) fun T sg H ⟨s, c, F, rh, N, Em, R, w, ok, x⟩ => by
  have fin : ∀ {d0 : D} {v0 : V}, s[i]? = some (.sh d0) → sg[i]? = some (some v0) → Rep X.K H F rh v0 d0 → (((∃ i : Int, v0 = .int i) ∨ (∃ z : Str, v0 = .str z) ∧ op = .Add)) → wpE Z.C false ie s c (fun y _ s1 c1 => binW op c1 d0 y fun d o => N.nx (s1.set i (slOf d o)) c1) Em → tAug i (tW Z X.K false ie) (rA X.K op) T sg H := by
    intro d0 v0 h1 h2 r0 hv w
    refine ⟨v0, h2, tW.mk R w x.x fun d o s1 c1 v H1 F1 rh1 q R1 e1 x1 r1 => ⟨hv, F1, rh1, c1, d0, d, _, R1.toCe, r0.ext e1.toExt, r1, q, fun d' o' v' H' q' u => ?_⟩⟩
    have okq : OkQ X.K Z.H0 sg H1 F1 rh1 s1 (fun d o s' c' => N.nx (s'.set i (slOf d o)) c') (fun v H2 => T.nx (sg.set i (some v)) H2) := fun d o s' c' v H' F' rh' q R' e r => by
      obtain ⟨R2, e2⟩ := R'.store e r R1.mn i
      exact ok.nx _ c' _ H' F' rh' q R2 (e1.trans e2)
    exact okq.out R1 u q'
  unfold wpS at w
  split at w
  · rename_i k hs
    obtain ⟨v, g1, g2⟩ := R.shr i _ hs
    cases g2
    exact fin hs g1 .int (.inl ⟨k, rfl⟩) w
  · rename_i k hs
    obtain ⟨v, g1, g2⟩ := R.shr i _ hs
    cases g2
    obtain ⟨rfl, w⟩ := w
    exact fin hs g1 .str (.inr ⟨⟨k, rfl⟩, rfl⟩) w
  · exact w.elim
theorem snd_seti {o : Nat} {x : Str} {p tpos : Pos} {ei : Expr} (hN : X.N[o]? = some x) (hv : Vis X.env.scope x) (hd1 : (x == ("__debug__" : Str)) = false) (hd2 : (x == ("__classdict__" : Str)) = false) (hi : PE X ei (tW Z X.K false ib)) (he : PE X e (tW Z X.K false ie))
    (ha : ∀ v, assign (.Subscript (.Name x p) ei tpos) X.env v = (do
      let ov ← holding [v] (eval (.Name x p) X.env)
      let iv ← holding [v, ov] (eval ei X.env)
      standAt tpos
      holding [v, ov, iv] (setItem ov iv v)
      release [v, ov, iv] []))
    (hs : swapsWithSole [.Subscript (.Name x p) ei tpos] e pos.line X.env = pure false) (hw : swappedStores [.Subscript (.Name x p) ei tpos] e X.env = pure none) (h1 : (assignEach [.Subscript (.Name x p) ei tpos] X.env).map (·.2) = [assign (.Subscript (.Name x p) ei tpos) X.env]) :
    PS X (.Assign [.Subscript (.Name x p) ei tpos] e pos) (tWS Z X.K (.seti o ib ie)) := PS.imp (ps_asg he (pg_sub (pe_var hN hv hd1 hd2) hi set_list ha) hs hw h1) fun T sg H ⟨s, c, F, rh, N, Em, R, w, ok, x⟩ => by
  unfold wpS at w
  refine tW.mk R w x.x fun d o1 s1 c1 v H1 F1 rh1 q R1 e1 x1 r1 => ?_
  obtain ⟨q0, q⟩ := q
  obtain ⟨a, vs0, g1, _⟩ := slotL_at R1 q0
  refine ⟨.ref a, g1, tW.mk R1 q x1 fun d2 o2 s2 c2 v2 H2 F2 rh2 q2 R2 e2 x2 r2 => ?_⟩
  obtain ⟨b, ws, xs, g, k1, k2, k3, k4, k5, k6⟩ := slot_use R2 q2
  rw [g1] at k1
  cases k1
  have r1' := r1.ext e2.toExt
  unfold setiW at k4
  split at k4
  · rename_i k
    obtain ⟨j, m1, m2⟩ := k4
    cases r2
    refine ⟨a, ws, k, j, rfl, rfl, k2, by rw [k3.len]; exact m1, ?_⟩
    obtain ⟨R3, e3⟩ := k6 _ _ (k3.set r1' j)
    exact ok.nx _ _ _ _ _ _ m2 R3 ((e1.trans e2).trans e3)
  · exact k4.elim
theorem snd_setf {i n : Nat} {x nm : Str} {p tpos : Pos} (G : GOk X M Z) (hN : X.N[i]? = some x) (hv : Vis X.env.scope x) (hd1 : (x == ("__debug__" : Str)) = false) (hd2 : (x == ("__classdict__" : Str)) = false) (hn : nm = atN n) (he : PE X e (tW Z X.K false ie)) :
    PS X (.Assign [.Attribute (.Name x p) nm tpos] e pos) (tWS Z X.K (.setf i n ie)) := PS.imp (ps_fld (pe_var hN hv hd1 hd2) he (by unfold swapsWith; cases e <;> rfl)) fun T sg H ⟨s, c, F, rh, N, Em, R, w, ok, x⟩ => by
  unfold wpS at w
  refine tW.mk R w x.x fun d o1 s1 c1 v H1 F1 rh1 q R1 e1 x1 r1 => ?_
  split at q
  · rename_i m hs
    obtain ⟨k, ns, xs, q1, q2, q3, q4⟩ := q
    obtain ⟨v0, g1, g2⟩ := R1.shr i _ hs
    refine ⟨v0, g1, ?_⟩
    cases g2 with
    | @cell _ a ha =>
      obtain ⟨ob, b1, dx, vs, b2, b3, b4⟩ := R1.ob m a _ ha q1
      subst b2
      obtain ⟨h1, h2, h3⟩ := G.cl.fld k n q2
      obtain ⟨vs', z1, z2, z3⟩ := putF_rep (y := d) h3 r1 b3 b4
      rw [hn]
      refine ⟨a, _, dx, _, rfl, b1, h1, h2, ?_, ?_⟩
      · rw [List.length_zip, List.length_map]; omega
      · rw [z1]
        obtain ⟨R2, e2⟩ := R1.mutCell ha q1 (d' := .ins k (putF n d ns xs).1 (putF n d ns xs).2) (o' := .ins (cAd X.K k) dx (((putF n d ns xs).1.map atN).zip vs')) ⟨dx, vs', rfl, z2, z3⟩
        exact ok.nx _ _ _ _ _ _ q4 R2 (e1.trans e2)
  · exact q.elim
/-! loops -/
theorem snd_while {cc : Expr} {lb : ISs} (hp : PassesOwn (model X.prog X.w) X.A X.env X.xe) (hc : PT X cc (tWT Z X.K ie)) (hb : PSs X body (tWSs Z X.K lb)) : PS X (.While cc body [] pos) (tWS Z X.K (.while_ ie lb)) := PS.imp (ps_while hp hc hb) fun T sg H ⟨s, c, F, rh, N, Em, R, w, ok, x⟩ => by
  unfold wpS at w
  obtain ⟨n, w⟩ := w
  refine ⟨fun m sg1 H1 => ∃ s1 c1 F1 rh1, Rl X.K Z.H0 H1 F1 rh1 sg1 s1 c1 ∧ Ev H F rh (Owned sg s) H1 F1 rh1 (Owned sg1 s1) ∧ loopW (fun s1 c1 nxt => wpE Z.C true ie s1 c1 (fun d _ s2 c2 => ∃ k, d = .bl k ∧ (match k with
      | true => wpSs Z.C lb s2 c2 { nx := nxt, ct := nxt, bk := N.nx, rt := N.rt } Em
      | false => N.nx s2 c2)) Em) m s1 c1, ⟨n, s, c, F, rh, R, Ev.refl, w⟩, ?_⟩
  rintro m sg1 H1 ⟨s1, c1, F1, rh1, R1, e1, w1⟩
  cases m with
  | zero => exact w1.elim
  | succ m =>
    have w1' := w1
    unfold loopW at w1'
    refine test_mk R1 w1' (x.step e1).x (fun d o s2 c2 k H2 F2 rh2 q ed R2 e2 x2 => ?_) fun d o s2 c2 ⟨k, q, _⟩ => ⟨k, q⟩
    subst ed
    obtain ⟨k', q1, q2⟩ := q
    cases q1
    cases k with
    | false =>
      rw [if_neg Bool.false_ne_true]
      exact ok.nx s2 c2 _ H2 F2 rh2 q2 R2 (e1.trans e2)
    | true =>
      rw [if_pos rfl]
      refine ⟨_, fun sg' H' z => ⟨m, Nat.lt_succ_self m, z⟩, s2, c2, F2, rh2, _, Em, R2, q2, ?_, (x.step e1).step e2⟩
      have e12 := e1.trans e2
      exact ⟨fun s' c' sh' H' F' rh' p R' e' => ⟨s', c', F', rh', R', e12.trans e', p⟩, fun s' c' sh' H' F' rh' p R' e' => ok.nx s' c' sh' H' F' rh' p R' (e12.trans e'), fun s' c' sh' H' F' rh' p R' e' => ⟨s', c', F', rh', R', e12.trans e', p⟩, fun d o s' c' v sh' H' F' rh' n R' e' r => ok.rt d o s' c' v sh' H' F' rh' n R' (e12.trans e') r⟩
theorem snd_for {tgE iter : Expr} {t : Tg} {src : IT} {lb : ISs} (G : GOk X M Z) (hp : PassesOwn (model X.prog X.w) X.A X.env X.xe) (hi : PI X tgE iter (tWI Z X.K src)) (hg : PG X tgE (gOf X.K t)) (hb : PSs X body (tWSs Z X.K lb)) (hs : ∀ x, foldedSetIterable iter X.env x = pure x) :
    PS X (.For tgE iter body [] pos) (tWS Z X.K (.for_ t src lb)) := PS.imp (ps_for hp G.calm hi hg hb hs) fun T sg H ⟨s, c, F, rh, N, Em, R, w, ok, x⟩ => by
  unfold wpS at w
  refine ⟨s, c, F, rh, _, Em, R, w, fun xs g s1 c1 J H1 F1 rh1 lp gc R1 e1 x1 wd => ?_, x.x⟩
  refine ⟨fun i m sg2 H2 => m = xs.length - i ∧ i ≤ xs.length ∧ ∃ s2 c2 F2 rh2, Rl X.K Z.H0 H2 F2 rh2 sg2 s2 c2 ∧ Ev H1 F1 rh1 (Owned sg s1) H2 F2 rh2 (Owned sg2 s2) ∧ loopF g (fun x s2 c2 nxt => match bindT t x s2 with
      | none => False
      | some s3 => wpSs Z.C lb s3 c2 { nx := nxt, ct := nxt, bk := N.nx, rt := N.rt } Em) (xs.drop i) s2 c2 N.nx, ⟨xs.length, by rw [Nat.sub_zero], Nat.zero_le _, s1, c1, F1, rh1, R1, Ev.refl, lp⟩, ?_⟩
  rintro i m sg2 H2 ⟨rfl, hi, s2, c2, F2, rh2, R2, e2, lp⟩
  by_cases hlt : i < xs.length
  · have dr : xs.drop i = xs[i] :: xs.drop (i + 1) := List.drop_eq_getElem_cons hlt
    rw [dr] at lp
    unfold loopF at lp
    obtain ⟨gc', lp⟩ := lp
    refine .inr ⟨wd.go i H2 F2 rh2 c2 hlt e2.toExt R2.toCe gc', fun sg' H' => ∃ m', m' < xs.length - i ∧ _, fun sg' H' z => z, fun xv H3 y => ?_⟩
    obtain ⟨d, hd, u⟩ := wd.yld i H2 F2 rh2 c2 xv H3 hlt e2.toExt R2.toCe gc' y
    rw [List.getElem?_eq_getElem hlt] at hd
    cases hd
    obtain ⟨F3, R3, e3, r3⟩ := u.enter R2
    cases hb : bindT t xs[i] s2 with
    | none => rw [hb] at lp; exact lp.elim
    | some s3 =>
      rw [hb] at lp
      refine bind_use (own := []) t R3 r3 hb fun sg3 R4 o4 _ => ?_
      have e4 : Ev H2 F2 rh2 (Owned sg2 s2) H3 F3 rh2 (Owned sg3 s3) := e3.lessR o4
      have e14 := e2.trans e4
      refine ⟨s3, c2, F3, rh2, _, Em, R4, lp, ?_, (x.step e1).step e14⟩
      exact ⟨fun s' c' sh' H' F' rh' p R' e' => ⟨xs.length - (i + 1), by omega, rfl, hlt, s', c', F', rh', R', e14.trans e', p⟩, fun s' c' sh' H' F' rh' p R' e' => ok.nx s' c' sh' H' F' rh' p R' ((e1.trans e14).trans e'),
        fun s' c' sh' H' F' rh' p R' e' => ⟨xs.length - (i + 1), by omega, rfl, hlt, s', c', F', rh', R', e14.trans e', p⟩, fun d o s' c' v sh' H' F' rh' n R' e' r => ok.rt d o s' c' v sh' H' F' rh' n R' ((e1.trans e14).trans e') r⟩
  · have e : i = xs.length := by omega
    subst e
    rw [List.drop_length] at lp
    unfold loopF at lp
    obtain ⟨gc', kf⟩ := lp
    exact .inl ⟨wd.stop H2 F2 rh2 c2 e2.toExt R2.toCe gc', ok.nx s2 c2 sg2 H2 F2 rh2 kf R2 (e1.trans e2)⟩
end
end Vm

/-! Vm: the check that a term of the language is an expression of the program, and what it gives -/
namespace Vm
open PySem PySem.Spec L2
open PyProof.Rows hiding St
def nmB (N : List Str) (i : Nat) (x : Str) : Bool := decide (N[i]? = some x)
def visB (sc : Scope) (x : Str) : Bool := match sc.names.lookup x with
  | some .local | some .cell | some .free => true
  | _ => false
def locB (sc : Scope) (x : Str) : Bool := match sc.names.lookup x with
  | some .local | some .cell => true
  | _ => false
def ownB (sc : Scope) (x : Str) : Bool := match sc.names.lookup x with
  | some .local => true
  | _ => false
def glB (sc : Scope) (x : Str) : Bool := match sc.names.lookup x with
  | some .globalImplicit => true
  | _ => false
def dbgB (x : Str) : Bool := decide (x ≠ ("__debug__" : Str)) && decide (x ≠ ("__classdict__" : Str))
def ixB : Expr → Bool
  | .Slice _ _ none _ => false
  | _ => true
def notNoArgCall : Expr → Bool
  | .Call (.Name x _) [] [] _ => decide (x ≠ ("super" : Str))
  | _ => true
def notSetE : Expr → Bool
  | .Set _ _ _ => false
  | _ => true
def conB (d : D) (k : Const) : Bool := match k, d with
  | .none, .non => true
  | .bool b, .bl b' => decide (b = b')
  | .int i, .int j => decide (i = j)
  | .str s, .str z => decide (s = z)
  | _, _ => false
def ownsOf (N : List Str) (own : List Nat) : List (Str × Nat) := own.map fun i => ((N[i]?).getD "", i)
theorem ownsOf_map (N : List Str) (own : List Nat) : (ownsOf N own).map (·.2) = own := by
  unfold ownsOf
  rw [List.map_map]
  induction own with
  | nil => rfl
  | cons i own ih => rw [List.map_cons, ih]; rfl
def mutB (m : Mt) : Bool := match m with
  | .append | .extend | .pop | .clear | .insert => true
  | _ => false
/-- sorted({y for x in e for y in x.f}) -/
def srtSh (N : List Str) (sc : Scope) (u v f : Nat) (e : Expr) : Option (List Expr) :=
  match e with
  | .Call (.Name x _) [.SetComp (.Name y _) [⟨.Name nu _, e0, [], a⟩, ⟨.Name nv _, .Attribute (.Name z _) nm _, [], b⟩] scope _] [] _ =>
    if decide (x = ("sorted" : Str)) && (glB sc x && (decide (y = nv) && (decide (z = nu) && (nmB N u nu && (nmB N v nv && (decide (u ≠ v) && (blkC N sc scope [(nu, u), (nv, v)] && (ownB (relS scope sc) nu && (ownB (relS scope sc) nv && (dbgB nu && (dbgB nv && (decide (nm = atN f) && (notSetE e0 && (decide (a = 0) && decide (b = 0)))))))))))))))
    then some [e0] else none
  | _ => none
/-- the parts of an expression that such an operation reads -/
def opSh (N : List Str) (M : Nm) (sc : Scope) (g : Gn) (e : Expr) : Option (List Expr) :=
  match g, e with
  | .fld n, .Attribute eo nm _ => if decide (nm = atN n) && notNoArgCall eo then some [eo] else none
  | .prp m, .Attribute eo nm _ => if decide (nm = mtN m) && notNoArgCall eo then some [eo] else none
  | .call f n ks _, .Call (.Name x _) es kws _ => if decide (M.fn f = (x, none)) && glB sc x && dbgB x && decide (es.length = n) && decide (kws.map (·.arg) = (kwN (M.ps f) n ks).map some) then some (es ++ kws.map (·.value)) else none
  | .mk k n ks _, .Call (.Name x _) es kws _ => if decide (x = clsN k) && glB sc x && dbgB x && decide (es.length = n) && decide (kws.map (·.arg) = (kwN (M.ps (mtF k 0)) (n + 1) ks).map some) then some (es ++ kws.map (·.value)) else none
  | .mkc k n ks _, .Call (.Name x _) es kws _ => if decide (x = clsN k) && glB sc x && dbgB x && decide (es.length = n) && decide (kws.map (·.arg) = (kwN (M.ps (mtF k 0)) (n + 1) ks).map some) then some (es ++ kws.map (·.value)) else none
  | .rev, .Subscript ea (.Slice none none (some (.UnaryOp .USub (.Constant (.int 1) _ _) _)) _) _ => some [ea]
  | .cm k m n ks _, .Call (.Attribute (.Name x _) nm ap) es kws cp => if decide (x = clsN k) && glB sc x && dbgB x && decide (nm = mtN m) && (ap.endLine == cp.line) && decide (es.length + kws.length < 29) && decide (es.length = n) && decide (kws.map (·.arg) = (kwN (M.mp m) (n + 1) ks).map some) then some (es ++ kws.map (·.value)) else none
  | .bin op, .BinOp ea op' eb _ => if decide (op = op') && decide (op = .Add ∨ op = .Sub ∨ op = .Mult ∨ op = .BitOr ∨ op = .BitAnd ∨ op = .Pow) then some [ea, eb] else none
  | .un op, .UnaryOp op' ea _ => if decide (op = op') && decide (op = .USub ∨ op = .Invert) then some [ea] else none
  | .fmt, .FormattedValue ea k none _ => if decide (k = -1) then some [ea] else none
  | .eqI, .Compare ea [.Eq] [eb] _ => if !behindInMarks .Eq eb then some [ea, eb] else none
  | .eqR, .Compare ea [.Eq] [eb] _ => if !behindInMarks .Eq eb then some [ea, eb] else none
  | .eqT, .Compare ea [.Eq] [eb] _ => if !behindInMarks .Eq eb then some [ea, eb] else none
  | .neI, .Compare ea [.NotEq] [eb] _ => if !behindInMarks .NotEq eb then some [ea, eb] else none
  | .isc j, .Call (.Name x _) [ea, .Name y _] [] _ => if decide (x = ("isinstance" : Str)) && decide (y = clsN j) && glB sc x && glB sc y && dbgB y then some [ea] else none
  | .boolI, .Call (.Name x _) [ea] [] _ => if decide (x = ("bool" : Str)) && glB sc x then some [ea] else none
  | .lenI, .Call (.Name x _) [ea] [] _ => if decide (x = ("len" : Str)) && glB sc x then some [ea] else none
  | .getI, .Subscript ea eb _ => if ixB eb then some [ea, eb] else none
  | .inI false, .Compare ea [.In] [eb] _ => if !behindInMarks .In eb then some [ea, eb] else none
  | .inI true, .Compare ea [.NotIn] [eb] _ => if !behindInMarks .NotIn eb then some [ea, eb] else none
  | .srt u v f, e => srtSh N sc u v f e
  | .dget, .Subscript ea eb _ => if ixB eb then some [ea, eb] else none
  | .din false, .Compare ea [.In] [eb] _ => if !behindInMarks .In eb then some [ea, eb] else none
  | .din true, .Compare ea [.NotIn] [eb] _ => if !behindInMarks .NotIn eb then some [ea, eb] else none
  | _, _ => none
mutual
def okT : IE → Bool
  | .ite _ _ _ => false
  | .bool _ l => okTL l
  | .not a => okT a
  | _ => true
def okTL : IL → Bool
  | .nil => true
  | .cons a l => okT a && okTL l
end
mutual
def ckT (cl : Bool) (N : List Str) (sc : Scope) : Tg → Expr → Bool
  | .nm i, e => (match e with
    | .Name x _ => nmB N i x && (ownB sc x || (cl && locB sc x))
    | _ => false)
  | .tp l, e => (match e with
    | .Tuple es _ _ => ckTs cl N sc l es
    | _ => false)
def ckTs (cl : Bool) (N : List Str) (sc : Scope) : TgL → List Expr → Bool
  | .nil, es => es.isEmpty
  | .cons t l, es => (match es with
    | e :: es => notStar e && ckT cl N sc t e && ckTs cl N sc l es
    | [] => false)
end
mutual
def ckE (N : List Str) (M : Nm) (sc : Scope) : IE → Expr → Bool
  | .var i, e => (match e with
    | .Name x _ => nmB N i x && visB sc x && dbgB x
    | _ => false)
  | .con d, e => (match e with
    | .Constant k _ _ => conB d k
    | _ => false)
  | .glob i, e => (match e with
    | .Name x _ => glB sc x && decide (M.gl i = x) && dbgB x
    | _ => false)
  | .bin op a b, e => (match e with
    | .BinOp ea op' eb _ => decide (op = op') && ckE N M sc a ea && ckE N M sc b eb
    | _ => false)
  | .un op a, e => (match e with
    | .UnaryOp op' ea _ => decide (op = op') && decide (op ≠ .Not) && ckE N M sc a ea
    | _ => false)
  | .cmp op a b, e => (match e with
    | .Compare ea [op'] [eb] _ => decide (op = op') && ckE N M sc a ea && ckE N M sc b eb && !behindInMarks op eb
    | _ => false)
  | .chain op op2 a b c, e => (match e with
    | .Compare ea [op', op2'] [eb, ec] _ => decide (op = op') && decide (op2 = op2') && ckE N M sc a ea && ckE N M sc b eb && ckE N M sc c ec && !lastMarks [op, op2] [eb, ec]
    | _ => false)
  | .bool a l, e => (match e with
    | .BoolOp o es _ => decide (o = boolOpOf a) && !es.isEmpty && ckL N M sc l es
    | _ => false)
  | .not a, e => (match e with
    | .UnaryOp op' ea _ => decide (op' = .Not) && ckE N M sc a ea && okT a
    | _ => false)
  | .ite a b c, e => (match e with
    | .IfExp ea eb ec _ => ckE N M sc a ea && okT a && ckE N M sc b eb && ckE N M sc c ec
    | _ => false)
  | .tup l, e => (match e with
    | .Tuple es _ _ => ckL N M sc l es
    | _ => false)
  | .lst l, e => (match e with
    | .List es _ => ckL N M sc l es
    | _ => false)
  | .idx a b, e => (match e with
    | .Subscript ea eb _ => ckE N M sc a ea && ckE N M sc b eb && ixB eb
    | _ => false)
  | .slc a lo hi, e => (match e with
    | .Subscript ea (.Slice el eh none _) _ => ckE N M sc a ea && ckO N M sc lo el && ckO N M sc hi eh
    | _ => false)
  | .call f l, e => (match e with
    | .Call (.Name x _) es [] _ => decide (M.fn f = (x, none)) && glB sc x && dbgB x && ckL N M sc l es
    | _ => false)
  | .prim p l, e => (match e with
    | .Call (.Name x _) es [] _ => decide (x = p.name) && glB sc x && !es.isEmpty && ckL N M sc l es
    | _ => false)
  | .isi a T, e => (match e with
    | .Call (.Name x _) [ea, .Name y _] [] _ => decide (x = ("isinstance" : Str)) && decide (y = Str.ofString T) && decide (T ∈ tyNames) && glB sc x && glB sc y && notStar ea && ckE N M sc a ea
    | _ => false)
  | .meth m o l, e => (match e with
    | .Call (.Attribute eo nm ap) es [] cp => decide (nm = m.name) && notNoArgCall eo && (ap.endLine == cp.line) && decide (es.length < 29) && ckE N M sc o eo && ckL N M sc l es
    | _ => false)
  | .methv m i l, e => (match e with
    | .Call (.Attribute (.Name x _) nm ap) es [] cp => decide (nm = m.name) && nmB N i x && visB sc x && dbgB x && (ap.endLine == cp.line) && decide (es.length < 29) && mutB m && ckL N M sc l es
    | _ => false)
  | .comp own t src ifs elt, e => (match e with
    | .ListComp ee [⟨tg, iter, ies, a⟩] scope _ => decide (a = 0) && blkC N sc scope (ownsOf N own) && tgIn own t && notSetE iter && ckI N M sc src tg iter && ckT false N (relS scope sc) t tg && decide (ies.length < 2) && okTL ifs && ckL N M (relS scope sc) ifs ies && ckE N M (relS scope sc) elt ee
    | _ => false)
  | .op g l, e => (match opSh N M sc g e with
    | some es => ckL N M sc l es
    | none => false)
  | .methc _ _ _, _ => false
  | .dlit _ _, _ => false
  | .dcomp _ _ _ _ _ _, _ => false
  | .calli _ _ _ _ _, _ => false
  | .disp tp st l, e => (match e with
    | .Tuple es _ _ => tp && decide (es.map isStar = st) && ckL N M sc l (es.map unStar)
    | .List es _ => !tp && decide (es.map isStar = st) && ckL N M sc l (es.map unStar)
    | _ => false)
  | .mkv k i n ks _ l, e => (match e with
    | .Call (.Name x _) es kws _ => nmB N i x && visB sc x && dbgB x && decide (es.length = n) && decide (kws.map (·.arg) = (kwN (M.ps (mtF k 0)) (n + 1) ks).map some) && ckL N M sc l (es ++ kws.map (·.value))
    | _ => false)
  | .fstr l, e => (match e with
    | .JoinedStr (v1 :: v2 :: rest) _ => ckL N M sc l (v1 :: v2 :: rest)
    | _ => false)
  | .mcall m n ks pl o l, e => (match e with
    | .Call (.Attribute eo nm ap) es kws cp => decide (nm = mtN m) && decide (m ≠ 0) && notNoArgCall eo && (ap.endLine == cp.line) && decide (es.length + kws.length < 29) && decide (es.length = n) && decide (kws.map (·.arg) = (kwN (M.mp m) (n + 1) ks).map some) && ckE N M sc o eo && ckL N M sc l (es ++ kws.map (·.value))
    | _ => false)
def ckL (N : List Str) (M : Nm) (sc : Scope) : IL → List Expr → Bool
  | .nil, es => es.isEmpty
  | .cons a l, es => (match es with
    | e :: es => notStar e && ckE N M sc a e && ckL N M sc l es
    | [] => false)
def ckO (N : List Str) (M : Nm) (sc : Scope) : IO → Option Expr → Bool
  | .no, e => e.isNone
  | .so a, e => (match e with
    | some e => ckE N M sc a e
    | none => false)
def ckI (N : List Str) (M : Nm) (sc : Scope) : IT → Expr → Expr → Bool
  | .val a, _, e => ckE N M sc a e
  | .range1 a, _, e => (match e with
    | .Call (.Name x _) [ea] [] _ => decide (x = ("range" : Str)) && glB sc x && notStar ea && ckE N M sc a ea
    | _ => false)
  | .range2 a b, _, e => (match e with
    | .Call (.Name x _) [ea, eb] [] _ => decide (x = ("range" : Str)) && glB sc x && notStar ea && notStar eb && ckE N M sc a ea && ckE N M sc b eb
    | _ => false)
  | .range3 a b d, _, e => (match e with
    | .Call (.Name x _) [ea, eb, ed] [] _ => decide (x = ("range" : Str)) && glB sc x && notStar ea && notStar eb && notStar ed && ckE N M sc a ea && ckE N M sc b eb && ckE N M sc d ed
    | _ => false)
  | .enum a, t, e => (match e with
    | .Call (.Name x _) [ea] [] _ => decide (x = ("enumerate" : Str)) && glB sc x && notStar ea && (match t with | .Tuple _ _ _ => true | _ => false) && ckE N M sc a ea
    | _ => false)
  | .zip _ _, _, _ => false
  | .items _, _, _ => false
end
/-! what the small checks say -/
section
variable {X : Cx} {x : Str} {sc : Scope} {N : List Str} {i : Nat}
theorem visB_ok (h : visB sc x = true) : Vis sc x := by
  unfold visB at h
  split at h
  · rename_i e; exact .inl e
  · rename_i e; exact .inr (.inl e)
  · rename_i e; exact .inr (.inr e)
  · cases h
theorem locB_ok (h : locB sc x = true) : Loc sc x := by
  unfold locB at h
  split at h
  · rename_i e; exact .inl e
  · rename_i e; exact .inr e
  · cases h
theorem ownB_ok (h : ownB sc x = true) : sc.names.lookup x = some .local := by
  unfold ownB at h
  split at h
  · assumption
  · cases h
theorem glB_ok (h : glB X.env.scope x = true) : Gl X x := by
  unfold glB at h
  split at h
  · rename_i e; exact e
  · cases h
theorem dbgB_ok (h : dbgB x = true) : (x == ("__debug__" : Str)) = false ∧ (x == ("__classdict__" : Str)) = false := by
  unfold dbgB at h
  simp only [Bool.and_eq_true, decide_eq_true_eq] at h
  exact ⟨beq_eq_false_iff_ne.mpr h.1, beq_eq_false_iff_ne.mpr h.2⟩
theorem ixB_ok {e : Expr} (h : ixB e = true) : PlainIx e := by
  intro o i
  cases e with
  | Slice a b cc p => cases cc with
    | none => cases h
    | some cc => rfl
  | _ => rfl
theorem base_ok {e : Expr} {nm : Str} {env : Env} (h : notNoArgCall e = true) : attributeBase e nm env (eval e env) = eval e env := by
  by_cases q : ∃ id p pos, e = .Call (.Name id p) [] [] pos
  · obtain ⟨id, p, pos, rfl⟩ := q
    have h1 : id ≠ ("super" : Str) := of_decide_eq_true h
    exact L2.abase_call (bne_iff_ne.mpr h1)
  · unfold attributeBase
    split
    · rename_i id p pos
      exact absurd ⟨_, _, _, rfl⟩ q
    · rfl
theorem set_ok {e : Expr} {env : Env} (h : notSetE e = true) : ∀ x, foldedSetIterable e env x = pure x := by
  intro x
  unfold foldedSetIterable
  split
  · cases h
  · rfl
theorem con_ok {d : D} {k : Const} {j : Nat} {pos : Pos} {M : Nm} {Z : Sx} (h : conB d k = true) : PE X (.Constant k j pos) (tW Z X.K false (.con d)) := by
  unfold conB at h
  split at h
  · exact snd_con pe_non trivial
  · exact snd_con (by rw [of_decide_eq_true h]; exact pe_bl) trivial
  · exact snd_con (by rw [of_decide_eq_true h]; exact pe_int) trivial
  · exact snd_con (by rw [of_decide_eq_true h]; exact pe_str) trivial
  · cases h
theorem star_of {es : List Expr} {M : Nm} : ∀ {l : IL}, ckL N M sc l es = true → es.all notStar = true := by
  intro l
  induction es generalizing l with
  | nil => intro _; rfl
  | cons e es ih =>
    intro h
    cases l with
    | nil => unfold ckL at h; cases h
    | cons a l =>
      unfold ckL at h
      simp only [Bool.and_eq_true] at h
      rw [List.all_cons, h.1.1, ih h.2]; rfl
theorem takesN {X : Cx} : Takes X (fun _ _ _ _ => False) := fun _ _ x => by
  obtain ⟨a, B, sI, pins, σ, H, cls, d, e, I, nb, up, sky, na, os, ag, w⟩ := x
  exact w.elim
theorem GOk.blk {M : Nm} {Z : Sx} (G : GOk X M Z) (s : Shared) (H : Hp) (scope : Scope) (cenv : Env) (fp : List Addr) : GOk (X.blk s H scope cenv fp) M Z.mute :=
  ⟨G.calm, G.gd, G.rm, G.nd, takesN, fun f h => ⟨(G.fn f h).ex⟩, G.gl, G.prim, G.rng, G.enm, G.zp, G.isi, G.ty, G.cl⟩
end
/-! in a test every value is a truth value -/
section
variable {C : Ctx}
theorem Qt_bl (Q : QK) : Qt true (fun d o s c => (∃ k, d = .bl k) ∧ Q d o s c) = Qt true Q := by
  funext d o s c
  exact propext ⟨fun ⟨k, h, _, q⟩ => ⟨k, h, q⟩, fun ⟨k, h, q⟩ => ⟨k, h, ⟨k, rfl⟩, q⟩⟩
theorem bl_and (Q : QK) (k : Bool) (o : Bool) (s : List Sl) (c : Cl) : ((∃ k', D.bl k = .bl k') ∧ Q (.bl k) o s c) = Q (.bl k) o s c := propext ⟨fun h => h.2, fun h => ⟨⟨k, rfl⟩, h⟩⟩
mutual
theorem test_bl : ∀ (e : IE) (s : List Sl) (c : Cl) (Q : QK) (E : EK), okT e = true → wpE C true e s c (fun d o s c => (∃ k, d = .bl k) ∧ Q d o s c) E = wpE C true e s c Q E
  | .var i, s, c, Q, E, _ => by unfold wpE; rw [Qt_bl]
  | .con d, s, c, Q, E, _ => by unfold wpE; rw [Qt_bl]
  | .glob i, s, c, Q, E, _ => by unfold wpE; rw [Qt_bl]
  | .bin op a b, s, c, Q, E, _ => by unfold wpE; rw [Qt_bl]
  | .un op a, s, c, Q, E, _ => by unfold wpE; rw [Qt_bl]
  | .cmp op a b, s, c, Q, E, _ => by unfold wpE; simp only [bl_and]
  | .chain op op' a b e, s, c, Q, E, _ => by unfold wpE; simp only [bl_and]
  | .bool a l, s, c, Q, E, h => by unfold wpE; unfold okT at h; exact testB_bl a l s c Q E h
  | .not a, s, c, Q, E, h => by unfold wpE; simp only [bl_and]
  | .ite a b e, s, c, Q, E, h => by unfold okT at h; cases h
  | .tup l, s, c, Q, E, _ => by unfold wpE; rw [Qt_bl]
  | .lst l, s, c, Q, E, _ => by unfold wpE; rw [Qt_bl]
  | .idx a b, s, c, Q, E, _ => by unfold wpE; rw [Qt_bl]
  | .slc a l h, s, c, Q, E, _ => by unfold wpE; rw [Qt_bl]
  | .call f l, s, c, Q, E, _ => by unfold wpE; rw [Qt_bl]
  | .prim f l, s, c, Q, E, _ => by unfold wpE; rw [Qt_bl]
  | .isi a T, s, c, Q, E, _ => by unfold wpE; rw [Qt_bl]
  | .meth m o l, s, c, Q, E, _ => by unfold wpE; rw [Qt_bl]
  | .methv m o l, s, c, Q, E, _ => by unfold wpE; rw [Qt_bl]
  | .comp own t src ifs elt, s, c, Q, E, _ => by unfold wpE; rw [Qt_bl]
  | .op g l, s, c, Q, E, _ => by unfold wpE; rw [Qt_bl]
  | .fstr l, s, c, Q, E, _ => by unfold wpE; rw [Qt_bl]
  | .mkv k i n ks pl l, s, c, Q, E, _ => by unfold wpE; rw [Qt_bl]
  | .disp tp st l, s, c, Q, E, _ => by unfold wpE; rw [Qt_bl]
  | .methc m o l, s, c, Q, E, _ => by unfold wpE; rw [Qt_bl]
  | .dlit cb l, s, c, Q, E, _ => by unfold wpE; rw [Qt_bl]
  | .dcomp own t src ifs ek ev, s, c, Q, E, _ => by unfold wpE; rw [Qt_bl]
  | .calli n ks pl f l, s, c, Q, E, _ => by unfold wpE; rw [Qt_bl]
  | .mcall m n ks pl o l, s, c, Q, E, _ => by unfold wpE; rw [Qt_bl]
theorem testB_bl : ∀ (a : Bool) (l : IL) (s : List Sl) (c : Cl) (Q : QK) (E : EK), okTL l = true → wpB C true a l s c (fun d o s c => (∃ k, d = .bl k) ∧ Q d o s c) E = wpB C true a l s c Q E
  | a, .nil, s, c, Q, E, _ => by unfold wpB; rfl
  | a, .cons e .nil, s, c, Q, E, h => by
    unfold okTL at h
    simp only [Bool.and_eq_true] at h
    unfold wpB
    exact test_bl e s c Q E h.1
  | a, .cons e (.cons e' l), s, c, Q, E, h => by
    unfold okTL at h
    simp only [Bool.and_eq_true] at h
    unfold wpB
    rw [← test_bl e s c _ E h.1]
    refine Eq.trans ?_ (test_bl e s c _ E h.1)
    congr 1
    funext d o s1 c1
    refine propext ⟨fun ⟨⟨k, e1⟩, k2, e2, q⟩ => ?_, fun ⟨⟨k, e1⟩, k2, e2, q⟩ => ?_⟩
    · subst e1
      refine ⟨⟨k, rfl⟩, k2, e2, ?_⟩
      cases hk : (k2 == a) with
      | true =>
        rw [hk] at q
        have q' : wpB C true a (.cons e' l) s1 c1 _ E := q
        rw [testB_bl a (.cons e' l) s1 c1 Q E h.2] at q'
        exact q'
      | false =>
        rw [hk] at q
        exact q.2
    · subst e1
      refine ⟨⟨k, rfl⟩, k2, e2, ?_⟩
      cases hk : (k2 == a) with
      | true =>
        rw [hk] at q
        have q' : wpB C true a (.cons e' l) s1 c1 Q E := q
        rw [← testB_bl a (.cons e' l) s1 c1 Q E h.2] at q'
        exact q'
      | false =>
        rw [hk] at q
        exact ⟨⟨k, rfl⟩, q⟩
end
end
end Vm

/-! Vm: a checked expression is served -/
namespace Vm
open PySem PySem.Spec L2
open PyProof.Rows hiding St
section
variable {M : Nm}
theorem ckT_ok (cl : Bool) : ∀ (t : Tg) {X : Cx} {e : Expr}, X.calm = true → X.N.Nodup → (cl = true → ∀ x, X.fn x = true) → ckT cl X.N X.env.scope t e = true → PG X e (gOf X.K t) := by
  intro t
  refine Tg.rec (motive_1 := fun t => ∀ {X : Cx} {e : Expr}, X.calm = true → X.N.Nodup → (cl = true → ∀ x, X.fn x = true) → ckT cl X.N X.env.scope t e = true → PG X e (gOf X.K t))
    (motive_2 := fun l => ∀ {X : Cx} {es : List Expr}, X.calm = true → X.N.Nodup → (cl = true → ∀ x, X.fn x = true) → ckTs cl X.N X.env.scope l es = true → PGs X es (gsOf X.K l) ∧ (assignEach es X.env).length = lenT l ∧ (assignEach es X.env).findIdx? (·.1) = none) ?_ ?_ ?_ ?_ t
  · intro i X e hc hN hf h
    unfold ckT at h
    split at h
    · rename_i x p
      simp only [Bool.and_eq_true, Bool.or_eq_true] at h
      rcases h.2 with h2 | ⟨h2, h3⟩
      · exact pg_name hN (of_decide_eq_true h.1) (.inl (ownB_ok h2)) (.inr (ownB_ok h2))
      · exact pg_name hN (of_decide_eq_true h.1) (locB_ok h3) (.inl (hf h2 x))
    · cases h
  · intro l ih X e hc hN hf h
    unfold ckT at h
    split at h
    · obtain ⟨h1, h2, h3⟩ := ih hc hN hf h
      exact pg_tupA hc h1 h2 h3
    · cases h
  · intro X es hc hN hf h
    unfold ckTs at h
    cases es with
    | nil => exact ⟨pgs_nil, rfl, rfl⟩
    | cons _ _ => cases h
  · intro t l ih1 ih2 X es hc hN hf h
    unfold ckTs at h
    cases es with
    | nil => cases h
    | cons e es =>
      simp only [Bool.and_eq_true] at h
      obtain ⟨⟨h1, h2⟩, h3⟩ := h
      obtain ⟨g1, g2, g3⟩ := ih2 hc hN hf h3
      have ea : assignEach (e :: es) X.env = (false, assign e X.env) :: assignEach es X.env := by
        cases e <;> first | rfl | cases h1
      refine ⟨pgs_cons (ih1 hc hN hf h2) g1 (by rw [ea]; rfl), by rw [ea, List.length_cons, g2]; rfl, ?_⟩
      rw [ea, List.findIdx?_cons, g3]; rfl
/-- an expression that is tested by its value -/
def plainT : Expr → Bool
  | .UnaryOp .Not _ _ => false
  | .BoolOp _ _ _ => false
  | .IfExp _ _ _ _ => false
  | .Compare _ _ _ _ => false
  | _ => true
theorem plain_ok {e : Expr} {env : Env} (h : plainT e = true) : ∀ whole, isTrue e env whole = (do let v ← whole; standAt e.pos; holding [v] (truthy v)) := by
  intro whole
  cases e with
  | UnaryOp op a p => cases op <;> first | rfl | cases h
  | BoolOp _ _ _ => cases h
  | IfExp _ _ _ _ => cases h
  | Compare _ _ _ _ => cases h
  | _ => rfl
theorem both {X : Cx} {Z : Sx} {ie : IE} {e : Expr} (hp : plainT e = true) (hq : ∀ s c Q E, wpE Z.C true ie s c Q E → wpE Z.C false ie s c (Qt true Q) E) (h : PE X e (tW Z X.K false ie)) :
    PE X e (tW Z X.K false ie) ∧ (okT ie = true → PT X e (tWT Z X.K ie)) := ⟨h, fun _ => snd_test hq h (plain_ok hp)⟩
theorem attr_ok {X : Cx} {b : Bool} (x : Str) (p : Pos) (nm : Str) : attributeBase (.Name x p) nm X.env (eval (.Name x p) X.env) = eval (.Name x p) X.env := base_ok rfl
theorem if_some {α : Type} {b : Bool} {x y : α} (h : (if b = true then some x else none) = some y) : b = true ∧ x = y := by
  cases b with
  | true => rw [if_pos rfl] at h; exact ⟨rfl, Option.some.inj h⟩
  | false => rw [if_neg Bool.false_ne_true] at h; cases h
theorem snd_op {X : Cx} {Z : Sx} {g : Gn} {l : IL} {e : Expr} {es : List Expr} (G : GOk X M Z) (h : opSh X.N M X.env.scope g e = some es) (p : PEs X Z es l) : PE X e (tW Z X.K false (.op g l)) ∧ PT X e (tWT Z X.K (.op g l)) := by
  have bt : plainT e = true → PE X e (tW Z X.K false (.op g l)) → PE X e (tW Z X.K false (.op g l)) ∧ PT X e (tWT Z X.K (.op g l)) := fun hp hh =>
    ⟨hh, snd_test (fun s c Q E w => by unfold wpE at w ⊢; exact w) hh (plain_ok hp)⟩
  unfold opSh at h
  split at h
  · obtain ⟨h1, rfl⟩ := if_some h
    simp only [Bool.and_eq_true] at h1
    obtain ⟨a, rfl, ha, _⟩ := p.one
    exact bt rfl (snd_fld G ha (of_decide_eq_true h1.1) (base_ok h1.2))
  · obtain ⟨h1, rfl⟩ := if_some h
    simp only [Bool.and_eq_true] at h1
    obtain ⟨a, rfl, ha, _⟩ := p.one
    exact bt rfl (snd_prp G ha (of_decide_eq_true h1.1) (base_ok h1.2))
  · obtain ⟨h1, rfl⟩ := if_some h
    simp only [Bool.and_eq_true] at h1
    obtain ⟨⟨⟨⟨g1, g2⟩, g3⟩, g4⟩, g5⟩ := h1
    obtain ⟨p1, p2⟩ := p.split
    have ln := p.len
    have en := of_decide_eq_true g4
    subst en
    exact bt rfl (snd_callp G p1.pa p2.pk p1.star (glB_ok g2) (of_decide_eq_true g1) (dbgB_ok g3).1 (of_decide_eq_true g5) (by rw [ln, List.length_append]; omega) (fun e0 => by rw [e0]; rfl))
  · obtain ⟨h1, rfl⟩ := if_some h
    simp only [Bool.and_eq_true] at h1
    obtain ⟨⟨⟨⟨g1, g2⟩, g3⟩, g4⟩, g5⟩ := h1
    obtain ⟨p1, p2⟩ := p.split
    have ln := p.len
    have en := of_decide_eq_true g4
    subst en
    exact bt rfl (snd_mk G p1.pa p2.pk p1.star (glB_ok g2) (of_decide_eq_true g1) (dbgB_ok g3).1 (of_decide_eq_true g5) (by rw [ln, List.length_append]; omega) (fun e0 => by rw [e0]; rfl)).1
  · obtain ⟨h1, rfl⟩ := if_some h
    simp only [Bool.and_eq_true] at h1
    obtain ⟨⟨⟨⟨g1, g2⟩, g3⟩, g4⟩, g5⟩ := h1
    obtain ⟨p1, p2⟩ := p.split
    have ln := p.len
    have en := of_decide_eq_true g4
    subst en
    exact bt rfl (snd_mk G p1.pa p2.pk p1.star (glB_ok g2) (of_decide_eq_true g1) (dbgB_ok g3).1 (of_decide_eq_true g5) (by rw [ln, List.length_append]; omega) (fun e0 => by rw [e0]; rfl)).2
  · cases h
    obtain ⟨a, rfl, ha, _⟩ := p.one
    exact bt rfl (snd_rev ha)
  · obtain ⟨h1, rfl⟩ := if_some h
    simp only [Bool.and_eq_true] at h1
    obtain ⟨⟨⟨⟨⟨⟨⟨g1, g2⟩, g3⟩, g4⟩, g5⟩, g6⟩, g7⟩, g8⟩ := h1
    obtain ⟨p1, p2⟩ := p.split
    have ln := p.len
    have en := of_decide_eq_true g7
    subst en
    exact bt rfl (snd_cm G p1.pa p2.pk (glB_ok g2) (of_decide_eq_true g1) (dbgB_ok g3).1 g5 p1.star (of_decide_eq_true g6) (of_decide_eq_true g4) (of_decide_eq_true g8) (by rw [ln, List.length_append]; omega) (fun e0 => by rw [e0]; rfl))
  · obtain ⟨h1, rfl⟩ := if_some h
    simp only [Bool.and_eq_true] at h1
    obtain ⟨a, b, rfl, ha, hb⟩ := p.two
    cases of_decide_eq_true h1.1
    exact bt rfl (snd_binI G ha hb (of_decide_eq_true h1.2))
  · obtain ⟨h1, rfl⟩ := if_some h
    simp only [Bool.and_eq_true] at h1
    obtain ⟨a, rfl, ha, _⟩ := p.one
    cases of_decide_eq_true h1.1
    have ho := of_decide_eq_true h1.2
    exact bt (by rcases ho with rfl | rfl <;> rfl) (snd_unI G ho ha)
  · obtain ⟨h1, rfl⟩ := if_some h
    obtain ⟨a, rfl, ha, _⟩ := p.one
    cases of_decide_eq_true h1
    exact bt rfl (snd_fmt ha)
  · obtain ⟨h1, rfl⟩ := if_some h
    obtain ⟨a, b, rfl, ha, hb⟩ := p.two
    have hm := (Bool.not_eq_true' _).mp h1
    exact ⟨snd_eqI G ha hb hm, cmp2T rfl ha hb hm (cmpW_eq G)⟩
  · obtain ⟨h1, rfl⟩ := if_some h
    obtain ⟨a, b, rfl, ha, hb⟩ := p.two
    have hm := (Bool.not_eq_true' _).mp h1
    exact ⟨snd_eqR G ha hb hm, cmp2T rfl ha hb hm (cmpW_eqR G)⟩
  · obtain ⟨h1, rfl⟩ := if_some h
    obtain ⟨a, b, rfl, ha, hb⟩ := p.two
    have hm := (Bool.not_eq_true' _).mp h1
    exact ⟨cmp2 ha hb hm (cmpW_eqT G), cmp2T rfl ha hb hm (cmpW_eqT G)⟩
  · obtain ⟨h1, rfl⟩ := if_some h
    obtain ⟨a, b, rfl, ha, hb⟩ := p.two
    have hm := (Bool.not_eq_true' _).mp h1
    exact ⟨snd_neI G ha hb hm, cmp2T rfl ha hb hm (cmpW_ne G)⟩
  · obtain ⟨h1, rfl⟩ := if_some h
    simp only [Bool.and_eq_true] at h1
    obtain ⟨⟨⟨⟨g1, g2⟩, g3⟩, g4⟩, g5⟩ := h1
    obtain ⟨a, rfl, ha, hs⟩ := p.one
    have e1 := of_decide_eq_true g1
    have e2 := of_decide_eq_true g2
    subst e1 e2
    exact bt rfl (snd_isc G ha (glB_ok g3) (glB_ok g4) hs (dbgB_ok g5).1)
  · obtain ⟨h1, rfl⟩ := if_some h
    simp only [Bool.and_eq_true] at h1
    obtain ⟨a, rfl, ha, hs⟩ := p.one
    have e1 := of_decide_eq_true h1.1
    subst e1
    exact bt rfl (snd_boolI G ha (glB_ok h1.2) hs)
  · obtain ⟨h1, rfl⟩ := if_some h
    simp only [Bool.and_eq_true] at h1
    obtain ⟨a, rfl, ha, hs⟩ := p.one
    have e1 := of_decide_eq_true h1.1
    subst e1
    exact bt rfl (snd_lenI G ha (glB_ok h1.2) hs)
  · rename_i ea eb _
    obtain ⟨h1, rfl⟩ := if_some h
    obtain ⟨a, b, rfl, ha, hb⟩ := p.two
    refine bt rfl (snd_getI G ha hb fun o i => ?_)
    cases eb with
    | Slice q r t u => cases t with
      | none => cases h1
      | some t => rfl
    | _ => rfl
  · obtain ⟨h1, rfl⟩ := if_some h
    obtain ⟨a, b, rfl, ha, hb⟩ := p.two
    have hm := (Bool.not_eq_true' _).mp h1
    exact ⟨cmp2 ha hb hm (cmpW_inI G false), cmp2T rfl ha hb hm (cmpW_inI G false)⟩
  · obtain ⟨h1, rfl⟩ := if_some h
    obtain ⟨a, b, rfl, ha, hb⟩ := p.two
    have hm := (Bool.not_eq_true' _).mp h1
    exact ⟨cmp2 ha hb hm (cmpW_inI G true), cmp2T rfl ha hb hm (cmpW_inI G true)⟩
  · unfold srtSh at h
    split at h
    · obtain ⟨h1, rfl⟩ := if_some h
      simp only [Bool.and_eq_true, decide_eq_true_eq] at h1
      obtain ⟨rfl, g2, rfl, rfl, g5, g6, g7, g8, g9, ga, gb, gc, gd, ge, rfl, rfl⟩ := h1
      obtain ⟨a, rfl, ha, _⟩ := p.one
      have o1 := ownB_ok g9
      have o2 := ownB_ok ga
      exact bt rfl (snd_srt G ha (glB_ok g2) (of_decide_eq_true g5) (of_decide_eq_true g6) g7 (blkOk_by g8) (.inl o1) (.inl o2) o1 o2 (.inl o1) (.inl o2) (dbgB_ok gb).1 (dbgB_ok gb).2 (dbgB_ok gc).1 (dbgB_ok gc).2 gd fun env => set_ok ge)
    · cases h
  · obtain ⟨h1, rfl⟩ := if_some h
    obtain ⟨a, b, rfl, ha, hb⟩ := p.two
    exact bt rfl (snd_dget G ha hb (ixB_ok h1))
  · obtain ⟨h1, rfl⟩ := if_some h
    obtain ⟨a, b, rfl, ha, hb⟩ := p.two
    have hm := (Bool.not_eq_true' _).mp h1
    exact ⟨cmp2 ha hb hm (cmpW_din G), cmp2T rfl ha hb hm (cmpW_din G)⟩
  · obtain ⟨h1, rfl⟩ := if_some h
    obtain ⟨a, b, rfl, ha, hb⟩ := p.two
    have hm := (Bool.not_eq_true' _).mp h1
    exact ⟨cmp2 ha hb hm (cmpW_dni G), cmp2T rfl ha hb hm (cmpW_dni G)⟩
  · cases h
mutual
theorem sndE : ∀ (ie : IE) {X : Cx} {Z : Sx} {e : Expr}, GOk X M Z → ckE X.N M X.env.scope ie e = true → PE X e (tW Z X.K false ie) ∧ (okT ie = true → PT X e (tWT Z X.K ie))
  | .var i, X, Z, e, G, h => by
    unfold ckE at h
    split at h
    · rename_i x p
      simp only [Bool.and_eq_true] at h
      obtain ⟨d1, d2⟩ := dbgB_ok h.2
      exact both rfl (fun s c Q E w => by unfold wpE at w ⊢; exact w) (snd_var (of_decide_eq_true h.1.1) (visB_ok h.1.2) d1 d2)
    · cases h
  | .con d, X, Z, e, G, h => by
    unfold ckE at h
    split at h
    · exact both rfl (fun s c Q E w => by unfold wpE at w ⊢; exact w) (con_ok (M := M) h)
    · cases h
  | .glob i, X, Z, e, G, h => by
    unfold ckE at h
    split at h
    · simp only [Bool.and_eq_true] at h
      obtain ⟨d1, d2⟩ := dbgB_ok h.2
      exact both rfl (fun s c Q E w => by unfold wpE at w ⊢; exact w) (snd_glob G (glB_ok h.1.1) (of_decide_eq_true h.1.2) d1)
    · cases h
  | .bin op a b, X, Z, e, G, h => by
    unfold ckE at h
    split at h
    · simp only [Bool.and_eq_true] at h
      cases of_decide_eq_true h.1.1
      exact both rfl (fun s c Q E w => by unfold wpE at w ⊢; exact w) (snd_bin (sndE a G h.1.2).1 (sndE b G h.2).1)
    · cases h
  | .un op a, X, Z, e, G, h => by
    unfold ckE at h
    split at h
    · simp only [Bool.and_eq_true] at h
      cases of_decide_eq_true h.1.1
      have hn := of_decide_eq_true h.1.2
      exact both (by cases op <;> first | rfl | exact absurd rfl hn) (fun s c Q E w => by unfold wpE at w ⊢; exact w) (snd_un (sndE a G h.2).1)
    · cases h
  | .cmp op a b, X, Z, e, G, h => by
    unfold ckE at h
    split at h
    · simp only [Bool.and_eq_true, Bool.not_eq_true'] at h
      cases of_decide_eq_true h.1.1.1
      have z := snd_cmp (pos := by assumption) (op := op) G (sndE a G h.1.1.2).1 (sndE b G h.1.2).1 h.2
      exact ⟨z.1, fun _ => z.2⟩
    · cases h
  | .chain op op2 a b c, X, Z, e, G, h => by
    unfold ckE at h
    split at h
    · simp only [Bool.and_eq_true, Bool.not_eq_true'] at h
      obtain ⟨⟨⟨⟨⟨h1, h2⟩, h3⟩, h4⟩, h5⟩, h6⟩ := h
      cases of_decide_eq_true h1
      cases of_decide_eq_true h2
      have z := snd_chain (pos := by assumption) (op := op) (op' := op2) G (sndE a G h3).1 (sndE b G h4).1 (sndE c G h5).1 h6
      exact ⟨z.1, fun _ => z.2⟩
    · cases h
  | .bool a l, X, Z, e, G, h => by
    unfold ckE at h
    split at h
    · simp only [Bool.and_eq_true] at h
      cases of_decide_eq_true h.1.1
      have z := sndB (by assumption) a l G h.2 (by
        intro q
        rw [q] at h
        exact absurd h.1.2 (by decide))
      refine ⟨PE.imp z.1 fun sg H Q ⟨s, c, F, rh, Qm, Em, R, w, ok, x⟩ => ⟨s, c, F, rh, Qm, Em, R, by unfold wpE at w; exact w, ok, x⟩, fun k => PT.imp (z.2 (by unfold okT at k; exact k)).pt fun sg H Q ⟨s, c, F, rh, Qm, Em, R, w, ok, x⟩ => ⟨s, c, F, rh, Qm, Em, R, by unfold wpE at w; exact w, ok, x⟩⟩
    · cases h
  | .not a, X, Z, e, G, h => by
    unfold ckE at h
    split at h
    · simp only [Bool.and_eq_true] at h
      cases of_decide_eq_true h.1.1
      have z := sndE a G h.1.2
      exact ⟨snd_not z.1, fun _ => snd_notT (z.2 h.2) fun s c Q E w => by rw [test_bl a s c Q E h.2]; exact w⟩
    · cases h
  | .ite a b c, X, Z, e, G, h => by
    unfold ckE at h
    split at h
    · simp only [Bool.and_eq_true] at h
      exact ⟨snd_ite ((sndE a G h.1.1.1).2 h.1.1.2) (sndE b G h.1.2).1 (sndE c G h.2).1, fun k => by unfold okT at k; cases k⟩
    · cases h
  | .tup l, X, Z, e, G, h => by
    unfold ckE at h
    split at h
    · exact both rfl (fun s c Q E w => by unfold wpE at w ⊢; exact w) (snd_tup (sndLl l G h))
    · cases h
  | .lst l, X, Z, e, G, h => by
    unfold ckE at h
    split at h
    · exact both rfl (fun s c Q E w => by unfold wpE at w ⊢; exact w) (snd_lst (sndLl l G h))
    · cases h
  | .idx a b, X, Z, e, G, h => by
    unfold ckE at h
    split at h
    · simp only [Bool.and_eq_true] at h
      exact both rfl (fun s c Q E w => by unfold wpE at w ⊢; exact w) (snd_idx (sndE a G h.1.1).1 (sndE b G h.1.2).1 (ixB_ok h.2))
    · cases h
  | .slc a lo hi, X, Z, e, G, h => by
    unfold ckE at h
    split at h
    · simp only [Bool.and_eq_true] at h
      exact both rfl (fun s c Q E w => by unfold wpE at w ⊢; exact w) (snd_slc (sndE a G h.1.1).1 (sndOo lo G h.1.2) (sndOo hi G h.2))
    · cases h
  | .call f l, X, Z, e, G, h => by
    unfold ckE at h
    split at h
    · rename_i x p es pos
      simp only [Bool.and_eq_true] at h
      obtain ⟨⟨⟨h1, h2⟩, h3⟩, h4⟩ := h
      obtain ⟨d1, d2⟩ := dbgB_ok h3
      refine both rfl (fun s c Q E w => by unfold wpE at w ⊢; exact w) ?_
      have hl := sndLl (Z := Z) l G h4
      have st := star_of h4
      cases es with
      | nil =>
        cases l with
        | nil => exact snd_call0 G (glB_ok h2) (of_decide_eq_true h1) d1
        | cons _ _ => unfold ckL at h4; cases h4
      | cons e es =>
        rw [List.all_cons, Bool.and_eq_true] at st
        exact snd_call G hl (glB_ok h2) (of_decide_eq_true h1) d1 st.1 st.2
    · cases h
  | .prim pr l, X, Z, e, G, h => by
    unfold ckE at h
    split at h
    · rename_i x p es pos
      simp only [Bool.and_eq_true] at h
      obtain ⟨⟨⟨h1, h2⟩, h3⟩, h4⟩ := h
      refine both rfl (fun s c Q E w => by unfold wpE at w ⊢; exact w) ?_
      have hl := sndLl (Z := Z) l G h4
      have st := star_of h4
      have e1 := of_decide_eq_true h1
      subst e1
      cases es with
      | nil => exact absurd h3 (by decide)
      | cons e es =>
        rw [List.all_cons, Bool.and_eq_true] at st
        exact snd_prim G hl (glB_ok h2) st.1 st.2
    · cases h
  | .isi a T, X, Z, e, G, h => by
    unfold ckE at h
    split at h
    · rename_i x p ea y p2 pos
      simp only [Bool.and_eq_true] at h
      obtain ⟨⟨⟨⟨⟨⟨h1, h2⟩, h3⟩, h4⟩, h5⟩, h6⟩, h7⟩ := h
      have e1 := of_decide_eq_true h1
      have e2 := of_decide_eq_true h2
      have e3 := of_decide_eq_true h3
      subst e1 e2
      exact both rfl (fun s c Q E w => by unfold wpE at w ⊢; exact w) (snd_isi (p3 := p) G (sndE a G h7).1 e3 (G.ty T e3) (glB_ok h4) (glB_ok h5) h6)
    · cases h
  | .meth m o l, X, Z, e, G, h => by
    unfold ckE at h
    split at h
    · rename_i eo nm ap es cp
      simp only [Bool.and_eq_true] at h
      obtain ⟨⟨⟨⟨⟨h1, h2⟩, h3⟩, h4⟩, h5⟩, h6⟩ := h
      refine both rfl (fun s c Q E w => by unfold wpE at w ⊢; exact w) ?_
      have hl := sndLl (Z := Z) l G h6
      have st := star_of h6
      have hlen := of_decide_eq_true h4
      cases es with
      | nil =>
        cases l with
        | nil => exact snd_meth0 (sndE o G h5).1 (of_decide_eq_true h1) (base_ok h2) h3
        | cons _ _ => unfold ckL at h6; cases h6
      | cons e es =>
        rw [List.all_cons, Bool.and_eq_true] at st
        exact snd_meth (sndE o G h5).1 hl (of_decide_eq_true h1) (base_ok h2) h3 st.1 st.2 (by simp at hlen; omega)
    · cases h
  | .methv m i l, X, Z, e, G, h => by
    unfold ckE at h
    split at h
    · rename_i x p nm ap es cp
      simp only [Bool.and_eq_true] at h
      obtain ⟨⟨⟨⟨⟨⟨⟨h1, h2⟩, h3⟩, h4⟩, h5⟩, h6⟩, h7⟩, h8⟩ := h
      obtain ⟨d1, d2⟩ := dbgB_ok h4
      refine both rfl (fun s c Q E w => by unfold wpE at w ⊢; exact w) ?_
      have hl := sndLl (Z := Z) l G h8
      have st := star_of h8
      have hlen := of_decide_eq_true h6
      have hm : m = .append ∨ m = .extend ∨ m = .pop ∨ m = .clear ∨ m = .insert := by
        cases m <;> first | exact .inl rfl | exact .inr (.inl rfl) | exact .inr (.inr (.inl rfl)) | exact .inr (.inr (.inr (.inl rfl))) | exact .inr (.inr (.inr (.inr rfl))) | cases h7
      cases es with
      | nil =>
        cases l with
        | nil => exact snd_methv0 (of_decide_eq_true h1) (of_decide_eq_true h2) (visB_ok h3) d1 d2 h5
        | cons _ _ => unfold ckL at h8; cases h8
      | cons e es =>
        rw [List.all_cons, Bool.and_eq_true] at st
        exact snd_methv hl (of_decide_eq_true h1) (of_decide_eq_true h2) (visB_ok h3) d1 d2 h5 st.1 st.2 (by simp at hlen; omega) hm
    · cases h
  | .comp own t src ifs elt, X, Z, e, G, h => by
    unfold ckE at h
    split at h
    · rename_i ee tg iter ies a scope pos
      simp only [Bool.and_eq_true] at h
      obtain ⟨⟨⟨⟨⟨⟨⟨⟨⟨h0, h1⟩, h2⟩, h3⟩, h4⟩, h5⟩, h6⟩, h7⟩, h8⟩, h9⟩ := h
      cases of_decide_eq_true h0
      refine both rfl (fun s c Q E w => by unfold wpE at w ⊢; exact w) ?_
      exact snd_comp G (sndIi src G h4) (blkOk_by h1) (ownsOf_map _ _) (fun s H C cl fp => ckT_ok false t (X := X.blk s H scope (compEnvC scope cl C X.env) fp) G.calm G.nd (fun z => nomatch z) h5)
        (fun s H C cl fp => sndIf ifs (X := X.blk s H scope (compEnvC scope cl C X.env) fp) (G.blk s H scope _ fp) (of_decide_eq_true h6) h7 h8)
        (fun s H C cl fp => (sndE elt (X := X.blk s H scope (compEnvC scope cl C X.env) fp) (G.blk s H scope _ fp) h9).1) (set_ok h3) h2
    · cases h
  | .op g l, X, Z, e, G, h => by
    unfold ckE at h
    split at h
    · rename_i es hs
      have z := snd_op G hs (sndPs l G h)
      exact ⟨z.1, fun _ => z.2⟩
    · cases h
  | .fstr l, X, Z, e, G, h => by
    unfold ckE at h
    split at h
    · exact both rfl (fun s c Q E w => by unfold wpE at w ⊢; exact w) (snd_fstr (sndPs l G h))
    · cases h
  | .methc _ _ _, X, Z, e, G, h => by unfold ckE at h; cases h
  | .dlit _ _, X, Z, e, G, h => by unfold ckE at h; cases h
  | .dcomp _ _ _ _ _ _, X, Z, e, G, h => by unfold ckE at h; cases h
  | .calli _ _ _ _ _, X, Z, e, G, h => by unfold ckE at h; cases h
  | .disp tp st l, X, Z, e, G, h => by
    unfold ckE at h
    split at h
    · rename_i es k pos
      simp only [Bool.and_eq_true] at h
      obtain ⟨⟨h1, h2⟩, h3⟩ := h
      subst h1
      exact both rfl (fun s c Q E w => by unfold wpE at w ⊢; exact w) (snd_disp (tp := true) (k := k) (sndPs l G h3) (of_decide_eq_true h2))
    · rename_i es pos
      simp only [Bool.and_eq_true, Bool.not_eq_true'] at h
      obtain ⟨⟨h1, h2⟩, h3⟩ := h
      subst h1
      exact both rfl (fun s c Q E w => by unfold wpE at w ⊢; exact w) (snd_disp (tp := false) (k := 0) (sndPs l G h3) (of_decide_eq_true h2))
    · cases h
  | .mkv k i n ks pl l, X, Z, e, G, h => by
    unfold ckE at h
    split at h
    · rename_i x p es kws pos
      simp only [Bool.and_eq_true] at h
      obtain ⟨⟨⟨⟨⟨h1, h2⟩, h3⟩, h4⟩, h5⟩, h6⟩ := h
      have pp := sndPs (Z := Z) l G h6
      obtain ⟨p1, p2⟩ := pp.split
      have ln := pp.len
      have en := of_decide_eq_true h4
      subst en
      obtain ⟨d1, d2⟩ := dbgB_ok h3
      exact both rfl (fun s c Q E w => by unfold wpE at w ⊢; exact w) (snd_mkv G (of_decide_eq_true h1) (visB_ok h2) d1 d2 p1.pa p2.pk p1.star (of_decide_eq_true h5) (by rw [ln, List.length_append]; omega) (fun e0 => by rw [e0]; rfl))
    · cases h
  | .mcall m n ks pl o l, X, Z, e, G, h => by
    unfold ckE at h
    split at h
    · rename_i eo nm ap es kws cp
      simp only [Bool.and_eq_true] at h
      obtain ⟨⟨⟨⟨⟨⟨⟨⟨h1, h2⟩, h3⟩, h4⟩, h5⟩, h6⟩, h7⟩, h8⟩, h9⟩ := h
      have p := sndPs (Z := Z) l G h9
      obtain ⟨p1, p2⟩ := p.split
      have ln := p.len
      have en := of_decide_eq_true h6
      subst en
      exact both rfl (fun s c Q E w => by unfold wpE at w ⊢; exact w) (snd_mcall G (sndE o G h8).1 p1.pa p2.pk (base_ok h3) h4 p1.star (of_decide_eq_true h5) (of_decide_eq_true h1) (of_decide_eq_true h2) (of_decide_eq_true h7) (by rw [ln, List.length_append]; omega) (fun e0 => by rw [e0]; rfl))
    · cases h
theorem sndPs : ∀ (l : IL) {X : Cx} {Z : Sx} {es : List Expr}, GOk X M Z → ckL X.N M X.env.scope l es = true → PEs X Z es l
  | .nil, X, Z, es, G, h => by
    cases es with
    | nil => exact .nil
    | cons _ _ => unfold ckL at h; cases h
  | .cons a l, X, Z, es, G, h => by
    cases es with
    | nil => unfold ckL at h; cases h
    | cons e es =>
      unfold ckL at h
      simp only [Bool.and_eq_true] at h
      exact .cons h.1.1 (sndE a G h.1.2).1 (sndPs l G h.2)
theorem sndLl : ∀ (l : IL) {X : Cx} {Z : Sx} {es : List Expr}, GOk X M Z → ckL X.N M X.env.scope l es = true → PA X es (tWL Z X.K l)
  | .nil, X, Z, es, G, h => by
    cases es with
    | nil => exact sndL_nil
    | cons _ _ => unfold ckL at h; cases h
  | .cons a l, X, Z, es, G, h => by
    cases es with
    | nil => unfold ckL at h; cases h
    | cons e es =>
      unfold ckL at h
      simp only [Bool.and_eq_true] at h
      exact sndL_cons (sndE a G h.1.2).1 (sndLl l G h.2) h.1.1
theorem sndKk : ∀ (l : IL) {X : Cx} {Z : Sx} {kws : List Keyword}, GOk X M Z → ckL X.N M X.env.scope l (kws.map (·.value)) = true → PK X kws (tWL Z X.K l)
  | .nil, X, Z, es, G, h => by
    cases es with
    | nil => exact sndK_nil
    | cons _ _ => unfold ckL at h; cases h
  | .cons a l, X, Z, es, G, h => by
    cases es with
    | nil => unfold ckL at h; cases h
    | cons e es =>
      obtain ⟨nm, e, kp⟩ := e
      unfold ckL at h
      have h' : (notStar e && ckE X.N M X.env.scope a e && ckL X.N M X.env.scope l (es.map (·.value))) = true := h
      simp only [Bool.and_eq_true] at h'
      exact sndK_cons (sndE a G h'.1.2).1 (sndKk l G h'.2)
theorem sndB (pos : Pos) (isAnd : Bool) : ∀ (l : IL) {X : Cx} {Z : Sx} {es : List Expr}, GOk X M Z → ckL X.N M X.env.scope l es = true → es ≠ [] → PE X (.BoolOp (boolOpOf isAnd) es pos) (tWB Z X.K false isAnd l) ∧ (okTL l = true → PW X (.BoolOp (boolOpOf isAnd) es pos) (tWBT Z X.K isAnd l))
  | .nil, X, Z, es, G, h, hn => by
    cases es with
    | nil => exact absurd rfl hn
    | cons _ _ => unfold ckL at h; cases h
  | .cons a .nil, X, Z, es, G, h, hn => by
    cases es with
    | nil => exact absurd rfl hn
    | cons e es =>
      cases es with
      | cons _ _ => unfold ckL at h; unfold ckL at h; simp at h
      | nil =>
        unfold ckL at h
        simp only [Bool.and_eq_true] at h
        have z := sndE a (Z := Z) G h.1.2
        exact ⟨sndB_one z.1, fun k => by
          unfold okTL at k
          simp only [Bool.and_eq_true] at k
          exact sndBT_one (z.2 k.1)⟩
  | .cons a (.cons a' l), X, Z, es, G, h, hn => by
    cases es with
    | nil => exact absurd rfl hn
    | cons e es =>
      cases es with
      | nil => unfold ckL at h; unfold ckL at h; simp at h
      | cons e' es =>
        unfold ckL at h
        simp only [Bool.and_eq_true] at h
        have z := sndE a (Z := Z) G h.1.2
        have zl := sndB pos isAnd (.cons a' l) (Z := Z) G h.2 (by simp)
        refine ⟨sndB_cons z.1 zl.1, fun k => ?_⟩
        unfold okTL at k
        simp only [Bool.and_eq_true] at k
        exact sndBT_cons (z.2 k.1) (zl.2 k.2) fun s c Q E w => by rw [test_bl a s c Q E k.1]; exact w
theorem sndIf : ∀ (l : IL) {X : Cx} {Z : Sx} {es : List Expr}, GOk X M Z → es.length < 2 → okTL l = true → ckL X.N M X.env.scope l es = true → PTs X es (tWIf Z X.K l)
  | .nil, X, Z, es, G, hl, k, h => by
    cases es with
    | nil => exact sndIf_nil
    | cons _ _ => unfold ckL at h; cases h
  | .cons a l, X, Z, es, G, hl, k, h => by
    cases es with
    | nil => unfold ckL at h; cases h
    | cons e es =>
      cases es with
      | cons _ _ => simp only [List.length_cons] at hl; omega
      | nil =>
        unfold ckL at h
        simp only [Bool.and_eq_true] at h
        unfold okTL at k
        simp only [Bool.and_eq_true] at k
        cases l with
        | cons _ _ => unfold ckL at h; exact absurd h.2 (by simp)
        | nil => exact sndIf_one ((sndE a G h.1.2).2 k.1)
theorem sndOo : ∀ (o : IO) {X : Cx} {Z : Sx} {e : Option Expr}, GOk X M Z → ckO X.N M X.env.scope o e = true → PO X e (tWO Z X.K o)
  | .no, X, Z, e, G, h => by
    cases e with
    | none => exact sndO_no
    | some _ => unfold ckO at h; cases h
  | .so a, X, Z, e, G, h => by
    cases e with
    | none => unfold ckO at h; cases h
    | some e => unfold ckO at h; exact sndO_so (sndE a G h).1
theorem sndIi : ∀ (t : IT) {X : Cx} {Z : Sx} {tg e : Expr}, GOk X M Z → ckI X.N M X.env.scope t tg e = true → PI X tg e (tWI Z X.K t)
  | .val a, X, Z, tg, e, G, h => by unfold ckI at h; exact sndI_val (sndE a G h).1
  | .range1 a, X, Z, tg, e, G, h => by
    unfold ckI at h
    split at h
    · simp only [Bool.and_eq_true] at h
      obtain ⟨⟨⟨h1, h2⟩, h3⟩, h4⟩ := h
      have e1 := of_decide_eq_true h1
      subst e1
      exact sndI_range1 G (sndE a G h4).1 (glB_ok h2) h3
    · cases h
  | .range2 a b, X, Z, tg, e, G, h => by
    unfold ckI at h
    split at h
    · simp only [Bool.and_eq_true] at h
      obtain ⟨⟨⟨⟨⟨h1, h2⟩, h3⟩, h4⟩, h5⟩, h6⟩ := h
      have e1 := of_decide_eq_true h1
      subst e1
      exact sndI_range2 G (sndE a G h5).1 (sndE b G h6).1 (glB_ok h2) h3 h4
    · cases h
  | .range3 a b d, X, Z, tg, e, G, h => by
    unfold ckI at h
    split at h
    · simp only [Bool.and_eq_true] at h
      obtain ⟨⟨⟨⟨⟨⟨⟨h1, h2⟩, h3⟩, h4⟩, h5⟩, h6⟩, h7⟩, h8⟩ := h
      have e1 := of_decide_eq_true h1
      subst e1
      exact sndI_range3 G (sndE a G h6).1 (sndE b G h7).1 (sndE d G h8).1 (glB_ok h2) h3 h4 h5
    · cases h
  | .enum a, X, Z, tg, e, G, h => by
    unfold ckI at h
    split at h
    · simp only [Bool.and_eq_true] at h
      obtain ⟨⟨⟨⟨h1, h2⟩, h3⟩, h4⟩, h5⟩ := h
      have e1 := of_decide_eq_true h1
      subst e1
      split at h4
      · exact sndI_enum G (sndE a G h5).1 (glB_ok h2) h3
      · cases h4
    · cases h
  | .zip a b, X, Z, tg, e, G, h => by unfold ckI at h; cases h
  | .items a, X, Z, tg, e, G, h => by unfold ckI at h; cases h
end
end
end Vm

/-! Vm: raise and try are sound -/
namespace Vm
open PySem PySem.Spec L2
open PyProof.Rows hiding St
/-- a def's own frame -/
def DefX (X : Cx) : Prop := (∀ x, X.fn x = true) ∧ X.stack = X.env :: X.outer ∧ X.env.frame = some X.env.locals
section
variable {X : Cx} {M : Nm} {Z : Sx} {H H1 : Hp} {F F1 : Fz} {rh rh1 : List Addr} {sh sh1 : L2.St} {s s1 : List Sl} {c c1 : Cl} {pos p p2 : Pos} {il : IL}
theorem GOk.tr (G : GOk X M Z) (pn : List (Addr × Obj)) (xe : Value → Shared → Prop) {W : WX} (tk : Takes (X.tr pn xe) W) : GOk (X.tr pn xe) M { Z with W := W } :=
  ⟨G.calm, G.gd, G.rm, G.nd, tk, fun f h => ⟨(G.fn f h).ex⟩, G.gl, G.prim, G.rng, G.enm, G.zp, G.isi, G.ty, G.cl⟩
/-- an exception's dict is laid and stays -/
theorem raise_use {K : PySem.W.Frag} {H0 : Hp} {d : Addr} {fs : List (Str × V)} (R : Rl K H0 H F rh sh s c) (hd : H d = none) : Rl K H0 (upd H d (.xd fs)) (addF F d) rh sh s c ∧ Ev H F rh (Owned sh s) (upd H d (.xd fs)) (addF F d) rh (Owned sh s) := by
  have g := R.free hd
  have e1 : Ev H F rh (Owned sh s) (upd H d (.xd fs)) F rh (Owned sh s) := ev_new hd R.ft
  refine ⟨(R.laid hd).freeze upd_same g.2.1 g.2.2, ⟨e1.toExt.trans ext_addF, e1.mono, fun a u g1 g2 g3 g4 => ?_⟩⟩
  obtain ⟨k1, k2, k3, k4⟩ := e1.priv a u g1 g2 g3 g4
  refine ⟨k1, fun z => ?_, k3, k4⟩
  rcases z with z | z
  · exact k2 z
  · subst z; rw [hd] at g1; cases g1
theorem xi_none {K : PySem.W.Frag} {k : Nat} : (ex0 k = true ∧ ex0 k = false) → False := fun ⟨a, b⟩ => by rw [a] at b; cases b
theorem snd_raise1 {k : Nat} {x : Str} {e : Expr} (G : GOk X M Z) (h0 : ex0 k = false) (hx : x = clsN k) (hg : Gl X x) (hd : (x == ("__debug__" : Str)) = false) (hl : PA X [e] (tWL Z X.K il)) (hs : [e].all notStar = true) :
    PS X (.Raise (some (.Call (.Name x p) [e] [] p2)) none pos) (tWS Z X.K (.raise_ k il)) := by
  by_cases hX : Z.C.hasX k = true
  · obtain ⟨T, ⟨fd, sh⟩, hno, hm, hk⟩ := G.cl.exc k hX
    obtain ⟨r, hr⟩ := G.rm
    rcases sh with ⟨z, _⟩ | ⟨_, TX⟩
    · rw [h0] at z; cases z
    subst hx
    refine PS.imp (ps_raise G.calm G.tk (pmk_x1 T TX hno (at_self hk).1 (at_self hk).2 hr hl hg hm hd (star_one (by simpa using hs)) rfl)) fun D sg H ⟨s, c, F, rh, N, Em, R, w, ok, x⟩ => ?_
    unfold wpS at w
    refine tWL.mk R w.2 x.x fun ds s1 c1 vs H1 F1 rh1 q R1 e1 x1 r1 => ?_
    obtain ⟨fs, q1, q2⟩ := q
    unfold exF at q1
    rw [h0] at q1
    match ds, q1 with
    | [d], q1 =>
      simp only [Bool.false_eq_true, if_false, Option.some.injEq] at q1
      subst q1
      match vs, r1 with
      | [v], .cons rv .nil =>
        refine ⟨v, rfl, fun a ha => ?_⟩
        obtain ⟨R2, e2⟩ := raise_use (fs := [(atN (exA k), v)]) R1 ha
        refine x ⟨k, [(exA k, d)]⟩ s1 c1 _ _ sg _ _ _ q2 R2 (e1.trans e2) ⟨rfl, .inr ⟨a, _, rfl, .inr rfl, upd_same, fun n y z => ?_⟩⟩
        have en : n = exA k ∧ y = d := by
          by_cases h : n = exA k
          · subst h
            simp [List.lookup] at z
            exact ⟨rfl, z.symm⟩
          · simp [List.lookup, beq_eq_false_iff_ne.mpr h] at z
        obtain ⟨rfl, rfl⟩ := en
        exact ⟨rfl, v, by simp [List.lookup], rv.ext e2.toExt⟩
  · exact ⟨fun ps st sg H T I ⟨s, c, F, rh, N, Em, R, w, ok, x⟩ => by
      unfold wpS at w
      exact absurd w.1 hX⟩
theorem snd_raise0 {k : Nat} {x : Str} (G : GOk X M Z) (h0 : ex0 k = true) (hx : x = clsN k) (hg : Gl X x) (hd : (x == ("__debug__" : Str)) = false) : PS X (.Raise (some (.Call (.Name x p) [] [] p2)) none pos) (tWS Z X.K (.raise_ k .nil)) := by
  by_cases hX : Z.C.hasX k = true
  · obtain ⟨T, ⟨fd, sh⟩, hno, hm, hk⟩ := G.cl.exc k hX
    obtain ⟨r, hr⟩ := G.rm
    rcases sh with ⟨_, z, j, TX⟩ | ⟨z, _⟩
    · subst hx
      refine PS.imp (ps_raise G.calm G.tk (pmk_x0 T TX hno hr hg hm hd)) fun D sg H ⟨s, c, F, rh, N, Em, R, w, ok, x⟩ => ?_
      unfold wpS at w
      obtain ⟨_, w⟩ := w
      unfold wpL at w
      obtain ⟨fs, q1, q2⟩ := w
      unfold exF at q1
      rw [h0] at q1
      simp only [if_true, Option.some.injEq] at q1
      subst q1
      intro a ha
      obtain ⟨R2, e2⟩ := raise_use (fs := [(atN (exA k), .str z)]) R ha
      exact x ⟨k, []⟩ s c _ _ sg _ _ _ q2 R2 e2 ⟨rfl, .inl rfl⟩
    · rw [h0] at z; cases z
  · exact ⟨fun ps st sg H T I ⟨s, c, F, rh, N, Em, R, w, ok, x⟩ => by
      unfold wpS at w
      exact absurd w.1 hX⟩
/-! ### an instance in a test -/
theorem snd_ifI {a : Expr} {ia : IE} {p q : List Stmt} {la lb : ISs} (G : GOk X M Z) (ha : PE X a (tW Z X.K false ia)) (hp : plainT a = true) (h1 : PSs X p (tWSs Z X.K la)) (h2 : PSs X q (tWSs Z X.K lb)) : PS X (.If a p q pos) (tWS Z X.K (.ifI false ia la lb)) :=
  PS.imp (ps_if (pt_truI G ha (plain_ok hp)) h1 h2) fun T sg H ⟨s, c, F, rh, N, Em, R, w, ok, x⟩ => by
    unfold wpS at w
    refine ⟨s, c, F, rh, _, Em, R, w, fun b s' c' H' F' rh' q R' e' => ?_, x.x⟩
    cases b with
    | true => exact ⟨s', c', F', rh', N, Em, R', q, ok.step e', x.step e'⟩
    | false => exact ⟨s', c', F', rh', N, Em, R', q, ok.step e', x.step e'⟩
theorem snd_ifIn {a : Expr} {ia : IE} {p q : List Stmt} {la lb : ISs} {pos2 : Pos} (G : GOk X M Z) (ha : PE X a (tW Z X.K false ia)) (hp : plainT a = true) (h1 : PSs X p (tWSs Z X.K la)) (h2 : PSs X q (tWSs Z X.K lb)) : PS X (.If (.UnaryOp .Not a pos2) p q pos) (tWS Z X.K (.ifI true ia la lb)) :=
  PS.imp (ps_if (pt_not (pt_truI G ha (plain_ok hp))) h1 h2) fun T sg H ⟨s, c, F, rh, N, Em, R, w, ok, x⟩ => by
    unfold wpS at w
    refine ⟨s, c, F, rh, _, Em, R, w, fun b s' c' H' F' rh' q R' e' => ?_, x.x⟩
    cases b with
    | true => exact ⟨s', c', F', rh', N, Em, R', q, ok.step e', x.step e'⟩
    | false => exact ⟨s', c', F', rh', N, Em, R', q, ok.step e', x.step e'⟩
/-! ### the clauses -/
end
def notComp : Expr → Bool
  | .ListComp _ _ _ _ | .SetComp _ _ _ _ | .DictComp _ _ _ _ _ => false
  | _ => true
def ckHX (N : List Str) (sc : Scope) (j : Option Nat) : HX → Expr → Bool
  | .con d, .Constant k _ _ => conB d k
  | .fld n, .Attribute (.Name x _) a _ => (match j with
    | some i => nmB N i x && ownB sc x && dbgB x && decide (a = atN n)
    | none => false)
  | _, _ => false
def ckHXs (N : List Str) (sc : Scope) (j : Option Nat) : List HX → List Expr → Bool
  | [], [] => true
  | x :: l, e :: es => notStar e && ckHX N sc j x e && ckHXs N sc j l es
  | _, _ => false
def ckHE (N : List Str) (sc : Scope) (j : Option Nat) : HE → Expr → Bool
  | .one x, e => ckHX N sc j x e
  | .tup l, .Tuple es _ _ => decide (es.length ≤ 100) && ckHXs N sc j l es
  | _, _ => false
def flatC : D → Bool
  | .non | .bl _ | .int _ | .str _ => true
  | _ => false
def hxB (j : Option Nat) : HX → Bool
  | .con d => flatC d
  | .fld _ => j.isSome
def heB (j : Option Nat) : HE → Bool
  | .one x => hxB j x
  | .tup l => decide (l.length ≤ 100) && l.all (hxB j)
def ckNm (N : List Str) (sc : Scope) : Option Nat → Option Str → Bool
  | none, none => true
  | some i, some x => nmB N i x && ownB sc x
  | _, _ => false
def ckH (N : List Str) (sc : Scope) (h : Hd) : ExceptHandler → Bool
  | .ExceptHandler (some (.Name x _)) nm [.Assign [.Name y q] v pp] _ => decide (x = clsN h.k) && glB sc x && dbgB x && ckNm N sc h.j nm && nmB N h.i y && ownB sc y && heB h.j h.e && notComp v && ckHE N sc h.j h.e v
  | _ => false
def ckHs (N : List Str) (sc : Scope) : List Hd → List ExceptHandler → Bool
  | [], [] => true
  | h :: l, e :: es => ckH N sc h e && ckHs N sc l es
  | _, _ => false
section
variable {X : Cx} {M : Nm} {Z : Sx}
/-- what is read of a part of what a clause stores -/
def conV : D → V
  | .bl b => .bl b
  | .int i => .int i
  | .str z => .str z
  | _ => .non
def rHX (K : PySem.W.Frag) (a : Addr) (cls : Value) (da : Option Addr) (j : Option Nat) : HX → TE
  | .con d => fun σ H Q => Q (conV d) H
  | .fld n => fun σ H Q => ∃ (C : Addr) (i : Nat) (dd : Addr) (fs : List (Str × V)) (v : V), cls = .ref C ∧ XfC K C ∧ PySem.W.findIn K (.ref C) (atN n) = some none ∧ j = some i ∧ σ[i]? = some (some (.ref a)) ∧ da = some dd ∧ H dd = some (.xd fs) ∧ fs.lookup (atN n) = some v ∧ Q v H
theorem hx_ok {a : Addr} {oe : Obj} {cls : Value} {da : Option Addr} {pn : List (Addr × Obj)} {j : Option Nat} {hx : HX} {e : Expr} (hz : Zc cls da oe) (hf : ∃ vs, oe.data = .fields vs) (h : ckHX X.N X.env.scope j hx e = true) :
    PE (X.suite a ((a, oe) :: pn)) e (rHX X.K a cls da j hx) := by
  unfold ckHX at h
  split at h
  · rename_i d k _ _
    unfold conB at h
    split at h
    · exact pe_non
    · rw [of_decide_eq_true h]; exact pe_bl
    · rw [of_decide_eq_true h]; exact pe_int
    · rw [of_decide_eq_true h]; exact pe_str
    · cases h
  · rename_i n x _ at_ _
    split at h
    · rename_i i
      simp only [Bool.and_eq_true] at h
      obtain ⟨⟨⟨h1, h2⟩, h3⟩, h4⟩ := h
      cases of_decide_eq_true h4
      by_cases hc : ∃ C, cls = .ref C ∧ XfC X.K C ∧ PySem.W.findIn X.K (.ref C) (atN n) = some none
      · obtain ⟨C, e1, T, hno⟩ := hc
        obtain ⟨d1, d2⟩ := dbgB_ok h3
        refine PE.imp (pe_xf T hno hz hf (pe_var (X := X.suite a ((a, oe) :: pn)) (i := i) (of_decide_eq_true h1) (.inl (ownB_ok h2)) d1 d2)) fun σ H Q ⟨C', i', dd, fs, v, g1, g2, g3, g4, g5, g6, g7, g8, g9⟩ => ?_
        cases g4
        exact ⟨_, g5, rfl, e1, dd, fs, v, g6, g7, g8, g9⟩
      · exact ⟨fun ps st sg H Q I ⟨C, i', dd, fs, v, g1, g2, g3, _⟩ => (hc ⟨C, g1, g2, g3⟩).elim⟩
    · cases h
  · cases h
def rHXs (K : PySem.W.Frag) (a : Addr) (cls : Value) (da : Option Addr) (j : Option Nat) : List HX → TA
  | [] => tNil
  | x :: l => tCons (rHX K a cls da j x) (rHXs K a cls da j l)
theorem hxs_ok {a : Addr} {oe : Obj} {cls : Value} {da : Option Addr} {pn : List (Addr × Obj)} {j : Option Nat} (hz : Zc cls da oe) (hf : ∃ vs, oe.data = .fields vs) : ∀ {l : List HX} {es : List Expr}, ckHXs X.N X.env.scope j l es = true → PA (X.suite a ((a, oe) :: pn)) es (rHXs X.K a cls da j l)
  | [], [], _ => pa_nil
  | [], _ :: _, h => by unfold ckHXs at h; cases h
  | _ :: _, [], h => by unfold ckHXs at h; cases h
  | x :: l, e :: es, h => by
    unfold ckHXs at h
    simp only [Bool.and_eq_true] at h
    exact pa_cons (hx_ok hz hf h.1.2) (hxs_ok hz hf h.2) (star_one h.1.1)
def rHE (K : PySem.W.Frag) (a : Addr) (cls : Value) (da : Option Addr) (j : Option Nat) : HE → TE
  | .one x => rHX K a cls da j x
  | .tup l => tTup (rHXs K a cls da j l)
theorem he_ok {a : Addr} {oe : Obj} {cls : Value} {da : Option Addr} {pn : List (Addr × Obj)} {j : Option Nat} {he : HE} {e : Expr} (hz : Zc cls da oe) (hf : ∃ vs, oe.data = .fields vs) (h : ckHE X.N X.env.scope j he e = true) : PE (X.suite a ((a, oe) :: pn)) e (rHE X.K a cls da j he) := by
  unfold ckHE at h
  split at h
  · exact hx_ok hz hf h
  · simp only [Bool.and_eq_true] at h
    exact pe_tup (hxs_ok hz hf h.2)
  · cases h
def tsH (K : PySem.W.Frag) (h : Hd) : Addr → Value → Option Addr → TS := fun a cls da D σ H => rHE K a cls da h.j h.e σ H fun v H1 => D.nx (σ.set h.i (some v)) H1
def cl1 (K : PySem.W.Frag) (h : Hd) : Cl1 := ⟨.ref (cAd K h.k), h.j, tsH K h⟩
theorem sw_nc {v : Expr} {tg : Option Expr} {l : Nat} (h : notComp v = true) : swapsWith v tg l X.env = pure false := by
  cases v <;> first | rfl | cases h
theorem cls_ok (G : GOk X M Z) (hf : DefX X) : ∀ {hs : List Hd} {hds : List ExceptHandler}, ckHs X.N X.env.scope hs hds = true → (∀ h ∈ hs, Z.C.hasH h.k h.k = true) → ClsOk X hds (hs.map (cl1 X.K))
  | [], [], _, _ => .nil
  | [], _ :: _, h, _ => by unfold ckHs at h; cases h
  | _ :: _, [], h, _ => by unfold ckHs at h; cases h
  | h :: hs, e :: es, ck, hJ => by
    unfold ckHs at ck
    rw [Bool.and_eq_true] at ck
    obtain ⟨c1, c2⟩ := ck
    unfold ckH at c1
    split at c1
    · rename_i x np nm y q v pp pos'
      simp only [Bool.and_eq_true] at c1
      obtain ⟨⟨⟨⟨⟨⟨⟨⟨h1, h2⟩, h3⟩, h4⟩, h5⟩, h6⟩, h7⟩, h8⟩, h9⟩ := c1
      cases of_decide_eq_true h1
      refine ClsOk.cons (h := cl1 X.K h) ⟨glB_ok h2, (dbgB_ok h3).1, .inl (G.cl.hnd h.k h.k (hJ h List.mem_cons_self)).2⟩ ?_ (fun a oe cls d pn hz hf2 => ?_) (cls_ok G hf c2 fun g hg => hJ g (List.mem_cons_of_mem _ hg))
      · show NmOk X nm h.j
        generalize h.j = j at h4
        cases nm with
        | none => cases j with
          | none => exact True.intro
          | some i => cases h4
        | some n => cases j with
          | none => cases h4
          | some i =>
            have h4' : (nmB X.N i n && ownB X.env.scope n) = true := h4
            rw [Bool.and_eq_true] at h4'
            exact ⟨of_decide_eq_true h4'.1, ownB_ok h4'.2⟩
      · exact PSs.imp (pss_cons (ps_set (X := X.suite a ((a, oe) :: pn)) (i := h.i) G.nd (of_decide_eq_true h5) (.inl (ownB_ok h6)) (he_ok hz hf2 h9) (sw_nc (X := X.suite a ((a, oe) :: pn)) h8) (.inr (ownB_ok h6))) pss_nil) fun D σ H q => q
    · cases c1
theorem rep_con {K : PySem.W.Frag} {H : Hp} {F : Fz} {rh : List Addr} {d : D} (hd : flatC d = true) : Rep K H F rh (conV d) d := by
  cases d <;> first | exact .non | exact .bl | exact .int | exact .str | (cases hd; done)
section
variable {H H1 : Hp} {F F1 : Fz} {rh rh1 : List Addr} {sh sh1 : L2.St} {s s1 : List Sl} {c c1 : Cl} {cls : Value} {da : Option Addr} {ex : Ex} {a : Addr} {j : Option Nat} {σ : L2.St}
theorem hx_use (G : GOk X M Z) (hX : Z.C.hasX ex.cls = true) (r : ExR Z.S X.K H F rh cls da ex) (hj : ∀ i, j = some i → σ[i]? = some (some (.ref a))) {x : HX} {d : D} (ev : evX ex x = some d) (ck : hxB j x = true) {Q : VK} (k : ∀ v, Rep X.K H F rh v d → Q v H) : rHX X.K a cls da j x σ H Q := by
  cases x with
  | con d' =>
    cases ev
    exact k _ (rep_con ck)
  | fld n =>
    obtain ⟨e1, h⟩ := r
    have ev' : ex.fs.lookup n = some d := ev
    rcases h with h | ⟨dd, fs, g1, g2, g3, g4⟩
    · rw [h] at ev'; cases ev'
    · obtain ⟨T, _, hno, _⟩ := G.cl.exc ex.cls hX
      obtain ⟨en, v, k1, k2⟩ := g4 n d ev'
      subst en
      cases j with
      | none => cases ck
      | some i => exact ⟨_, i, dd, fs, v, e1, T.xf, hno, rfl, hj i rfl, g1, g3, k1, k v k2⟩
theorem hxs_use (G : GOk X M Z) (hX : Z.C.hasX ex.cls = true) (r : ExR Z.S X.K H F rh cls da ex) (hj : ∀ i, j = some i → σ[i]? = some (some (.ref a))) : ∀ {l : List HX} {ds : List D}, evXs ex l = some ds → (l.all (hxB j)) = true → ∀ {Q : List V → Hp → Prop}, (∀ vs, RepL X.K H F rh vs ds → Q vs H) → rHXs X.K a cls da j l σ H Q
  | [], ds, ev, _, Q, k => by
    cases ev
    exact k [] .nil
  | x :: l, ds, ev, ck, Q, k => by
    unfold evXs at ev
    rw [List.all_cons, Bool.and_eq_true] at ck
    cases e1 : evX ex x with
    | none => rw [e1] at ev; cases ev
    | some d =>
      cases e2 : evXs ex l with
      | none => rw [e1, e2] at ev; cases ev
      | some ds' =>
        rw [e1, e2] at ev
        cases ev
        exact hx_use G hX r hj e1 ck.1 fun v rv => hxs_use G hX r hj e2 ck.2 fun vs rvs => k (v :: vs) (.cons rv rvs)
theorem he_use (G : GOk X M Z) (hX : Z.C.hasX ex.cls = true) (R : Rl X.K Z.H0 H F rh sh s c) (r : ExR Z.S X.K H F rh cls da ex) (hj : ∀ i, j = some i → σ[i]? = some (some (.ref a))) {he : HE} {d : D} (ev : evH ex he = some d) (ck : heB j he = true) {Q : VK}
    (k : ∀ v H1 F1 rh1, Rl X.K Z.H0 H1 F1 rh1 sh s c → Ev H F rh (Owned sh s) H1 F1 rh1 (Owned sh s) → Rep X.K H1 F1 rh1 v d → Q v H1) : rHE X.K a cls da j he σ H Q := by
  cases he with
  | one x => exact hx_use G hX r hj ev ck fun v rv => k v H F rh R Ev.refl rv
  | tup l =>
    unfold evH at ev
    obtain ⟨ds, e1, e2⟩ := Option.map_eq_some_iff.mp ev
    subst e2
    have ck' : (decide (l.length ≤ 100) && l.all (hxB j)) = true := ck
    rw [Bool.and_eq_true] at ck'
    refine hxs_use G hX r hj e1 ck'.2 fun vs rvs => ⟨?_, fun p hp => ?_⟩
    · have el : ∀ {l : List HX} {ds : List D}, evXs ex l = some ds → ds.length = l.length := by
        intro l
        induction l with
        | nil => intro ds h; cases h; rfl
        | cons x l ih =>
          intro ds h
          unfold evXs at h
          cases e1 : evX ex x with
          | none => rw [e1] at h; cases h
          | some d =>
            cases e2 : evXs ex l with
            | none => rw [e1, e2] at h; cases h
            | some ds' =>
              rw [e1, e2] at h
              cases h
              rw [List.length_cons, List.length_cons, ih e2]
      rw [rvs.len, el e1]
      have : sizeLine = 16777216 := sizeLine_eq
      have := of_decide_eq_true ck'.1
      omega
    · exact OkQ.out (Qm := fun d o s' c' => d = .tup ds ∧ s' = s ∧ c' = c) (OkQ.mk fun d o s' c' v H' F' rh' ⟨z1, z2, z3⟩ R' e' r' => by
        subst z1 z2 z3
        exact k v H' F' rh' R' e' r') R (.tup hp rvs) ⟨rfl, rfl, rfl⟩
theorem set3 {α : Type} (l : List α) (j i : Nat) (x v y : α) : ((l.set j x).set i v).set j y = (l.set i v).set j y := by
  refine List.ext_getElem? fun k => ?_
  simp only [List.getElem?_set, List.length_set]
  by_cases h1 : j = k
  · simp [h1]
  · simp [h1]
theorem Rl.setNo {K : PySem.W.Frag} {H0 : Hp} (R : Rl K H0 H F rh sh s c) {i : Nat} {y : Option V} : Rl K H0 H F rh (sh.set i y) (s.set i .no) c ∧ ∀ b, Owned (sh.set i y) (s.set i .no) b → Owned sh s b := by
  have lift : ∀ {k : Nat} {x : Sl}, x ≠ .no → (s.set i .no)[k]? = some x → s[k]? = some x ∧ (sh.set i y)[k]? = sh[k]? := fun {k x} hx g => by
    by_cases q : i = k
    · subst q
      by_cases hl : i < s.length
      · rw [List.getElem?_set_self hl] at g; exact absurd (Option.some.inj g).symm hx
      · rw [List.getElem?_eq_none (by simpa using hl)] at g; cases g
    · rw [List.getElem?_set_ne q] at g
      exact ⟨g, List.getElem?_set_ne q⟩
  have nsh : ∀ {d : D}, (Sl.sh d) ≠ .no := fun z => nomatch z
  have now : ∀ {d : D}, (Sl.ow d) ≠ .no := fun z => nomatch z
  refine ⟨⟨R.toCe, fun k x g => ?_, fun k x g => ?_, fun k l x z b g1 g2 g3 g4 => ?_, by rw [List.length_set, List.length_set]; exact R.ln, fun k x b g1 g2 => ?_, R.mn⟩, fun b ⟨k, x, g1, g2⟩ => ?_⟩
  · obtain ⟨h1, h2⟩ := lift nsh g
    rw [h2]; exact R.shr k x h1
  · obtain ⟨h1, h2⟩ := lift now g
    rw [h2]; exact R.own k x h1
  · obtain ⟨h1, h2⟩ := lift now g1
    obtain ⟨h3, h4⟩ := lift now g2
    rw [h2] at g3
    rw [h4] at g4
    exact R.uq k l x z b h1 h3 g3 g4
  · obtain ⟨h1, h2⟩ := lift now g1
    rw [h2] at g2
    exact R.fr k x b h1 g2
  · obtain ⟨h1, h2⟩ := lift now g1
    rw [h2] at g2
    exact ⟨k, x, h1, g2⟩
theorem hand_use {K : PySem.W.Frag} {T : Ends} {N : En} {Em : EK} (G : GOk X M Z) (ok : OkD X.K Z.H0 sh H F rh s N T) (x : OkXs Z X.K sh H F rh s Em) (R : Rl X.K Z.H0 H1 F1 rh1 sh1 s1 c1) (e : Ev H F rh (Owned sh s) H1 F1 rh1 (Owned sh1 s1)) (r : ExR Z.S X.K H1 F1 rh1 cls da ex) :
    ∀ (hs : List Hd), (∀ h ∈ hs, heB h.j h.e = true) → handW Z.C hs ex s1 c1 N Em → wCls X.K Z.W T (hs.map (cl1 X.K)) cls da sh1 H1
  | [], _, w => x ex s1 c1 cls da sh1 H1 F1 rh1 w R e r
  | h :: hs, ck, w => by
    unfold handW at w
    obtain ⟨hX, hH, m⟩ := w
    refine ⟨subC ex.cls h.k, by rw [r.1]; exact (G.cl.hnd _ _ hH).1, fun e1 a ha => ?_, fun e1 => hand_use (K := K) G ok x R e r hs (fun g hg => ck g (List.mem_cons_of_mem _ hg)) (by rw [e1] at m; exact m)⟩
    rw [e1] at m
    obtain ⟨jo, d, ev, nx⟩ := m
    show rHE X.K a cls da h.j h.e (stN h.j a sh1) H1 fun v H2 => (endN h.j T).nx ((stN h.j a sh1).set h.i (some v)) H2
    have hj : ∀ i, h.j = some i → (stN h.j a sh1)[i]? = some (some (.ref a)) := fun i e => by
      rw [e] at jo ⊢
      have hl : i < s1.length := of_decide_eq_true jo
      exact List.getElem?_set_self (by rw [← R.ln]; exact hl)
    cases q : h.j with
    | none =>
      rw [q] at nx hj
      have cke := ck h List.mem_cons_self
      rw [q] at cke
      refine he_use G hX R r hj ev cke fun v H2 F2 rh2 R2 e2 rv => ?_
      obtain ⟨R3, ow⟩ := R2.setSh (i := h.i) rv
      exact ok.nx _ c1 _ H2 F2 rh2 nx R3 (e.trans (e2.lessR ow))
    | some j =>
      rw [q] at nx hj
      have cke := ck h List.mem_cons_self
      rw [q] at cke
      refine he_use G hX R r hj ev cke fun v H2 F2 rh2 R2 e2 rv => ?_
      show T.nx (((sh1.set j (some (.ref a))).set h.i (some v)).set j none) H2
      rw [set3]
      obtain ⟨R3, ow⟩ := R2.setSh (i := h.i) rv
      obtain ⟨R4, ow2⟩ := R3.setNo (i := j) (y := none)
      exact ok.nx _ c1 _ H2 F2 rh2 nx R4 (e.trans (e2.lessR fun b z => ow b (ow2 b z)))
theorem snd_try {b : ISs} {hs : List Hd} {body : List Stmt} {h0 : ExceptHandler} {hds : List ExceptHandler} {pos : Pos} (G : GOk X M Z) (hf : DefX X) (hb : ∀ (W : WX) (pn : List (Addr × Obj)) (xe : Value → Shared → Prop), Takes (X.tr pn xe) W → PassesOwn (model X.prog X.w) X.A X.env xe → PSs (X.tr pn xe) body (tWSs { Z with W := W } X.K b)) (hc : ckHs X.N X.env.scope hs (h0 :: hds) = true) :
    PS X (.Try body (h0 :: hds) [] [] pos) (tWS Z X.K (.try_ b hs)) := by
  by_cases hJ : ∀ h ∈ hs, Z.C.hasH h.k h.k = true
  · refine PS.imp (ps_try_cls hf.2.1 hf.2.2 G.nd G.tk hb (cls_ok G hf hc hJ)) fun T sg H ⟨s, c, F, rh, N, Em, R, w, ok, x⟩ => ?_
    unfold wpS at w
    have ck : ∀ {hs : List Hd} {l : List ExceptHandler}, ckHs X.N X.env.scope hs l = true → ∀ h ∈ hs, heB h.j h.e = true := by
      intro hs
      induction hs with
      | nil => intro l _ h hm; cases hm
      | cons g hs ih =>
        intro l ck h hm
        cases l with
        | nil => unfold ckHs at ck; cases ck
        | cons e l =>
          unfold ckHs at ck
          rw [Bool.and_eq_true] at ck
          rcases List.mem_cons.mp hm with rfl | hm
          · have c1 := ck.1
            unfold ckH at c1
            split at c1
            · simp only [Bool.and_eq_true] at c1
              exact c1.1.1.2
            · cases c1
          · exact ih ck.2 h hm
    exact ⟨s, c, F, rh, N, _, R, w.2, ok, fun ex s' c' cls da sh' H' F' rh' q R' e' r' => hand_use (K := X.K) G ok x R' e' r' hs (ck hc) q⟩
  · exact ⟨fun ps st sg H T I ⟨s, c, F, rh, N, Em, R, w, ok, x⟩ => by
      unfold wpS at w
      exact absurd (fun h hm => List.all_eq_true.mp w.1 h hm) hJ⟩
end
end
end Vm

/-! Vm: checked statements, checked defs -/
namespace Vm
open PySem PySem.Spec L2
open PyProof.Rows hiding St
def notTup : Expr → Bool
  | .Tuple vs _ _ => vs.all (foldedForSure 8)
  | _ => true
/-- whether name = value exchanges stores -/
def swB (sc : Scope) (x : Str) (p : Pos) (v : Expr) : Bool := match v with
  | .ListComp _ _ s q | .SetComp _ _ s q | .DictComp _ _ _ s q => ownB sc x && (p.line == q.line) && !(s.names.any fun (n, k) => n == x && (k == .local || k == .cell))
  | _ => false
def lcB : Expr → Bool
  | .ListComp _ _ _ _ => true
  | _ => false
def fewB (e : Expr) : Bool := notStar e && !foldedForSure 8 e && !constantsAlone 8 e
mutual
def ckS (N : List Str) (M : Nm) (sc : Scope) : IS → Stmt → Bool
  | .asg i e, st => (match st with
    | .Assign [.Name x p] v _ => nmB N i x && locB sc x && (!swB sc x p v || lcB v) && ckE N M sc e v
    | _ => false)
  | .cellify i e, st => (match st with
    | .Assign [.Name x p] v _ => nmB N i x && locB sc x && (!swB sc x p v || lcB v) && ckE N M sc e v
    | _ => false)
  | .setf i n e, st => (match st with
    | .Assign [.Attribute (.Name x _) nm _] v _ => nmB N i x && visB sc x && dbgB x && decide (nm = atN n) && ckE N M sc e v
    | _ => false)
  | .dead, _ => true
  | .raise_ k l, st => (match st with
    | .Raise (some (.Call (.Name x _) es [] _)) none _ => decide (x = clsN k) && glB sc x && dbgB x && (if ex0 k then es.isEmpty && ckL N M sc l es else decide (es.length = 1) && ckL N M sc l es)
    | _ => false)
  | .try_ b hs, st => (match st with
    | .Try body (h :: hds) [] [] _ => ckSs N M sc b body && ckHs N sc hs (h :: hds)
    | _ => false)
  | .asgT l e, st => (match st with
    | .Assign [.Tuple es _ _] v _ => ckTs true N sc l es && notTup v && ckE N M sc e v
    | _ => false)
  | .par is l, st => (match st, is with
    | .Assign [.Tuple [.Name x px, .Name y py] _ _] (.Tuple [p, q] _ _) _, [i, j] => nmB N i x && nmB N j y && decide (i ≠ j) && decide (x ≠ y) && ownB sc x && ownB sc y && (py.line == px.line) && notStar p && notStar q && !([p, q].all (foldedForSure 8)) && !([p, q].all (constantsAlone 8)) && ckL N M sc l [p, q]
    | .Assign [.Tuple [.Name x px, .Name y py, .Name z pz] _ _] (.Tuple [p, q, r] _ _) _, [i, j, k] => nmB N i x && nmB N j y && nmB N k z && decide (i ≠ j) && decide (i ≠ k) && decide (j ≠ k) && decide (x ≠ y) && decide (x ≠ z) && decide (y ≠ z) && ownB sc x && ownB sc y && ownB sc z && (py.line == px.line) && (pz.line == px.line) && notStar p && notStar q && notStar r && !([p, q, r].all (foldedForSure 8)) && !([p, q, r].all (constantsAlone 8)) && ckL N M sc l [p, q, r]
    | _, _ => false)
  | .parL i j a b, st => (match st with
    | .Assign [.Tuple [.Name x px, .Name y py] _ _] (.Tuple [p, q] _ _) _ => nmB N i x && nmB N j y && decide (i ≠ j) && decide (x ≠ y) && ownB sc x && ownB sc y && (py.line == px.line) && notStar p && notStar q && !([p, q].all (foldedForSure 8)) && !([p, q].all (constantsAlone 8)) && (ckE N M sc a p && ckE N M sc b q)
    | _ => false)
  | .seti o i e, st => (match st with
    | .Assign [.Subscript (.Name x _) ei _] v _ => nmB N o x && visB sc x && dbgB x && ixB ei && ckE N M sc i ei && ckE N M sc e v
    | _ => false)
  | .setd _ _ _, _ => false
  | .augI _ _ _, _ => false
  | .aug i op e, st => (match st with
    | .AugAssign (.Name x _) op' v _ => nmB N i x && locB sc x && decide (op' = op) && decide (op = .Add ∨ op = .Sub ∨ op = .Mult) && ckE N M sc e v
    | _ => false)
  | .expr e, st => (match st with
    | .Expr v _ => notComp v && ckE N M sc e v
    | _ => false)
  | .ret e, st => (match st with
    | .Return (some v) _ => ckE N M sc e v
    | _ => false)
  | .retv i, st => (match st with
    | .Return (some (.Name x _)) _ => nmB N i x && visB sc x && dbgB x
    | _ => false)
  | .retN, st => (match st with
    | .Return none _ => true
    | _ => false)
  | .ifs e a b, st => (match st with
    | .If c p q _ => okT e && ckE N M sc e c && ckSs N M sc a p && ckSs N M sc b q
    | _ => false)
  | .ifI neg e a b, st => (match neg, st with
    | false, .If c p q _ => plainT c && ckE N M sc e c && ckSs N M sc a p && ckSs N M sc b q
    | true, .If (.UnaryOp .Not c _) p q _ => plainT c && ckE N M sc e c && ckSs N M sc a p && ckSs N M sc b q
    | _, _ => false)
  | .for_ t src b, st => (match st with
    | .For tg iter body [] _ => notSetE iter && ckT true N sc t tg && ckI N M sc src tg iter && ckSs N M sc b body
    | _ => false)
  | .while_ e b, st => (match st with
    | .While c body [] _ => okT e && ckE N M sc e c && ckSs N M sc b body
    | _ => false)
  | .pass, st => (match st with
    | .Pass _ => true
    | .Expr (.Constant (.str _) _ _) _ => true
    | _ => false)
  | .brk, st => (match st with
    | .Break _ => true
    | _ => false)
  | .cont, st => (match st with
    | .Continue _ => true
    | _ => false)
def ckSs (N : List Str) (M : Nm) (sc : Scope) : ISs → List Stmt → Bool
  | .nil, l => l.isEmpty
  | .cons a l, b => (match b with
    | st :: rest => ckS N M sc a st && ckSs N M sc l rest
    | [] => false)
end
section
variable {M : Nm} {X : Cx}
theorem sw_ok {x : Str} {p : Pos} {v : Expr} {l : Nat} (hk : X.env.scope.kind = .function) : swapsWith v (some (.Name x p)) l X.env = pure (swB X.env.scope x p v) := by
  have hb : X.env.blockKind = .function := by unfold Env.blockKind; rw [hk]; rfl
  have hy : (X.env.kindOf x == some NameKind.local) = ownB X.env.scope x := by
    unfold ownB
    show (X.env.scope.names.lookup x == some NameKind.local) = _
    cases X.env.scope.names.lookup x with
    | none => rfl
    | some k => cases k <;> rfl
  unfold swapsWith swB
  cases v <;> first | rfl | (simp only [hb, hy, Expr.pos]; rfl)
theorem sw_none {v : Expr} {l : Nat} (h : notComp v = true) : swapsWith v none l X.env = pure false := by
  cases v <;> first | rfl | cases h
theorem sw_tup {es : List Expr} {k : Nat} {p : Pos} {v : Expr} {l : Nat} : swapsWithSole [.Tuple es k p] v l X.env = pure false := by
  cases v <;> rfl
theorem st_tup {es : List Expr} {k : Nat} {p : Pos} {v : Expr} (h : notTup v = true) : swappedStores [.Tuple es k p] v X.env = pure none := by
  cases v with
  | Tuple vs k2 p2 =>
    have hf : vs.all (foldedForSure 8) = true := h
    unfold swappedStores
    simp only [hf]
    repeat' split
    all_goals first | rfl | (rename_i z; cases z; done) | (simp at *; done)
  | _ => rfl
theorem sw_sub {o i : Expr} {p : Pos} {v : Expr} {l : Nat} : swapsWithSole [.Subscript o i p] v l X.env = pure false := by
  cases v <;> rfl
theorem st_sub {o i : Expr} {p : Pos} {v : Expr} : swappedStores [.Subscript o i p] v X.env = pure none := by
  cases v <;> rfl
theorem own_kind {x : Str} (h : X.env.scope.names.lookup x = some .local) : (X.env.kindOf x == some NameKind.local) = true := by
  show (X.env.scope.names.lookup x == some NameKind.local) = true
  rw [h]; rfl
theorem anyS : ∀ (l : List Expr), l.all notStar = true → (l.any fun | .Starred .. => true | _ => false) = false
  | [], _ => rfl
  | e :: l, h => by
    rw [List.all_cons, Bool.and_eq_true] at h
    rw [List.any_cons, anyS l h.2, Bool.or_false]
    have h1 := h.1
    clear h
    cases e <;> first | rfl | cases h1
theorem st_par2 {x y : Str} {px py pt : Pos} {kt k2 pt2} {p q : Expr} (hk : X.env.scope.kind = .function) (hx : X.env.scope.names.lookup x = some .local) (hy : X.env.scope.names.lookup y = some .local) (hne : x ≠ y) (hl : (py.line == px.line) = true) (hp : notStar p = true) (hq : notStar q = true)
    (h1 : [p, q].all (foldedForSure 8) = false) (h2 : [p, q].all (constantsAlone 8) = false) : swappedStores [.Tuple [.Name x px, .Name y py] kt pt] (.Tuple [p, q] k2 pt2) X.env = pure (some [x, y]) := by
  have hb : X.env.blockKind = .function := by unfold Env.blockKind; rw [hk]; rfl
  have e1 := own_kind hx
  have e2 := own_kind hy
  have st := anyS [p, q] (by rw [List.all_cons, List.all_cons, hp, hq]; rfl)
  unfold swappedStores
  simp only [hb, h1, h2, e1, e2, hl, List.filterMap_cons, List.head?_cons, Expr.pos, Option.map_some, Option.getD_some, beq_self_eq_true, Bool.and_self, if_true, List.filterMap_nil]
  have ed : [x, y].eraseDups = [x, y] := by
    have n1 : (y == x) = false := beq_eq_false_iff_ne.mpr (Ne.symm hne)
    rw [List.eraseDups_cons]
    simp [List.filter, n1, List.eraseDups_cons]
  rw [ed]
  exact (if_neg (by simp)).trans ((if_neg fun z => Bool.noConfusion (st.symm.trans z)).trans (if_neg (by simp)))
theorem st_par3 {x y z : Str} {px py pz pt : Pos} {kt k2 pt2} {p q r : Expr} (hk : X.env.scope.kind = .function) (hx : X.env.scope.names.lookup x = some .local) (hy : X.env.scope.names.lookup y = some .local) (hz : X.env.scope.names.lookup z = some .local) (hxy : x ≠ y) (hxz : x ≠ z) (hyz : y ≠ z) (hl : (py.line == px.line) = true) (hl2 : (pz.line == px.line) = true) (hp : notStar p = true) (hq : notStar q = true) (hr : notStar r = true)
    (h1 : [p, q, r].all (foldedForSure 8) = false) (h2 : [p, q, r].all (constantsAlone 8) = false) : swappedStores [.Tuple [.Name x px, .Name y py, .Name z pz] kt pt] (.Tuple [p, q, r] k2 pt2) X.env = pure (some [x, y, z]) := by
  have hb : X.env.blockKind = .function := by unfold Env.blockKind; rw [hk]; rfl
  have e1 := own_kind hx
  have e2 := own_kind hy
  have e3 := own_kind hz
  have st := anyS [p, q, r] (by rw [List.all_cons, List.all_cons, List.all_cons, hp, hq, hr]; rfl)
  unfold swappedStores
  simp only [hb, h1, h2, e1, e2, e3, hl, hl2, List.filterMap_cons, List.head?_cons, Expr.pos, Option.map_some, Option.getD_some, beq_self_eq_true, Bool.and_self, if_true, List.filterMap_nil]
  have ed : [x, y, z].eraseDups = [x, y, z] := by
    have n1 : (y == x) = false := beq_eq_false_iff_ne.mpr (Ne.symm hxy)
    have n2 : (z == x) = false := beq_eq_false_iff_ne.mpr (Ne.symm hxz)
    have n3 : (z == y) = false := beq_eq_false_iff_ne.mpr (Ne.symm hyz)
    rw [List.eraseDups_cons]
    simp [List.filter, n1, n2, n3, List.eraseDups_cons]
  rw [ed]
  exact (if_neg (by simp)).trans ((if_neg fun z => Bool.noConfusion (st.symm.trans z)).trans (if_neg (by simp)))
theorem asgs {Z : Sx} {i : Nat} {ie : IE} {x : Str} {p pos : Pos} {v : Expr} (G : GOk X M Z) (hk : X.env.scope.kind = .function) (hf : DefX X) (h1 : X.N[i]? = some x) (h2 : locB X.env.scope x = true) (h3 : (!swB X.env.scope x p v || lcB v) = true) (h4 : ckE X.N M X.env.scope ie v = true) :
    PS X (.Assign [.Name x p] v pos) (tWS Z X.K (.asg i ie)) ∧ PS X (.Assign [.Name x p] v pos) (tWS Z X.K (.cellify i ie)) := by
  have sw := sw_ok (X := X) (x := x) (p := p) (v := v) (l := pos.line) hk
  cases hs : swB X.env.scope x p v with
  | false =>
    rw [hs] at sw
    exact snd_asg G h1 (locB_ok h2) (sndE ie G h4).1 sw (.inl (hf.1 x))
  | true =>
    rw [hs] at sw h3
    have hl : lcB v = true := h3
    have ow : X.env.scope.names.lookup x = some .local := by
      refine ownB_ok ?_
      cases v with
      | ListComp a b cc d =>
        have hs' : (ownB X.env.scope x && (p.line == d.line) && !(cc.names.any fun (n, k) => n == x && (k == .local || k == .cell))) = true := hs
        rw [Bool.and_eq_true, Bool.and_eq_true] at hs'
        exact hs'.1.1
      | _ => cases hl
    cases ie with
    | comp own t src ifs elt =>
      unfold ckE at h4
      split at h4
      · rename_i ee tg iter ies a scope pos
        simp only [Bool.and_eq_true] at h4
        obtain ⟨⟨⟨⟨⟨⟨⟨⟨⟨h0, g1⟩, g2⟩, g3⟩, g4⟩, g5⟩, g6⟩, g7⟩, g8⟩, g9⟩ := h4
        cases of_decide_eq_true h0
        exact snd_setLc G h1 ow sw (sndIi src G g4) (blkOk_by g1) (ownsOf_map _ _) (fun s H C cl fp => ckT_ok false t (X := X.blk s H scope (compEnvC scope cl C X.env) fp) G.calm G.nd (fun z => nomatch z) g5)
          (fun s H C cl fp => sndIf ifs (X := X.blk s H scope (compEnvC scope cl C X.env) fp) (G.blk s H scope _ fp) (of_decide_eq_true g6) g7 g8)
          (fun s H C cl fp => (sndE elt (X := X.blk s H scope (compEnvC scope cl C X.env) fp) (G.blk s H scope _ fp) g9).1) (set_ok g3) g2
      · cases h4
    | op g l =>
      exfalso
      unfold ckE at h4
      cases v with
      | ListComp a b cc dd =>
        have e : opSh X.N M X.env.scope g (.ListComp a b cc dd) = none := by cases g <;> first | rfl | (rename_i neg; cases neg <;> rfl)
        rw [e] at h4; cases h4
      | _ => cases hl
    | _ =>
      exfalso
      unfold ckE at h4
      cases v <;> first | (cases h4; done) | (cases hl; done)
mutual
theorem sndS : ∀ (i : IS) {X : Cx} {Z : Sx} {st : Stmt}, GOk X M Z → X.env.scope.kind = .function → DefX X → PassesOwn (model X.prog X.w) X.A X.env X.xe → ckS X.N M X.env.scope i st = true → PS X st (tWS Z X.K i)
  | .asg i e, X, Z, st, G, hk, hf, hp, h => by
    unfold ckS at h
    split at h
    · rename_i x p v pos
      simp only [Bool.and_eq_true] at h
      obtain ⟨⟨⟨h1, h2⟩, h3⟩, h4⟩ := h
      exact (asgs G hk hf (of_decide_eq_true h1) h2 h3 h4).1
    · cases h
  | .cellify i e, X, Z, st, G, hk, hf, hp, h => by
    unfold ckS at h
    split at h
    · rename_i x p v pos
      simp only [Bool.and_eq_true] at h
      obtain ⟨⟨⟨h1, h2⟩, h3⟩, h4⟩ := h
      exact (asgs G hk hf (of_decide_eq_true h1) h2 h3 h4).2
    · cases h
  | .setf i n e, X, Z, st, G, hk, hf, hp, h => by
    unfold ckS at h
    split at h
    · simp only [Bool.and_eq_true] at h
      obtain ⟨⟨⟨⟨h1, h2⟩, h3⟩, h4⟩, h5⟩ := h
      obtain ⟨d1, d2⟩ := dbgB_ok h3
      exact snd_setf G (of_decide_eq_true h1) (visB_ok h2) d1 d2 (of_decide_eq_true h4) (sndE e G h5).1
    · cases h
  | .dead, X, Z, st, G, hk, hf, hp, h => snd_dead
  | .raise_ k l, X, Z, st, G, hk, hf, hp, h => by
    unfold ckS at h
    split at h
    · rename_i x p1 es p2 p3
      simp only [Bool.and_eq_true] at h
      obtain ⟨⟨⟨h1, h2⟩, h3⟩, h4⟩ := h
      obtain ⟨d1, d2⟩ := dbgB_ok h3
      cases q : ex0 k with
      | true =>
        rw [q] at h4
        simp only [if_true, Bool.and_eq_true, List.isEmpty_iff] at h4
        obtain ⟨rfl, h4⟩ := h4
        cases l with
        | nil => exact snd_raise0 G q (of_decide_eq_true h1) (glB_ok h2) d1
        | cons _ _ => unfold ckL at h4; cases h4
      | false =>
        rw [q] at h4
        simp only [Bool.false_eq_true, if_false, Bool.and_eq_true] at h4
        obtain ⟨e, rfl⟩ := List.length_eq_one_iff.mp (of_decide_eq_true h4.1)
        exact snd_raise1 G q (of_decide_eq_true h1) (glB_ok h2) d1 (sndLl l G h4.2) (star_of h4.2)
    · cases h
  | .try_ b hs, X, Z, st, G, hk, hf, hp, h => by
    unfold ckS at h
    split at h
    · simp only [Bool.and_eq_true] at h
      exact snd_try G hf (fun W pn xe tk po => sndSs b (G.tr pn xe tk) hk hf po h.1) h.2
    · cases h
  | .asgT l e, X, Z, st, G, hk, hf, hp, h => by
    unfold ckS at h
    split at h
    · simp only [Bool.and_eq_true] at h
      obtain ⟨⟨h1, h2⟩, h3⟩ := h
      exact snd_asgT (sndE e G h3).1 (ckT_ok true (.tp l) G.calm G.nd (fun _ => hf.1) (by unfold ckT; exact h1)) sw_tup (st_tup h2) rfl
    · cases h
  | .par is l, X, Z, st, G, hk, hf, hp, h => by
    unfold ckS at h
    split at h
    · simp only [Bool.and_eq_true, Bool.not_eq_true'] at h
      obtain ⟨⟨⟨⟨⟨⟨⟨⟨⟨⟨⟨h1, h2⟩, h3⟩, h4⟩, h5⟩, h6⟩, h7⟩, h8⟩, h9⟩, h10⟩, h11⟩, h12⟩ := h
      exact snd_par2 G (of_decide_eq_true h1) (of_decide_eq_true h2) (of_decide_eq_true h3) (ownB_ok h5) (ownB_ok h6) (sndLl l G h12) (st_par2 hk (ownB_ok h5) (ownB_ok h6) (of_decide_eq_true h4) h7 h8 h9 h10 h11) sw_tup
    · simp only [Bool.and_eq_true, Bool.not_eq_true'] at h
      obtain ⟨⟨⟨⟨⟨⟨⟨⟨⟨⟨⟨⟨⟨⟨⟨⟨⟨⟨⟨h1, h2⟩, h3⟩, h4⟩, h5⟩, h6⟩, h7⟩, h8⟩, h9⟩, h10⟩, h11⟩, h12⟩, h13⟩, h14⟩, h15⟩, h16⟩, h17⟩, h18⟩, h19⟩, h20⟩ := h
      exact snd_par3 G (of_decide_eq_true h1) (of_decide_eq_true h2) (of_decide_eq_true h3) (of_decide_eq_true h4) (of_decide_eq_true h5) (of_decide_eq_true h6) (ownB_ok h10) (ownB_ok h11) (ownB_ok h12) (sndLl l G h20)
        (st_par3 hk (ownB_ok h10) (ownB_ok h11) (ownB_ok h12) (of_decide_eq_true h7) (of_decide_eq_true h8) (of_decide_eq_true h9) h13 h14 h15 h16 h17 h18 h19) sw_tup
    · cases h
  | .parL i j a b, X, Z, st, G, hk, hf, hp, h => by
    unfold ckS at h
    split at h
    · simp only [Bool.and_eq_true, Bool.not_eq_true'] at h
      obtain ⟨⟨⟨⟨⟨⟨⟨⟨⟨⟨⟨h1, h2⟩, h3⟩, h4⟩, h5⟩, h6⟩, h7⟩, h8⟩, h9⟩, h10⟩, h11⟩, h12, h13⟩ := h
      exact snd_parL G (of_decide_eq_true h1) (of_decide_eq_true h2) (of_decide_eq_true h3) (ownB_ok h5) (ownB_ok h6) (sndE a G h12).1 (sndE b G h13).1 h8 h9 (st_par2 hk (ownB_ok h5) (ownB_ok h6) (of_decide_eq_true h4) h7 h8 h9 h10 h11) sw_tup
    · cases h
  | .setd _ _ _, X, Z, st, G, hk, hf, hp, h => by unfold ckS at h; cases h
  | .augI _ _ _, X, Z, st, G, hk, hf, hp, h => by unfold ckS at h; cases h
  | .seti o i e, X, Z, st, G, hk, hf, hp, h => by
    unfold ckS at h
    split at h
    · rename_i x p ei pp v pos
      simp only [Bool.and_eq_true] at h
      obtain ⟨⟨⟨⟨⟨h1, h2⟩, h3⟩, h4⟩, h5⟩, h6⟩ := h
      obtain ⟨d1, d2⟩ := dbgB_ok h3
      refine snd_seti (of_decide_eq_true h1) (visB_ok h2) d1 d2 (sndE i G h5).1 (sndE e G h6).1 (fun v => ?_) sw_sub st_sub rfl
      cases ei with
      | Slice a b cc p => cases cc with
        | none => cases h4
        | some cc => rfl
      | _ => rfl
    · cases h
  | .aug i op e, X, Z, st, G, hk, hf, hp, h => by
    unfold ckS at h
    split at h
    · simp only [Bool.and_eq_true] at h
      obtain ⟨⟨⟨⟨h1, h2⟩, h3⟩, h4⟩, h5⟩ := h
      cases of_decide_eq_true h3
      exact snd_aug G (of_decide_eq_true h1) (locB_ok h2) (sndE e G h5).1 (of_decide_eq_true h4) (.inl (hf.1 _))
    · cases h
  | .expr e, X, Z, st, G, hk, hf, hp, h => by
    unfold ckS at h
    split at h
    · simp only [Bool.and_eq_true] at h
      exact snd_expr (sndE e G h.2).1 (sw_none h.1)
    · cases h
  | .ret e, X, Z, st, G, hk, hf, hp, h => by
    unfold ckS at h
    split at h
    · exact snd_ret (sndE e G h).1
    · cases h
  | .retv i, X, Z, st, G, hk, hf, hp, h => by
    unfold ckS at h
    split at h
    · simp only [Bool.and_eq_true] at h
      obtain ⟨d1, d2⟩ := dbgB_ok h.2
      exact snd_retv (of_decide_eq_true h.1.1) (visB_ok h.1.2) d1 d2
    · cases h
  | .retN, X, Z, st, G, hk, hf, hp, h => by
    unfold ckS at h
    split at h
    · exact snd_retN
    · cases h
  | .ifs e a b, X, Z, st, G, hk, hf, hp, h => by
    unfold ckS at h
    split at h
    · simp only [Bool.and_eq_true] at h
      obtain ⟨⟨⟨h1, h2⟩, h3⟩, h4⟩ := h
      exact snd_if ((sndE e G h2).2 h1) (sndSs a G hk hf hp h3) (sndSs b G hk hf hp h4)
    · cases h
  | .ifI neg e a b, X, Z, st, G, hk, hf, hp, h => by
    unfold ckS at h
    split at h
    · simp only [Bool.and_eq_true] at h
      obtain ⟨⟨⟨h1, h2⟩, h3⟩, h4⟩ := h
      exact snd_ifI G (sndE e G h2).1 h1 (sndSs a G hk hf hp h3) (sndSs b G hk hf hp h4)
    · simp only [Bool.and_eq_true] at h
      obtain ⟨⟨⟨h1, h2⟩, h3⟩, h4⟩ := h
      exact snd_ifIn G (sndE e G h2).1 h1 (sndSs a G hk hf hp h3) (sndSs b G hk hf hp h4)
    · cases h
  | .for_ t src b, X, Z, st, G, hk, hf, hp, h => by
    unfold ckS at h
    split at h
    · simp only [Bool.and_eq_true] at h
      obtain ⟨⟨⟨h1, h2⟩, h3⟩, h4⟩ := h
      exact snd_for G hp (sndIi src G h3) (ckT_ok true t G.calm G.nd (fun _ => hf.1) h2) (sndSs b G hk hf hp h4) (set_ok h1)
    · cases h
  | .while_ e b, X, Z, st, G, hk, hf, hp, h => by
    unfold ckS at h
    split at h
    · simp only [Bool.and_eq_true] at h
      obtain ⟨⟨h1, h2⟩, h3⟩ := h
      exact snd_while hp ((sndE e G h2).2 h1) (sndSs b G hk hf hp h3)
    · cases h
  | .pass, X, Z, st, G, hk, hf, hp, h => by
    unfold ckS at h
    split at h
    · exact snd_pass
    · exact snd_doc
    · cases h
  | .brk, X, Z, st, G, hk, hf, hp, h => by
    unfold ckS at h
    split at h
    · exact snd_brk
    · cases h
  | .cont, X, Z, st, G, hk, hf, hp, h => by
    unfold ckS at h
    split at h
    · exact snd_cont
    · cases h
theorem sndSs : ∀ (l : ISs) {X : Cx} {Z : Sx} {b : List Stmt}, GOk X M Z → X.env.scope.kind = .function → DefX X → PassesOwn (model X.prog X.w) X.A X.env X.xe → ckSs X.N M X.env.scope l b = true → PSs X b (tWSs Z X.K l)
  | .nil, X, Z, b, G, hk, hf, hp, h => by
    cases b with
    | nil => exact sndS_nil
    | cons _ _ => unfold ckSs at h; cases h
  | .cons a l, X, Z, b, G, hk, hf, hp, h => by
    cases b with
    | nil => unfold ckSs at h; cases h
    | cons st rest =>
      unfold ckSs at h
      simp only [Bool.and_eq_true] at h
      exact sndS_cons (sndS a G hk hf hp h.1) (sndSs l G hk hf hp h.2)
end
end
end Vm

/-! Vm: a checked def keeps the promise that its text's weakest precondition is; the law's end -/
namespace Vm
open PySem PySem.Spec L2
open PyProof.Rows hiding St
/-- what a def of the module may lean on -/
structure Wd (P : Program) (w : World) (K : PySem.W.Frag) (mg : Str → Option Value) (base : Heap) (M : Nm) (S : Sta) (C : Ctx) (k : Nat) : Prop where
  fn : ∀ f, C.hasF f = true → ∃ fd j, ((M.fn f).2 = none → mg (M.fn f).1 = some (.ref (fA K (M.fn f)))) ∧ PySem.W.keepIn K (.ref (fA K (M.fn f))) = true ∧ (C.hasB f = true → Binds K fd (M.ps f) []) ∧ FnG P w K mg base j (fA K (M.fn f)) fd (M.ps f) (spF S K (C.fn f)) ∧ j + 2 ≤ k ∧
    ∀ n ks pl, C.hasP2 f n ks pl = true → KBP K fd (M.ps f) n (kwN (M.ps f) n ks) pl
  gl : ∀ i, C.hasG i = true → ∃ u v, mg (M.gl i) = some u ∧ L2.RelV v u ∧ ∀ H F rh, Rep K H F rh v (C.gl i)
  prim : ∀ p, C.hasP p = true → mg p.name = none
  rng : mg "range" = none
  enm : mg "enumerate" = none
  zp : mg "zip" = none
  isi : mg "isinstance" = none
  ty : ∀ T ∈ tyNames, mg (Str.ofString T) = none
  cl : ClOk K mg M C
theorem spF_imp {S : Sta} {K : PySem.W.Frag} {T T' : List D → Cl → (D → Bool → Cl → Prop) → (Ex → Cl → Prop) → Prop} (h : ∀ ds c Q E, T' ds c Q E → T ds c Q E) {vs : List V} {H : Hp} {Q : VK} {E : XK} (q : spF S K T' vs H Q E) : spF S K T vs H Q E := by
  obtain ⟨ds, c, F, rh, Qm, Em, h1, h2, h3, h4⟩ := q
  exact ⟨ds, c, F, rh, Qm, Em, h1, h2, h _ _ _ _ h3, h4⟩
theorem start_shr {K : PySem.W.Frag} {H : Hp} {F : Fz} {rh : List Addr} : ∀ {vs : List V} {ds : List D} {m n i : Nat} {d : D}, RepL K H F rh vs ds → (ds.map Sl.sh ++ List.replicate m Sl.no)[i]? = some (.sh d) → ∃ v, (vs.map some ++ List.replicate n none)[i]? = some (some v) ∧ Rep K H F rh v d
  | _, _, m, n, i, d, .nil, h => by
    rw [List.map_nil, List.nil_append] at h
    exact nomatch (List.eq_of_mem_replicate (List.mem_of_getElem? h))
  | _, _, m, n, 0, d, .cons r _, h => by
    cases h
    exact ⟨_, rfl, r⟩
  | _, _, m, n, i + 1, d, .cons _ r, h => start_shr (m := m) (n := n) (i := i) r h
theorem start_own {ds : List D} {m i : Nat} {d : D} (h : (ds.map Sl.sh ++ List.replicate m Sl.no)[i]? = some (.ow d)) : False := by
  rcases List.mem_append.mp (List.mem_of_getElem? h) with z | z
  · obtain ⟨_, _, e⟩ := List.mem_map.mp z
    cases e
  · exact nomatch (List.eq_of_mem_replicate z)
section
variable {P : Program} {w : World} {K : PySem.W.Frag} {mg : Str → Option Value} {base : Heap} {M : Nm} {S : Sta} {C : Ctx} {k : Nat}
theorem def_ok {x qual : Str} {params : Arguments} {body : List Stmt} {scope : Scope} {dvs : List V} {kws : List (Str × V)} {f : Addr} {fd : FuncData} {N ps : List Str} {ir : ISs} (Fd : FunD K x qual params body scope dvs kws f fd) (Sc : FnScope N ps scope) (W : Wd P w K mg base M S C k) (hl : ps.length ≤ N.length) (ck : ckSs N M scope ir body = true) :
    FnG P w K mg base (k + 1) f fd ps (spF S K (wpDef C ps.length N.length ir)) := by
  obtain ⟨oc, od, dV, kV, doc, pm, an, cdv, ct, osl, rfl, lk, hcd, _, _⟩ := Fd.ex
  refine fnG_of lk hcd Sc (fun vs H Q E ⟨ds, c, F, rh, Qm, Em, h1, h2, h3, h4⟩ => by rw [h1.len]; exact h3.1) fun A outer s H vs Q E hr hg ⟨ds, c, F, rh, Qm, Em, h1, h2, h3, h4, h5⟩ => ?_
  have G : GOk (cxOf (L2.CX P w) P w K mg base N qual scope f cdv A outer s H E) M ⟨S, H, C, fun cls d _ H' => E cls d H'⟩ :=
    ⟨rfl, hg, ⟨k, hr⟩, Sc.nd, takes_of rfl rfl rfl rfl, fun f hf => ⟨by
      obtain ⟨fd, j, g1, g2, g3, g4, g5, g6⟩ := W.fn f hf
      exact ⟨fd, j, g1, g2, g3, g4, hr.mono g5, g6⟩⟩, W.gl, W.prim, W.rng, W.enm, W.zp, W.isi, W.ty, W.cl⟩
  refine ⟨_, sndSs ir G Sc.kind ⟨fun _ => rfl, rfl, rfl⟩ (passes_of rfl) ck, ?_⟩
  have len : ds.length = ps.length := h3.1
  have vl : vs.length = ps.length := by rw [h1.len, len]
  have noO : ∀ a, ¬ Owned (L2.start N vs) (ds.map Sl.sh ++ List.replicate (N.length - ps.length) Sl.no) a := fun a ⟨i, d, z, _⟩ => start_own z
  refine ⟨_, c, F, rh, _, _, ⟨h2, fun i d z => start_shr h1 z, fun i d z => (start_own z).elim, fun i j d e a z => (start_own z).elim, ?_, fun i d a z => (start_own z).elim, fun a z => z⟩, h3.2, ⟨?_, ?_, ?_, ?_⟩, ?_⟩
  · unfold L2.start
    rw [List.length_append, List.length_append, List.length_map, List.length_map, List.length_replicate, List.length_replicate, len, vl]
  · intro s' c' sh' H' F' rh' q R e
    exact h4 _ _ _ _ _ _ _ q R.toCe ((e.less fun a z => (noO a z).elim).lessR fun a z => z.elim) .non
  · intro s' c' sh' H' F' rh' q R e; exact q.elim
  · intro s' c' sh' H' F' rh' q R e; exact q.elim
  · intro d o s' c' v sh' H' F' rh' q R e r
    refine h4 d o c' v H' F' rh' q R.toCe ((e.less fun a z => (noO a z).elim).lessR fun a z => z.elim) ?_
    cases o with
    | false => exact r
    | true =>
      obtain ⟨a, ob, g1, g2, g3, g4, g5, g6, g7⟩ := r
      exact ⟨a, ob, g1, g2, g3, g4, g5, g6, fun z => z⟩
  · intro ex s' c' cls da sh' H' F' rh' q R e r
    exact h5 ex c' cls da H' F' rh' q R.toCe ((e.less fun a z => (noO a z).elim).lessR fun a z => z.elim) r
theorem FnG.imp {f : Addr} {fd : FuncData} {ps : List Str} {T T' : List D → Cl → (D → Bool → Cl → Prop) → (Ex → Cl → Prop) → Prop} (G : FnG P w K mg base k f fd ps (spF S K T)) (h : ∀ ds c Q E, T' ds c Q E → T ds c Q E) : FnG P w K mg base k f fd ps (spF S K T') :=
  ⟨fun vs H Q E q => G.arity vs H Q E (spF_imp h q), fun A o s H a us vs Q E hr hg e0 hb r q => G.go A o s H a us vs Q E hr hg e0 hb r (spF_imp h q)⟩
end
/-! what a call binds -/
theorem vals_at : ∀ {vs : List V} {us : List Value} (i : Nat), Vals vs us → (vs[i]? = none ∧ us[i]? = none) ∨ ∃ v u, vs[i]? = some v ∧ us[i]? = some u ∧ L2.RelV v u
  | _, _, i, .nil => .inl ⟨by simp, by simp⟩
  | _, _, 0, .cons r _ => .inr ⟨_, _, rfl, rfl, r⟩
  | _, _, i + 1, .cons _ r => by
    rcases vals_at i r with ⟨h1, h2⟩ | ⟨v, u, h1, h2, h3⟩
    · exact .inl ⟨by simpa using h1, by simpa using h2⟩
    · exact .inr ⟨v, u, by simpa using h1, by simpa using h2, h3⟩
abbrev appI {α : Type} (its : List α) (pi : List (Nat ⊕ Nat)) (us : List α) : List α := appP (fun j => its[j]?) pi us
def planOf (pi : List (Nat ⊕ Nat)) (dD : List D) : Pl := pi.map fun
  | .inl i => .inl i
  | .inr j => .inr (dD[j]?.getD .non)
theorem vals_app {vs ds : List V} {us its : List Value} (pi : List (Nat ⊕ Nat)) (r : Vals vs us) (q : Vals ds its) : Vals (appI ds pi vs) (appI its pi us) := by
  unfold appI appP
  induction pi with
  | nil => exact .nil
  | cons p pi ih =>
    cases p with
    | inl i =>
      rcases vals_at i r with ⟨h1, h2⟩ | ⟨v, u, h1, h2, h3⟩
      · simp only [List.filterMap_cons, h1, h2]; exact ih
      · simp only [List.filterMap_cons, h1, h2]; exact .cons h3 ih
    | inr j =>
      rcases vals_at j q with ⟨h1, h2⟩ | ⟨v, u, h1, h2, h3⟩
      · simp only [List.filterMap_cons, h1, h2]; exact ih
      · simp only [List.filterMap_cons, h1, h2]; exact .cons h3 ih
def piOk (n m : Nat) (pi : List (Nat ⊕ Nat)) : Bool := pi.all fun
  | .inl i => decide (i < n)
  | .inr j => decide (j < m)
theorem rep_app {K : PySem.W.Frag} {H : Hp} {F : Fz} {rh : List Addr} {vs dv : List V} {ds dD : List D} {n m : Nat} (pi : List (Nat ⊕ Nat)) (r : RepL K H F rh vs ds) (q : RepL K H F rh dv dD) (h1 : ds.length = n) (h2 : dD.length = m) (ok : piOk n m pi = true) : RepL K H F rh (appI dv pi vs) (appD (planOf pi dD) ds) := by
  unfold appI appD appP planOf
  unfold piOk at ok
  induction pi with
  | nil => exact .nil
  | cons p pi ih =>
    rw [List.all_cons, Bool.and_eq_true] at ok
    cases p with
    | inl i =>
      have hi : i < ds.length := by rw [h1]; exact of_decide_eq_true ok.1
      obtain ⟨v, g1, g2⟩ := r.at (List.getElem?_eq_getElem hi)
      simp only [List.map_cons, List.filterMap_cons, g1, List.getElem?_eq_getElem hi]
      exact .cons g2 (ih ok.2)
    | inr j =>
      have hj : j < dD.length := by rw [h2]; exact of_decide_eq_true ok.1
      obtain ⟨v, g1, g2⟩ := q.at (List.getElem?_eq_getElem hj)
      simp only [List.map_cons, List.filterMap_cons, g1, List.getElem?_eq_getElem hj, Option.getD_some]
      exact .cons g2 (ih ok.2)
theorem kbp_plain {K : PySem.W.Frag} {x qual : Str} {params : Arguments} {body : List Stmt} {scope : Scope} {f : Addr} {fd : FuncData} {ps nms : List Str} {kws : List (Str × V)} {n : Nat} (pi : List (Nat ⊕ Nat)) (F : FunD K x qual params body scope [] kws f fd) (ok : piOk (n + nms.length) 0 pi = true)
    (h : ∀ (kV doc pm : Value) (an : Option Addr) (cdv ct : Value) (us ws : List Value), us.length = n → ws.length = nms.length → bindArgs (PySem.W.fnOf x qual params body scope .none kV doc pm an cdv ct) ⟨us, nms.zip ws⟩ = pure (ps.zip (appI [] pi (us ++ ws)))) :
    KBP K fd ps n nms (planOf pi []) := by
  obtain ⟨oc, od, dV, kV, doc, pm, an, cdv, ct, osl, rfl, lk, hcd, hD, hK⟩ := F.ex
  rcases hD with ⟨_, rfl⟩ | ⟨e, _⟩
  · refine ⟨fun us ws => appI [] pi (us ++ ws), fun vs zs => appI [] pi (vs ++ zs), ⟨fun s us ws _ l1 l2 => .of_eq (h kV doc pm an cdv ct us ws l1 l2), fun r1 r2 => vals_app pi (r1.append r2) .nil⟩, fun H F rh vs zs ds es r1 r2 l1 l2 => ?_⟩
    exact rep_app pi (r1.app r2) .nil (by rw [List.length_append, l1, l2]) rfl ok
  · exact absurd rfl e
theorem kbp_dflt {K : PySem.W.Frag} {x qual : Str} {params : Arguments} {body : List Stmt} {scope : Scope} {f : Addr} {fd : FuncData} {ps nms : List Str} {dvs : List V} {kws : List (Str × V)} {n : Nat} (pi : List (Nat ⊕ Nat)) (dD : List D) (F : FunD K x qual params body scope dvs kws f fd) (hd : dvs ≠ []) (ok : piOk (n + nms.length) dvs.length pi = true)
    (hr : ∀ H F rh, RepL K H F rh dvs dD)
    (h : ∀ (T : Addr) (kV doc pm : Value) (an : Option Addr) (cdv ct : Value) (us its ws : List Value), us.length = n → its.length = dvs.length → ws.length = nms.length →
      ∃ k, bindArgs (PySem.W.fnOf x qual params body scope (.ref T) kV doc pm an cdv ct) ⟨us, nms.zip ws⟩ = seqItems? (.ref T) >>= k ∧ k (some its.toArray) = pure (ps.zip (appI its pi (us ++ ws)))) :
    KBP K fd ps n nms (planOf pi dD) := by
  obtain ⟨oc, od, dV, kV, doc, pm, an, cdv, ct, osl, rfl, lk, hcd, hD, hK⟩ := F.ex
  rcases hD with ⟨e, _⟩ | ⟨_, T, o, its, m, rfl, lT, oT, rT⟩
  · exact absurd e hd
  · refine ⟨fun us ws => appI its pi (us ++ ws), fun vs zs => appI dvs pi (vs ++ zs), ⟨fun s us ws X l1 l2 => ?_, fun r1 r2 => vals_app pi (r1.append r2) rT⟩, fun H F rh vs zs ds es r1 r2 l1 l2 => ?_⟩
    · obtain ⟨k, e1, e2⟩ := h T kV doc pm an cdv ct us its ws l1 rT.length.symm l2
      refine BindsTo.of_looks fun M => ?_
      rw [e1]
      exact looks_items X lT oT (.of_pure e2)
    · exact rep_app pi (r1.app r2) (hr H F rh) (by rw [List.length_append, l1, l2]) (hr H F rh).len.symm ok
/-! ### the law's end -/
/-- what a law promises: over every script of at most n ints it gives true -/
def lawSp (n : Nat) : List D → Cl → (D → Bool → Cl → Prop) → (Ex → Cl → Prop) → Prop := fun ds c Q _ => ∃ ns : List Int, ds = [.scr (ns.map D.int)] ∧ ns.length ≤ n ∧ c = [] ∧ ∀ c', Q (.bl true) false c'
theorem repL_ints {K : PySem.W.Frag} {H : Hp} {F : Fz} {rh : List Addr} : ∀ ns : List Int, RepL K H F rh (ns.map V.int) (ns.map D.int)
  | [] => .nil
  | _ :: ns => .cons .int (repL_ints ns)
theorem law_callG {P : Program} {w : World} {K : PySem.W.Frag} {mg mb : Str → Option Value} {S : Sta} {k n : Nat} {fa a : Addr} {fd : FuncData} {x : Str} {s₁ : Shared} {vs : List Value} {ns : List Int}
    (KX : K.In s₁.heap) (hns : s₁.heap.Ns mainGlobals mg) (hb : s₁.heap.Ns builtinsNs mb) (hbb : ∀ x : Str, x ≠ "__name__" → mb x = bootBuiltins x) (hlim : s₁.heap.NoLimit) (hg : s₁.gens = #[])
    (ha : s₁.heap.get? a = some { cls := .type "list", data := .seq vs.toArray }) (hi : IntsAre vs ns) (hl : ns.length ≤ n) (hl2 : n ≤ sizeLine) (hr : Room k callerA)
    (F : ∀ base : Heap, K.In base → base.Ns mainGlobals mg → FnG P w K mg base k fa fd [x] (spF S K (lawSp n))) (hbind : ∀ (s : Shared) (u : Value), BindsTo s fd ⟨[u], []⟩ [(x, u)]) :
    codeAny (model P w) callerA (.call (.ref fa) ⟨[.ref a], []⟩) (fun r s' => r = .ok (.ret (.bool true)) ∧ OldK s₁.heap s'.heap ∧ s'.os = s₁.os ∧ AllBare s'.gens) s₁ := by
  obtain ⟨H, base, hF, hO, hKb, hNb, e0⟩ := law_start (P := P) (w := w) KX hns hb hbb hlim hg ha hi (Nat.le_trans hl hl2)
  have ce : Ce K H (fun b => b = a ∧ H a ≠ none) [] [] := ⟨rfl, List.nodup_nil, fun n b d z => by simp at z, fun b z => (List.not_mem_nil z).elim, fun b z => by rw [z.1]; exact z.2⟩
  have sp : spF S K (lawSp n) [.ref a] H (fun v _ => v = .bl true) fun _ _ _ => False :=
    ⟨[.scr (ns.map D.int)], [], (fun b => b = a ∧ H a ≠ none), [], fun d o _ => d = .bl true ∧ o = false, fun _ _ => False, .cons (.scr hF (repL_ints ns)) .nil, ce, ⟨ns, rfl, hl, rfl, fun _ => ⟨rfl, rfl⟩⟩,
      fun d o c' v H' F' rh' ⟨q1, q2⟩ _ _ r => by subst q1; subst q2; cases (show Rep K H' F' rh' v (.bl true) from r); rfl, fun ex c' cls da H' F' rh' q => q.elim⟩
  refine codeAny_mono ((F _ hKb hNb).go callerA [] s₁ H ⟨[.ref a], []⟩ [.ref a] [.ref a] _ _ hr rfl e0 (hbind s₁ (.ref a)) (.cons rfl .nil) sp) fun r s' h => ?_
  cases r with
  | error e =>
    obtain ⟨_, _, _, _, _, _, _, _, _, _, _, _, z⟩ := (show L2.CX P w [] H s₁ (fun _ _ _ => False) e s' from h)
    exact z.elim
  | ok fl =>
    cases fl with
    | next => exact False.elim h
    | brk => exact False.elim h
    | cont => exact False.elim h
    | ret u =>
      obtain ⟨v, H', os, bare, un, hok', r', q⟩ := h
      have q' : v = .bl true := q
      subst q'
      obtain rfl : u = Value.bool true := r'
      refine ⟨rfl, OldK.of_keep fun b o e => ?_, os, bare⟩
      rcases hO b with z | ⟨ob, z, _⟩
      · exact un.keep b o e z (by intro z; exact absurd (show b ∈ ([] : List Addr) from z) (by simp)) (by simp)
      · have z2 := un.frzs b ob _ z
        obtain ⟨e1, _⟩ := e0.hok b _ z
        obtain ⟨e2, _⟩ := hok' b _ z2
        rw [e] at e1; cases e1
        exact e2
theorem walk_ofG {l : PySem.W.OpenLaw} {n k : Nat} {q : Program} {loose : List Str} {XP : (Str → Option Value) → Heap → Prop} {YP : World → Heap → Prop} {d : DefRec} {S : Sta} {x : Str}
    (hn : l.most = some n) (hn2 : n ≤ sizeLine) (hdf : d.params.defaults = []) (hr : Room k callerA)
    (F : ∀ (w : World) (mg : Str → Option Value) (fa : Addr) (h : Heap), YP w h → h.Ns mainGlobals mg → mg d.name = some (.ref fa) →
      ∃ (K : PySem.W.Frag) (fd : FuncData), K.In h ∧ (∀ (s : Shared) (u : Value), BindsTo s fd ⟨[u], []⟩ [(x, u)]) ∧
        ∀ base : Heap, K.In base → base.Ns mainGlobals mg → FnG l.prog w K mg base k fa fd [x] (spF S K (lawSp n))) :
    PySem.W.WalkO q loose XP YP l.row.toRowW d [] (fun f vs => PySem.call f vs) := by
  refine Att.attach_call hn hdf fun w s₀ s₁ mg mb fa o pm cd doc a vs ns G Y ho hd hcd hmg hobj hints hlen hg => ?_
  obtain ⟨K, fd, KX, hb, hF⟩ := F w mg fa _ Y G.T.g hmg
  exact law_callG KX G.T.g G.T.b G.T.builtins G.T.nolimit hg hobj hints hlen hn2 hr hF hb
end Vm

/-! Vm: calls that give every argument of a def with defaults -/
namespace Vm
open PySem PySem.Spec L2
open PyProof.Rows hiding St
theorem appI_inl {α : Type} {n : Nat} (dv dv' xs : List α) : ∀ pi : List (Nat ⊕ Nat), piOk n 0 pi = true → appI dv pi xs = appI dv' pi xs := by
  intro pi
  induction pi with
  | nil => intro _; rfl
  | cons p pi ih =>
    intro h
    unfold piOk at h ih
    rw [List.all_cons, Bool.and_eq_true] at h
    have t := ih h.2
    cases p with
    | inl i =>
      unfold appI appP at t ⊢
      rw [List.filterMap_cons, List.filterMap_cons, t]
    | inr j => exact absurd (of_decide_eq_true h.1) (Nat.not_lt_zero _)
theorem kbp_dfltN {K : PySem.W.Frag} {x qual : Str} {params : Arguments} {body : List Stmt} {scope : Scope} {f : Addr} {fd : FuncData} {ps nms : List Str} {dvs : List V} {kws : List (Str × V)} {n : Nat} (pi : List (Nat ⊕ Nat)) (F : FunD K x qual params body scope dvs kws f fd) (hd : dvs ≠ []) (ok : piOk (n + nms.length) 0 pi = true)
    (h : ∀ (T : Addr) (kV doc pm : Value) (an : Option Addr) (cdv ct : Value) (us its ws : List Value), us.length = n → its.length = dvs.length → ws.length = nms.length →
      ∃ k, bindArgs (PySem.W.fnOf x qual params body scope (.ref T) kV doc pm an cdv ct) ⟨us, nms.zip ws⟩ = seqItems? (.ref T) >>= k ∧ k (some its.toArray) = pure (ps.zip (appI its pi (us ++ ws)))) :
    KBP K fd ps n nms (planOf pi []) := by
  obtain ⟨oc, od, dV, kV, doc, pm, an, cdv, ct, osl, rfl, lk, hcd, hD, hK⟩ := F.ex
  rcases hD with ⟨e, _⟩ | ⟨_, T, o, its, m, rfl, lT, oT, rT⟩
  · exact absurd e hd
  · refine ⟨fun us ws => appI its pi (us ++ ws), fun vs zs => appI dvs pi (vs ++ zs), ⟨fun s us ws X l1 l2 => ?_, fun r1 r2 => vals_app pi (r1.append r2) rT⟩, fun H F rh vs zs ds es r1 r2 l1 l2 => ?_⟩
    · obtain ⟨k, e1, e2⟩ := h T kV doc pm an cdv ct us its ws l1 rT.length.symm l2
      refine BindsTo.of_looks fun M => ?_
      rw [e1]; exact looks_items X lT oT (.of_pure e2)
    · show RepL K H F rh (appI dvs pi (vs ++ zs)) _
      rw [appI_inl dvs [] (vs ++ zs) pi ok]
      exact rep_app pi (r1.app r2) .nil (by rw [List.length_append, l1, l2]) rfl ok
/-! a default that is the empty tuple of the module -/
def emT (K : PySem.W.Frag) (a : Addr) : Bool := match K.lookup a with
  | some ⟨cls, _, .seq its _, _⟩ => decide (cls = .type "tuple") && its.toList.isEmpty
  | _ => false
theorem emT_ok {K : PySem.W.Frag} {a : Addr} (h : emT K a = true) : SqT K (fun _ => none) a [] := by
  unfold emT at h
  split at h
  · rename_i cls d its n q e
    rw [Bool.and_eq_true] at h
    have h1 := of_decide_eq_true h.1
    have h2 : its.toList = [] := List.isEmpty_iff.mp h.2
    have h3 : its.size = 0 := by rw [← Array.length_toList, h2]; rfl
    exact .inr ⟨_, its, n, e, h1, rfl, by rw [h3]; exact Nat.zero_le _, by rw [h2]; exact .nil⟩
  · cases h
theorem emT_rep {K : PySem.W.Frag} {a : Addr} {H : Hp} {F : Fz} {rh : List Addr} (h : emT K a = true) : Rep K H F rh (.ref a) (.tup []) := .tup (.inr (emT_ok h)) .nil
end Vm

/-! Vm: the weakest preconditions, a step at a time -/
namespace Vm
open PySem PySem.Spec L2
def IfK (d : D) (A B : Prop) : Prop := ∃ k, d = .bl k ∧ (k = true → A) ∧ (k = false → B)
def BoK (c : Cl) (a : Bool) (d : D) (A B : Prop) : Prop := ∃ k, Tru c d = some k ∧ (k = a → A) ∧ (k = (!a) → B)
def ChK (k : Bool) (A B : Prop) : Prop := (k = true → A) ∧ (k = false → B)
def NotK (c : Cl) (d : D) (P : Bool → Prop) : Prop := ∃ k, Tru c d = some k ∧ P (!k)
def IsiK (c : Cl) (d : D) (T : String) (P : Bool → Prop) : Prop := ∃ u, tyD c d = some u ∧ P (isTy u T)
def IntK (d : D) (P : Int → Prop) : Prop := ∃ i, d = .int i ∧ P i
def Int2K (x y : D) (P : Int → Int → Prop) : Prop := ∃ i j, x = .int i ∧ y = .int j ∧ P i j
def BlK (d : D) (P : Bool → Prop) : Prop := ∃ k, d = .bl k ∧ P k
def QT (Q : QK) (d : D) (s : List Sl) (c : Cl) : Prop := ∃ k, Tru c d = some k ∧ Q (.bl k) false s c
section
variable {C : Ctx} {s : List Sl} {c : Cl} {Q : QK} {E : EK} {d x y : D} {i f n : Nat} {a b e : IE} {l kl : IL} {op op' : Operator} {t : Bool} {A B : Prop} {nx bk ct : List Sl → Cl → Prop} {rt : QK}
theorem ifk_bl {p : Bool} (h1 : p = true → A) (h2 : p = false → B) : IfK (.bl p) A B := ⟨p, rfl, h1, h2⟩
theorem ifk_t (h1 : A) : IfK (.bl true) A B := ⟨true, rfl, fun _ => h1, nofun⟩
theorem ifk_f (h1 : B) : IfK (.bl false) A B := ⟨false, rfl, nofun, fun _ => h1⟩
theorem ifk_d {p : Prop} [Decidable p] (h1 : p → A) (h2 : ¬ p → B) : IfK (.bl (decide p)) A B := ⟨_, rfl, fun h => h1 (of_decide_eq_true h), fun h => h2 (of_decide_eq_false h)⟩
theorem bok_bl {p q : Bool} (h1 : p = q → A) (h2 : p = (!q) → B) : BoK c q (.bl p) A B := ⟨p, rfl, h1, h2⟩
theorem bok_tt (h : A) : BoK c true (.bl true) A B := ⟨true, rfl, fun _ => h, nofun⟩
theorem bok_tf (h : B) : BoK c true (.bl false) A B := ⟨false, rfl, nofun, fun _ => h⟩
theorem bok_ff (h : A) : BoK c false (.bl false) A B := ⟨false, rfl, fun _ => h, nofun⟩
theorem bok_ft (h : B) : BoK c false (.bl true) A B := ⟨true, rfl, nofun, fun _ => h⟩
theorem bok_dt {p : Prop} [Decidable p] (h1 : p → A) (h2 : ¬ p → B) : BoK c true (.bl (decide p)) A B := ⟨_, rfl, fun h => h1 (of_decide_eq_true h), fun h => h2 (of_decide_eq_false h)⟩
theorem bok_df {p : Prop} [Decidable p] (h1 : ¬ p → A) (h2 : p → B) : BoK c false (.bl (decide p)) A B := ⟨_, rfl, fun h => h1 (of_decide_eq_false h), fun h => h2 (of_decide_eq_true h)⟩
theorem bok_of {q k : Bool} (h : Tru c d = some k) (h1 : k = q → A) (h2 : k = (!q) → B) : BoK c q d A B := ⟨k, h, h1, h2⟩
theorem chk_d {p : Prop} [Decidable p] (h1 : p → A) (h2 : ¬ p → B) : ChK (decide p) A B := ⟨fun h => h1 (of_decide_eq_true h), fun h => h2 (of_decide_eq_false h)⟩
theorem chk_nd {p : Prop} [Decidable p] (h1 : ¬ p → A) (h2 : p → B) : ChK (!decide p) A B := ⟨fun h => h1 (by simpa using h), fun h => h2 (by simpa using h)⟩
theorem chk_b {k : Bool} (h1 : k = true → A) (h2 : k = false → B) : ChK k A B := ⟨h1, h2⟩
theorem qt_bl {p : Bool} (h : Q (.bl p) false s c) : QT Q (.bl p) s c := ⟨p, rfl, h⟩
theorem qt_int {j : Int} (h : Q (.bl (decide (j ≠ 0))) false s c) : QT Q (.int j) s c := ⟨j != 0, rfl, by
  have e : (j != 0) = decide (j ≠ 0) := by by_cases h : j = 0 <;> simp [h]
  rw [e]; exact h⟩
theorem qt_of {k : Bool} (h : Tru c d = some k) (q : Q (.bl k) false s c) : QT Q d s c := ⟨k, h, q⟩
theorem qt_e : Qt true Q d t s c = QT Q d s c := rfl

theorem e_var0 (h : s[i]? = some (.sh d)) (k : Q d false s c) : wpE C false (.var i) s c Q E := by
  unfold wpE
  rw [h]; exact k
theorem e_var1 (h : s[i]? = some (.sh d)) (k : QT Q d s c) : wpE C true (.var i) s c Q E := by
  unfold wpE
  rw [h]; exact k
theorem e_own0 (h : s[i]? = some (.ow d)) (k : Q d false (s.set i (.sh d)) c) : wpE C false (.var i) s c Q E := by
  unfold wpE
  rw [h]; exact k
theorem e_own1 (h : s[i]? = some (.ow d)) (k : QT Q d (s.set i (.sh d)) c) : wpE C true (.var i) s c Q E := by
  unfold wpE
  rw [h]; exact k
theorem e_con0  (k : Q d false s c) : wpE C false (.con d) s c Q E := by
  unfold wpE
  exact k
theorem e_con1  (k : QT Q d s c) : wpE C true (.con d) s c Q E := by
  unfold wpE
  exact k
theorem e_glob0 (h : C.hasG i = true) (k : Q (C.gl i) false s c) : wpE C false (.glob i) s c Q E := by
  unfold wpE
  exact ⟨h, k⟩
theorem e_glob1 (h : C.hasG i = true) (k : QT Q (C.gl i) s c) : wpE C true (.glob i) s c Q E := by
  unfold wpE
  exact ⟨h, k⟩
theorem e_bin0  (k : wpE C false a s c (fun x _ s1 c1 => wpE C false b s1 c1 (fun y _ s2 c2 => binW op c2 x y fun d o => Q d o s2 c2) E) E) : wpE C false (.bin op a b) s c Q E := by
  unfold wpE
  exact k
theorem e_bin1  (k : wpE C false a s c (fun x _ s1 c1 => wpE C false b s1 c1 (fun y _ s2 c2 => binW op c2 x y fun d o => QT Q d s2 c2) E) E) : wpE C true (.bin op a b) s c Q E := by
  unfold wpE
  exact k
theorem e_un0 {op : UnaryOp}  (k : wpE C false a s c (fun x _ s1 c1 => unW op x fun d o => Q d o s1 c1) E) : wpE C false (.un op a) s c Q E := by
  unfold wpE
  exact k
theorem e_un1 {op : UnaryOp}  (k : wpE C false a s c (fun x _ s1 c1 => unW op x fun d o => QT Q d s1 c1) E) : wpE C true (.un op a) s c Q E := by
  unfold wpE
  exact k
theorem e_cmp0 {op : CmpOp} (k : wpE C false a s c (fun x _ s1 c1 => wpE C false b s1 c1 (fun y _ s2 c2 => cmpW op c2 x y fun k => Q (.bl k) false s2 c2) E) E) : wpE C false (.cmp op a b) s c Q E := by
  unfold wpE
  exact k
theorem e_chain0 {op op' : CmpOp} (k : wpE C false a s c (fun x _ s1 c1 => wpE C false b s1 c1 (fun y _ s2 c2 => cmpW op c2 x y fun k => ChK k (wpE C false e s2 c2 (fun z _ s3 c3 => cmpW op' c3 y z fun k' => Q (.bl k') false s3 c3) E) (Q (.bl false) false s2 c2)) E) E) : wpE C false (.chain op op' a b e) s c Q E := by
  unfold wpE
  have eq : ∀ (k : Bool) (A B : Prop), ChK k A B = (match k with | true => A | false => B) := fun k A B => propext (by cases k <;> simp [ChK])
  simp only [eq] at k
  exact k
theorem e_bool0 {q : Bool} (k : wpB C false q l s c Q E) : wpE C false (.bool q l) s c Q E := by
  unfold wpE
  exact k
theorem b_one0 {q : Bool} (k : wpE C false e s c Q E) : wpB C false q (.cons e .nil) s c Q E := by
  unfold wpB
  exact k
theorem b_cons0 {q : Bool} {e' : IE} (k : wpE C false e s c (fun d _ s1 c1 => BoK c1 q d (wpB C false q (.cons e' l) s1 c1 Q E) (Q d false s1 c1)) E) : wpB C false q (.cons e (.cons e' l)) s c Q E := by
  unfold wpB
  have eq : (fun (d : D) (_ : Bool) s1 c1 => BoK c1 q d (wpB C false q (.cons e' l) s1 c1 Q E) (Q d false s1 c1)) = (fun d _ s1 c1 => ∃ k, Tru c1 d = some k ∧ (match k == q with
      | true => wpB C false q (.cons e' l) s1 c1 Q E
      | false => Q d false s1 c1)) := by
    funext d o s1 c1
    refine propext ⟨fun ⟨k, h1, h2, h3⟩ => ⟨k, h1, ?_⟩, fun ⟨k, h1, h2⟩ => ⟨k, h1, fun h => ?_, fun h => ?_⟩⟩
    · cases k <;> cases q <;> first | exact h2 rfl | exact h3 rfl
    · subst h
      have z : ∀ b : Bool, (b == b) = true := by decide
      rw [z] at h2
      exact h2
    · subst h
      have z : ∀ b : Bool, ((!b) == b) = false := by decide
      rw [z] at h2
      exact h2
  rw [eq] at k
  exact k
theorem e_not0 (k : wpE C false a s c (fun d _ s1 c1 => NotK c1 d fun k => Q (.bl k) false s1 c1) E) : wpE C false (.not a) s c Q E := by
  unfold wpE
  exact k
theorem e_ite0 (k : wpE C true a s c (fun d _ s1 c1 => IfK d (wpE C false b s1 c1 (Qt false Q) E) (wpE C false e s1 c1 (Qt false Q) E)) E) : wpE C false (.ite a b e) s c Q E := by
  unfold wpE
  have eq : (fun (d : D) (_ : Bool) s1 c1 => IfK d (wpE C false b s1 c1 (Qt false Q) E) (wpE C false e s1 c1 (Qt false Q) E)) = (fun d _ s1 c1 => ∃ k, d = .bl k ∧ (match k with
      | true => wpE C false b s1 c1 (Qt false Q) E
      | false => wpE C false e s1 c1 (Qt false Q) E)) := by
    funext d o s1 c1
    refine propext ⟨fun ⟨k, h1, h2, h3⟩ => ⟨k, h1, ?_⟩, fun ⟨k, h1, h2⟩ => ⟨k, h1, fun h => ?_, fun h => ?_⟩⟩
    · cases k <;> first | exact h2 rfl | exact h3 rfl
    · subst h; exact h2
    · subst h; exact h2
  rw [eq] at k
  exact k
theorem e_cmp1 {op : CmpOp} (k : wpE C false a s c (fun x _ s1 c1 => wpE C false b s1 c1 (fun y _ s2 c2 => cmpW op c2 x y fun k => Q (.bl k) false s2 c2) E) E) : wpE C true (.cmp op a b) s c Q E := by
  unfold wpE
  exact k
theorem e_chain1 {op op' : CmpOp} (k : wpE C false a s c (fun x _ s1 c1 => wpE C false b s1 c1 (fun y _ s2 c2 => cmpW op c2 x y fun k => ChK k (wpE C false e s2 c2 (fun z _ s3 c3 => cmpW op' c3 y z fun k' => Q (.bl k') false s3 c3) E) (Q (.bl false) false s2 c2)) E) E) : wpE C true (.chain op op' a b e) s c Q E := by
  unfold wpE
  have eq : ∀ (k : Bool) (A B : Prop), ChK k A B = (match k with | true => A | false => B) := fun k A B => propext (by cases k <;> simp [ChK])
  simp only [eq] at k
  exact k
theorem e_bool1 {q : Bool} (k : wpB C true q l s c Q E) : wpE C true (.bool q l) s c Q E := by
  unfold wpE
  exact k
theorem b_one1 {q : Bool} (k : wpE C true e s c Q E) : wpB C true q (.cons e .nil) s c Q E := by
  unfold wpB
  exact k
theorem b_cons1 {q : Bool} {e' : IE} (k : wpE C true e s c (fun d _ s1 c1 => BoK c1 q d (wpB C true q (.cons e' l) s1 c1 Q E) (Q d false s1 c1)) E) : wpB C true q (.cons e (.cons e' l)) s c Q E := by
  unfold wpB
  have eq : (fun (d : D) (_ : Bool) s1 c1 => BoK c1 q d (wpB C true q (.cons e' l) s1 c1 Q E) (Q d false s1 c1)) = (fun d _ s1 c1 => ∃ k, Tru c1 d = some k ∧ (match k == q with
      | true => wpB C true q (.cons e' l) s1 c1 Q E
      | false => Q d false s1 c1)) := by
    funext d o s1 c1
    refine propext ⟨fun ⟨k, h1, h2, h3⟩ => ⟨k, h1, ?_⟩, fun ⟨k, h1, h2⟩ => ⟨k, h1, fun h => ?_, fun h => ?_⟩⟩
    · cases k <;> cases q <;> first | exact h2 rfl | exact h3 rfl
    · subst h
      have z : ∀ b : Bool, (b == b) = true := by decide
      rw [z] at h2
      exact h2
    · subst h
      have z : ∀ b : Bool, ((!b) == b) = false := by decide
      rw [z] at h2
      exact h2
  rw [eq] at k
  exact k
theorem e_not1 (k : wpE C true a s c (fun d _ s1 c1 => NotK c1 d fun k => Q (.bl k) false s1 c1) E) : wpE C true (.not a) s c Q E := by
  unfold wpE
  exact k
theorem e_ite1 (k : wpE C true a s c (fun d _ s1 c1 => IfK d (wpE C false b s1 c1 (Qt true Q) E) (wpE C false e s1 c1 (Qt true Q) E)) E) : wpE C true (.ite a b e) s c Q E := by
  unfold wpE
  have eq : (fun (d : D) (_ : Bool) s1 c1 => IfK d (wpE C false b s1 c1 (Qt true Q) E) (wpE C false e s1 c1 (Qt true Q) E)) = (fun d _ s1 c1 => ∃ k, d = .bl k ∧ (match k with
      | true => wpE C false b s1 c1 (Qt true Q) E
      | false => wpE C false e s1 c1 (Qt true Q) E)) := by
    funext d o s1 c1
    refine propext ⟨fun ⟨k, h1, h2, h3⟩ => ⟨k, h1, ?_⟩, fun ⟨k, h1, h2⟩ => ⟨k, h1, fun h => ?_, fun h => ?_⟩⟩
    · cases k <;> first | exact h2 rfl | exact h3 rfl
    · subst h; exact h2
    · subst h; exact h2
  rw [eq] at k
  exact k
theorem notk_t {P : Bool → Prop} (k : P false) : NotK c (.bl true) P := ⟨true, rfl, k⟩
theorem notk_f {P : Bool → Prop} (k : P true) : NotK c (.bl false) P := ⟨false, rfl, k⟩
theorem notk_b {P : Bool → Prop} {p : Bool} (k : P (!p)) : NotK c (.bl p) P := ⟨p, rfl, k⟩
theorem notk_d {P : Bool → Prop} {p : Prop} [Decidable p] (k : P (decide (¬ p))) : NotK c (.bl (decide p)) P := ⟨_, rfl, by
  have e : (!decide p) = decide (¬ p) := by simp
  rw [e]; exact k⟩
theorem notk_of {P : Bool → Prop} {p : Bool} (h : Tru c d = some p) (k : P (!p)) : NotK c d P := ⟨p, h, k⟩
theorem isik {P : Bool → Prop} {T u : String} {r : Bool} (h : tyD c d = some u) (h2 : isTy u T = r) (k : P r) : IsiK c d T P := ⟨u, h, by rw [h2]; exact k⟩
theorem isik_str {P : Bool → Prop} {T : String} {z : Str} (k : P (isTy "str" T)) : IsiK c (.str z) T P := ⟨_, rfl, k⟩
theorem intk {P : Int → Prop} {j : Int} (k : P j) : IntK (.int j) P := ⟨j, rfl, k⟩
theorem int2k {P : Int → Int → Prop} {j m : Int} (k : P j m) : Int2K (.int j) (.int m) P := ⟨j, m, rfl, rfl, k⟩
theorem blk {P : Bool → Prop} {p : Bool} (k : P p) : BlK (.bl p) P := ⟨p, rfl, k⟩
theorem qtf {o : Bool} (k : Q d o s c) : Qt false Q d o s c := k
theorem qtt {o : Bool} (k : QT Q d s c) : Qt true Q d o s c := k
theorem e_tup0  (k : wpL C l s c (fun ds s1 c1 => ds.length ≤ sizeLine ∧ Q (.tup ds) false s1 c1) E) : wpE C false (.tup l) s c Q E := by
  unfold wpE
  exact k
theorem e_tup1  (k : wpL C l s c (fun ds s1 c1 => ds.length ≤ sizeLine ∧ QT Q (.tup ds) s1 c1) E) : wpE C true (.tup l) s c Q E := by
  unfold wpE
  exact k
theorem e_lst0  (k : wpL C l s c (fun ds s1 c1 => ds.length ≤ sizeLine ∧ Q (.lst ds) true s1 c1) E) : wpE C false (.lst l) s c Q E := by
  unfold wpE
  exact k
theorem e_lst1  (k : wpL C l s c (fun ds s1 c1 => ds.length ≤ sizeLine ∧ QT Q (.lst ds) s1 c1) E) : wpE C true (.lst l) s c Q E := by
  unfold wpE
  exact k
theorem e_idx0  (k : wpE C false a s c (fun x _ s1 c1 => wpE C false b s1 c1 (fun y _ s2 c2 => idxW c2 x y fun d o => Q d o s2 c2) E) E) : wpE C false (.idx a b) s c Q E := by
  unfold wpE
  exact k
theorem e_idx1  (k : wpE C false a s c (fun x _ s1 c1 => wpE C false b s1 c1 (fun y _ s2 c2 => idxW c2 x y fun d o => QT Q d s2 c2) E) E) : wpE C true (.idx a b) s c Q E := by
  unfold wpE
  exact k
theorem e_slc0 {lo hi : IO}  (k : wpE C false a s c (fun x _ s1 c1 => wpO C lo s1 c1 (fun l s2 c2 => wpO C hi s2 c2 (fun h s3 c3 => slcW c3 x l h fun d o => Q d o s3 c3) E) E) E) : wpE C false (.slc a lo hi) s c Q E := by
  unfold wpE
  exact k
theorem e_slc1 {lo hi : IO}  (k : wpE C false a s c (fun x _ s1 c1 => wpO C lo s1 c1 (fun l s2 c2 => wpO C hi s2 c2 (fun h s3 c3 => slcW c3 x l h fun d o => QT Q d s3 c3) E) E) E) : wpE C true (.slc a lo hi) s c Q E := by
  unfold wpE
  exact k
theorem e_call0  (h : C.hasF f = true) (h2 : C.hasB f = true) (k : wpL C l s c (fun ds s1 c1 => C.fn f ds c1 (fun d o c2 => Q d o s1 c2) (fun ex c2 => E ex s1 c2)) E) : wpE C false (.call f l) s c Q E := by
  unfold wpE
  exact ⟨h, h2, k⟩
theorem e_call1  (h : C.hasF f = true) (h2 : C.hasB f = true) (k : wpL C l s c (fun ds s1 c1 => C.fn f ds c1 (fun d o c2 => QT Q d s1 c2) (fun ex c2 => E ex s1 c2)) E) : wpE C true (.call f l) s c Q E := by
  unfold wpE
  exact ⟨h, h2, k⟩
theorem e_op0 {g : Gn} (h : opOk C g = true) (k : wpL C l s c (fun ds s1 c1 => opW C g ds c1 (fun d o c2 => Q d o s1 c2) (fun ex c2 => E ex s1 c2)) E) : wpE C false (.op g l) s c Q E := by
  unfold wpE
  exact ⟨h, k⟩
theorem e_op1 {g : Gn} (h : opOk C g = true) (k : wpL C l s c (fun ds s1 c1 => opW C g ds c1 (fun d o c2 => QT Q d s1 c2) (fun ex c2 => E ex s1 c2)) E) : wpE C true (.op g l) s c Q E := by
  unfold wpE
  exact ⟨h, k⟩
theorem e_fstr0  (k : wpJ C l Str.empty s c (fun z s1 c1 => Q (.str z) false s1 c1) E) : wpE C false (.fstr l) s c Q E := by
  unfold wpE
  exact k
theorem e_fstr1  (k : wpJ C l Str.empty s c (fun z s1 c1 => QT Q (.str z) s1 c1) E) : wpE C true (.fstr l) s c Q E := by
  unfold wpE
  exact k
theorem e_mcall0 {m n : Nat} {ks : List Nat} {pl : Pl} (k : wpE C false a s c (fun x _ s1 c1 => ∃ k, clsOfD c1 x = some k ∧ C.hasM k m = true ∧ wpL C l s1 c1 (fun ds s2 c2 => callW C (mtF k m) (n + 1) ks pl (x :: ds) c2 (fun d o c3 => Q d o s2 c3) (fun ex c3 => E ex s2 c3)) E) E) : wpE C false (.mcall m n ks pl a l) s c Q E := by
  unfold wpE
  exact k
theorem e_mcall1 {m n : Nat} {ks : List Nat} {pl : Pl} (k : wpE C false a s c (fun x _ s1 c1 => ∃ k, clsOfD c1 x = some k ∧ C.hasM k m = true ∧ wpL C l s1 c1 (fun ds s2 c2 => callW C (mtF k m) (n + 1) ks pl (x :: ds) c2 (fun d o c3 => QT Q d s2 c3) (fun ex c3 => E ex s2 c3)) E) E) : wpE C true (.mcall m n ks pl a l) s c Q E := by
  unfold wpE
  exact k
theorem e_prim0 {p : Prim} (h : C.hasP p = true) (k : wpL C l s c (fun ds s1 c1 => primW p c1 ds fun d o => Q d o s1 c1) E) : wpE C false (.prim p l) s c Q E := by
  unfold wpE
  exact ⟨h, k⟩
theorem e_prim1 {p : Prim} (h : C.hasP p = true) (k : wpL C l s c (fun ds s1 c1 => primW p c1 ds fun d o => QT Q d s1 c1) E) : wpE C true (.prim p l) s c Q E := by
  unfold wpE
  exact ⟨h, k⟩
theorem e_isi0 {T : String} (k : wpE C false a s c (fun x _ s1 c1 => IsiK c1 x T fun r => Q (.bl r) false s1 c1) E) : wpE C false (.isi a T) s c Q E := by
  unfold wpE
  exact k
theorem e_isi1 {T : String} (k : wpE C false a s c (fun x _ s1 c1 => IsiK c1 x T fun r => QT Q (.bl r) s1 c1) E) : wpE C true (.isi a T) s c Q E := by
  unfold wpE
  exact k
theorem e_meth0 {m : Mt} (k : wpE C false a s c (fun x _ s1 c1 => recvOk m x ∧ wpL C l s1 c1 (fun ds s2 c2 => methW m c2 x ds fun d o => Q d o s2 c2) E) E) : wpE C false (.meth m a l) s c Q E := by
  unfold wpE
  exact k
theorem e_meth1 {m : Mt} (k : wpE C false a s c (fun x _ s1 c1 => recvOk m x ∧ wpL C l s1 c1 (fun ds s2 c2 => methW m c2 x ds fun d o => QT Q d s2 c2) E) E) : wpE C true (.meth m a l) s c Q E := by
  unfold wpE
  exact k
theorem e_methv0 {m : Mt} (h : slotL c (s[i]?)) (k : wpL C l s c (fun ds s1 c1 => slotW s1 c1 i fun xs g => mutW m c1 xs ds fun r ys => Q r false (g ys).1 (g ys).2) E) : wpE C false (.methv m i l) s c Q E := by
  unfold wpE
  exact ⟨h, k⟩
theorem e_methv1 {m : Mt} (h : slotL c (s[i]?)) (k : wpL C l s c (fun ds s1 c1 => slotW s1 c1 i fun xs g => mutW m c1 xs ds fun r ys => QT Q r (g ys).1 (g ys).2) E) : wpE C true (.methv m i l) s c Q E := by
  unfold wpE
  exact ⟨h, k⟩
def cStep (C : Ctx) (own : List Nat) (tg : Tg) (ifs : IL) (elt : IE) (x : D) (s2 : List Sl) (c2 : Cl) (k : Option D → List Sl → Cl → Prop) : Prop := match bindT tg x (wipeS s2 own) with
  | none => False
  | some s3 => wpIf C ifs s3 c2 (fun b s4 c4 => match b with
    | true => wpE C false elt s4 c4 (fun d _ s5 c5 => k (some d) s5 c5) EK0
    | false => k none s4 c4)
theorem c_step {own : List Nat} {tg : Tg} {ifs : IL} {elt : IE} {k : Option D → List Sl → Cl → Prop} {s3 : List Sl} (h : bindT tg x (wipeS s own) = some s3) (w : wpIf C ifs s3 c (fun b s4 c4 => ChK b (wpE C false elt s4 c4 (fun d _ s5 c5 => k (some d) s5 c5) EK0) (k none s4 c4))) : cStep C own tg ifs elt x s c k := by
  unfold cStep
  rw [h]
  have eq : (fun (b : Bool) s4 c4 => ChK b (wpE C false elt s4 c4 (fun d _ s5 c5 => k (some d) s5 c5) EK0) (k none s4 c4)) = (fun b s4 c4 => match b with
    | true => wpE C false elt s4 c4 (fun d _ s5 c5 => k (some d) s5 c5) EK0
    | false => k none s4 c4) := by
    funext b s4 c4
    exact propext (by cases b <;> simp [ChK])
  rw [eq] at w
  exact w
theorem e_comp0 {own : List Nat} {tg : Tg} {src : IT} {ifs : IL} (k : wpI C src s c (fun items g s1 c1 => loopC g (cStep C own tg ifs e) items [] s1 c1 fun acc s6 c6 => Q (.lst acc) true (backS s1 s6 own) c6) E) : wpE C false (.comp own tg src ifs e) s c Q E := by
  unfold wpE
  exact k
theorem e_comp1 {own : List Nat} {tg : Tg} {src : IT} {ifs : IL} (k : wpI C src s c (fun items g s1 c1 => loopC g (cStep C own tg ifs e) items [] s1 c1 fun acc s6 c6 => QT Q (.lst acc) (backS s1 s6 own) c6) E) : wpE C true (.comp own tg src ifs e) s c Q E := by
  unfold wpE
  exact k
theorem l_nil {Ql : List D → List Sl → Cl → Prop} (k : Ql [] s c) : wpL C .nil s c Ql E := by unfold wpL; exact k
theorem l_cons {Ql : List D → List Sl → Cl → Prop} (k : wpE C false e s c (fun d _ s1 c1 => wpL C l s1 c1 (fun ds s2 c2 => Ql (d :: ds) s2 c2) E) E) : wpL C (.cons e l) s c Ql E := by unfold wpL; exact k
theorem o_no {Qo : Option Int → List Sl → Cl → Prop} (k : Qo none s c) : wpO C .no s c Qo E := by unfold wpO; exact k
theorem o_so {Qo : Option Int → List Sl → Cl → Prop} (k : wpE C false e s c (fun d _ s1 c1 => IntK d fun i => Qo (some i) s1 c1) E) : wpO C (.so e) s c Qo E := by unfold wpO; exact k
theorem if_nil {Qb : Bool → List Sl → Cl → Prop} (k : Qb true s c) : wpIf C .nil s c Qb := by unfold wpIf; exact k
theorem if_one {Qb : Bool → List Sl → Cl → Prop} (k : wpE C true e s c (fun d _ s1 c1 => BlK d fun k => Qb k s1 c1) EK0) : wpIf C (.cons e .nil) s c Qb := by unfold wpIf; exact k
theorem i_val {ki : List D → (Cl → Prop) → List Sl → Cl → Prop} (k : wpE C false e s c (fun d _ s1 c1 => itemsW c1 d fun xs g => ki xs g s1 c1) E) : wpI C (.val e) s c ki E := by unfold wpI; exact k
theorem i_range1 {ki : List D → (Cl → Prop) → List Sl → Cl → Prop} (k : wpE C false a s c (fun x _ s1 c1 => IntK x fun j => inRange j ∧ ki (rangeD 0 j.toNat) (fun _ => True) s1 c1) E) : wpI C (.range1 a) s c ki E := by unfold wpI; exact k
theorem i_range2 {ki : List D → (Cl → Prop) → List Sl → Cl → Prop} (k : wpE C false a s c (fun x _ s1 c1 => wpE C false b s1 c1 (fun y _ s2 c2 => Int2K x y fun i j => inRange i ∧ inRange j ∧ ki (rangeD i (j - i).toNat) (fun _ => True) s2 c2) E) E) : wpI C (.range2 a b) s c ki E := by unfold wpI; exact k
theorem i_enum {ki : List D → (Cl → Prop) → List Sl → Cl → Prop} (k : wpE C false e s c (fun d _ s1 c1 => itemsW c1 d fun xs g => ki (enumD 0 xs) g s1 c1) E) : wpI C (.enum e) s c ki E := by unfold wpI; exact k
/-! statements -/
theorem ss_nil (k : nx s c) : wpSs C .nil s c ⟨nx, rt, bk, ct⟩ E := by unfold wpSs; exact k
theorem ss_cons {p : IS} {q : ISs} (k : wpS C p s c ⟨fun s1 c1 => wpSs C q s1 c1 ⟨nx, rt, bk, ct⟩ E, rt, bk, ct⟩ E) : wpSs C (.cons p q) s c ⟨nx, rt, bk, ct⟩ E := by unfold wpSs; exact k
theorem s_asg (k : wpE C false e s c (fun d o s1 c1 => nx (s1.set i (slOf d o)) c1) E) : wpS C (.asg i e) s c ⟨nx, rt, bk, ct⟩ E := by unfold wpS; exact k
theorem s_cellify (k : wpE C false e s c (fun d o s1 c1 => o = true ∧ nx (s1.set i (.sh (.cell c1.length))) (c1 ++ [d])) E) : wpS C (.cellify i e) s c ⟨nx, rt, bk, ct⟩ E := by unfold wpS; exact k
def bindK (l : TgL) (d : D) (s : List Sl) (k : List Sl → Prop) : Prop := match bindT (.tp l) d s with
  | some s2 => k s2
  | none => False
theorem bindk {tl : TgL} {k : List Sl → Prop} {s2 : List Sl} (h : bindT (.tp tl) d s = some s2) (q : k s2) : bindK tl d s k := by unfold bindK; rw [h]; exact q
theorem s_asgT {tl : TgL} (k : wpE C false e s c (fun d _ s1 c1 => bindK tl d s1 fun s2 => nx s2 c1) E) : wpS C (.asgT tl e) s c ⟨nx, rt, bk, ct⟩ E := by unfold wpS; exact k
theorem s_par {is : List Nat} (k : wpL C l s c (fun ds s1 c1 => ds.length = is.length ∧ nx (setAll s1 is ds) c1) E) : wpS C (.par is l) s c ⟨nx, rt, bk, ct⟩ E := by unfold wpS; exact k
theorem s_seti (k : wpE C false e s c (fun v _ s1 c1 => slotL c1 (s1[i]?) ∧ wpE C false a s1 c1 (fun x _ s2 c2 => slotW s2 c2 i fun xs g => setiW xs x v fun ys => nx (g ys).1 (g ys).2) E) E) : wpS C (.seti i a e) s c ⟨nx, rt, bk, ct⟩ E := by unfold wpS; exact k
theorem s_augI {j : Int} (h : s[i]? = some (.sh (.int j))) (k : wpE C false e s c (fun y _ s1 c1 => binW op c1 (.int j) y fun d o => nx (s1.set i (slOf d o)) c1) E) : wpS C (.aug i op e) s c ⟨nx, rt, bk, ct⟩ E := by unfold wpS; rw [h]; exact k
theorem s_augS {z : Str} (h : s[i]? = some (.sh (.str z))) (k : wpE C false e s c (fun y _ s1 c1 => binW .Add c1 (.str z) y fun d o => nx (s1.set i (slOf d o)) c1) E) : wpS C (.aug i .Add e) s c ⟨nx, rt, bk, ct⟩ E := by unfold wpS; rw [h]; exact ⟨rfl, k⟩
theorem s_expr (k : wpE C false e s c (fun _ _ s1 c1 => nx s1 c1) E) : wpS C (.expr e) s c ⟨nx, rt, bk, ct⟩ E := by unfold wpS; exact k
theorem s_ret (k : wpE C false e s c rt E) : wpS C (.ret e) s c ⟨nx, rt, bk, ct⟩ E := by unfold wpS; exact k
theorem s_retv (h : s[i]? = some (.sh d)) (k : rt d false s c) : wpS C (.retv i) s c ⟨nx, rt, bk, ct⟩ E := by unfold wpS; rw [h]; exact k
theorem s_reto (h : s[i]? = some (.ow d)) (k : rt d true (s.set i .no) c) : wpS C (.retv i) s c ⟨nx, rt, bk, ct⟩ E := by unfold wpS; rw [h]; exact k
theorem s_retN (k : rt .non false s c) : wpS C .retN s c ⟨nx, rt, bk, ct⟩ E := by unfold wpS; exact k
theorem s_pass (k : nx s c) : wpS C .pass s c ⟨nx, rt, bk, ct⟩ E := by unfold wpS; exact k
theorem s_brk (k : bk s c) : wpS C .brk s c ⟨nx, rt, bk, ct⟩ E := by unfold wpS; exact k
theorem s_cont (k : ct s c) : wpS C .cont s c ⟨nx, rt, bk, ct⟩ E := by unfold wpS; exact k
theorem s_ifs {p q : ISs} (k : wpE C true e s c (fun d _ s1 c1 => IfK d (wpSs C p s1 c1 ⟨nx, rt, bk, ct⟩ E) (wpSs C q s1 c1 ⟨nx, rt, bk, ct⟩ E)) E) : wpS C (.ifs e p q) s c ⟨nx, rt, bk, ct⟩ E := by
  unfold wpS
  have eq : (fun (d : D) (_ : Bool) s1 c1 => IfK d (wpSs C p s1 c1 ⟨nx, rt, bk, ct⟩ E) (wpSs C q s1 c1 ⟨nx, rt, bk, ct⟩ E)) = (fun d _ s1 c1 => ∃ k, d = .bl k ∧ (match k with
      | true => wpSs C p s1 c1 ⟨nx, rt, bk, ct⟩ E
      | false => wpSs C q s1 c1 ⟨nx, rt, bk, ct⟩ E)) := by
    funext d o s1 c1
    refine propext ⟨fun ⟨k, h1, h2, h3⟩ => ⟨k, h1, ?_⟩, fun ⟨k, h1, h2⟩ => ⟨k, h1, fun h => ?_, fun h => ?_⟩⟩
    · cases k <;> first | exact h2 rfl | exact h3 rfl
    · subst h; exact h2
    · subst h; exact h2
  rw [eq] at k
  exact k
def fStep (C : Ctx) (t : Tg) (b : ISs) (nx0 : List Sl → Cl → Prop) (rt : QK) (E : EK) (x : D) (s2 : List Sl) (c2 : Cl) (nxt : List Sl → Cl → Prop) : Prop := match bindT t x s2 with
  | none => False
  | some s3 => wpSs C b s3 c2 { nx := nxt, ct := nxt, bk := nx0, rt := rt } E
theorem f_step {tg : Tg} {q : ISs} {nx0 nxt : List Sl → Cl → Prop} {s3 : List Sl} (h : bindT tg x s = some s3) (w : wpSs C q s3 c ⟨nxt, rt, nx0, nxt⟩ E) : fStep C tg q nx0 rt E x s c nxt := by
  unfold fStep
  rw [h]
  exact w
theorem s_for {tg : Tg} {src : IT} {q : ISs} (k : wpI C src s c (fun items g s1 c1 => loopF g (fStep C tg q nx rt E) items s1 c1 nx) E) : wpS C (.for_ tg src q) s c ⟨nx, rt, bk, ct⟩ E := by
  unfold wpS
  exact k
def wStep (C : Ctx) (e : IE) (b : ISs) (nx0 : List Sl → Cl → Prop) (rt : QK) (E : EK) (s1 : List Sl) (c1 : Cl) (nxt : List Sl → Cl → Prop) : Prop := wpE C true e s1 c1 (fun d _ s2 c2 => ∃ k, d = .bl k ∧ (match k with
      | true => wpSs C b s2 c2 { nx := nxt, ct := nxt, bk := nx0, rt := rt } E
      | false => nx0 s2 c2)) E
theorem w_step {q : ISs} {nx0 nxt : List Sl → Cl → Prop} (k : wpE C true e s c (fun d _ s2 c2 => IfK d (wpSs C q s2 c2 ⟨nxt, rt, nx0, nxt⟩ E) (nx0 s2 c2)) E) : wStep C e q nx0 rt E s c nxt := by
  unfold wStep
  have eq : (fun (d : D) (_ : Bool) s1 c1 => IfK d (wpSs C q s1 c1 ⟨nxt, rt, nx0, nxt⟩ E) (nx0 s1 c1)) = (fun d _ s2 c2 => ∃ k, d = .bl k ∧ (match k with
      | true => wpSs C q s2 c2 { nx := nxt, ct := nxt, bk := nx0, rt := rt } E
      | false => nx0 s2 c2)) := by
    funext d o s1 c1
    refine propext ⟨fun ⟨k, h1, h2, h3⟩ => ⟨k, h1, ?_⟩, fun ⟨k, h1, h2⟩ => ⟨k, h1, fun h => ?_, fun h => ?_⟩⟩
    · cases k <;> first | exact h2 rfl | exact h3 rfl
    · subst h; exact h2
    · subst h; exact h2
  rw [eq] at k
  exact k
theorem s_while {q : ISs} (k : ∃ n, loopW (wStep C e q nx rt E) n s c) : wpS C (.while_ e q) s c ⟨nx, rt, bk, ct⟩ E := by
  unfold wpS
  exact k
end
/-! loops -/
section
variable {g : Cl → Prop}
theorem loopC_of {body : D → List Sl → Cl → (Option D → List Sl → Cl → Prop) → Prop} {k : List D → List Sl → Cl → Prop} (I : List D → List D → List Sl → Cl → Prop)
    (step : ∀ x xs acc s c, I (x :: xs) acc s c → g c ∧ ∀ K : Option D → List Sl → Cl → Prop, (∀ d s1 c1, acc.length < sizeLine ∧ I xs (acc ++ [d]) s1 c1 → K (some d) s1 c1) → (∀ s1 c1, I xs acc s1 c1 → K none s1 c1) → body x s c K)
    (fin : ∀ acc s c, I [] acc s c → g c ∧ k acc s c) : ∀ xs acc s c, I xs acc s c → loopC g body xs acc s c k := by
  intro xs
  induction xs with
  | nil => intro acc s c h; unfold loopC; exact fin acc s c h
  | cons x xs ih =>
    intro acc s c h
    unfold loopC
    obtain ⟨h1, h2⟩ := step x xs acc s c h
    exact ⟨h1, h2 _ (fun d s1 c1 q => ⟨q.1, ih _ _ _ q.2⟩) fun s1 c1 q => ih _ _ _ q⟩
theorem loopF_of {body : D → List Sl → Cl → (List Sl → Cl → Prop) → Prop} {k : List Sl → Cl → Prop} (I : List D → List Sl → Cl → Prop)
    (step : ∀ x xs s c, I (x :: xs) s c → g c ∧ ∀ K : List Sl → Cl → Prop, (∀ s1 c1, I xs s1 c1 → K s1 c1) → body x s c K)
    (fin : ∀ s c, I [] s c → g c ∧ k s c) : ∀ xs s c, I xs s c → loopF g body xs s c k := by
  intro xs
  induction xs with
  | nil => intro s c h; unfold loopF; exact fin s c h
  | cons x xs ih =>
    intro s c h
    unfold loopF
    obtain ⟨h1, h2⟩ := step x xs s c h
    exact ⟨h1, h2 _ fun s1 c1 q => ih _ _ q⟩
theorem loopW_of {step : List Sl → Cl → (List Sl → Cl → Prop) → Prop} (I : Nat → List Sl → Cl → Prop) (h : ∀ m s c, I m s c → ∀ K : List Sl → Cl → Prop, (∀ m' s1 c1, m' < m → I m' s1 c1 → K s1 c1) → step s c K) :
    ∀ n m s c, I m s c → m < n → loopW step n s c := by
  intro n
  induction n with
  | zero => intro m s c _ q; omega
  | succ n ih =>
    intro m s c i q
    unfold loopW
    exact h m s c i _ fun m' s1 c1 z i' => ih m' s1 c1 i' (by omega)
end
/-! primitives -/
section
variable {c : Cl} {Q : Q1} {i j : Int} {a b : Str} {xs ys : List D} {kb : Bool → Prop} {x y : D}
theorem p_addI (k : Q (.int (i + j)) false) : binW .Add c (.int i) (.int j) Q := k
theorem p_addS (h : a.length + b.length ≤ sizeLine) (k : Q (.str (a ++ b)) false) : binW .Add c (.str a) (.str b) Q := ⟨h, k⟩
theorem p_addT (h : xs.length + ys.length ≤ sizeLine) (k : Q (.tup (xs ++ ys)) false) : binW .Add c (.tup xs) (.tup ys) Q := ⟨h, k⟩
theorem p_addL (h : xs.length + ys.length ≤ sizeLine) (k : Q (.lst (xs ++ ys)) true) : binW .Add c (.lst xs) (.lst ys) Q := ⟨xs, ys, rfl, rfl, h, k⟩
theorem p_sub (k : Q (.int (i - j)) false) : binW .Sub c (.int i) (.int j) Q := k
theorem p_mul (h : CMul i j ∨ CMulW i j) (k : Q (.int (i * j)) false) : binW .Mult c (.int i) (.int j) Q := ⟨h, k⟩
theorem p_mulS (h : a.length * j.toNat ≤ sizeLine) (h2 : j.natAbs < 2 ^ 62) (k : Q (.str (repS a j.toNat)) false) : binW .Mult c (.str a) (.int j) Q := ⟨h, h2, k⟩
theorem p_fdiv (h : CDivN i j ∨ CDivW i j) (k : Q (.int (i.fdiv j)) false) : binW .FloorDiv c (.int i) (.int j) Q := ⟨h, k⟩
theorem p_mod (h : j ≠ 0) (k : Q (.int (i.fmod j)) false) : binW .Mod c (.int i) (.int j) Q := ⟨h, k⟩
theorem p_pow (h : CPow i j) (k : Q (.int (i ^ j.toNat)) false) : binW .Pow c (.int i) (.int j) Q := ⟨h, k⟩
theorem p_neg (k : Q (.int (-i)) false) : unW .USub (.int i) Q := k
theorem p_ltI (k : kb (decide (i < j))) : cmpW .Lt c (.int i) (.int j) kb := k
theorem p_leI (k : kb (decide (i ≤ j))) : cmpW .LtE c (.int i) (.int j) kb := k
theorem p_gtI (k : kb (decide (j < i))) : cmpW .Gt c (.int i) (.int j) kb := k
theorem p_geI (k : kb (decide (j ≤ i))) : cmpW .GtE c (.int i) (.int j) kb := k
theorem p_eqI (k : kb (decide (i = j))) : cmpW .Eq c (.int i) (.int j) kb := by
  refine .inr ⟨.int i, .int j, rfl, rfl, rfl, rfl, ?_⟩
  have e : PyData.eqv (.int i) (.int j) = decide (i = j) := by
    show (i == j) = _
    by_cases h : i = j <;> simp [h]
  rw [e]; exact k
theorem p_neI (k : kb (decide (i ≠ j))) : cmpW .NotEq c (.int i) (.int j) kb := by
  refine .inr ⟨.int i, .int j, rfl, rfl, rfl, rfl, ?_⟩
  have e : (!PyData.eqv (.int i) (.int j)) = decide (i ≠ j) := by
    show (!(i == j)) = _
    by_cases h : i = j <;> simp [h]
  rw [e]; exact k
theorem p_eqS (k : kb (decide (a = b))) : cmpW .Eq c (.str a) (.str b) kb := .inl ⟨a, b, rfl, rfl, k⟩
theorem p_neS (k : kb (!decide (a = b))) : cmpW .NotEq c (.str a) (.str b) kb := .inl ⟨a, b, rfl, rfl, k⟩
theorem p_ltS (k : kb (decide (a.cps.toList < b.cps.toList))) : cmpW .Lt c (.str a) (.str b) kb := k
theorem p_leS (k : kb (!decide (b.cps.toList < a.cps.toList))) : cmpW .LtE c (.str a) (.str b) kb := k
theorem p_inC {ch : Nat} (k : kb (decide (ch ∈ b.cps.toList))) : cmpW .In c (.str ⟨#[ch]⟩) (.str b) kb := .inl ⟨ch, rfl, k⟩
theorem p_niC {ch : Nat} (k : kb (!decide (ch ∈ b.cps.toList))) : cmpW .NotIn c (.str ⟨#[ch]⟩) (.str b) kb := .inl ⟨ch, rfl, k⟩
theorem p_isN (k : kb (isNon x)) : cmpW .Is c x .non kb := k
theorem p_isNN (k : kb (!isNon x)) : cmpW .IsNot c x .non kb := k
theorem atI_n {α : Type} (xs : List α) (n : Nat) : atI xs (n : Int) = xs[n]? := by
  unfold atI ixN
  by_cases h : n < xs.length
  · simp [h]
  · simp [h]
theorem p_idxS {ch : Nat} (h : a.length ≤ sizeLine) (h2 : atI a.cps.toList i = some ch) (k : Q (.str ⟨#[ch]⟩) false) : idxW c (.str a) (.int i) Q := ⟨h, ch, h2, k⟩
theorem p_idx {v : D} (h : asS c x = some xs) (h2 : atI xs i = some v) (k : Q v false) : idxW c x (.int i) Q := by
  cases x with
  | str z => cases h
  | _ => exact ⟨xs, v, h, h2, k⟩
theorem p_len {n : Nat} (h : lenD c x = some n) (k : Q (.int (n : Nat)) false) : primW .len c [x] Q := ⟨n, h, k⟩
theorem p_abs (k : Q (.int (if i < 0 then -i else i)) false) : primW .abs c [.int i] Q := k
theorem p_intI (k : Q (.int i) false) : primW .int c [.int i] Q := k
theorem p_intB {p : Bool} (k : Q (.int (if p then 1 else 0)) false) : primW .int c [.bl p] Q := k
theorem p_boolI (k : Q (.bl (i != 0)) false) : primW .bool c [.int i] Q := k
theorem p_boolB {p : Bool} (k : Q (.bl p) false) : primW .bool c [.bl p] Q := k
theorem p_min (k : Q (.int (if j < i then j else i)) false) : primW .min c [.int i, .int j] Q := k
theorem p_max (k : Q (.int (if j > i then j else i)) false) : primW .max c [.int i, .int j] Q := k
theorem p_all {bs : List Bool} (h : asL c x = some (bs.map D.bl)) (k : Q (.bl (bs.all id)) false) : primW .all c [x] Q := ⟨_, bs, h, rfl, k⟩
theorem p_any {bs : List Bool} (h : asL c x = some (bs.map D.bl)) (k : Q (.bl (bs.any id)) false) : primW .any c [x] Q := ⟨_, bs, h, rfl, k⟩
theorem p_slcS {l h : Option Int} (h0 : a.length ≤ sizeLine) (k : Q (.str (cutS a l h)) false) : slcW c (.str a) l h Q := ⟨h0, k⟩
theorem p_slcT {l h : Option Int} (k : Q (.tup (cutD xs l h)) false) : slcW c (.tup xs) l h Q := k
theorem p_slcL {l h : Option Int} (k : Q (.lst (cutD xs l h)) true) : slcW c (.lst xs) l h Q := ⟨xs, .inl rfl, k⟩
theorem p_slcR {l h : Option Int} (k : Q (.lst (cutD xs l h)) true) : slcW c (.scr xs) l h Q := ⟨xs, .inr rfl, k⟩
theorem p_upper (h : a.length ≤ 5592405) (k : Q (.str (Txt.upper a)) false) : methW .upper c (.str a) [] Q := ⟨h, k⟩
theorem p_join {ys : List Str} (h : asS c x = some (ys.map D.str)) (h2 : (ys.map (·.length)).sum + ys.length * a.length ≤ 16777216) (k : Q (.str (Txt.join a ys)) false) : methW .join c (.str a) [x] Q := ⟨_, ys, h, rfl, h2, k⟩
theorem p_slotC {s : List Sl} {i n : Nat} {kk : List D → (List D → List Sl × Cl) → Prop} (h : s[i]? = some (.sh (.cell n))) (h2 : c[n]? = some (.lst xs)) (k : kk xs fun ys => (s, c.set n (.lst ys))) : slotW s c i kk := by
  unfold slotW; rw [h]; exact ⟨xs, h2, k⟩
theorem p_slotO {s : List Sl} {i : Nat} {kk : List D → (List D → List Sl × Cl) → Prop} (h : s[i]? = some (.ow (.lst xs))) (k : kk xs fun ys => (s.set i (.ow (.lst ys)), c)) : slotW s c i kk := by
  unfold slotW; rw [h]; exact k
theorem p_slC {s : List Sl} {i n : Nat} (h : s[i]? = some (.sh (.cell n))) (h2 : c[n]? = some (.lst xs)) : slotL c (s[i]?) := by rw [h]; exact ⟨xs, h2⟩
theorem p_slO {s : List Sl} {i : Nat} (h : s[i]? = some (.ow (.lst xs))) : slotL c (s[i]?) := by rw [h]; trivial
theorem p_set {v : D} {Ql : List D → Prop} {n : Nat} (h : ixN xs.length i = some n) (k : Ql (xs.set n v)) : setiW xs (.int i) v Ql := ⟨n, h, k⟩
theorem p_append {Qm : D → List D → Prop} (h : xs.length < sizeLine) (k : Qm .non (xs ++ [x])) : mutW .append c xs [x] Qm := ⟨h, k⟩
theorem p_itL (k : List D → (Cl → Prop) → Prop) (h : k xs (fun _ => True)) : itemsW c (.lst xs) k := h
theorem p_itT (k : List D → (Cl → Prop) → Prop) (h : k xs (fun _ => True)) : itemsW c (.tup xs) k := h
theorem p_itR (k : List D → (Cl → Prop) → Prop) (h : k xs (fun _ => True)) : itemsW c (.scr xs) k := h
theorem p_itS (k : List D → (Cl → Prop) → Prop) (h : k (signs a) (fun _ => True)) : itemsW c (.str a) k := h
end
end Vm

/-! Vm: the facts of a head: defs, methods, classes -/
namespace Vm
open PySem PySem.Spec L2
open PyProof.Rows hiding St
/-! ### defs and methods -/
def fnWx (K : PySem.W.Frag) (p : Str × Option Str) : He.FnW := match K.lookup (fA K p) with
  | some ⟨_, _, .func fd, _⟩ => some (fd.name, fd.qualname, fd.params, fd.body, fd.scope, fd.globals, fd.closure, fd.builtins)
  | _ => none
def okX (K : PySem.W.Frag) (d : He.DefD) : Bool := PySem.W.keepIn K (.ref (fA K d.at_)) && (match K.lookup (fA K d.at_) with
  | some ⟨_, _, .func fd, _⟩ => PySem.W.codeIn K fd.code d.qual && (He.dflB K fd.defaults (d.dvs K) && He.kwdB K fd.kwdefaults (d.kws K))
  | _ => false)
theorem funDX {K : PySem.W.Frag} {d : He.DefD} (e : fnWx K d.at_ = d.val) (c : okX K d = true) : ∃ fd, FunD K d.name d.qual d.params d.body d.scope (d.dvs K) (d.kws K) (fA K d.at_) fd := by
  obtain ⟨kp, c2⟩ := He.ba c
  unfold fnWx at e
  cases q : K.lookup (fA K d.at_) with
  | none => rw [q] at c2; cases c2
  | some o =>
    obtain ⟨oc, od, dt, osl⟩ := o
    rw [q] at c2 e
    cases dt with
    | func fd =>
      obtain ⟨n1, n2, n3, n4, n5, n6, n7, n8, n9, n10, n11, n12, n13, n14, n15⟩ := fd
      have e2 : (some (n1, n2, n3, n4, n5, n6, n7, n15) : He.FnW) = some (d.name, d.qual, d.params, .stmts d.body, d.scope, mainGlobals, [], builtinsNs) := e
      simp only [Option.some.injEq, Prod.mk.injEq] at e2
      obtain ⟨h1, h2, h3, h4, h5, h6, h7, h8⟩ := e2
      subst h1 h2 h3 h4 h5 h6 h7 h8
      have c3 : (PySem.W.codeIn K n13 d.qual && (He.dflB K n8 (d.dvs K) && He.kwdB K n9 (d.kws K))) = true := c2
      obtain ⟨k1, k2⟩ := He.ba c3
      obtain ⟨k3, k4⟩ := He.ba k2
      exact ⟨_, ⟨oc, od, n8, n9, n10, n11, n12, n13, n14, osl, rfl, q, k1, He.dflB_ok k3, He.kwdB_ok k4⟩, kp⟩
    | _ => cases c2
/-! ### what a law asks of its classes -/
structure CT where
  fld : List (Nat × Nat) := []
  mth : List (Nat × Nat) := []
  mak : List Nat := []
  isn : List Nat := []
  isi : List (Nat × Nat) := []
  bin : List (Nat × Nat) := []
  prp : List (Nat × Nat) := []
  ne : List Nat := []
  rev : List Nat := []
  exc : List Nat := []
  exh : List (Nat × Nat) := []
  cmt : List (Nat × Nat) := []
def eqO {α : Type} [DecidableEq α] (a b : α) : Bool := decide (a = b)
def clsB (K : PySem.W.Frag) (k : Nat) : Bool := (He.Fa.cls (clsN k)).ok K
theorem clsB_ok {K : PySem.W.Frag} {k : Nat} (h : clsB K k = true) : Cls K (cAd K k) := by
  obtain ⟨h1, h⟩ := He.ba (show (PySem.W.plainGet K (He.ga K (clsN k)) Str.empty && (PySem.W.hasDictIn K (He.ga K (clsN k)) && (PySem.W.plainOver K (He.ga K (clsN k)) && He.eqO (PySem.W.findIn K (.ref (He.ga K (clsN k))) "__setattr__") (some (some (.builtin "object.__setattr__")))))) = true from h)
  obtain ⟨h2, h⟩ := He.ba h
  obtain ⟨h3, h4⟩ := He.ba h
  exact ⟨h1, h2, h3, He.eqO_ok h4⟩
def opNm (m : Nat) : String := if m = 10 then "add" else if m = 12 then "sub" else if m = 3 then "mul" else if m = 16 then "or" else if m = 17 then "and" else "pow"
def ctX (T : CT) (M : Nm) (K : PySem.W.Frag) : Bool :=
  (T.exc.all fun k => PySem.W.excInitIn K (cAd K k) (bsOf k).mro (bsOf k).nw && PySem.W.excOver K (cAd K k) (bsOf k).mro && PySem.W.hasDictIn K (cAd K k) && He.eqO (PySem.W.findIn K (.ref (cAd K k)) "__setattr__") (some (some (.builtin "object.__setattr__"))) && He.eqO (PySem.W.findIn K (.ref (cAd K k)) "__init__") (some (some (.ref (fA K (M.fn (mtF k 0)))))) && PySem.W.isFn K (.ref (fA K (M.fn (mtF k 0)))) && PySem.W.keepIn K (.ref (cAd K k)) && decide (PySem.W.typeIn K (.ref (cAd K k)) = some (.type "type")) && xfB K (cAd K k) && He.eqO (PySem.W.findIn K (.ref (cAd K k)) (atN (exA k))) (some none) && (He.Fa.glo (clsN k)).ok K && decide (exA k < atNames.length)) &&
  ((T.exh.all fun p => decide (PySem.W.exmOne K (.ref (cAd K p.1)) (.ref (cAd K p.2)) = some (subC p.1 p.2)) && (He.Fa.glo (clsN p.2)).ok K) &&
  T.cmt.all fun p => PySem.W.readsIn K (cAd K p.1) (.type "type") && He5.wrapB K (cAd K p.1) "classmethod" "classmethod.__get__" (mtN p.2) && decide (He5.wf K (cAd K p.1) "classmethod" (mtN p.2) = fA K (M.fn (mtF p.1 p.2))) && PySem.W.fnIn K (fA K (M.fn (mtF p.1 p.2))) && (He.Fa.glo (clsN p.1)).ok K && decide (M.ps (mtF p.1 p.2) = M.mp p.2))
def ctB (T : CT) (M : Nm) (K : PySem.W.Frag) : Bool :=
  (T.fld.all fun p => clsB K p.1 && (He.Fa.noat (clsN p.1) (atN p.2)).ok K && decide (p.2 < atNames.length)) &&
  ((T.mth.all fun p => clsB K p.1 && He.eqO (PySem.W.findIn K (.ref (cAd K p.1)) (mtN p.2)) (some (some (.ref (fA K (M.fn (mtF p.1 p.2)))))) && PySem.W.isFn K (.ref (fA K (M.fn (mtF p.1 p.2)))) && PySem.W.keepIn K (.ref (fA K (M.fn (mtF p.1 p.2)))) && decide (mtN p.2 ≠ "") && PySem.W.selfFirst K (cAd K p.1) && PySem.W.fnIn K (fA K (M.fn (mtF p.1 p.2))) && (decide (p.2 = 0) || decide (M.ps (mtF p.1 p.2) = M.mp p.2))) &&
  ((T.mak.all fun k => PySem.W.makesIn K (cAd K k) && He.eqO (PySem.W.findIn K (.ref (cAd K k)) "__init__") (some (some (.ref (fA K (M.fn (mtF k 0)))))) && PySem.W.isFn K (.ref (fA K (M.fn (mtF k 0)))) && PySem.W.keepIn K (.ref (cAd K k)) && (He.Fa.glo (clsN k)).ok K) &&
  ((T.isn.all fun j => (He.Fa.glo (clsN j)).ok K && tyAll.all fun t => decide (PySem.W.kitOne K (.type t) (.ref (cAd K j)) = some false)) &&
  ((T.isi.all fun p => clsB K p.1 && He.eqO (PySem.W.findIn K (.ref (cAd K p.1)) "__class__") (some (some (.builtin "object.__class__"))) && He.eqO (PySem.W.specialIn K (.builtin "object.__class__") "__get__") (some (some (.builtin "getset_descriptor.__get__"))) && decide (PySem.W.takesIn K (.builtin "object.__class__") = some true) && decide (PySem.W.mroIn K (cAd K p.1) (.type "object") = some true) && decide (PySem.W.kitOne K (.ref (cAd K p.1)) (.ref (cAd K p.2)) = some (subC p.1 p.2))) &&
  ((T.bin.all fun p => (match PySem.W.findIn K (.ref (cAd K p.1)) (dunderR (opNm p.2)) with
      | some none => true
      | some (some (.ref _)) => true
      | _ => false) && tyAll.all fun t => (PySem.W.findIn K (.type t) (PySem.dunder (opNm p.2))).isSome && (PySem.W.findIn K (.type t) (dunderR (opNm p.2))).isSome) &&
  ((T.prp.all fun p => clsB K p.1 && (match PySem.W.findIn K (.ref (cAd K p.1)) (mtN p.2) with
      | some (some (.ref q)) => He.eqO (PySem.W.specialIn K (.ref q) "__get__") (some (some (.builtin "property.__get__"))) && decide (PySem.W.takesIn K (.ref q) = some true) && (match PySem.W.recIn K q "property" with
        | some (.ref g :: _) => decide (g = fA K (M.fn (mtF p.1 p.2)))
        | _ => false)
      | _ => false)) &&
  ((T.ne.all fun k => He.eqO (PySem.W.findIn K (.ref (cAd K k)) "__ne__") (some (some (.builtin "object.__ne__"))) && decide (PySem.W.mroIn K (cAd K k) (.type "object") = some true)) &&
  ((T.rev.all fun k => tyAll.all fun t => decide (PySem.W.mroIn K (cAd K k) (.type t) = some false)) && (digB K && ctX T M K)))))))))
def CT.ctx (T : CT) (C : Ctx) : Ctx := { C with hasA := fun k n => T.fld.contains (k, n), hasM := fun k m => T.mth.contains (k, m), hasC := fun k => T.mak.contains k, hasN := fun j => T.isn.contains j, hasI := fun k j => T.isi.contains (k, j), hasO := fun k m => T.bin.contains (k, m), hasR := fun k m => T.prp.contains (k, m), hasQ := fun k => T.ne.contains k, hasW := fun k => T.rev.contains k, hasX := fun k => T.exc.contains k, hasH := fun k j => T.exh.contains (k, j), hasK := fun k m => T.cmt.contains (k, m) }
theorem cread_by {K : PySem.W.Frag} {C : Addr} (h : PySem.W.readsIn K C (.type "type") = true) : ClX.CRead K C (.type "type") := by
  refine ⟨h, ?_⟩
  unfold PySem.W.readsIn at h
  simp only [Bool.and_eq_true, beq_iff_eq] at h
  unfold PySem.W.specialIn
  obtain ⟨⟨⟨⟨g1, g2⟩, g3⟩, g4⟩, g5⟩ := h
  rw [g2, Option.bind_some]
  exact g3
theorem clOk_of {T : CT} {M : Nm} {K : PySem.W.Frag} {h : Heap} {mg : Str → Option Value} {C : Ctx} (X : K.In h) (G : h.Ns mainGlobals mg) (c : ctB T M K = true) (xi : ∀ k ∈ T.exc, XiSh K M k) : ClOk K mg M (T.ctx C) := by
  obtain ⟨c1, c⟩ := He.ba c
  obtain ⟨c2, c⟩ := He.ba c
  obtain ⟨c3, c⟩ := He.ba c
  obtain ⟨c4, c⟩ := He.ba c
  obtain ⟨c5, c⟩ := He.ba c
  obtain ⟨c6, c⟩ := He.ba c
  obtain ⟨c7, c⟩ := He.ba c
  obtain ⟨c8, c⟩ := He.ba c
  obtain ⟨c9, c⟩ := He.ba c
  obtain ⟨c10, c⟩ := He.ba c
  obtain ⟨c11, c⟩ := He.ba c
  obtain ⟨c12, c13⟩ := He.ba c
  refine ⟨fun k n e => ?_, fun k m e => ?_, fun k e => ?_, fun j e => ?_, fun k j e => ?_, fun k m op hm e => ?_, fun k m e => ?_, fun k e => ?_, fun k e t ht => ?_, c10, fun k e => ?_, fun k j e => ?_, fun k m e => ?_⟩
  · have z := List.all_eq_true.mp c1 (k, n) (List.contains_iff_mem.mp e)
    simp only [Bool.and_eq_true] at z
    exact ⟨clsB_ok z.1.1, He.eqO_ok z.1.2, of_decide_eq_true z.2⟩
  · have z := List.all_eq_true.mp c2 (k, m) (List.contains_iff_mem.mp e)
    simp only [Bool.and_eq_true, Bool.or_eq_true] at z
    obtain ⟨⟨⟨⟨⟨⟨⟨z1, z2⟩, z3⟩, z4⟩, z5⟩, z6⟩, z8⟩, z7⟩ := z
    refine ⟨clsB_ok z1, ⟨He.eqO_ok z2, z3, z4⟩, of_decide_eq_true z5, z6, fun hm => ?_, z8⟩
    rcases z7 with z7 | z7
    · exact absurd (of_decide_eq_true z7) hm
    · exact of_decide_eq_true z7
  · have z := List.all_eq_true.mp c3 k (List.contains_iff_mem.mp e)
    simp only [Bool.and_eq_true] at z
    obtain ⟨⟨⟨⟨z1, z2⟩, z3⟩, z4⟩, z5⟩ := z
    exact ⟨⟨z1, He.eqO_ok z2, z3, z4⟩, He.glo_ok X G z5⟩
  · have z := List.all_eq_true.mp c4 j (List.contains_iff_mem.mp e)
    simp only [Bool.and_eq_true] at z
    exact ⟨He.glo_ok X G z.1, fun t ht => of_decide_eq_true (List.all_eq_true.mp z.2 t ht)⟩
  · have z := List.all_eq_true.mp c5 (k, j) (List.contains_iff_mem.mp e)
    simp only [Bool.and_eq_true] at z
    obtain ⟨⟨⟨⟨⟨z1, z2⟩, z3⟩, z4⟩, z5⟩, z6⟩ := z
    exact ⟨⟨clsB_ok z1, He.eqO_ok z2, He.eqO_ok z3, of_decide_eq_true z4, of_decide_eq_true z5⟩, of_decide_eq_true z6⟩
  · have z := List.all_eq_true.mp c6 (k, m) (List.contains_iff_mem.mp e)
    simp only [Bool.and_eq_true] at z
    have en : op.info.2 = opNm m := by cases op <;> first | (cases hm; done) | (cases hm; rfl)
    rw [en]
    refine ⟨?_, fun t ht => ?_⟩
    · have z1 := z.1
      split at z1
      · rename_i q; exact ⟨_, q, .inl rfl⟩
      · rename_i g q; exact ⟨_, q, .inr ⟨g, rfl⟩⟩
      · cases z1
    · have z2 := List.all_eq_true.mp z.2 t ht
      simp only [Bool.and_eq_true] at z2
      exact ⟨Option.isSome_iff_exists.mp z2.1, Option.isSome_iff_exists.mp z2.2⟩
  · have z := List.all_eq_true.mp c7 (k, m) (List.contains_iff_mem.mp e)
    simp only [Bool.and_eq_true] at z
    have z2 := z.2
    split at z2
    · rename_i q hq
      simp only [Bool.and_eq_true] at z2
      obtain ⟨⟨y1, y2⟩, y3⟩ := z2
      split at y3
      · rename_i g rest hr
        have eg := of_decide_eq_true y3
        exact ⟨clsB_ok z.1, q, hq, He.eqO_ok y1, of_decide_eq_true y2, rest, by rw [hr, eg]⟩
      · cases y3
    · cases z2
  · have z := List.all_eq_true.mp c8 k (List.contains_iff_mem.mp e)
    simp only [Bool.and_eq_true] at z
    exact ⟨He.eqO_ok z.1, of_decide_eq_true z.2⟩
  · have z := List.all_eq_true.mp c9 k (List.contains_iff_mem.mp e)
    exact of_decide_eq_true (List.all_eq_true.mp z t ht)
  · have z := List.all_eq_true.mp c11 k (List.contains_iff_mem.mp e)
    simp only [Bool.and_eq_true] at z
    obtain ⟨⟨⟨⟨⟨⟨⟨⟨⟨⟨⟨z1, z2⟩, z3⟩, z4⟩, z5⟩, z6⟩, z7⟩, z8⟩, z9⟩, z10⟩, z11⟩, z12⟩ := z
    exact ⟨⟨z1, z2, z3, He.eqO_ok z4, He.eqO_ok z5, z6, z7, of_decide_eq_true z8, xfB_ok z9⟩, xi k (List.contains_iff_mem.mp e), He.eqO_ok z10, He.glo_ok X G z11, of_decide_eq_true z12⟩
  · have z := List.all_eq_true.mp c12 (k, j) (List.contains_iff_mem.mp e)
    simp only [Bool.and_eq_true] at z
    exact ⟨of_decide_eq_true z.1, He.glo_ok X G z.2⟩
  · have z := List.all_eq_true.mp c13 (k, m) (List.contains_iff_mem.mp e)
    simp only [Bool.and_eq_true] at z
    obtain ⟨⟨⟨⟨⟨z1, z2⟩, z3⟩, z4⟩, z5⟩, z6⟩ := z
    have ew := of_decide_eq_true z3
    obtain ⟨w1, w2⟩ := He5.wrapB_ok z2
    rw [ew] at w2
    exact ⟨⟨cread_by z1, ⟨_, ⟨w1, w2, z4⟩⟩, of_decide_eq_true z6⟩, He.glo_ok X G z5⟩
/-! ### the Hook -/
abbrev AlX : Type := Bool × List He.FnW
def obsX (fa : List He.Fa) (xb : PySem.W.Frag → Bool) (fn : List He.DefD) (K : PySem.W.Frag) : AlX := ((fa.all fun f => f.ok K) && (xb K && fn.all fun d => okX K d), fn.map fun d => fnWx K d.at_)
def valX (fn : List He.DefD) : AlX := (true, fn.map He.DefD.val)
def SaysX (fa : List He.Fa) (xb : PySem.W.Frag → Bool) (fn : List He.DefD) (K : PySem.W.Frag) : Prop := obsX fa xb fn K = valX fn
/-- what a property, a class method names: it stands in the heap as a record, its fields are reached -/
def metB (m a : Nat) : Bool := Nat.beq ((m >>> a) % 2) 1
def stepB {α : Type} : List Addr → List Addr → Nat → (List Addr → Nat → α) → α
  | [], fr, m, k => k fr m
  | a :: as, fr, m, k => HandSHeadRun.frNat a fun a => match metB m a with
    | true => stepB as fr m k
    | false => HandSHeadRun.frNat (m ||| (1 <<< a)) fun m => stepB as (a :: fr) m k
def growB (g : Addr → Option Obj) : Nat → List Addr → List Addr → Nat → List Addr
  | 0, all, _, _ => all
  | n + 1, all, fr, m => stepB (fr.flatMap fun a => match g a with
    | some o => He.refsD o
    | none => []) [] m fun fr m => growB g n (all ++ fr) fr m
def asB (g : Addr → Option Obj) (n : Nat) : List Addr := growB g n [mainGlobals, cStatics] [mainGlobals] ((1 <<< mainGlobals) ||| (1 <<< cStatics))
def frL {α β : Type} : List α → (List α → β) → β
  | [], k => k []
  | x :: l, k => frL l fun l => k (x :: l)
theorem frL_eq {α β : Type} : ∀ (l : List α) (k : List α → β), frL l k = k l
  | [], _ => rfl
  | x :: l, k => by
    show frL l (fun l => k (x :: l)) = _
    rw [frL_eq l]
def obsXG (n : Nat) (fa : List He.Fa) (xb : PySem.W.Frag → Bool) (fn : List He.DefD) (g : Addr → Option Obj) : AlX := frL (He.frG g (asB g n)) fun K => obsX fa xb fn K
theorem obsXG_K (n : Nat) (fa : List He.Fa) (xb : PySem.W.Frag → Bool) (fn : List He.DefD) (g : Addr → Option Obj) : obsXG n fa xb fn g = obsX fa xb fn (He.frG g (asB g n)) := frL_eq _ _
def hookX (n : Nat) (fa : List He.Fa) (xb : PySem.W.Frag → Bool) (fn : List He.DefD) : PySem.W.Hook where
  α := AlX
  obs := fun s => obsXG n fa xb fn s.heap.get?
  val := fun _ => valX fn
  says := fun _ h => ∃ K : PySem.W.Frag, K.In h ∧ SaysX fa xb fn K
  of := fun _ _ e => ⟨_, He.frG_in, (obsXG_K _ _ _ _ _).symm.trans e⟩
  keeps := fun _ _ _ ⟨K, hK, c⟩ k => ⟨K, PySem.W.Frag.In.keeps hK k, c⟩
theorem obsXG_eq {n : Nat} {fa : List He.Fa} {xb : PySem.W.Frag → Bool} {fn : List He.DefD} {g : Addr → Option Obj} {s : Shared} (h : ∀ a, g a = s.heap.get? a) : obsXG n fa xb fn g = (hookX n fa xb fn).obs s := by
  have e : g = s.heap.get? := funext h
  rw [e] <;> rfl
section
variable {fa : List He.Fa} {xb : PySem.W.Frag → Bool} {fn : List He.DefD} {K : PySem.W.Frag}
theorem SaysX.fact (c : SaysX fa xb fn K) (i : Nat) {f : He.Fa} (h : fa[i]? = some f := by rfl) : f.ok K = true := by
  have c1 := (He.ba (show ((fa.all fun f => f.ok K) && (xb K && fn.all fun d => okX K d)) = true from congrArg (fun z : AlX => z.1) c)).1
  exact List.all_eq_true.mp c1 f (List.mem_of_getElem? h)
theorem SaysX.ext_ (c : SaysX fa xb fn K) : xb K = true := (He.ba (He.ba (show ((fa.all fun f => f.ok K) && (xb K && fn.all fun d => okX K d)) = true from congrArg (fun z : AlX => z.1) c)).2).1
theorem SaysX.def_ (c : SaysX fa xb fn K) (i : Nat) {d : He.DefD} (h : fn[i]? = some d := by rfl) : ∃ fd, FunD K d.name d.qual d.params d.body d.scope (d.dvs K) (d.kws K) (fA K d.at_) fd := by
  have c2 := (He.ba (He.ba (show ((fa.all fun f => f.ok K) && (xb K && fn.all fun d => okX K d)) = true from congrArg (fun z : AlX => z.1) c)).2).2
  have e : fn.map (fun d => fnWx K d.at_) = fn.map He.DefD.val := congrArg (fun z : AlX => z.2) c
  have e2 : (fn.map fun d => fnWx K d.at_)[i]? = (fn.map He.DefD.val)[i]? := by rw [e]
  rw [List.getElem?_map, List.getElem?_map, h] at e2
  exact funDX (Option.some.inj e2) (List.all_eq_true.mp c2 d (List.mem_of_getElem? h))
end
end Vm

/-! Vm: steps of instances; forms of promises -/
namespace Vm
open PySem PySem.Spec L2
abbrev SpT := List D → Cl → (D → Bool → Cl → Prop) → (Ex → Cl → Prop) → Prop
/-- a def that gives a value and changes nothing -/
def spPure (h : List D → Option D) : SpT := fun ds c Q _ => ∃ d, h ds = some d ∧ Q d false c
/-- an __init__ that sets attributes -/
def spIni (k : Nat) (g : List D → Option (List Nat × List D)) : SpT := fun ds c Q _ => ∃ n xs ns ys, ds = .cell n :: xs ∧ c[n]? = some (.ins k [] []) ∧ g xs = some (ns, ys) ∧ Q .non false (c.set n (.ins k ns ys))
theorem set_last {c : Cl} {x y : D} : (c ++ [x]).set c.length y = c ++ [y] := by
  rw [List.set_append_right _ _ (Nat.le_refl _), Nat.sub_self]; rfl
theorem get_last {c : Cl} {x : D} : (c ++ [x])[c.length]? = some x := by
  rw [List.getElem?_append_right (Nat.le_refl _), Nat.sub_self]; rfl
def okM (C : Ctx) (k m n : Nat) : Bool := C.hasM k m && (C.hasF (mtF k m) && C.hasP2 (mtF k m) n [] (idP n))
theorem okM_ok {C : Ctx} {k m n : Nat} (h : okM C k m n = true) : C.hasM k m = true ∧ C.hasF (mtF k m) = true ∧ C.hasP2 (mtF k m) n [] (idP n) = true := by
  unfold okM at h
  rw [Bool.and_eq_true, Bool.and_eq_true] at h
  exact h
section
variable {C : Ctx} {s : List Sl} {c : Cl} {Q : D → Bool → Cl → Prop} {E : Ex → Cl → Prop} {Qk : QK} {Ek : EK} {d x y : D} {i f n k m j : Nat} {a b e : IE} {l kl : IL} {op : Operator} {ns : List Nat} {xs ds : List D}
theorem o_fldI (h2 : C.hasA k n = true) (h3 : getF ns xs n = some d) (q : Q d false c) : opW C (.fld n) [.ins k ns xs] c Q E := ⟨k, ns, xs, d, rfl, h2, h3, q⟩
theorem o_fldC (h : c[i]? = some (.ins k ns xs)) (h2 : C.hasA k n = true) (h3 : getF ns xs n = some d) (q : Q d false c) : opW C (.fld n) [.cell i] c Q E := ⟨k, ns, xs, d, by show (match c[i]? with | some (.ins k ns xs) => some (k, ns, xs) | _ => none) = _; rw [h], h2, h3, q⟩
theorem o_fmtS {z : Str} (h : z.length ≤ sizeLine) (q : Q (.str z) false c) : opW C .fmt [.str z] c Q E := ⟨h, q⟩
theorem o_fmtI {z : Int} (h : z.natAbs.log2 < 1920) (q : Q (.str (toString z)) false c) : opW C .fmt [.int z] c Q E := ⟨h, q⟩
theorem o_iscI {b : Bool} (h : C.hasI k j = true) (hb : subC k j = b) (q : Q (.bl b) false c) : opW C (.isc j) [.ins k ns xs] c Q E := ⟨fun k2 e => by cases e; exact h, b, by subst hb; rfl, q⟩
theorem o_eqT {ds es : List D} (hl : ds.length = es.length) (h : ∀ (i : Nat) d e, ds[i]? = some d → es[i]? = some e → ∃ k, clsOfD c d = some k ∧ othOk C c k e ∧ methK C k 1 1 [] (idP 2) d [e] c (fun r _ c2 => r = .bl true ∧ c2 = c) (fun _ _ => False)) (q : Q (.bl true) false c) : opW C .eqT [.tup ds, .tup es] c Q E := ⟨ds, es, rfl, rfl, hl, h, q⟩
theorem o_srt {u v f : Nat} {ds : List D} (nss : List (List Str)) (hl : nss.length = ds.length) (h : ∀ (i : Nat) d zs, ds[i]? = some d → nss[i]? = some zs → ∃ k ns xs, insOf c d = some (k, ns, xs) ∧ C.hasA k f = true ∧ getF ns xs f = some (.tup (zs.map .str))) (hb : nss.flatten.length < 4000)
    (q : ∀ ys : List Str, ys.Nodup → PyProof.Rows.sortedS ys = true → (∀ z, z ∈ ys ↔ z ∈ nss.flatten) → Q (.lst (ys.map .str)) true c) : opW C (.srt u v f) [.tup ds] c Q E := ⟨ds, nss, rfl, hl, h, hb, q⟩
theorem o_iscT (h : C.hasI k j = true) (hb : subC k j = true) (q : Q (.bl true) false c) : opW C (.isc j) [.ins k ns xs] c Q E := o_iscI h hb q
theorem o_iscF (h : C.hasI k j = true) (hb : subC k j = false) (q : Q (.bl false) false c) : opW C (.isc j) [.ins k ns xs] c Q E := o_iscI h hb q
theorem o_iscN {t : String} (h : insOf c x = none) (h2 : tyD c x = some t) (q : Q (.bl false) false c) : opW C (.isc j) [x] c Q E := by
  refine ⟨fun k2 e => ?_, false, ?_, q⟩
  · unfold clsOfD at e
    rw [h] at e; cases e
  · unfold iscD
    rw [h, h2]; rfl
theorem o_prpI (h : C.hasR k m = true) (hF : C.hasF (mtF k m) = true) (hP : C.hasP2 (mtF k m) 1 [] (idP 1) = true) (q : C.fn (mtF k m) [.ins k ns xs] c Q (fun _ _ => False)) : opW C (.prp m) [.ins k ns xs] c Q E := ⟨k, rfl, h, hF, hP, rfl, q⟩
theorem o_unI {o : UnaryOp} (hm : unM o = some m) (h : okM C k m 1 = true) (q : C.fn (mtF k m) [.ins k ns xs] c Q E) : opW C (.un o) [.ins k ns xs] c Q E := by
  obtain ⟨h1, h2, h3⟩ := okM_ok h
  exact ⟨k, m, rfl, hm, h1, h2, h3, rfl, q⟩
theorem o_binN {i : Int} (hm : binM op = some m) (h : okM C k m 2 = true) (hO : C.hasO k m = true) (hN : C.hasN k = true) (q : C.fn (mtF k m) [.ins k ns xs, .int i] c Q E) : opW C (.bin op) [.ins k ns xs, .int i] c Q E := by
  obtain ⟨h1, h2, h3⟩ := okM_ok h
  exact ⟨k, m, rfl, hm, hO, hN, .inl ⟨i, rfl⟩, h1, h2, h3, rfl, q⟩
theorem o_binI {ns2 : List Nat} {xs2 : List D} (hm : binM op = some m) (h : okM C k m 2 = true) (hO : C.hasO k m = true) (hN : C.hasN k = true) (q : C.fn (mtF k m) [.ins k ns xs, .ins k ns2 xs2] c Q E) : opW C (.bin op) [.ins k ns xs, .ins k ns2 xs2] c Q E := by
  obtain ⟨h1, h2, h3⟩ := okM_ok h
  exact ⟨k, m, rfl, hm, hO, hN, .inr rfl, h1, h2, h3, rfl, q⟩
theorem o_eqI (h : okM C k 1 2 = true) (ho : othOk C c k y) (q : C.fn (mtF k 1) [.ins k ns xs, y] c (fun d _ c2 => ∃ b, d = .bl b ∧ Q (.bl b) false c2) E) : opW C .eqI [.ins k ns xs, y] c Q E := by
  obtain ⟨h1, h2, h3⟩ := okM_ok h
  exact ⟨k, rfl, ho, h1, h2, h3, rfl, q⟩
theorem o_neI (h : okM C k 1 2 = true) (hQ : C.hasQ k = true) (ho : othOk C c k y) (q : C.fn (mtF k 1) [.ins k ns xs, y] c (fun d _ c2 => ∃ b, d = .bl b ∧ Q (.bl (!b)) false c2) (fun _ _ => False)) : opW C .neI [.ins k ns xs, y] c Q E := by
  obtain ⟨h1, h2, h3⟩ := okM_ok h
  exact ⟨k, rfl, hQ, ho, h1, h2, h3, rfl, q⟩
theorem o_eqR (h : okM C k 1 2 = true) (hW : C.hasW k = true) (hf : flatV2 y = true) (q : C.fn (mtF k 1) [.ins k ns xs, y] c (fun d _ c2 => ∃ b, d = .bl b ∧ Q (.bl b) false c2) E) : opW C .eqR [y, .ins k ns xs] c Q E := by
  obtain ⟨h1, h2, h3⟩ := okM_ok h
  exact ⟨k, rfl, hW, hf, h1, h2, h3, rfl, q⟩
theorem o_dget {ks : List Key} {key : Key} {z : D} (h : asDic c x = some (ks, xs)) (hk : y = keyD key) (g : getK ks xs key = some z) (q : Q z false c) : opW C .dget [x, y] c Q E := ⟨ks, xs, key, z, h, hk, g, q⟩
theorem o_din {neg : Bool} {ks : List Key} {key : Key} (h : asDic c x = some (ks, xs)) (hk : y = keyD key) (q : Q (.bl (neg != (getK ks xs key).isSome)) false c) : opW C (.din neg) [y, x] c Q E := ⟨ks, xs, key, h, hk, q⟩
/-- C(..) where __init__ sets attributes -/
theorem o_mkS {n : Nat} {ks : List Nat} {pl : Pl} {g : List D → Option (List Nat × List D)} {zs ys : List D} (hM : C.hasM k 0 = true) (hF : C.hasF (mtF k 0) = true) (hP : C.hasP2 (mtF k 0) (n + 1) ks pl = true) (hl : (D.cell 0 :: ds).length = n + 1 + ks.length) (hs : ∀ ds c Q E, spIni k g ds c Q E → C.fn (mtF k 0) ds c Q E) (hp : appD pl (.cell c.length :: ds) = .cell c.length :: zs) (hg : g zs = some (ns, ys)) (hf : flatL ys = true) (q : Q (.ins k ns ys) false c) : opW C (.mk k n ks pl) ds c Q E := by
  refine ⟨hM, hF, hP, hl, ?_⟩
  rw [hp]
  exact hs _ _ _ _ ⟨c.length, zs, ns, ys, rfl, get_last, hg, rfl, ns, ys, set_last, hf, q⟩
theorem o_call {n : Nat} {ks : List Nat} {pl : Pl} {zs : List D} (hF : C.hasF f = true) (hP : C.hasP2 f n ks pl = true) (hl : ds.length = n + ks.length) (hp : appD pl ds = zs) (q : C.fn f zs c Q E) : opW C (.call f n ks pl) ds c Q E := ⟨hF, hP, hl, by rw [hp]; exact q⟩
theorem k_call {n : Nat} {ks : List Nat} {pl : Pl} {zs : List D} (hF : C.hasF f = true) (hP : C.hasP2 f n ks pl = true) (hl : ds.length = n + ks.length) (hp : appD pl ds = zs) (q : C.fn f zs c Q E) : callW C f n ks pl ds c Q E := ⟨hF, hP, hl, by rw [hp]; exact q⟩
theorem m_ins {P : Nat → Prop} (hM : C.hasM k m = true) (q : P k) : ∃ j, clsOfD c (.ins k ns xs) = some j ∧ C.hasM j m = true ∧ P j := ⟨k, rfl, hM, q⟩
theorem m_cell {P : Nat → Prop} (h : c[i]? = some (.ins k ns xs)) (hM : C.hasM k m = true) (q : P k) : ∃ j, clsOfD c (.cell i) = some j ∧ C.hasM j m = true ∧ P j := ⟨k, by show ((match c[i]? with | some (.ins k ns xs) => some (k, ns, xs) | _ => none) : Option (Nat × List Nat × List D)).map (fun p => p.1) = some k; rw [h]; rfl, hM, q⟩
/-! f-strings -/
theorem j_nil {z : Str} {Qj : Str → List Sl → Cl → Prop} (q : Qj z s c) : wpJ C .nil z s c Qj Ek := by unfold wpJ; exact q
theorem j_cons {z : Str} {Qj : Str → List Sl → Cl → Prop} (q : wpE C false a s c (fun d _ s1 c1 => ∃ y, d = .str y ∧ (z ++ y).length ≤ sizeLine ∧ wpJ C l (z ++ y) s1 c1 Qj Ek) Ek) : wpJ C (.cons a l) z s c Qj Ek := by unfold wpJ; exact q
theorem j_str {z y : Str} {P : Str → Prop} (h : (z ++ y).length ≤ sizeLine) (q : P (z ++ y)) : ∃ w, D.str y = .str w ∧ (z ++ w).length ≤ sizeLine ∧ P (z ++ w) := ⟨y, rfl, h, q⟩
theorem allP {p : Prim} (h : ∀ p, C.hasP p = true) : C.hasP p = true := h p
/-! o.f = e -/
theorem s_setf {nx bk ct : List Sl → Cl → Prop} {rt : QK} (q : wpE C false e s c (fun d _ s1 c1 => match s1[i]? with
    | some (.sh (.cell m)) => ∃ k ns xs, c1[m]? = some (.ins k ns xs) ∧ C.hasA k n = true ∧ ns.length < 1000 ∧ nx s1 (c1.set m (.ins k (putF n d ns xs).1 (putF n d ns xs).2))
    | _ => False) Ek) : wpS C (.setf i n e) s c ⟨nx, rt, bk, ct⟩ Ek := by unfold wpS; exact q
theorem q_setf {P : List Sl → Cl → Prop} {r : List Nat × List D} (h : s[i]? = some (.sh (.cell m))) (h1 : c[m]? = some (.ins k ns xs)) (h2 : C.hasA k n = true) (h3 : ns.length < 1000) (h4 : putF n d ns xs = r) (q : P s (c.set m (.ins k r.1 r.2))) : (match s[i]? with
    | some (.sh (.cell m)) => ∃ k ns xs, c[m]? = some (.ins k ns xs) ∧ C.hasA k n = true ∧ ns.length < 1000 ∧ P s (c.set m (.ins k (putF n d ns xs).1 (putF n d ns xs).2))
    | _ => False) := by
  rw [h]
  subst h4
  exact ⟨k, ns, xs, h1, h2, h3, q⟩
/-! raise, try -/
theorem s_raise {nx bk ct : List Sl → Cl → Prop} {rt : QK} (h : C.hasX k = true) (q : wpL C l s c (fun ds s1 c1 => ∃ fs, exF k ds = some fs ∧ Ek ⟨k, fs⟩ s1 c1) Ek) : wpS C (.raise_ k l) s c ⟨nx, rt, bk, ct⟩ Ek := by
  unfold wpS
  exact ⟨h, q⟩
theorem s_try {nx bk ct : List Sl → Cl → Prop} {rt : QK} {b : ISs} {hs : List Hd} (h : (hs.all fun h => C.hasH h.k h.k) = true) (q : wpSs C b s c ⟨nx, rt, bk, ct⟩ (fun ex s1 c1 => handW C hs ex s1 c1 ⟨nx, rt, bk, ct⟩ Ek)) : wpS C (.try_ b hs) s c ⟨nx, rt, bk, ct⟩ Ek := by
  unfold wpS
  exact ⟨h, q⟩
theorem hand_t {N : En} {h : Hd} {hs : List Hd} {ex : Ex} (h1 : C.hasX ex.cls = true) (h2 : C.hasH ex.cls h.k = true) (h3 : subC ex.cls h.k = true) (h4 : jOk s h.j = true) (h5 : evH ex h.e = some d) (q : N.nx (clrS (s.set h.i (.sh d)) h.j) c) : handW C (h :: hs) ex s c N Ek := by
  unfold handW
  refine ⟨h1, h2, ?_⟩
  rw [h3]
  exact ⟨h4, d, h5, q⟩
theorem hand_f {N : En} {h : Hd} {hs : List Hd} {ex : Ex} (h1 : C.hasX ex.cls = true) (h2 : C.hasH ex.cls h.k = true) (h3 : subC ex.cls h.k = false) (q : handW C hs ex s c N Ek) : handW C (h :: hs) ex s c N Ek := by
  unfold handW
  refine ⟨h1, h2, ?_⟩
  rw [h3]
  exact q
/-! instances' own methods, called by the machine -/
theorem o_boolI (h : okM C k 5 1 = true) (q : C.fn (mtF k 5) [.ins k ns xs] c (fun d _ c2 => ∃ b, d = .bl b ∧ Q (.bl b) false c2) (fun _ _ => False)) : opW C .boolI [.ins k ns xs] c Q E := by
  obtain ⟨h1, h2, h3⟩ := okM_ok h
  exact ⟨k, rfl, h1, h2, h3, rfl, q⟩
theorem o_lenI (h : okM C k 6 1 = true) (q : C.fn (mtF k 6) [.ins k ns xs] c (fun d _ c2 => ∃ n : Int, d = .int n ∧ (0 ≤ n ∧ n < 2 ^ 63) ∧ Q (.int n) false c2) (fun _ _ => False)) : opW C .lenI [.ins k ns xs] c Q E := by
  obtain ⟨h1, h2, h3⟩ := okM_ok h
  exact ⟨k, rfl, h1, h2, h3, rfl, q⟩
theorem o_getI (h : okM C k 7 2 = true) (q : C.fn (mtF k 7) [.ins k ns xs, y] c Q E) : opW C .getI [.ins k ns xs, y] c Q E := by
  obtain ⟨h1, h2, h3⟩ := okM_ok h
  exact ⟨k, rfl, h1, h2, h3, rfl, q⟩
theorem o_inI {neg : Bool} (h : okM C k 15 2 = true) (q : C.fn (mtF k 15) [.ins k ns xs, y] c (fun d _ c2 => ∃ b, d = .bl b ∧ Q (.bl (neg != b)) false c2) E) : opW C (.inI neg) [y, .ins k ns xs] c Q E := by
  obtain ⟨h1, h2, h3⟩ := okM_ok h
  exact ⟨k, rfl, h1, h2, h3, rfl, q⟩
theorem truW_of {Qb : Bool → Cl → Prop} (h : okM C k 5 1 = true) (q : C.fn (mtF k 5) [.ins k ns xs] c (fun d _ c2 => ∃ b, d = .bl b ∧ Qb b c2) (fun _ _ => False)) : truW C (.ins k ns xs) c Qb := by
  obtain ⟨h1, h2, h3⟩ := okM_ok h
  exact ⟨k, rfl, h1, h2, h3, rfl, q⟩
theorem s_ifI {nx bk ct : List Sl → Cl → Prop} {rt : QK} {neg : Bool} {p q : ISs} (w : wpE C false e s c (fun d _ s1 c1 => truW C d c1 fun k c2 => (match neg != k with
      | true => wpSs C p s1 c2 ⟨nx, rt, bk, ct⟩ Ek
      | false => wpSs C q s1 c2 ⟨nx, rt, bk, ct⟩ Ek)) Ek) : wpS C (.ifI neg e p q) s c ⟨nx, rt, bk, ct⟩ Ek := by
  unfold wpS
  exact w
/-! attributes set one behind another; displays -/
theorem q_setfA {P : List Sl → Cl → Prop} {r : List Nat × List D} {y : D} (h : s[i]? = some (.sh (.cell m))) (h1 : c[m]? = some y) (h2 : C.hasA k n = true) (h3 : Nat.blt ns.length 1000 = true) (h4 : putF n d ns xs = r) (q : P s (c.set m (.ins k r.1 r.2))) : (match s[i]? with
    | some (.sh (.cell m')) => ∃ k' ns' xs', (c.set m (.ins k ns xs))[m']? = some (.ins k' ns' xs') ∧ C.hasA k' n = true ∧ ns'.length < 1000 ∧ P s ((c.set m (.ins k ns xs)).set m' (.ins k' (putF n d ns' xs').1 (putF n d ns' xs').2))
    | _ => False) := by
  rw [h]
  subst h4
  have hl : m < c.length := (List.getElem?_eq_some_iff.mp h1).1
  refine ⟨k, ns, xs, List.getElem?_set_self hl, h2, Nat.blt_eq.mp h3, ?_⟩
  rw [List.set_set]
  exact q
theorem tupk {ds : List D} {P : Prop} (h : Nat.ble ds.length 1000 = true) (q : P) : ds.length ≤ sizeLine ∧ P := ⟨Nat.le_trans (Nat.le_of_ble_eq_true h) (by rw [sizeLine_eq]; decide), q⟩
/-! items of tuples, of values -/
theorem p_idxT {v : D} {z : Int} {Qp : Q1} (h : atI xs z = some v) (q : Qp v false) : idxW c (.tup xs) (.int z) Qp := ⟨xs, v, rfl, h, q⟩
theorem p_idxL {v : D} {z : Int} {Qp : Q1} (h : atI xs z = some v) (q : Qp v false) : idxW c (.lst xs) (.int z) Qp := ⟨xs, v, rfl, h, q⟩
theorem p_strI {z : Int} {Qp : Q1} (h : z.natAbs.log2 < 1920) (q : Qp (.str (toString z)) false) : primW .str c [.int z] Qp := ⟨h, q⟩
end
/-! loops by the number of the turn -/
theorem loopF_ix {g : Cl → Prop} {step : D → List Sl → Cl → (List Sl → Cl → Prop) → Prop} {k : List Sl → Cl → Prop} (I : Nat → List Sl → Cl → Prop) (xs : List D)
    (hs : ∀ i x, xs[i]? = some x → ∀ s c, I i s c → g c ∧ ∀ K : List Sl → Cl → Prop, (∀ s1 c1, I (i + 1) s1 c1 → K s1 c1) → step x s c K) (hf : ∀ s c, I xs.length s c → g c ∧ k s c) : ∀ s c, I 0 s c → loopF g step xs s c k := by
  have main : ∀ (ys : List D) (i : Nat), (∀ j, ys[j]? = xs[i + j]?) → i + ys.length = xs.length → ∀ s c, I i s c → loopF g step ys s c k := by
    intro ys
    induction ys with
    | nil =>
      intro i _ hl s c h
      have e : i = xs.length := by simpa using hl
      subst e
      exact hf s c h
    | cons y ys ih =>
      intro i hy hl s c h
      have h0 : xs[i]? = some y := by have := hy 0; simpa using this.symm
      obtain ⟨h1, h2⟩ := hs i y h0 s c h
      refine ⟨h1, h2 _ fun s1 c1 h3 => ih (i + 1) (fun j => ?_) (by rw [List.length_cons] at hl; omega) s1 c1 h3⟩
      have := hy (j + 1)
      rw [List.getElem?_cons_succ] at this
      rw [this]
      congr 1
      omega
  intro s c h
  exact main xs 0 (fun j => by rw [Nat.zero_add]) (by omega) s c h
theorem rangeD_len (lo : Int) (n : Nat) : (rangeD lo n).length = n := by unfold rangeD; rw [List.length_map, List.length_range]
theorem rangeD_at {lo : Int} {n i : Nat} {x : D} (h : (rangeD lo n)[i]? = some x) : i < n ∧ x = .int (lo + (i : Nat)) := by
  unfold rangeD at h
  rw [List.getElem?_map] at h
  by_cases hi : i < n
  · rw [List.getElem?_range hi] at h
    exact ⟨hi, (Option.some.inj h).symm⟩
  · rw [List.getElem?_eq_none (by rw [List.length_range]; omega)] at h
    cases h
theorem loopF_rng {g : Cl → Prop} {step : D → List Sl → Cl → (List Sl → Cl → Prop) → Prop} {k : List Sl → Cl → Prop} (I : Nat → List Sl → Cl → Prop) (n : Nat)
    (hs : ∀ i, i < n → ∀ s c, I i s c → g c ∧ ∀ K : List Sl → Cl → Prop, (∀ s1 c1, I (i + 1) s1 c1 → K s1 c1) → step (.int (0 + (i : Nat))) s c K) (hf : ∀ s c, I n s c → g c ∧ k s c) : ∀ s c, I 0 s c → loopF g step (rangeD 0 n) s c k := by
  refine loopF_ix I _ (fun i x hx s c h => ?_) fun s c h => hf s c (by rw [rangeD_len] at h; exact h)
  obtain ⟨h1, h2⟩ := rangeD_at hx
  subst h2
  exact hs i h1 s c h
theorem loopC_ix {g : Cl → Prop} {body : D → List Sl → Cl → (Option D → List Sl → Cl → Prop) → Prop} {k : List D → List Sl → Cl → Prop} (I : Nat → List D → List Sl → Cl → Prop) (xs : List D)
    (hs : ∀ i x, xs[i]? = some x → ∀ acc s c, I i acc s c → g c ∧ ∀ K : Option D → List Sl → Cl → Prop, (∀ d s1 c1, acc.length < sizeLine ∧ I (i + 1) (acc ++ [d]) s1 c1 → K (some d) s1 c1) → (∀ s1 c1, I (i + 1) acc s1 c1 → K none s1 c1) → body x s c K)
    (hf : ∀ acc s c, I xs.length acc s c → g c ∧ k acc s c) : ∀ acc s c, I 0 acc s c → loopC g body xs acc s c k := by
  have main : ∀ (ys : List D) (i : Nat), (∀ j, ys[j]? = xs[i + j]?) → i + ys.length = xs.length → ∀ acc s c, I i acc s c → loopC g body ys acc s c k := by
    intro ys
    induction ys with
    | nil =>
      intro i _ hl acc s c h
      have e : i = xs.length := by simpa using hl
      subst e
      exact hf acc s c h
    | cons y ys ih =>
      intro i hy hl acc s c h
      have h0 : xs[i]? = some y := by have := hy 0; simpa using this.symm
      have hy' : ∀ j, ys[j]? = xs[i + 1 + j]? := fun j => by
        have := hy (j + 1)
        rw [List.getElem?_cons_succ] at this
        rw [this]
        congr 1
        omega
      have hl' : i + 1 + ys.length = xs.length := by rw [List.length_cons] at hl; omega
      obtain ⟨h1, h2⟩ := hs i y h0 acc s c h
      refine ⟨h1, h2 _ (fun d s1 c1 h3 => ⟨h3.1, ih (i + 1) hy' hl' _ s1 c1 h3.2⟩) fun s1 c1 h3 => ih (i + 1) hy' hl' _ s1 c1 h3⟩
  intro acc s c h
  exact main xs 0 (fun j => by rw [Nat.zero_add]) (by omega) acc s c h
theorem loopC_rng {g : Cl → Prop} {body : D → List Sl → Cl → (Option D → List Sl → Cl → Prop) → Prop} {k : List D → List Sl → Cl → Prop} (I : Nat → List D → List Sl → Cl → Prop) (n : Nat)
    (hs : ∀ i, i < n → ∀ acc s c, I i acc s c → g c ∧ ∀ K : Option D → List Sl → Cl → Prop, (∀ d s1 c1, acc.length < sizeLine ∧ I (i + 1) (acc ++ [d]) s1 c1 → K (some d) s1 c1) → (∀ s1 c1, I (i + 1) acc s1 c1 → K none s1 c1) → body (.int (0 + (i : Nat))) s c K)
    (hf : ∀ acc s c, I n acc s c → g c ∧ k acc s c) : ∀ acc s c, I 0 acc s c → loopC g body (rangeD 0 n) acc s c k := by
  refine loopC_ix I _ (fun i x hx acc s c h => ?_) fun acc s c h => hf acc s c (by rw [rangeD_len] at h; exact h)
  obtain ⟨h1, h2⟩ := rangeD_at hx
  subst h2
  exact hs i h1 acc s c h
section
variable {C : Ctx} {s : List Sl} {c : Cl} {a b : IE} {nx : List Sl → Cl → Prop} {rt : QK} {bk ct : List Sl → Cl → Prop} {E : EK}
theorem s_parL {i j : Nat} (k : wpE C false a s c (fun d _ s1 c1 => wpE C false b s1 c1 (fun e o s2 c2 => o = true ∧ nx ((s2.set i (.sh d)).set j (.sh (.cell c2.length))) (c2 ++ [e])) E) E) : wpS C (.parL i j a b) s c ⟨nx, rt, bk, ct⟩ E := by unfold wpS; exact k
end
end Vm

/-! Vm: tests that are known -/
namespace Vm
open PySem PySem.Spec L2
section
variable {c : Cl} {A B : Prop} {p : Prop} [Decidable p]
theorem ifk_dt (h : p) (a : A) : IfK (.bl (decide p)) A B := ifk_d (fun _ => a) fun g => absurd h g
theorem ifk_dn (h : ¬ p) (b : B) : IfK (.bl (decide p)) A B := ifk_d (fun g => absurd g h) fun _ => b
theorem ifk_nt (h : p) (b : B) : IfK (.bl (!decide p)) A B := by rw [decide_eq_true h]; exact ifk_f b
theorem ifk_nn (h : ¬ p) (a : A) : IfK (.bl (!decide p)) A B := by rw [decide_eq_false h]; exact ifk_t a
theorem ifk_ne {q : Bool} (h : q = true) (a : A) : IfK (.bl q) A B := by subst h; exact ifk_t a
theorem bok_at (h : p) (a : A) : BoK c true (.bl (decide p)) A B := by rw [decide_eq_true h]; exact bok_tt a
theorem bok_an (h : ¬ p) (b : B) : BoK c true (.bl (decide p)) A B := by rw [decide_eq_false h]; exact bok_tf b
theorem bok_ot (h : p) (b : B) : BoK c false (.bl (decide p)) A B := by rw [decide_eq_true h]; exact bok_ft b
theorem bok_on (h : ¬ p) (a : A) : BoK c false (.bl (decide p)) A B := by rw [decide_eq_false h]; exact bok_ff a
theorem bok_ant (h : p) (b : B) : BoK c true (.bl (!decide p)) A B := by rw [decide_eq_true h]; exact bok_tf b
theorem bok_ann (h : ¬ p) (a : A) : BoK c true (.bl (!decide p)) A B := by rw [decide_eq_false h]; exact bok_tt a
theorem bok_ont (h : p) (a : A) : BoK c false (.bl (!decide p)) A B := by rw [decide_eq_true h]; exact bok_ff a
theorem bok_onn (h : ¬ p) (b : B) : BoK c false (.bl (!decide p)) A B := by rw [decide_eq_false h]; exact bok_ft b
theorem ifk_d2 (h1 : p → A) (h2 : ¬ p → B) : IfK (.bl (!decide p)) B A := by
  by_cases z : p
  · rw [decide_eq_true z]; exact ifk_f (h1 z)
  · rw [decide_eq_false z]; exact ifk_t (h2 z)
end
section
variable {C : Ctx} {c : Cl} {x y : D} {kb : Bool → Prop}
/-- data compared -/
theorem p_eqD {p q : PyData} (hp : pyC c x = some p) (hq : pyC c y = some q) (sp : SeqAt.shaped p = true) (sq : SeqAt.shaped q = true) (k : kb (PyData.eqv p q)) : cmpW .Eq c x y kb := .inr ⟨p, q, hp, hq, sp, sq, k⟩
theorem p_neD {p q : PyData} (hp : pyC c x = some p) (hq : pyC c y = some q) (sp : SeqAt.shaped p = true) (sq : SeqAt.shaped q = true) (k : kb (!PyData.eqv p q)) : cmpW .NotEq c x y kb := .inr ⟨p, q, hp, hq, sp, sq, k⟩
/-- equal data -/
theorem p_ne0 {p : PyData} (hp : pyC c x = some p) (hq : pyC c y = some p) (sp : SeqAt.shaped p = true) (k : kb false) : cmpW .NotEq c x y kb := .inr ⟨p, p, hp, hq, sp, sp, by
  rw [SeqAt.eqv_refl p (SeqAt.canLay_of_shaped sp)]; exact k⟩
theorem p_eq0 {p : PyData} (hp : pyC c x = some p) (hq : pyC c y = some p) (sp : SeqAt.shaped p = true) (k : kb true) : cmpW .Eq c x y kb := .inr ⟨p, p, hp, hq, sp, sp, by
  rw [SeqAt.eqv_refl p (SeqAt.canLay_of_shaped sp)]; exact k⟩
end
end Vm

/-! Vm: loops over what is known -/
namespace Vm
open PySem PySem.Spec L2
section
variable {g : Cl → Prop}
/-- each item gives its own -/
theorem loopC_map {α : Type} {body : D → List Sl → Cl → (Option D → List Sl → Cl → Prop) → Prop} {k : List D → List Sl → Cl → Prop} (f h : α → D) (I : List Sl → Cl → Prop) (l : List α) (hl : l.length ≤ sizeLine)
    (hs : ∀ a ∈ l, ∀ s c, I s c → g c ∧ ∀ K : Option D → List Sl → Cl → Prop, (∀ s1 c1, I s1 c1 → K (some (h a)) s1 c1) → body (f a) s c K)
    (hf : ∀ s c, I s c → g c ∧ k (l.map h) s c) : ∀ s c, I s c → loopC g body (l.map f) [] s c k := by
  intro s c hI
  refine loopC_ix (fun i acc s c => acc = (l.take i).map h ∧ I s c) _ (fun i x hx acc s c ⟨e, hi⟩ => ?_) (fun acc s c ⟨e, hi⟩ => ?_) _ _ _ ⟨rfl, hI⟩
  · rw [List.getElem?_map] at hx
    match e2 : l[i]?, hx with
    | some a, hx =>
      have hx : f a = x := by simpa using hx
      obtain ⟨h1, h2⟩ := hs a (List.mem_of_getElem? e2) s c hi
      have hil : i < l.length := (List.getElem?_eq_some_iff.mp e2).1
      refine ⟨h1, fun K k1 _ => ?_⟩
      rw [← hx]
      refine h2 K fun s1 c1 hi1 => k1 _ _ _ ⟨?_, ?_, hi1⟩
      · rw [e, List.length_map, List.length_take]; omega
      · rw [e, List.take_add_one, e2, List.map_append]; rfl
  · obtain ⟨h1, h2⟩ := hf s c hi
    refine ⟨h1, ?_⟩
    rw [e, List.length_map, List.take_of_length_le (Nat.le_refl _)]; exact h2
/-- no item gives one -/
theorem loopC_no {body : D → List Sl → Cl → (Option D → List Sl → Cl → Prop) → Prop} {k : List D → List Sl → Cl → Prop} (I : List Sl → Cl → Prop) (xs : List D)
    (hs : ∀ x ∈ xs, ∀ s c, I s c → g c ∧ ∀ K : Option D → List Sl → Cl → Prop, (∀ s1 c1, I s1 c1 → K none s1 c1) → body x s c K)
    (hf : ∀ s c, I s c → g c ∧ k [] s c) : ∀ s c, I s c → loopC g body xs [] s c k := by
  intro s c hI
  refine loopC_of (fun ys acc s c => (∀ y ∈ ys, y ∈ xs) ∧ acc = [] ∧ I s c) (fun x ys acc s c ⟨m, e, hi⟩ => ?_) (fun acc s c ⟨m, e, hi⟩ => ?_) _ _ _ _ ⟨fun _ h => h, rfl, hI⟩
  · obtain ⟨h1, h2⟩ := hs x (m x List.mem_cons_self) s c hi
    exact ⟨h1, fun K _ k2 => h2 K fun s1 c1 hi1 => k2 _ _ ⟨fun y hy => m y (List.mem_cons_of_mem _ hy), e, hi1⟩⟩
  · subst e
    exact hf s c hi
theorem loopF_map {α : Type} {step : D → List Sl → Cl → (List Sl → Cl → Prop) → Prop} {k : List Sl → Cl → Prop} (f : α → D) (I : List Sl → Cl → Prop) (l : List α)
    (hs : ∀ a ∈ l, ∀ s c, I s c → g c ∧ ∀ K : List Sl → Cl → Prop, (∀ s1 c1, I s1 c1 → K s1 c1) → step (f a) s c K)
    (hf : ∀ s c, I s c → g c ∧ k s c) : ∀ s c, I s c → loopF g step (l.map f) s c k := by
  intro s c hI
  refine loopF_ix (fun _ s c => I s c) _ (fun i x hx s c hi => ?_) hf _ _ hI
  rw [List.getElem?_map] at hx
  match e2 : l[i]?, hx with
  | some a, hx =>
    have hx : f a = x := by simpa using hx
    rw [← hx]
    exact hs a (List.mem_of_getElem? e2) s c hi
theorem loopF_enum {α : Type} {step : D → List Sl → Cl → (List Sl → Cl → Prop) → Prop} {k : List Sl → Cl → Prop} (f : α → D) (I : List Sl → Cl → Prop) (l : List α)
    (hs : ∀ (i : Nat) a, l[i]? = some a → ∀ s c, I s c → g c ∧ ∀ K : List Sl → Cl → Prop, (∀ s1 c1, I s1 c1 → K s1 c1) → step (.tup [.int (i : Nat), f a]) s c K)
    (hf : ∀ s c, I s c → g c ∧ k s c) : ∀ s c, I s c → loopF g step (enumD 0 (l.map f)) s c k := by
  intro s c hI
  refine loopF_ix (fun _ s c => I s c) _ (fun i x hx s c hi => ?_) hf _ _ hI
  have hil : i < l.length := by
    have := (List.getElem?_eq_some_iff.mp hx).1
    rwa [enumD_len, List.length_map] at this
  have e2 : l[i]? = some l[i] := List.getElem?_eq_getElem hil
  have e3 : (l.map f)[i]? = some (f l[i]) := by rw [List.getElem?_map, e2]; rfl
  have e4 := enumD_at (k := 0) e3
  rw [e4] at hx
  cases hx
  rw [Nat.zero_add]
  exact hs i _ e2 s c hi
theorem at_map {α : Type} {f : α → D} {l : List α} {i : Nat} {a : α} (h : l[i]? = some a) : atI (l.map f) ((i : Nat) : Int) = some (f a) := by
  rw [atI_n, List.getElem?_map, h]; rfl
theorem e_slO {C : Ctx} {s : List Sl} {c : Cl} {i : Nat} {d : D} {o : Bool} {Q : D → Bool → List Sl → Cl → Prop} {E : Ex → List Sl → Cl → Prop} (h : s[i]? = some (slOf d o)) (k : Q d false (s.set i (.sh d)) c) : wpE C false (.var i) s c Q E := by
  cases o
  · refine e_var0 h ?_
    have e : s.set i (.sh d) = s := by
      obtain ⟨h1, h2⟩ := List.getElem?_eq_some_iff.mp h
      have h3 : s[i] = .sh d := h2
      rw [← h3, List.set_getElem_self]
    rwa [e] at k
  · exact e_own0 h k
theorem p_allT {α : Type} {c : Cl} {l : List α} {Q : Q1} (k : Q (.bl true) false) : primW .all c [.lst (l.map fun _ => .bl true)] Q := by
  refine p_all (bs := l.map fun _ => true) (by rw [List.map_map]; rfl) ?_
  have e : (l.map fun _ => true).all id = true := by simp
  rw [e]; exact k
end
end Vm

/-! Vm: a law's defs, one behind another -/
namespace Vm
open PySem PySem.Spec L2
open PyProof.Rows hiding St
def sta0 : Sta := ⟨fun _ => .none, fun _ => ""⟩
def dB : D → D → Bool
  | .non, .non => true
  | .bl a, .bl b => a == b
  | .int a, .int b => decide (a = b)
  | .str a, .str b => decide (a = b)
  | .tup [], .tup [] => true
  | _, _ => false
theorem dB_ok : ∀ {a b : D}, dB a b = true → a = b
  | .non, .non, _ => rfl
  | .bl a, .bl b, h => by rw [show a = b from eq_of_beq h]
  | .int a, .int b, h => by rw [show a = b from of_decide_eq_true h]
  | .str a, .str b, h => by rw [show a = b from of_decide_eq_true h]
  | .tup [], .tup [], _ => rfl
def plB : Pl → Pl → Bool
  | [], [] => true
  | .inl i :: p, .inl j :: q => decide (i = j) && plB p q
  | .inr a :: p, .inr b :: q => dB a b && plB p q
  | _, _ => false
theorem plB_ok : ∀ {p q : Pl}, plB p q = true → p = q
  | [], [], _ => rfl
  | .inl i :: p, .inl j :: q, h => by
    obtain ⟨h1, h2⟩ := He.ba (show (decide (i = j) && plB p q) = true from h)
    rw [show i = j from of_decide_eq_true h1, plB_ok h2]
  | .inr a :: p, .inr b :: q, h => by
    obtain ⟨h1, h2⟩ := He.ba (show (dB a b && plB p q) = true from h)
    rw [dB_ok h1, plB_ok h2]
/-- a law: names, order of the defs, what they promise, the module's values, what the classes are asked, the forms of the calls -/
structure LawC where
  nm : Nm
  ord : List Nat
  fnS : Nat → SpT
  gl : List D := []
  T : CT
  bs : Nat → Bool
  pls : Nat → List (Nat × List Nat × Pl)
def LawC.cx (L : LawC) (k : Nat) : Ctx := L.T.ctx { fn := L.fnS, hasF := fun f => decide (L.ord.idxOf f < k), gl := fun i => (L.gl[i]?).getD .non, hasG := fun i => decide (i < L.gl.length), hasP := fun _ => true, hasB := L.bs, hasP2 := fun f n ks pl => (L.pls f).any fun e => decide (e.1 = n) && (decide (e.2.1 = ks) && plB pl e.2.2) }
def AllL {α : Type} (P : α → Prop) : List α → Prop
  | [] => True
  | x :: xs => P x ∧ AllL P xs
theorem AllL.mem {α : Type} {P : α → Prop} : ∀ {l : List α}, AllL P l → ∀ x ∈ l, P x
  | _ :: _, h, x, hx => by
    rcases List.mem_cons.mp hx with rfl | hx
    · exact h.1
    · exact AllL.mem h.2 x hx
section
variable {P : Program} {w : World} {K : PySem.W.Frag} {mg : Str → Option Value} {base : Heap}
/-- what the module's names stand for -/
structure Gs (mg : Str → Option Value) : Prop where
  pr : ∀ p : Prim, mg p.name = none
  rng : mg "range" = none
  enm : mg "enumerate" = none
  zp : mg "zip" = none
  isi : mg "isinstance" = none
  ty : ∀ T ∈ tyNames, mg (Str.ofString T) = none
def GlOk (L : LawC) (mg : Str → Option Value) : Prop := ∀ i, i < L.gl.length → ∃ u v, mg (L.nm.gl i) = some u ∧ L2.RelV v u ∧ ∀ (K : PySem.W.Frag) H F rh, Rep K H F rh v ((L.gl[i]?).getD .non)
def LawC.Pk (L : LawC) (P : Program) (w : World) (K : PySem.W.Frag) (mg : Str → Option Value) (base : Heap) (p f : Nat) : Prop :=
  ∃ fd, ((L.nm.fn f).2 = none → mg (L.nm.fn f).1 = some (.ref (fA K (L.nm.fn f)))) ∧ PySem.W.keepIn K (.ref (fA K (L.nm.fn f))) = true ∧ (L.bs f = true → Binds K fd (L.nm.ps f) []) ∧ FnG P w K mg base (3 * p + 1) (fA K (L.nm.fn f)) fd (L.nm.ps f) (spF sta0 K (L.fnS f)) ∧
    AllL (fun e : Nat × List Nat × Pl => KBP K fd (L.nm.ps f) e.1 (kwN (L.nm.ps f) e.1 e.2.1) e.2.2) (L.pls f)
def LawC.AllP (L : LawC) (P : Program) (w : World) (K : PySem.W.Frag) (mg : Str → Option Value) (base : Heap) (k : Nat) : Prop := ∀ q f, q < k → L.ord[q]? = some f → L.Pk P w K mg base q f
theorem allP0 (L : LawC) : L.AllP P w K mg base 0 := fun q f h => absurd h (Nat.not_lt_zero _)
theorem allPs {L : LawC} {k f : Nat} (h : L.AllP P w K mg base k) (e : L.ord[k]? = some f) (p : L.Pk P w K mg base k f) : L.AllP P w K mg base (k + 1) := fun q g hq eq => by
  rcases Nat.lt_or_eq_of_le (Nat.le_of_lt_succ hq) with hq | rfl
  · exact h q g hq eq
  · rw [e] at eq
    cases eq
    exact p
theorem wd_ {L : LawC} {k : Nat} (G : Gs mg) (Gl : GlOk L mg) (cl : ∀ k, ClOk K mg L.nm (L.cx k)) (h : L.AllP P w K mg base k) (hk : k ≤ L.ord.length) : Wd P w K mg base L.nm sta0 (L.cx k) (3 * k) := by
  refine ⟨fun f hf => ?_, fun i hi => ?_, fun p _ => G.pr p, G.rng, G.enm, G.zp, G.isi, G.ty, cl k⟩
  · have h1 : L.ord.idxOf f < k := of_decide_eq_true hf
    have e : L.ord[L.ord.idxOf f]? = some f := by
      rw [List.getElem?_eq_getElem (Nat.lt_of_lt_of_le h1 hk)]
      exact congrArg some (List.getElem_idxOf _)
    obtain ⟨fd, a1, a2, a3, a4, a5⟩ := h _ f h1 e
    refine ⟨fd, _, a1, a2, a3, a4, by omega, fun n ks pl hp => ?_⟩
    obtain ⟨e, he, z⟩ := List.any_eq_true.mp hp
    obtain ⟨z1, z⟩ := He.ba z
    obtain ⟨z2, z3⟩ := He.ba z
    have g := AllL.mem a5 e he
    rw [show e.1 = n from of_decide_eq_true z1, show e.2.1 = ks from of_decide_eq_true z2, ← plB_ok z3] at g
    exact g
  · have h1 : i < L.gl.length := of_decide_eq_true hi
    obtain ⟨u, v, e1, e2, e3⟩ := Gl i h1
    exact ⟨u, v, e1, e2, fun H F rh => e3 K H F rh⟩
end
/-! the names that stay free -/
def freeFa : List He.Fa := [.free "len", .free "abs", .free "int", .free "bool", .free "str", .free "repr", .free "min", .free "max", .free "all", .free "any", .free "sum", .free "range", .free "enumerate", .free "zip", .free "isinstance", .free "tuple", .free "list", .free "dict", .free "object", .free "sorted"]
theorem gs_of {K : PySem.W.Frag} {h : Heap} {mg : Str → Option Value} {fa : List He.Fa} {xb : PySem.W.Frag → Bool} {fn : List He.DefD} (X : K.In h) (G : h.Ns mainGlobals mg) (c : SaysX (freeFa ++ fa) xb fn K) : Gs mg := by
  have fr : ∀ (i : Nat) (x : Str), freeFa[i]? = some (.free x) → mg x = none := fun i x e => He.free_ok X G (c.fact i (by
    rw [List.getElem?_append_left (List.getElem?_eq_some_iff.mp e).1]; exact e))
  exact ⟨fun p => by cases p <;> first | exact fr 0 _ rfl | exact fr 1 _ rfl | exact fr 2 _ rfl | exact fr 3 _ rfl | exact fr 4 _ rfl | exact fr 5 _ rfl | exact fr 6 _ rfl | exact fr 7 _ rfl | exact fr 8 _ rfl | exact fr 9 _ rfl | exact fr 10 _ rfl | exact fr 15 _ rfl | exact fr 16 _ rfl | exact fr 17 _ rfl | exact fr 19 _ rfl,
    fr 11 _ rfl, fr 12 _ rfl, fr 13 _ rfl, fr 14 _ rfl, fun T hT => by
      simp only [tyNames, List.mem_cons, List.not_mem_nil, or_false] at hT
      rcases hT with rfl | rfl | rfl | rfl | rfl | rfl | rfl
      · exact fr 4 _ rfl
      · exact fr 2 _ rfl
      · exact fr 3 _ rfl
      · exact fr 15 _ rfl
      · exact fr 16 _ rfl
      · exact fr 17 _ rfl
      · exact fr 18 _ rfl⟩
theorem factX {K : PySem.W.Frag} {fa : List He.Fa} {xb : PySem.W.Frag → Bool} {fn : List He.DefD} (c : SaysX (freeFa ++ fa) xb fn K) (i : Nat) {f : He.Fa} (h : fa[i]? = some f := by rfl) : f.ok K = true :=
  c.fact (20 + i) (by
    rw [List.getElem?_append_right (Nat.le_add_right 20 i)]
    have e : 20 + i - freeFa.length = i := by show 20 + i - 20 = i; omega
    rw [e]; exact h)
end Vm

/-! Vm: more steps -/
namespace Vm
open PySem PySem.Spec L2
section
variable {C : Ctx} {s : List Sl} {c : Cl} {Q : QK} {E : EK} {k i n : Nat} {ks : List Nat} {pl : Pl} {l : IL} {a : IE} {st : List Bool}
theorem e_mkv0 (h : s[i]? = some (.sh (.cls k))) (hC : C.hasC k = true) (q : wpL C l s c (fun ds s1 c1 => mkW C k n ks pl ds c1 (fun ns xs => flatL xs = true ∧ Q (.ins k ns xs) false s1 c1) (fun ex => E ex s1 c1)) E) : wpE C false (.mkv k i n ks pl l) s c Q E := by
  unfold wpE
  exact ⟨h, hC, q⟩
theorem e_dispT (q : wpD C st l s c (fun ds s1 c1 => ds.length ≤ sizeLine ∧ Q (.tup ds) false s1 c1) E) : wpE C false (.disp true st l) s c Q E := by
  unfold wpE
  exact q
theorem e_dispL (q : wpD C st l s c (fun ds s1 c1 => ds.length ≤ sizeLine ∧ Q (.lst ds) true s1 c1) E) : wpE C false (.disp false st l) s c Q E := by
  unfold wpE
  exact q
theorem d_nil {Q : List D → List Sl → Cl → Prop} (q : Q [] s c) : wpD C st .nil s c Q E := by
  unfold wpD
  exact q
theorem d_st {Q : List D → List Sl → Cl → Prop} (q : wpE C false a s c (fun d _ s1 c1 => ∃ xs, asS c1 d = some xs ∧ wpD C st l s1 c1 (fun ds s2 c2 => Q (xs ++ ds) s2 c2) E) E) : wpD C (true :: st) (.cons a l) s c Q E := by
  unfold wpD
  exact q
theorem d_no {Q : List D → List Sl → Cl → Prop} (q : wpE C false a s c (fun d _ s1 c1 => wpD C st l s1 c1 (fun ds s2 c2 => Q (d :: ds) s2 c2) E) E) : wpD C (false :: st) (.cons a l) s c Q E := by
  unfold wpD
  exact q
theorem o_revT {xs : List D} {Q : D → Bool → Cl → Prop} {E : Ex → Cl → Prop} (q : Q (.tup xs.reverse) false c) : opW C .rev [.tup xs] c Q E := q
theorem o_revL {xs : List D} {Q : D → Bool → Cl → Prop} {E : Ex → Cl → Prop} (q : Q (.lst xs.reverse) true c) : opW C .rev [.lst xs] c Q E := ⟨xs, .inl rfl, q⟩
theorem o_revC {n : Nat} {xs : List D} {Q : D → Bool → Cl → Prop} {E : Ex → Cl → Prop} (h : c[n]? = some (.lst xs)) (q : Q (.lst xs.reverse) true c) : opW C .rev [.cell n] c Q E := ⟨xs, .inl (by show asL c (.cell n) = _; unfold asL; simp only [h]), q⟩
theorem lstk {ds : List D} {P : Prop} (h : Nat.ble ds.length 1000 = true) (q : P) : ds.length ≤ sizeLine ∧ P := tupk h q
theorem bindk1 {tl : TgL} {d : D} {k : List Sl → Prop} {s2 : List Sl} (h : bindT (.tp tl) d s = some s2) (q : k s2) : bindK tl d s k := bindk h q
/-- a def by its promise -/
theorem fn_ {f : Nat} {S : SpT} {ds : List D} {Q : D → Bool → Cl → Prop} {E : Ex → Cl → Prop} (h : C.fn f = S) (q : S ds c Q E) : C.fn f ds c Q E := by rw [h]; exact q
theorem xs_ {x : D} {xs : List D} {P : List D → Prop} (h : asS c x = some xs) (q : P xs) : ∃ ys, asS c x = some ys ∧ P ys := ⟨xs, h, q⟩
end
/-- so many are drawn -/
theorem loopC_draw {α : Type} {g : Cl → Prop} {body : D → List Sl → Cl → (Option D → List Sl → Cl → Prop) → Prop} {k : List D → List Sl → Cl → Prop} (f : α → D) (P : α → Prop) (I : List Sl → Cl → Prop) (n : Nat) (hn : n ≤ sizeLine)
    (hs : ∀ i, i < n → ∀ s c, I s c → g c ∧ ∀ K : Option D → List Sl → Cl → Prop, (∀ a s1 c1, P a → I s1 c1 → K (some (f a)) s1 c1) → body (.int (0 + (i : Nat))) s c K)
    (hf : ∀ (l : List α) s c, l.length = n → (∀ a ∈ l, P a) → I s c → g c ∧ k (l.map f) s c) : ∀ s c, I s c → loopC g body (rangeD 0 n) [] s c k := by
  intro s c h
  refine loopC_rng (fun i acc s c => ∃ l : List α, acc = l.map f ∧ l.length = i ∧ (∀ a ∈ l, P a) ∧ I s c) n ?_ ?_ _ _ _ ⟨[], rfl, rfl, nofun, h⟩
  · rintro i hi acc s c ⟨l, rfl, hl, hp, h⟩
    obtain ⟨h1, h2⟩ := hs i hi s c h
    refine ⟨h1, fun K k1 _ => h2 K fun a s1 c1 pa h3 => k1 _ _ _ ⟨by rw [List.length_map]; omega, l ++ [a], by rw [List.map_append]; rfl, by rw [List.length_append, hl]; rfl, fun x hx => ?_, h3⟩⟩
    rcases List.mem_append.mp hx with hx | hx
    · exact hp x hx
    · rw [List.mem_singleton.mp hx]; exact pa
  · rintro acc s c ⟨l, rfl, hl, hp, h⟩
    exact hf l s c hl hp h
section
variable {c : Cl} {Q : Q1}
theorem p_split {a b : Str} (hb : (b.length == 0) = false) (ha : a.length + 2 ≤ sizeLine) (q : Q (.lst ((Txt.split a b).map .str)) true) : methW .split c (.str a) [.str b] Q := ⟨hb, ha, q⟩
theorem p_part {a b : Str} (hb : (b.length == 0) = false) (ha : a.length ≤ sizeLine) (q : Q (.tup [.str (Txt.partition a b).1, .str (Txt.partition a b).2.1, .str (Txt.partition a b).2.2]) false) : methW .partition c (.str a) [.str b] Q := ⟨hb, ha, q⟩
end
section
variable {c : Cl} {kb : Bool → Prop} {i : Int} {z : Str} {xs : List D} {k n : Nat} {ns : List Nat} {b : Bool}
theorem is_non (q : kb true) : cmpW .Is c .non .non kb := q
theorem isnt_non (q : kb false) : cmpW .IsNot c .non .non kb := q
theorem is_int (q : kb false) : cmpW .Is c (.int i) .non kb := q
theorem isnt_int (q : kb true) : cmpW .IsNot c (.int i) .non kb := q
theorem is_str (q : kb false) : cmpW .Is c (.str z) .non kb := q
theorem isnt_str (q : kb true) : cmpW .IsNot c (.str z) .non kb := q
theorem is_tup (q : kb false) : cmpW .Is c (.tup xs) .non kb := q
theorem isnt_tup (q : kb true) : cmpW .IsNot c (.tup xs) .non kb := q
theorem is_lst (q : kb false) : cmpW .Is c (.lst xs) .non kb := q
theorem isnt_lst (q : kb true) : cmpW .IsNot c (.lst xs) .non kb := q
theorem is_ins (q : kb false) : cmpW .Is c (.ins k ns xs) .non kb := q
theorem isnt_ins (q : kb true) : cmpW .IsNot c (.ins k ns xs) .non kb := q
theorem is_cell (q : kb false) : cmpW .Is c (.cell n) .non kb := q
theorem isnt_cell (q : kb true) : cmpW .IsNot c (.cell n) .non kb := q
theorem is_bl (q : kb false) : cmpW .Is c (.bl b) .non kb := q
theorem isnt_bl (q : kb true) : cmpW .IsNot c (.bl b) .non kb := q
end
end Vm

-- mac2
open PySem PySem.Spec L2 Vm
local macro_rules | `(tactic| walk_at "vm") => `(tactic| (repeat (first
  | (with_reducible refine ss_cons ?_) | (with_reducible refine ss_nil ?_) | (with_reducible refine s_asg ?_) | (with_reducible refine s_ret ?_) | (with_reducible refine s_ifs ?_) | (with_reducible refine s_expr ?_) | (with_reducible refine s_pass ?_) | (with_reducible refine s_par ?_) | (with_reducible refine s_asgT ?_) | (with_reducible refine s_retN ?_) | (with_reducible refine s_setf ?_) | (with_reducible refine e_con0 ?_) | (with_reducible refine e_bin0 ?_) | (with_reducible refine e_cmp0 ?_) | (with_reducible refine e_cmp1 ?_) | (with_reducible refine l_nil ?_) | (with_reducible refine l_cons ?_) | (with_reducible refine e_idx0 ?_) | (with_reducible refine p_addI ?_) | (with_reducible refine p_sub ?_) | (with_reducible refine p_gtI ?_) | (with_reducible refine p_ltI ?_) | (with_reducible refine p_leI ?_) | (with_reducible refine p_geI ?_) | (with_reducible refine p_eqI ?_) | (with_reducible refine p_neI ?_) | (with_reducible refine p_abs ?_) | (with_reducible refine p_intI ?_) | (with_reducible refine p_intB ?_) | (with_reducible refine p_boolB ?_) | (with_reducible refine p_min ?_) | (with_reducible refine p_max ?_) | (with_reducible refine p_leS ?_) | (with_reducible refine e_chain0 ?_) | (with_reducible refine e_chain1 ?_) | (with_reducible refine e_bool0 ?_) | (with_reducible refine e_bool1 ?_) | (with_reducible refine b_one0 ?_) | (with_reducible refine b_one1 ?_) | (with_reducible refine b_cons0 ?_) | (with_reducible refine b_cons1 ?_) | (with_reducible refine e_not0 ?_) | (with_reducible refine e_not1 ?_) | (with_reducible refine e_isi0 ?_) | (with_reducible refine e_isi1 ?_) | (with_reducible refine notk_t ?_) | (with_reducible refine notk_f ?_) | (with_reducible refine notk_d ?_) | (with_reducible refine notk_b ?_) | (with_reducible refine intk ?_) | (with_reducible refine int2k ?_) | (with_reducible refine blk ?_) | (with_reducible refine p_inC ?_) | (with_reducible refine bok_tt ?_) | (with_reducible refine bok_tf ?_) | (with_reducible refine bok_ff ?_) | (with_reducible refine bok_ft ?_) | (with_reducible refine ifk_t ?_) | (with_reducible refine ifk_f ?_) | (with_reducible refine qt_bl ?_) | (with_reducible refine e_lst0 ?_) | (with_reducible refine e_tup0 ?_) | (with_reducible refine e_slc0 ?_) | (with_reducible refine o_no ?_) | (with_reducible refine o_so ?_) | (with_reducible refine e_meth0 ?_) | (with_reducible refine e_un0 ?_) | (with_reducible refine p_neg ?_) | (with_reducible refine s_seti ?_) | (with_reducible refine e_comp0 ?_) | (with_reducible refine s_for ?_) | (with_reducible refine i_val ?_) | (with_reducible refine i_range1 ?_) | (with_reducible refine i_range2 ?_) | (with_reducible refine i_enum ?_) | (with_reducible refine s_cellify ?_) | (with_reducible refine e_fstr0 ?_) | (with_reducible refine e_mcall0 ?_) | (with_reducible refine j_nil ?_) | (with_reducible refine j_cons ?_) | (with_reducible refine p_slcT ?_) | (with_reducible refine e_ite0 ?_) | (with_reducible refine qtf ?_) | (with_reducible refine qtt ?_) | ((with_reducible apply s_retv); (next => rfl)) | ((with_reducible apply e_var0); (next => rfl)) | ((with_reducible apply e_own0); (next => rfl)) | ((with_reducible apply e_var1); (next => rfl)) | ((with_reducible apply e_prim0); (next => first | rfl | (exact allP (by assumption)))) | ((with_reducible apply e_call0); (next => first | rfl | assumption); (next => first | rfl | assumption)) | ((with_reducible apply e_glob0); (next => first | rfl | assumption)) | ((with_reducible apply e_op0); (next => first | rfl | assumption)) | ((with_reducible apply e_op1); (next => first | rfl | assumption)) | ((with_reducible apply o_fldI); (next => rfl); (next => rfl)) | ((with_reducible apply o_iscI); (next => rfl); (next => rfl)) | ((with_reducible apply o_prpI); (next => rfl); (next => rfl); (next => rfl)) | ((with_reducible apply o_unI); (next => rfl); (next => rfl)) | ((with_reducible apply o_binN); (next => rfl); (next => rfl); (next => rfl); (next => rfl)) | ((with_reducible apply o_binI); (next => rfl); (next => rfl); (next => rfl); (next => rfl)) | ((with_reducible apply m_ins); (next => rfl)) | ((with_reducible apply k_call); (next => rfl); (next => rfl); (next => rfl); (next => rfl)) | ((with_reducible apply o_call); (next => rfl); (next => rfl); (next => rfl); (next => rfl)) | ((with_reducible apply p_idxT); (next => rfl)) | ((with_reducible apply p_idxL); (next => rfl)) | (with_reducible refine p_slcS (by assumption) ?_))))
-- /mac2
namespace Vm.Lib
open PySem PySem.Spec L2 Vm
open PyProof.Rows hiding St
/-! ### helpers that many laws have: the source of draws -/
def feedD (a b t : Int) : D := .lst [.int a, .int b, .int t]
def spTake : SpT := fun ds c Q _ => ∃ n a b t m, ds = [.cell n, .int m] ∧ 0 < m ∧ m < 2 ^ 62 ∧ c[n]? = some (feedD a b t) ∧ ∀ r a' b' t', 0 ≤ r → r < m → Q (.int r) false (c.set n (feedD a' b' t'))
def spFeed : SpT := fun ds c Q _ => ∃ (ns : List Int) (k : Nat), ds = [.scr (ns.map D.int), .int (k : Nat)] ∧ k < 64 ∧ ns.length ≤ 63 ∧ ∀ a b, Q (feedD a b 0) true c
theorem cset {c : Cl} {n : Nat} {x y : D} (h : c[n]? = some x) : (c.set n y)[n]? = some y := by
  rw [List.getElem?_set_self (List.getElem?_eq_some_iff.mp h).1]
theorem asC {c : Cl} {n : Nat} {xs : List D} (h : c[n]? = some (.lst xs)) : asS c (.cell n) = some xs := by
  show asL c (.cell n) = some xs
  unfold asL
  simp only [h]
theorem mulC {i j : Int} (h : -(2 ^ 64) < j ∧ j < 2 ^ 64) : CMul i j ∨ CMulW i j := .inl (.inr h)
theorem mulC' {i j : Int} (h : -(2 ^ 64) < i ∧ i < 2 ^ 64) : CMul i j ∨ CMulW i j := .inl (.inl h)
theorem szk {n : Nat} (h : n ≤ 1000) : n ≤ sizeLine := by have : sizeLine = 16777216 := sizeLine_eq; omega
theorem mul01 {i : Int} {p : Bool} : CMul i (if p then 1 else 0) ∨ CMulW i (if p then 1 else 0) := mulC (by cases p <;> decide)
def ir_l_feed : ISs := (.cons (.asg 2 (.bin .Add (.bin .Mult (.con (.int 7411)) (.var 1)) (.con (.int 47))))
  (.cons (.ifs (.cmp .Lt (.var 1) (.prim .len (.cons (.var 0) .nil))) (.cons (.asg 2 (.prim .abs (.cons (.idx (.var 0) (.var 1)) .nil)))
  .nil) (.cons (.ifs (.cmp .Gt (.prim .len (.cons (.var 0) .nil)) (.con (.int 0))) (.cons (.asg 2 (.bin .Add (.var 2) (.bin .Mult (.bin .Mod (.prim .abs (.cons (.idx (.var 0) (.bin .Mod (.var 1) (.prim .len (.cons (.var 0) .nil)))) .nil)) (.con (.int 2147483629))) (.con (.int 40009)))))
  .nil) .nil)
  .nil))
  (.cons (.asg 3 (.bin .Add (.bin .Mod (.bin .Add (.bin .Mult (.bin .Mod (.var 2) (.con (.int 2147483629))) (.con (.int 48271))) (.bin .Mult (.con (.int 30323)) (.var 1))) (.con (.int 2147483629))) (.con (.int 1))))
  (.cons (.ret (.lst (.cons (.bin .Mult (.var 2) (.prim .int (.cons (.cmp .GtE (.var 2) (.bin .Pow (.con (.int 10)) (.con (.int 18)))) .nil))) (.cons (.var 3) (.cons (.con (.int 0)) .nil)))))
  .nil))))
def ir_l_take : ISs := (.cons (.ifs (.cmp .Gt (.idx (.var 0) (.con (.int 0))) (.con (.int 0))) (.cons (.asg 2 (.bin .Mod (.idx (.var 0) (.con (.int 0))) (.var 1)))
  (.cons (.seti 0 (.con (.int 0)) (.bin .FloorDiv (.idx (.var 0) (.con (.int 0))) (.var 1)))
  (.cons (.retv 2)
  .nil))) .nil)
  (.cons (.seti 0 (.con (.int 2)) (.bin .Add (.idx (.var 0) (.con (.int 2))) (.con (.int 1))))
  (.cons (.asg 3 (.bin .Mod (.bin .Mult (.bin .Add (.idx (.var 0) (.con (.int 1))) (.bin .Mult (.con (.int 104729)) (.idx (.var 0) (.con (.int 2))))) (.con (.int 69623))) (.con (.int 2147483647))))
  (.cons (.seti 0 (.con (.int 1)) (.bin .Add (.bin .Mod (.bin .Add (.bin .Mult (.var 3) (.con (.int 48271))) (.con (.int 30103))) (.con (.int 2147483629))) (.con (.int 1))))
  (.cons (.ret (.bin .Mod (.bin .FloorDiv (.bin .Add (.bin .Mult (.var 3) (.con (.int 2147483647))) (.idx (.var 0) (.con (.int 1)))) (.con (.int 8191))) (.var 1)))
  .nil)))))
theorem wp_take {C : Ctx} (hp : ∀ p, C.hasP p = true) : ∀ ds c Q E, spTake ds c Q E → wpDef C 2 4 ir_l_take ds c Q E := by
  rintro ds c Q E ⟨n, a, b, t, m, rfl, h0, h1, hc, k⟩
  refine ⟨rfl, ?_⟩
  show wpSs _ _ [.sh (.cell n), .sh (.int m), .no, .no] c _ _
  unfold ir_l_take
  have f1 := asC hc
  walk_at "vm"
  refine p_idx f1 rfl ?_
  walk_at "vm"
  refine ifk_d (fun ha => ?_) fun ha => ?_
  · walk_at "vm"
    refine p_idx f1 rfl ?_
    walk_at "vm"
    refine p_mod (by omega) ?_
    walk_at "vm"
    refine p_idx f1 rfl ?_
    walk_at "vm"
    refine p_fdiv (.inr (wide_div (b := 62) (by omega) (by omega) (by decide) (by decide))) ?_
    refine ⟨p_slC rfl hc, ?_⟩
    walk_at "vm"
    refine p_slotC rfl hc (p_set rfl ?_)
    walk_at "vm"
    exact k _ _ _ _ (Int.fmod_nonneg_of_pos _ (by omega)) (Int.fmod_lt_of_pos _ (by omega))
  · walk_at "vm"
    refine p_idx f1 rfl ?_
    walk_at "vm"
    refine ⟨p_slC rfl hc, ?_⟩
    walk_at "vm"
    refine p_slotC rfl hc (p_set rfl ?_)
    have hc2 : (c.set n (.lst [.int a, .int b, .int (t + 1)]))[n]? = some (.lst [.int a, .int b, .int (t + 1)]) := cset hc
    show wpSs _ _ [.sh (.cell n), .sh (.int m), .no, .no] (c.set n (.lst [.int a, .int b, .int (t + 1)])) _ _
    have f2 := asC hc2
    walk_at "vm"
    refine p_idx f2 rfl ?_
    walk_at "vm"
    refine p_idx f2 rfl ?_
    refine p_mul (mulC' (by decide)) ?_
    walk_at "vm"
    refine p_mul (mulC (by decide)) ?_
    walk_at "vm"
    refine p_mod (by decide) ?_
    walk_at "vm"
    refine p_mul (mulC (by decide)) ?_
    walk_at "vm"
    refine p_mod (by decide) ?_
    walk_at "vm"
    refine ⟨p_slC rfl hc2, ?_⟩
    walk_at "vm"
    refine p_slotC rfl hc2 (p_set rfl ?_)
    generalize ((b + 104729 * (t + 1)) * 69623).fmod 2147483647 = mix
    generalize (mix * 48271 + 30103).fmod 2147483629 + 1 = sd
    have e3 : (c.set n (.lst [.int a, .int b, .int (t + 1)])).set n (.lst [.int a, .int sd, .int (t + 1)]) = c.set n (.lst [.int a, .int sd, .int (t + 1)]) := List.set_set ..
    show wpSs _ _ [.sh (.cell n), .sh (.int m), .no, .sh (.int mix)] ((c.set n (.lst [.int a, .int b, .int (t + 1)])).set n (.lst [.int a, .int sd, .int (t + 1)])) _ _
    rw [e3]
    have f3 := asC (cset (y := .lst [.int a, .int sd, .int (t + 1)]) hc)
    walk_at "vm"
    refine p_mul (mulC (by decide)) ?_
    walk_at "vm"
    refine p_idx f3 rfl ?_
    walk_at "vm"
    refine p_fdiv (.inl ⟨by decide, by decide⟩) ?_
    walk_at "vm"
    refine p_mod (by omega) ?_
    exact k _ _ _ _ (Int.fmod_nonneg_of_pos _ (by omega)) (Int.fmod_lt_of_pos _ (by omega))
theorem wp_feed {C : Ctx} (hp : ∀ p, C.hasP p = true) : ∀ ds c Q E, spFeed ds c Q E → wpDef C 2 4 ir_l_feed ds c Q E := by
  rintro ds c Q E ⟨ns, k, rfl, hk, hn, q⟩
  refine ⟨rfl, ?_⟩
  show wpSs _ _ [.sh (.scr (ns.map D.int)), .sh (.int (k : Nat)), .no, .no] c _ _
  have ln : lenD c (.scr (ns.map D.int)) = some ns.length := by show some (ns.map D.int).length = _; rw [List.length_map]
  have at_ : ∀ j : Nat, j < ns.length → ∃ v : Int, atI (ns.map D.int) (j : Int) = some (.int v) := fun j hj => ⟨ns[j], by rw [atI_n, List.getElem?_map, List.getElem?_eq_getElem hj]; rfl⟩
  unfold ir_l_feed
  walk_at "vm"
  refine p_mul (mulC' (by decide)) ?_
  walk_at "vm"
  refine p_len ln ?_
  walk_at "vm"
  refine ifk_d (fun h => ?_) fun h => ?_
  · obtain ⟨v, hv⟩ := at_ k (by omega)
    walk_at "vm"
    refine p_idx rfl hv ?_
    walk_at "vm"
    refine p_mod (by decide) ?_
    walk_at "vm"
    refine p_mul (mulC (by decide)) ?_
    walk_at "vm"
    refine p_mul (mulC' (by decide)) ?_
    walk_at "vm"
    refine p_mod (by decide) ?_
    walk_at "vm"
    refine p_pow ⟨by decide, by decide, by decide⟩ ?_
    walk_at "vm"
    refine p_mul mul01 ?_
    walk_at "vm"
    exact ⟨szk (by simp), q _ _⟩
  · walk_at "vm"
    refine p_len ln ?_
    walk_at "vm"
    refine ifk_d (fun h2 => ?_) fun h2 => ?_
    · walk_at "vm"
      refine p_len ln ?_
      walk_at "vm"
      refine p_mod (by omega) ?_
      have hm : ((k : Int).fmod (ns.length : Int)) = ((k % ns.length : Nat) : Int) := by
        rw [Int.fmod_eq_emod_of_nonneg _ (by omega)]; omega
      obtain ⟨v, hv⟩ := at_ (k % ns.length) (Nat.mod_lt _ (by omega))
      refine p_idx rfl (by rw [hm]; exact hv) ?_
      walk_at "vm"
      refine p_mod (by decide) ?_
      walk_at "vm"
      refine p_mul (mulC (by decide)) ?_
      walk_at "vm"
      refine p_mod (by decide) ?_
      walk_at "vm"
      refine p_mul (mulC (by decide)) ?_
      walk_at "vm"
      refine p_mul (mulC' (by decide)) ?_
      walk_at "vm"
      refine p_mod (by decide) ?_
      walk_at "vm"
      refine p_pow ⟨by decide, by decide, by decide⟩ ?_
      walk_at "vm"
      refine p_mul mul01 ?_
      walk_at "vm"
      exact ⟨szk (by simp), q _ _⟩
    · walk_at "vm"
      refine p_mod (by decide) ?_
      walk_at "vm"
      refine p_mul (mulC (by decide)) ?_
      walk_at "vm"
      refine p_mul (mulC' (by decide)) ?_
      walk_at "vm"
      refine p_mod (by decide) ?_
      walk_at "vm"
      refine p_pow ⟨by decide, by decide, by decide⟩ ?_
      walk_at "vm"
      refine p_mul mul01 ?_
      walk_at "vm"
      exact ⟨szk (by simp), q _ _⟩
end Vm.Lib

-- mac2
open PySem PySem.Spec L2 Vm
local macro_rules | `(tactic| walk_at "vm") => `(tactic| (repeat (first
  | (with_reducible refine ss_cons ?_) | (with_reducible refine ss_nil ?_) | (with_reducible refine s_asg ?_) | (with_reducible refine s_ret ?_) | (with_reducible refine s_ifs ?_) | (with_reducible refine s_expr ?_) | (with_reducible refine s_pass ?_) | (with_reducible refine s_par ?_) | (with_reducible refine s_asgT ?_) | (with_reducible refine s_retN ?_) | (with_reducible refine s_setf ?_) | (with_reducible refine e_con0 ?_) | (with_reducible refine e_bin0 ?_) | (with_reducible refine e_cmp0 ?_) | (with_reducible refine e_cmp1 ?_) | (with_reducible refine l_nil ?_) | (with_reducible refine l_cons ?_) | (with_reducible refine e_idx0 ?_) | (with_reducible refine p_addI ?_) | (with_reducible refine p_sub ?_) | (with_reducible refine p_gtI ?_) | (with_reducible refine p_ltI ?_) | (with_reducible refine p_leI ?_) | (with_reducible refine p_geI ?_) | (with_reducible refine p_eqI ?_) | (with_reducible refine p_neI ?_) | (with_reducible refine p_abs ?_) | (with_reducible refine p_intI ?_) | (with_reducible refine p_intB ?_) | (with_reducible refine p_boolB ?_) | (with_reducible refine p_min ?_) | (with_reducible refine p_max ?_) | (with_reducible refine p_leS ?_) | (with_reducible refine e_chain0 ?_) | (with_reducible refine e_chain1 ?_) | (with_reducible refine e_bool0 ?_) | (with_reducible refine e_bool1 ?_) | (with_reducible refine b_one0 ?_) | (with_reducible refine b_one1 ?_) | (with_reducible refine b_cons0 ?_) | (with_reducible refine b_cons1 ?_) | (with_reducible refine e_not0 ?_) | (with_reducible refine e_not1 ?_) | (with_reducible refine e_isi0 ?_) | (with_reducible refine e_isi1 ?_) | (with_reducible refine notk_t ?_) | (with_reducible refine notk_f ?_) | (with_reducible refine notk_d ?_) | (with_reducible refine notk_b ?_) | (with_reducible refine intk ?_) | (with_reducible refine int2k ?_) | (with_reducible refine blk ?_) | (with_reducible refine p_inC ?_) | (with_reducible refine bok_tt ?_) | (with_reducible refine bok_tf ?_) | (with_reducible refine bok_ff ?_) | (with_reducible refine bok_ft ?_) | (with_reducible refine ifk_t ?_) | (with_reducible refine ifk_f ?_) | (with_reducible refine qt_bl ?_) | (with_reducible refine e_lst0 ?_) | (with_reducible refine e_tup0 ?_) | (with_reducible refine e_slc0 ?_) | (with_reducible refine o_no ?_) | (with_reducible refine o_so ?_) | (with_reducible refine e_meth0 ?_) | (with_reducible refine e_un0 ?_) | (with_reducible refine p_neg ?_) | (with_reducible refine s_seti ?_) | (with_reducible refine e_comp0 ?_) | (with_reducible refine s_for ?_) | (with_reducible refine i_val ?_) | (with_reducible refine i_range1 ?_) | (with_reducible refine i_range2 ?_) | (with_reducible refine i_enum ?_) | (with_reducible refine s_cellify ?_) | (with_reducible refine e_fstr0 ?_) | (with_reducible refine e_mcall0 ?_) | (with_reducible refine j_nil ?_) | (with_reducible refine j_cons ?_) | (with_reducible refine p_slcT ?_) | (with_reducible refine e_ite0 ?_) | (with_reducible refine qtf ?_) | (with_reducible refine qtt ?_) | ((with_reducible apply s_retv); (next => rfl)) | ((with_reducible apply e_var0); (next => rfl)) | ((with_reducible apply e_own0); (next => rfl)) | ((with_reducible apply e_var1); (next => rfl)) | ((with_reducible apply e_prim0); (next => first | rfl | (exact allP (by assumption)))) | ((with_reducible apply e_call0); (next => first | rfl | assumption); (next => first | rfl | assumption)) | ((with_reducible apply e_glob0); (next => first | rfl | assumption)) | ((with_reducible apply e_op0); (next => first | rfl | assumption)) | ((with_reducible apply e_op1); (next => first | rfl | assumption)) | ((with_reducible apply o_fldI); (next => rfl); (next => rfl)) | ((with_reducible apply o_iscI); (next => rfl); (next => rfl)) | ((with_reducible apply o_prpI); (next => rfl); (next => rfl); (next => rfl)) | ((with_reducible apply o_unI); (next => rfl); (next => rfl)) | ((with_reducible apply o_binN); (next => rfl); (next => rfl); (next => rfl); (next => rfl)) | ((with_reducible apply o_binI); (next => rfl); (next => rfl); (next => rfl); (next => rfl)) | ((with_reducible apply m_ins); (next => rfl)) | ((with_reducible apply k_call); (next => rfl); (next => rfl); (next => rfl); (next => rfl)) | ((with_reducible apply o_call); (next => rfl); (next => rfl); (next => rfl); (next => rfl)) | ((with_reducible apply p_idxT); (next => rfl)) | ((with_reducible apply p_idxL); (next => rfl)) | (with_reducible refine p_slcS (by assumption) ?_))))
-- /mac2
namespace Vm.Lib
open PySem PySem.Spec L2 Vm
open PyProof.Rows hiding St
/-- the cells with a source of draws in cell n -/
def fC (c : Cl) (n : Nat) (a b t : Int) : Cl := c.set n (feedD a b t)
theorem fC_at {c : Cl} {n : Nat} {a b t : Int} (h : n < c.length) : (fC c n a b t)[n]? = some (feedD a b t) := by
  unfold fC
  rw [List.getElem?_set_self h]
theorem fC_len {c : Cl} {n : Nat} {a b t : Int} : (fC c n a b t).length = c.length := by unfold fC; rw [List.length_set]
theorem fC_set {c : Cl} {n : Nat} {a b t a' b' t' : Int} : (fC c n a b t).set n (feedD a' b' t') = fC c n a' b' t' := by unfold fC; rw [List.set_set]
theorem fC_fC {c : Cl} {n : Nat} {a b t a' b' t' : Int} : fC (fC c n a b t) n a' b' t' = fC c n a' b' t' := fC_set
theorem fC_new {c : Cl} {a b t : Int} : c ++ [feedD a b t] = fC (c ++ [feedD 0 0 0]) c.length a b t := by
  unfold fC
  rw [List.set_append_right _ _ (Nat.le_refl _), Nat.sub_self]; rfl
theorem fC_eq {c : Cl} {n : Nat} {a b t : Int} (h : c[n]? = some (feedD a b t)) : c = fC c n a b t := by
  unfold fC
  refine List.ext_getElem? fun i => ?_
  by_cases e : n = i
  · subst e
    rw [List.getElem?_set_self (List.getElem?_eq_some_iff.mp h).1, h]
  · rw [List.getElem?_set_ne e]
theorem tk_ {C : Ctx} {f : Nat} (hT : C.fn f = spTake) {c : Cl} {n : Nat} {a b t m : Int} {Q : D → Bool → Cl → Prop} {E : Ex → Cl → Prop} (h0 : 0 < m) (h1 : m < 2 ^ 62) (hn : n < c.length)
    (k : ∀ r a' b' t', 0 ≤ r → r < m → Q (.int r) false (fC c n a' b' t')) : C.fn f [.cell n, .int m] (fC c n a b t) Q E := by
  rw [hT]
  exact ⟨n, a, b, t, m, rfl, h0, h1, fC_at hn, fun r a' b' t' r0 r1 => by rw [fC_set]; exact k r a' b' t' r0 r1⟩
/-! letters, digits, names -/
def LET : List Nat := ("abcdefghijklmnopqrstuvwxyz" : Str).cps.toList
def DIG : List Nat := ("0123456789" : Str).cps.toList
def MRK : List Nat := ("abcdefghijklmnopqrstuvwxyz" ++ "0123456789" : Str).cps.toList
theorem LET_eq : LET = (List.range 26).map (· + 97) := by decide +kernel
theorem MRK_eq : MRK = (List.range 26).map (· + 97) ++ (List.range 10).map (· + 48) := by decide +kernel
def isLet (ch : Nat) : Bool := decide (97 ≤ ch) && decide (ch ≤ 122)
def isDig (ch : Nat) : Bool := decide (48 ≤ ch) && decide (ch ≤ 57)
def lod (ch : Nat) : Bool := isLet ch || isDig ch
/-- a name -/
def isNm : List Nat → Bool
  | [] => false
  | ch :: l => isLet ch && l.all lod && decide (l.length ≤ 7)
theorem strLen (z : Str) : z.length = z.cps.toList.length := by
  show z.cps.size = _
  simp
/-! slices, joins -/
theorem cutS_lo {z : Str} {k : Nat} (h : k ≤ z.length) : (cutS z none (some (k : Int))).cps.toList = z.cps.toList.take k := by
  unfold cutS
  rw [HT.sIx_nat, HT.sIx_none, Nat.min_eq_left h, List.drop_zero, Nat.sub_zero]
theorem cutS_hi {z : Str} {k : Nat} (h : k ≤ z.length) : (cutS z (some (k : Int)) none).cps.toList = z.cps.toList.drop k := by
  unfold cutS
  rw [HT.sIx_nat, HT.sIx_none, Nat.min_eq_left h]
  show ((z.cps.toList.drop k).take (z.length - k)) = _
  rw [strLen, List.take_of_length_le (by rw [List.length_drop]; omega)]
theorem cps_add (a b : Str) : (a ++ b).cps.toList = a.cps.toList ++ b.cps.toList := by
  show (a.cps ++ b.cps).toList = _
  simp
theorem str_ext {a b : Str} (h : a.cps.toList = b.cps.toList) : a = b := by
  obtain ⟨x⟩ := a
  obtain ⟨y⟩ := b
  have e : x = y := by
    have h' : x.toList = y.toList := h
    exact Array.toList_inj.mp h'
  rw [e]
theorem str_of (l : List Nat) : (⟨l.toArray⟩ : Str).cps.toList = l := rfl
theorem one_len (ch : Nat) : (⟨#[ch]⟩ : Str).length = 1 := rfl
theorem join_one : ∀ ys : List Nat, (Txt.join "" (ys.map fun ch => (⟨#[ch]⟩ : Str))).cps.toList = ys := fun ys => by
  rw [show Txt.join "" (ys.map fun ch => (⟨#[ch]⟩ : Str)) = Str.join "" (ys.map fun ch => (⟨#[ch]⟩ : Str)) from StrLaws.glued_eq_join "" _]
  induction ys with
  | nil => rfl
  | cons y ys ih =>
    cases ys with
    | nil => rfl
    | cons z zs =>
      show ((⟨#[y]⟩ : Str) ++ "" ++ Str.join "" ((⟨#[z]⟩ : Str) :: zs.map fun ch => (⟨#[ch]⟩ : Str))).cps.toList = _
      have ih' : (Str.join "" ((⟨#[z]⟩ : Str) :: zs.map fun ch => (⟨#[ch]⟩ : Str))).cps.toList = z :: zs := ih
      rw [cps_add, cps_add, ih']; rfl
theorem nodup_map {α β : Type} {f : α → β} : ∀ {l : List α}, (∀ a ∈ l, ∀ b ∈ l, f a = f b → a = b) → l.Nodup → (l.map f).Nodup
  | [], _, _ => List.nodup_nil
  | x :: l, h, nd => by
    rw [List.nodup_cons] at nd
    rw [List.map_cons, List.nodup_cons]
    refine ⟨fun z => ?_, nodup_map (fun a ha b hb => h a (List.mem_cons_of_mem _ ha) b (List.mem_cons_of_mem _ hb)) nd.2⟩
    obtain ⟨y, hy, e⟩ := List.mem_map.mp z
    have := h y (List.mem_cons_of_mem _ hy) x (List.mem_cons_self ..) e
    subst this
    exact nd.1 hy
theorem nodup_of {α β : Type} {f : α → β} : ∀ {l : List α}, (l.map f).Nodup → l.Nodup
  | [], _ => List.nodup_nil
  | x :: l, nd => by
    rw [List.map_cons, List.nodup_cons] at nd
    rw [List.nodup_cons]
    exact ⟨fun z => nd.1 (List.mem_map_of_mem z), nodup_of nd.2⟩
/-! a name among names -/
def nmL (st : List Nat) (k0 b lg k : Nat) : List Nat := st.take k0 ++ [97 + (b + 7 * k) % 26] ++ st.drop k0 ++ (if (lg * k) % 2 = 1 then [97 + (b + 7 * k) % 26] else [])
theorem let_mark (b k : Nat) : isLet (97 + (b + 7 * k) % 26) = true := by
  unfold isLet
  rw [decide_eq_true (by omega), decide_eq_true (by omega)]; rfl
theorem lod_of {ch : Nat} (h : isLet ch = true) : lod ch = true := by unfold lod; rw [h]; rfl
theorem nmL_ok {st : List Nat} {k0 b lg k : Nat} (h1 : st.all lod = true) (h2 : ∀ ch, st.head? = some ch → isLet ch = true) (h3 : st.length ≤ 6) : isNm (nmL st k0 b lg k) = true := by
  have hm := let_mark b k
  have a1 : (st.take k0).all lod = true := List.all_eq_true.mpr fun x hx => List.all_eq_true.mp h1 x (List.mem_of_mem_take hx)
  have a2 : (st.drop k0).all lod = true := List.all_eq_true.mpr fun x hx => List.all_eq_true.mp h1 x (List.mem_of_mem_drop hx)
  have a3 : (if (lg * k) % 2 = 1 then [97 + (b + 7 * k) % 26] else []).all lod = true := by
    split
    · simp [lod_of hm]
    · rfl
  have len : (nmL st k0 b lg k).length ≤ 8 := by
    unfold nmL
    rw [List.length_append, List.length_append, List.length_append, List.length_take, List.length_drop]
    split <;> simp <;> omega
  have all : (nmL st k0 b lg k).all lod = true := by
    unfold nmL
    rw [List.all_append, List.all_append, List.all_append, a1, a2, a3]
    simp [lod_of hm]
  have hd : ∃ ch l, nmL st k0 b lg k = ch :: l ∧ isLet ch = true := by
    unfold nmL
    cases st with
    | nil => exact ⟨_, _, by rw [List.take_nil]; rfl, hm⟩
    | cons x st =>
      cases k0 with
      | zero => exact ⟨_, _, rfl, hm⟩
      | succ k0 => exact ⟨x, _, rfl, h2 x rfl⟩
  obtain ⟨ch, l, e, hl⟩ := hd
  rw [e] at all len ⊢
  rw [List.all_cons, Bool.and_eq_true] at all
  show (isLet ch && l.all lod && decide (l.length ≤ 7)) = true
  rw [hl, all.2, decide_eq_true (by simpa using len)]; rfl
theorem nmL_inj {st : List Nat} {k0 b lg k k' : Nat} (h0 : k0 ≤ st.length) (h1 : k < 26) (h2 : k' < 26) (e : nmL st k0 b lg k = nmL st k0 b lg k') : k = k' := by
  unfold nmL at e
  rw [List.append_assoc, List.append_assoc, List.append_assoc, List.append_assoc] at e
  have e2 := List.append_cancel_left e
  have e3 : 97 + (b + 7 * k) % 26 = 97 + (b + 7 * k') % 26 := by
    injection e2
  omega
/-- good names, all different -/
structure NamesOk (zs : List Str) : Prop where
  nd : zs.Nodup
  ok : ∀ z ∈ zs, isNm z.cps.toList = true
def spNames : SpT := fun ds c Q _ => ∃ c0 n a b t m, ds = [.cell n, .int m] ∧ c = fC c0 n a b t ∧ n < c0.length ∧ 0 ≤ m ∧ m ≤ 26 ∧ ∀ (zs : List Str) a' b' t', NamesOk zs → zs.length = m.toNat → Q (.lst (zs.map .str)) true (fC c0 n a' b' t')
def ir_l_names : ISs := (.cons (.asg 2 (.con (.str "abcdefghijklmnopqrstuvwxyz")))
  (.cons (.asg 3 (.bin .Add (.var 2) (.con (.str "0123456789"))))
  (.cons (.asg 4 (.call 301 (.cons (.var 0) (.cons (.con (.int 7)) .nil))))
  (.cons (.asg 5 (.meth .join (.con (.str "")) (.cons (.comp [6] (.nm 6) (.range1 (.var 4)) .nil (.idx (.var 3) (.call 301 (.cons (.var 0) (.cons (.bin .Add (.con (.int 26)) (.bin .Mult (.con (.int 10)) (.prim .int (.cons (.cmp .Gt (.var 6) (.con (.int 0))) .nil)))) .nil))))) .nil)))
  (.cons (.par [6, 7, 8] (.cons (.call 301 (.cons (.var 0) (.cons (.bin .Add (.prim .len (.cons (.var 5) .nil)) (.con (.int 1))) .nil))) (.cons (.call 301 (.cons (.var 0) (.cons (.con (.int 26)) .nil))) (.cons (.call 301 (.cons (.var 0) (.cons (.con (.int 2)) .nil))) .nil))))
  (.cons (.asg 9 (.lst .nil))
  (.cons (.for_ (.nm 10) (.range1 (.var 1)) (.cons (.asg 11 (.idx (.var 2) (.bin .Mod (.bin .Add (.var 7) (.bin .Mult (.con (.int 7)) (.var 10))) (.con (.int 26)))))
  (.cons (.asg 12 (.bin .Mult (.var 11) (.bin .Mod (.bin .Mult (.var 8) (.var 10)) (.con (.int 2)))))
  (.cons (.expr (.methv .append 9 (.cons (.bin .Add (.bin .Add (.bin .Add (.slc (.var 5) .no (.so (.var 6))) (.var 11)) (.slc (.var 5) (.so (.var 6)) .no)) (.var 12)) .nil)))
  .nil))))
  (.cons (.retv 9)
  .nil))))))))
def ir_l_number : ISs := (.cons (.asg 1 (.call 301 (.cons (.var 0) (.cons (.con (.int 6)) .nil))))
  (.cons (.ifs (.cmp .Lt (.var 1) (.con (.int 3))) (.cons (.ret (.bin .Sub (.call 301 (.cons (.var 0) (.cons (.con (.int 9)) .nil))) (.con (.int 4))))
  .nil) .nil)
  (.cons (.asg 2 (.ite (.cmp .Lt (.var 1) (.con (.int 5))) (.idx (.lst (.cons (.con (.int 0)) (.cons (.con (.int 1)) (.cons (.con (.int 10)) (.cons (.con (.int 99)) (.cons (.bin .Pow (.con (.int 10)) (.con (.int 9))) .nil)))))) (.var 1)) (.bin .Mult (.call 301 (.cons (.var 0) (.cons (.bin .Pow (.con (.int 10)) (.con (.int 10))) .nil))) (.bin .Pow (.con (.int 10)) (.con (.int 10))))))
  (.cons (.asg 3 (.bin .Add (.var 2) (.bin .Mult (.call 301 (.cons (.var 0) (.cons (.bin .Pow (.con (.int 10)) (.con (.int 10))) .nil))) (.prim .int (.cons (.cmp .Eq (.var 1) (.con (.int 5))) .nil)))))
  (.cons (.ret (.bin .Mult (.var 3) (.idx (.lst (.cons (.con (.int 1)) (.cons (.bin .Sub (.con (.int 0)) (.con (.int 1))) .nil))) (.call 301 (.cons (.var 0) (.cons (.con (.int 2)) .nil))))))
  .nil)))))
theorem letters_at {b k : Nat} : atI ("abcdefghijklmnopqrstuvwxyz" : Str).cps.toList (Int.fmod ((b : Int) + 7 * (0 + (k : Int))) 26) = some (97 + (b + 7 * k) % 26) := by
  have e : Int.fmod ((b : Int) + 7 * (0 + (k : Int))) 26 = (((b + 7 * k) % 26 : Nat) : Int) := by
    rw [Int.fmod_eq_emod_of_nonneg _ (by omega)]; omega
  rw [e, atI_n]
  have e2 : ("abcdefghijklmnopqrstuvwxyz" : Str).cps.toList = (List.range 26).map (· + 97) := LET_eq
  rw [e2, List.getElem?_map, List.getElem?_range (by omega)]
  show some (_ + 97) = _
  congr 1
  omega
theorem marks_at {r m : Int} {i : Nat} (hm : m = 26 + 10 * (if decide (0 < 0 + (i : Int)) = true then 1 else 0)) (h0 : 0 ≤ r) (h1 : r < m) : ∃ ch, atI ("abcdefghijklmnopqrstuvwxyz" ++ "0123456789" : Str).cps.toList r = some ch ∧ lod ch = true ∧ (i = 0 → isLet ch = true) := by
  have er : r = ((r.toNat : Nat) : Int) := by omega
  have e2 : ("abcdefghijklmnopqrstuvwxyz" ++ "0123456789" : Str).cps.toList = (List.range 26).map (· + 97) ++ (List.range 10).map (· + 48) := MRK_eq
  rw [er, atI_n, e2]
  by_cases h : r.toNat < 26
  · rw [List.getElem?_append_left (by simpa using h), List.getElem?_map, List.getElem?_range h]
    have hl : isLet (r.toNat + 97) = true := by unfold isLet; rw [decide_eq_true (by omega), decide_eq_true (by omega)]; rfl
    exact ⟨_, rfl, lod_of hl, fun _ => hl⟩
  · have hi : i ≠ 0 := by
      intro e
      subst e
      simp at hm
      omega
    have hm2 : m = 36 := by
      rw [if_pos (decide_eq_true (by omega))] at hm
      omega
    rw [List.getElem?_append_right (by simpa using Nat.le_of_not_lt h), List.getElem?_map]
    have e3 : r.toNat - ((List.range 26).map (· + 97)).length = r.toNat - 26 := by simp
    rw [e3, List.getElem?_range (by omega)]
    refine ⟨_, rfl, ?_, fun z => (hi z).elim⟩
    show lod (r.toNat - 26 + 48) = true
    unfold lod isDig
    rw [decide_eq_true (show 48 ≤ r.toNat - 26 + 48 by omega), decide_eq_true (show r.toNat - 26 + 48 ≤ 57 by omega)]
    simp
theorem wp_names {C : Ctx} (hp : ∀ p, C.hasP p = true) (hT : C.fn 301 = spTake) (hF : C.hasF 301 = true) (hB : C.hasB 301 = true) : ∀ ds c Q E, spNames ds c Q E → wpDef C 2 13 ir_l_names ds c Q E := by
  rintro ds c Q E ⟨c0, n, a, b, t, m, rfl, rfl, hn, h0, h1, q⟩
  refine ⟨rfl, ?_⟩
  show wpSs _ _ [.sh (.cell n), .sh (.int m), .no, .no, .no, .no, .no, .no, .no, .no, .no, .no, .no] _ _ _
  unfold ir_l_names
  walk_at "vm"
  refine p_addS (by decide +kernel) ?_
  walk_at "vm"
  refine tk_ hT (by decide) (by decide) hn fun sz a b t sz0 sz1 => ?_
  walk_at "vm"
  refine ⟨trivial, ?_⟩
  walk_at "vm"
  refine ⟨⟨by omega, by omega⟩, ?_⟩
  refine loopC_rng (fun i acc s c => ∃ (ys : List Nat) (a b t : Int) (x : Sl), acc = ys.map (fun ch => D.str ⟨#[ch]⟩) ∧ ys.length = i ∧ ys.all lod = true ∧ (∀ ch, ys.head? = some ch → isLet ch = true) ∧ s = [.sh (.cell n), .sh (.int m), .sh (.str "abcdefghijklmnopqrstuvwxyz"), .sh (.str ("abcdefghijklmnopqrstuvwxyz" ++ "0123456789")), .sh (.int sz), .no, x, .no, .no, .no, .no, .no, .no] ∧ c = fC c0 n a b t) _ ?_ ?_ _ _ _ ⟨[], a, b, t, .no, rfl, rfl, rfl, nofun, rfl, rfl⟩
  · rintro i hi acc s c ⟨ys, a, b, t, x, rfl, hl, hall, hh, rfl, rfl⟩
    refine ⟨trivial, fun K k1 k2 => c_step rfl (if_nil (chk_b (fun _ => ?_) nofun))⟩
    show wpE _ _ _ [.sh (.cell n), .sh (.int m), .sh (.str "abcdefghijklmnopqrstuvwxyz"), .sh (.str ("abcdefghijklmnopqrstuvwxyz" ++ "0123456789")), .sh (.int sz), .no, .sh (.int (0 + (i : Int))), .no, .no, .no, .no, .no, .no] (fC c0 n a b t) _ _
    walk_at "vm"
    refine p_mul (mulC' (by decide)) ?_
    walk_at "vm"
    refine tk_ hT (by split <;> decide) (by split <;> decide) hn fun r a b t r0 r1 => ?_
    obtain ⟨ch, c1, c2, c3⟩ := marks_at (i := i) rfl r0 r1
    refine p_idxS (by decide +kernel) c1 ?_
    refine k1 _ _ _ ⟨by rw [List.length_map]; exact Nat.lt_of_lt_of_le (show ys.length < 7 by omega) (szk (by decide)), ys ++ [ch], a, b, t, _, by rw [List.map_append]; rfl, by rw [List.length_append, hl]; rfl, ?_, ?_, rfl, rfl⟩
    · rw [List.all_append, hall]; simp [c2]
    · intro z hz
      cases ys with
      | nil => cases hz; exact c3 (by simpa using hl.symm)
      | cons y ys => exact hh z hz
  · rintro acc s c ⟨ys, a, b, t, x, rfl, hl, hall, hh, rfl, rfl⟩
    refine ⟨trivial, ?_⟩
    have hl6 : ys.length ≤ 6 := by omega
    have hj : asS (fC c0 n a b t) (.lst (ys.map fun ch => D.str ⟨#[ch]⟩)) = some ((ys.map fun ch => (⟨#[ch]⟩ : Str)).map D.str) := by rw [List.map_map]; rfl
    walk_at "vm"
    refine p_join hj ?_ ?_
    · have e : (ys.map fun ch => (⟨#[ch]⟩ : Str)).map (·.length) = ys.map fun _ => 1 := by rw [List.map_map]; rfl
      rw [e, List.length_map]
      have e2 : (ys.map fun _ => 1).sum = ys.length := by
        clear hl hall hh e hl6 hj
        induction ys with
        | nil => rfl
        | cons y ys ih => rw [List.map_cons, List.sum_cons, ih, List.length_cons]; omega
      rw [e2]
      show ys.length + ys.length * 0 ≤ _
      omega
    have hst := join_one ys
    generalize Txt.join "" (ys.map fun ch => (⟨#[ch]⟩ : Str)) = st at hst ⊢
    have ls : st.length = ys.length := by rw [strLen, hst]
    have lst : ∀ c, lenD c (.str st) = some st.length := fun c => by show (if st.length ≤ sizeLine then some st.length else none) = _; rw [if_pos (szk (by omega))]
    show wpSs _ _ [.sh (.cell n), .sh (.int m), .sh (.str "abcdefghijklmnopqrstuvwxyz"), .sh (.str ("abcdefghijklmnopqrstuvwxyz" ++ "0123456789")), .sh (.int sz), .sh (.str st), .no, .no, .no, .no, .no, .no, .no] _ _ _
    walk_at "vm"
    refine p_len (lst _) ?_
    walk_at "vm"
    refine tk_ hT (by omega) (by omega) hn fun at_ a b t at0 at1 => ?_
    walk_at "vm"
    refine tk_ hT (by decide) (by decide) hn fun b0 a b t b00 b01 => ?_
    walk_at "vm"
    refine tk_ hT (by decide) (by decide) hn fun lg a b t lg0 lg1 => ?_
    walk_at "vm"
    refine ⟨rfl, ?_⟩
    obtain ⟨k0, rfl⟩ : ∃ k : Nat, at_ = k := ⟨at_.toNat, by omega⟩
    obtain ⟨bn, rfl⟩ : ∃ k : Nat, b0 = k := ⟨b0.toNat, by omega⟩
    obtain ⟨ln, rfl⟩ : ∃ k : Nat, lg = k := ⟨lg.toNat, by omega⟩
    show wpSs _ _ [.sh (.cell n), .sh (.int m), .sh (.str "abcdefghijklmnopqrstuvwxyz"), .sh (.str ("abcdefghijklmnopqrstuvwxyz" ++ "0123456789")), .sh (.int sz), .sh (.str st), .sh (.int k0), .sh (.int bn), .sh (.int ln), .no, .no, .no, .no] _ _ _
    walk_at "vm"
    refine ⟨szk (by decide), ?_⟩
    walk_at "vm"
    refine ⟨⟨by omega, by omega⟩, ?_⟩
    refine loopF_rng (fun i s c => ∃ (zs : List Str) (x y z : Sl), zs.map (fun z => z.cps.toList) = (List.range i).map (nmL ys k0 bn ln) ∧ s = [.sh (.cell n), .sh (.int m), .sh (.str "abcdefghijklmnopqrstuvwxyz"), .sh (.str ("abcdefghijklmnopqrstuvwxyz" ++ "0123456789")), .sh (.int sz), .sh (.str st), .sh (.int k0), .sh (.int bn), .sh (.int ln), .ow (.lst (zs.map D.str)), x, y, z] ∧ c = fC c0 n a b t) _ ?_ ?_ _ _ ⟨[], .no, .no, .no, rfl, rfl, rfl⟩
    · rintro i hi s c ⟨zs, x, y, z, e1, rfl, rfl⟩
      refine ⟨trivial, fun K kk => f_step rfl ?_⟩
      have lz : zs.length = i := by
        have := congrArg List.length e1
        simpa using this
      show wpSs _ _ [.sh (.cell n), .sh (.int m), .sh (.str "abcdefghijklmnopqrstuvwxyz"), .sh (.str ("abcdefghijklmnopqrstuvwxyz" ++ "0123456789")), .sh (.int sz), .sh (.str st), .sh (.int k0), .sh (.int bn), .sh (.int ln), .ow (.lst (zs.map D.str)), .sh (.int (0 + (i : Int))), y, z] _ _ _
      walk_at "vm"
      refine p_mul (mulC' (by decide)) ?_
      walk_at "vm"
      refine p_mod (by decide) ?_
      refine p_idxS (by decide +kernel) letters_at ?_
      walk_at "vm"
      refine p_mul (mulC' (by omega)) ?_
      walk_at "vm"
      refine p_mod (by decide) ?_
      walk_at "vm"
      have em : ((ln : Int) * (0 + (i : Int))).fmod 2 = (((ln * i) % 2 : Nat) : Int) := by
        rw [Int.fmod_eq_emod_of_nonneg _ (by decide), Int.zero_add]
        show (ln : Int) * (i : Int) % 2 = _
        rw [← Int.natCast_mul]; omega
      rw [em]
      have hm2 : (ln * i) % 2 < 2 := Nat.mod_lt _ (by decide)
      refine p_mulS (szk (by rw [one_len, Int.toNat_natCast]; omega)) (by omega) ?_
      walk_at "vm"
      refine e_methv0 (p_slO rfl) ?_
      walk_at "vm"
      have cl1 : (cutS st none (some (k0 : Int))).length = k0 := by rw [strLen, cutS_lo (by omega), List.length_take, ← strLen]; omega
      have cl2 : (cutS st (some (k0 : Int)) none).length = st.length - k0 := by rw [strLen, cutS_hi (by omega), List.length_drop, ← strLen]
      have rl : (repS ⟨#[97 + (bn + 7 * i) % 26]⟩ (((ln * i) % 2 : Nat) : Int).toNat).cps.toList = if (ln * i) % 2 = 1 then [97 + (bn + 7 * i) % 26] else [] := by
        rw [Int.toNat_natCast]
        rcases (show (ln * i) % 2 = 0 ∨ (ln * i) % 2 = 1 by omega) with h | h
        · rw [h]; rfl
        · rw [h]; rfl
      have rl2 : (repS ⟨#[97 + (bn + 7 * i) % 26]⟩ (((ln * i) % 2 : Nat) : Int).toNat).length ≤ 1 := by
        rw [strLen, rl]; split <;> simp
      have la : ∀ a b : Str, (a ++ b).length = a.length + b.length := fun a b => Str.length_append a b
      refine p_slcS (szk (by omega)) ?_
      walk_at "vm"
      refine p_addS (szk (by rw [cl1, one_len]; omega)) ?_
      walk_at "vm"
      refine p_slcS (szk (by omega)) ?_
      refine p_addS (szk (by rw [la, cl1, cl2, one_len]; omega)) ?_
      walk_at "vm"
      refine p_addS (szk (by rw [la, la, cl1, cl2, one_len]; omega)) ?_
      walk_at "vm"
      refine p_slotO rfl (p_append (by rw [List.length_map, lz]; exact Nat.lt_of_lt_of_le (show i < 26 by omega) (szk (by decide))) ?_)
      refine kk _ _ ⟨zs ++ [_], _, _, _, ?_, by rw [List.map_append]; rfl, rfl⟩
      rw [List.map_append, e1, List.range_succ, List.map_append]
      congr 1
      show [_] = [_]
      congr 1
      show (cutS st none (some (k0 : Int)) ++ ⟨#[97 + (bn + 7 * i) % 26]⟩ ++ cutS st (some (k0 : Int)) none ++ repS ⟨#[97 + (bn + 7 * i) % 26]⟩ (((ln * i) % 2 : Nat) : Int).toNat).cps.toList = _
      rw [cps_add, cps_add, cps_add, cutS_lo (by omega), cutS_hi (by omega), rl, hst]; rfl
    · rintro s c ⟨zs, x, y, z, e1, rfl, rfl⟩
      refine ⟨trivial, ?_⟩
      have lz : zs.length = m.toNat := by
        have := congrArg List.length e1
        simpa using this
      walk_at "vm"
      refine q zs a b t ⟨?_, fun z hz => ?_⟩ lz
      · have nd : (zs.map fun z => z.cps.toList).Nodup := by
          rw [e1]
          refine nodup_map ?_ List.nodup_range
          intro i hi j hj e
          rw [List.mem_range] at hi hj
          exact nmL_inj (st := ys) (by omega) (by omega) (by omega) e
        exact nodup_of nd
      · have hz2 : z.cps.toList ∈ (List.range m.toNat).map (nmL ys k0 bn ln) := by rw [← e1]; exact List.mem_map_of_mem hz
        obtain ⟨i, hi, e⟩ := List.mem_map.mp hz2
        rw [← e]
        exact nmL_ok hall hh hl6
/-- a number of at most twenty digits -/
def spNumber : SpT := fun ds c Q _ => ∃ c0 n a b t, ds = [.cell n] ∧ c = fC c0 n a b t ∧ n < c0.length ∧ ∀ (i : Int) a' b' t', i.natAbs < 10 ^ 20 → Q (.int i) false (fC c0 n a' b' t')
theorem pow_ok {i j : Int} (h : 0 ≤ j ∧ j ≤ 1000000 ∧ i.natAbs < 2 ^ 64) : CPow i j := h
theorem wp_number {C : Ctx} (hp : ∀ p, C.hasP p = true) (hT : C.fn 301 = spTake) (hF : C.hasF 301 = true) (hB : C.hasB 301 = true) : ∀ ds c Q E, spNumber ds c Q E → wpDef C 1 4 ir_l_number ds c Q E := by
  rintro ds c Q E ⟨c0, n, a, b, t, rfl, rfl, hn, q⟩
  refine ⟨rfl, ?_⟩
  show wpSs _ _ [.sh (.cell n), .no, .no, .no] _ _ _
  unfold ir_l_number
  walk_at "vm"
  refine tk_ hT (by decide) (by decide) hn fun w a b t w0 w1 => ?_
  walk_at "vm"
  refine ifk_d (fun h => ?_) fun h => ?_
  · walk_at "vm"
    refine tk_ hT (by decide) (by decide) hn fun r a b t r0 r1 => ?_
    walk_at "vm"
    exact q _ _ _ _ (by omega)
  · have fin : ∀ (z : Int) (a b t : Int), 0 ≤ z → z ≤ 10 ^ 20 - 10 ^ 10 → (w < 5 → z ≤ 10 ^ 9) → wpSs C (.cons (.asg 3 (.bin .Add (.var 2) (.bin .Mult (.call 301 (.cons (.var 0) (.cons (.bin .Pow (.con (.int 10)) (.con (.int 10))) .nil))) (.prim .int (.cons (.cmp .Eq (.var 1) (.con (.int 5))) .nil)))))
        (.cons (.ret (.bin .Mult (.var 3) (.idx (.lst (.cons (.con (.int 1)) (.cons (.bin .Sub (.con (.int 0)) (.con (.int 1))) .nil))) (.call 301 (.cons (.var 0) (.cons (.con (.int 2)) .nil))))))
        .nil)) [.sh (.cell n), .sh (.int w), .sh (.int z), .no] (fC c0 n a b t) ⟨fun _ c1 => Q .non false c1, fun d o _ c1 => Q d o c1, fun _ _ => False, fun _ _ => False⟩ (fun ex _ c1 => E ex c1) := by
      intro z a b t z0 z1 z2
      walk_at "vm"
      refine p_pow (pow_ok ⟨by decide, by decide, by decide⟩) ?_
      walk_at "vm"
      refine tk_ hT (by decide) (by decide) hn fun r a b t r0 r1 => ?_
      walk_at "vm"
      refine p_mul (mulC (by split <;> decide)) ?_
      walk_at "vm"
      refine ⟨szk (by decide), ?_⟩
      walk_at "vm"
      refine tk_ hT (by decide) (by decide) hn fun sg a b t s0 s1 => ?_
      have r1' : r < 10 ^ 10 := r1
      have bnd : ∀ y : Int, 0 ≤ y → y < 10 ^ 10 → (z + y).natAbs < 10 ^ 20 := fun y y0 y1 => by omega
      have b2 : ∃ y : Int, r * (if decide (w = 5) = true then 1 else 0) = y ∧ 0 ≤ y ∧ y < 10 ^ 10 := by
        by_cases h5 : w = 5
        · exact ⟨r, by rw [if_pos (decide_eq_true h5), Int.mul_one], r0, r1'⟩
        · exact ⟨0, by rw [if_neg (by rw [decide_eq_false h5]; exact Bool.false_ne_true), Int.mul_zero], by decide, by decide⟩
      obtain ⟨y, e, y0, y1⟩ := b2
      rw [e]
      have bb := bnd y y0 y1
      rcases (show sg = 0 ∨ sg = 1 by omega) with rfl | rfl
      · refine p_idxL rfl ?_
        refine p_mul (mulC (by decide)) ?_
        exact q _ _ _ _ (by rw [Int.mul_one]; exact bb)
      · refine p_idxL rfl ?_
        refine p_mul (mulC (by decide)) ?_
        exact q _ _ _ _ (by show ((z + y) * (0 - 1)).natAbs < _; omega)
    walk_at "vm"
    refine ifk_d (fun h5 => ?_) fun h5 => ?_
    · walk_at "vm"
      refine p_pow (pow_ok ⟨by decide, by decide, by decide⟩) ?_
      walk_at "vm"
      refine ⟨szk (by decide), ?_⟩
      walk_at "vm"
      rcases (show w = 3 ∨ w = 4 by omega) with rfl | rfl
      · refine p_idxL rfl ?_
        exact fin 99 a b t (by decide) (by decide) (fun _ => by decide)
      · refine p_idxL rfl ?_
        exact fin (10 ^ 9) a b t (by decide) (by decide) (fun _ => by decide)
    · walk_at "vm"
      refine p_pow (pow_ok ⟨by decide, by decide, by decide⟩) ?_
      walk_at "vm"
      refine tk_ hT (by decide) (by decide) hn fun r a b t r0 r1 => ?_
      walk_at "vm"
      refine p_pow (pow_ok ⟨by decide, by decide, by decide⟩) ?_
      refine p_mul (mulC (by decide)) ?_
      have r1' : r < 10 ^ 10 := r1
      have e10 : (10 : Int) ^ Int.toNat 10 = 10 ^ 10 := rfl
      rw [e10]
      exact fin (r * 10 ^ 10) a b t (by omega) (by omega) (fun z => by omega)
end Vm.Lib

-- mac2
open PySem PySem.Spec L2 Vm
local macro_rules | `(tactic| walk_at "vm") => `(tactic| (repeat (first
  | (with_reducible refine ss_cons ?_) | (with_reducible refine ss_nil ?_) | (with_reducible refine s_asg ?_) | (with_reducible refine s_ret ?_) | (with_reducible refine s_ifs ?_) | (with_reducible refine s_expr ?_) | (with_reducible refine s_pass ?_) | (with_reducible refine s_par ?_) | (with_reducible refine s_asgT ?_) | (with_reducible refine s_retN ?_) | (with_reducible refine s_setf ?_) | (with_reducible refine e_con0 ?_) | (with_reducible refine e_bin0 ?_) | (with_reducible refine e_cmp0 ?_) | (with_reducible refine e_cmp1 ?_) | (with_reducible refine l_nil ?_) | (with_reducible refine l_cons ?_) | (with_reducible refine e_idx0 ?_) | (with_reducible refine p_addI ?_) | (with_reducible refine p_sub ?_) | (with_reducible refine p_gtI ?_) | (with_reducible refine p_ltI ?_) | (with_reducible refine p_leI ?_) | (with_reducible refine p_geI ?_) | (with_reducible refine p_eqI ?_) | (with_reducible refine p_neI ?_) | (with_reducible refine p_eqS ?_) | (with_reducible refine p_neS ?_) | (with_reducible refine p_abs ?_) | (with_reducible refine p_intI ?_) | (with_reducible refine p_intB ?_) | (with_reducible refine p_boolB ?_) | (with_reducible refine p_min ?_) | (with_reducible refine p_max ?_) | (with_reducible refine p_leS ?_) | (with_reducible refine e_chain0 ?_) | (with_reducible refine e_chain1 ?_) | (with_reducible refine e_bool0 ?_) | (with_reducible refine e_bool1 ?_) | (with_reducible refine b_one0 ?_) | (with_reducible refine b_one1 ?_) | (with_reducible refine b_cons0 ?_) | (with_reducible refine b_cons1 ?_) | (with_reducible refine e_not0 ?_) | (with_reducible refine e_not1 ?_) | (with_reducible refine e_isi0 ?_) | (with_reducible refine e_isi1 ?_) | (with_reducible refine notk_t ?_) | (with_reducible refine notk_f ?_) | (with_reducible refine notk_d ?_) | (with_reducible refine notk_b ?_) | (with_reducible refine intk ?_) | (with_reducible refine int2k ?_) | (with_reducible refine blk ?_) | (with_reducible refine p_inC ?_) | (with_reducible refine bok_tt ?_) | (with_reducible refine bok_tf ?_) | (with_reducible refine bok_ff ?_) | (with_reducible refine bok_ft ?_) | (with_reducible refine ifk_t ?_) | (with_reducible refine ifk_f ?_) | (with_reducible refine qt_bl ?_) | (with_reducible refine e_lst0 ?_) | (with_reducible refine e_tup0 ?_) | (with_reducible refine e_slc0 ?_) | (with_reducible refine o_no ?_) | (with_reducible refine o_so ?_) | (with_reducible refine e_meth0 ?_) | (with_reducible refine e_un0 ?_) | (with_reducible refine p_neg ?_) | (with_reducible refine s_seti ?_) | (with_reducible refine e_comp0 ?_) | (with_reducible refine s_for ?_) | (with_reducible refine i_val ?_) | (with_reducible refine i_range1 ?_) | (with_reducible refine i_range2 ?_) | (with_reducible refine i_enum ?_) | (with_reducible refine s_cellify ?_) | (with_reducible refine e_fstr0 ?_) | (with_reducible refine e_mcall0 ?_) | (with_reducible refine j_nil ?_) | (with_reducible refine j_cons ?_) | (with_reducible refine p_slcT ?_) | (with_reducible refine e_ite0 ?_) | (with_reducible refine qtf ?_) | (with_reducible refine qtt ?_) | ((with_reducible apply s_retv); (next => rfl)) | ((with_reducible apply e_var0); (next => rfl)) | ((with_reducible apply e_own0); (next => rfl)) | ((with_reducible apply e_var1); (next => rfl)) | ((with_reducible apply e_prim0); (next => first | rfl | (exact allP (by assumption)))) | ((with_reducible apply e_call0); (next => first | rfl | assumption); (next => first | rfl | assumption)) | ((with_reducible apply e_glob0); (next => first | rfl | assumption)) | ((with_reducible apply e_op0); (next => first | rfl | assumption)) | ((with_reducible apply e_op1); (next => first | rfl | assumption)) | ((with_reducible apply o_fldI); (next => rfl); (next => rfl)) | ((with_reducible apply o_iscI); (next => rfl); (next => rfl)) | ((with_reducible apply o_prpI); (next => rfl); (next => rfl); (next => rfl)) | ((with_reducible apply o_unI); (next => rfl); (next => rfl)) | ((with_reducible apply o_binN); (next => rfl); (next => rfl); (next => rfl); (next => rfl)) | ((with_reducible apply o_binI); (next => rfl); (next => rfl); (next => rfl); (next => rfl)) | ((with_reducible apply m_ins); (next => rfl)) | ((with_reducible apply k_call); (next => rfl); (next => rfl); (next => rfl); (next => rfl)) | ((with_reducible apply o_call); (next => rfl); (next => rfl); (next => rfl); (next => rfl)) | ((with_reducible apply p_idxT); (next => rfl)) | ((with_reducible apply p_idxL); (next => rfl)) | (with_reducible refine p_slcS (by assumption) ?_))))
-- /mac2
namespace Vm.Lib
open PySem PySem.Spec L2 Vm
open PyProof.Rows hiding St
/-! texts -/
def asc (z : Str) : Prop := ∀ ch ∈ z.cps.toList, ch < 16 ^ 8
theorem asc_of (s : String) : asc (Str.ofString s) := fun ch h => by
  rw [signs_ofString] at h
  obtain ⟨x, _, rfl⟩ := List.mem_map.mp h
  have : x.toNat < 1114112 := by
    rcases x.valid with h | h
    · exact Nat.lt_trans h (by decide)
    · exact h.2
  exact Nat.lt_trans this (by decide)
theorem asc_add {a b : Str} (h : asc a) (g : asc b) : asc (a ++ b) := fun ch z => by
  rw [cps_add] at z
  rcases List.mem_append.mp z with z | z
  · exact h ch z
  · exact g ch z
theorem nm_len {z : Str} (h : isNm z.cps.toList = true) : z.length ≤ 8 ∧ 1 ≤ z.length := by
  rw [strLen]
  cases q : z.cps.toList with
  | nil => rw [q] at h; cases h
  | cons x l =>
    rw [q] at h
    have : (isLet x && l.all lod && decide (l.length ≤ 7)) = true := h
    rw [Bool.and_eq_true] at this
    have := of_decide_eq_true this.2
    rw [List.length_cons]; omega
theorem lod_lt {ch : Nat} (h : lod ch = true) : ch < 128 := by
  unfold lod isLet isDig at h
  simp only [Bool.or_eq_true, Bool.and_eq_true, decide_eq_true_eq] at h
  omega
theorem nm_lod {z : Str} (h : isNm z.cps.toList = true) : ∀ ch ∈ z.cps.toList, lod ch = true := fun ch hc => by
  cases q : z.cps.toList with
  | nil => rw [q] at hc; cases hc
  | cons x l =>
    rw [q] at h hc
    have e : (isLet x && l.all lod && decide (l.length ≤ 7)) = true := h
    simp only [Bool.and_eq_true] at e
    rcases List.mem_cons.mp hc with rfl | hc
    · exact lod_of e.1.1
    · exact List.all_eq_true.mp e.1.2 ch hc
theorem asc_nm {z : Str} (h : isNm z.cps.toList = true) : asc z := fun ch hc => Nat.lt_trans (lod_lt (nm_lod h ch hc)) (by decide)
theorem log_ok {k : Int} (h : k.natAbs < 10 ^ 30) : k.natAbs.log2 < 1920 := by
  by_cases h0 : k.natAbs = 0
  · rw [h0]; decide
  · have : k.natAbs.log2 < 100 := (Nat.log2_lt h0).mpr (Nat.lt_of_lt_of_le h (by decide))
    omega
theorem toStr_len {k : Int} (h : k.natAbs < 10 ^ 30) : (Str.ofString (toString k)).length ≤ 31 := by
  have e := int_text_length_le10 (k := 30) (by decide) h
  have e2 : (Str.ofString (toString k)).length = (toString k).length := by
    rw [strLen, signs_ofString, List.length_map]; rfl
  omega
theorem len_add (a b : Str) : (a ++ b).length = a.length + b.length := Str.length_append a b
theorem repr_len {z : Str} (h : asc z) (hl : z.length ≤ 90) : (reprText z).length ≤ 902 := by
  have := StrLaws.reprText_len z h
  omega
theorem p_reprS {c : Cl} {z : Str} {Q : Q1} (h : asc z) (hl : z.length ≤ 90) (q : Q (.str (reprText z)) false) : primW .repr c [.str z] Q := by
  have e : (PyData.str z).shown = reprText z := PyData.shown_str z
  refine ⟨.str z, rfl, rfl, Nat.le_of_ble_eq_true rfl, ?_, ?_⟩
  · rw [e]; have := repr_len h hl; exact Nat.le_trans this (by have : sizeLine = 16777216 := sizeLine_eq; omega)
  · rw [e]; exact q
theorem shown2 (a b : Str) : (PyData.list [.str a, .str b]).shown = "[" ++ (reprText a ++ ", " ++ reprText b) ++ "]" := by
  rw [PyData.shown_list, PyData.shownAll_cons, PyData.shownAll_cons, PyData.shownAll_nil, PyData.shown_str, PyData.shown_str]; rfl
theorem p_repr2 {c : Cl} {a b : Str} {Q : Q1} (ha : asc a) (hb : asc b) (la : a.length ≤ 90) (lb : b.length ≤ 90) (q : Q (.str (PyData.list [.str a, .str b]).shown) false) : primW .repr c [.lst [.str a, .str b]] Q := by
  refine ⟨.list [.str a, .str b], rfl, rfl, Nat.le_of_ble_eq_true rfl, ?_, q⟩
  rw [shown2, len_add, len_add, len_add, len_add]
  have h1 := repr_len ha la
  have h2 := repr_len hb lb
  have e1 : ("[" : Str).length = 1 := rfl
  have e2 : (", " : Str).length = 2 := rfl
  have e3 : ("]" : Str).length = 1 := rfl
  have : sizeLine = 16777216 := sizeLine_eq
  omega
/-! deeds as data -/
inductive Dd where
  | add (t s : Str) (k : Int)
  | push (t : Str) (k : Int)
  | turn (t : Str)
def Dd.ob : Dd → D
  | .add t s k => .ins 20 [9, 10, 11, 12, 13] [.str t, .str s, .int k, .int k, .tup [.str t, .str s]]
  | .push t k => .ins 21 [9, 14, 12, 13] [.str t, .int k, .int k, .tup [.str t]]
  | .turn t => .ins 22 [9, 13] [.str t, .tup [.str t]]
/-- as the law tells it -/
def Dd.tp : Dd → D
  | .add t s k => .tup [.str "add", .str t, .str s, .int k]
  | .push t k => .tup [.str "push", .str t, .int k]
  | .turn t => .tup [.str "turn", .str t]
def Dd.cl : Dd → Nat
  | .add .. => 20
  | .push .. => 21
  | .turn .. => 22
def Dd.neg : Dd → Dd
  | .add t s k => .add t s (-k)
  | .push t k => .push t (-k)
  | .turn t => .turn t
def Dd.mul : Dd → Int → Dd
  | .add t s k, n => .add t s (k * n)
  | .push t k, n => .push t (k * n)
  | .turn t, _ => .turn t
def nmS (t : Str) : Prop := isNm t.cps.toList = true
/-- names, two of them unlike, a number of less than B digits -/
def Dd.okB (B : Nat) : Dd → Prop
  | .add t s k => t ≠ s ∧ nmS t ∧ nmS s ∧ k.natAbs < 10 ^ B
  | .push t k => nmS t ∧ k.natAbs < 10 ^ B
  | .turn t => nmS t
abbrev Dd.ok : Dd → Prop := Dd.okB 30
def numS (k : Int) : Str := Str.ofString (toString k)
def Dd.txt : Dd → Str
  | .add t s k => t ++ " += " ++ numS k ++ "*" ++ s
  | .push t k => t ++ " += " ++ numS k
  | .turn t => t ++ " = -" ++ t
theorem Dd.okB.imp {B B' : Nat} (h : B ≤ B') : ∀ {d : Dd}, d.okB B → d.okB B'
  | .add t s k, g => ⟨g.1, g.2.1, g.2.2.1, Nat.lt_of_lt_of_le g.2.2.2 (Nat.pow_le_pow_right (by decide) h)⟩
  | .push t k, g => ⟨g.1, Nat.lt_of_lt_of_le g.2 (Nat.pow_le_pow_right (by decide) h)⟩
  | .turn t, g => g
theorem Dd.neg_ok {B : Nat} : ∀ {d : Dd}, d.okB B → d.neg.okB B
  | .add t s k, g => ⟨g.1, g.2.1, g.2.2.1, by rw [Int.natAbs_neg]; exact g.2.2.2⟩
  | .push t k, g => ⟨g.1, by rw [Int.natAbs_neg]; exact g.2⟩
  | .turn t, g => g
theorem mul_lt {a b : Int} {A B : Nat} (h : a.natAbs < 10 ^ A) (g : b.natAbs < 10 ^ B) : (a * b).natAbs < 10 ^ (A + B) := by
  rw [Int.natAbs_mul, Nat.pow_add]
  exact Nat.lt_of_le_of_lt (Nat.mul_le_mul_left _ (Nat.le_of_lt g)) ((Nat.mul_lt_mul_right (Nat.pow_pos (by decide))).mpr h)
theorem Dd.mul_ok {A B : Nat} {n : Int} (hn : n.natAbs < 10 ^ B) : ∀ {d : Dd}, d.okB A → (d.mul n).okB (A + B)
  | .add t s k, g => ⟨g.1, g.2.1, g.2.2.1, mul_lt g.2.2.2 hn⟩
  | .push t k, g => ⟨g.1, mul_lt g.2 hn⟩
  | .turn t, g => g
theorem Dd.txt_asc {d : Dd} (h : d.ok) : asc d.txt := by
  cases d with
  | add t s k => exact asc_add (asc_add (asc_add (asc_add (asc_nm h.2.1) (asc_of " += ")) (asc_of _)) (asc_of "*")) (asc_nm h.2.2.1)
  | push t k => exact asc_add (asc_add (asc_nm h.1) (asc_of " += ")) (asc_of _)
  | turn t => exact asc_add (asc_add (asc_nm h) (asc_of " = -")) (asc_nm h)
theorem Dd.txt_len {d : Dd} (h : d.ok) : d.txt.length ≤ 60 := by
  have e1 : (" += " : Str).length = 4 := rfl
  have e2 : ("*" : Str).length = 1 := rfl
  have e3 : (" = -" : Str).length = 4 := rfl
  cases d with
  | add t s k =>
    show (t ++ " += " ++ numS k ++ "*" ++ s).length ≤ _
    rw [len_add, len_add, len_add, len_add]
    have := (nm_len h.2.1).1
    have := (nm_len h.2.2.1).1
    have := toStr_len h.2.2.2
    unfold numS
    omega
  | push t k =>
    show (t ++ " += " ++ numS k).length ≤ _
    rw [len_add, len_add]
    have := (nm_len h.1).1
    have := toStr_len h.2
    unfold numS
    omega
  | turn t =>
    show (t ++ " = -" ++ t).length ≤ _
    rw [len_add, len_add]
    have := (nm_len h).1
    omega
def gAdd : List D → Option (List Nat × List D)
  | [.str t, .str s, .int k] => if t = s then none else some ([9, 10, 11, 12, 13], [.str t, .str s, .int k, .int k, .tup [.str t, .str s]])
  | _ => none
def gPush : List D → Option (List Nat × List D)
  | [.str t, .int k] => some ([9, 14, 12, 13], [.str t, .int k, .int k, .tup [.str t]])
  | _ => none
def gTurn : List D → Option (List Nat × List D)
  | [.str t] => some ([9, 13], [.str t, .tup [.str t]])
  | _ => none
def spNeg (k : Nat) : SpT := fun ds c Q _ => ∃ d : Dd, d.ok ∧ d.cl = k ∧ ds = [d.ob] ∧ Q d.neg.ob false c
def spMul (k : Nat) : SpT := fun ds c Q _ => ∃ (d : Dd) (n : Int), d.ok ∧ d.cl = k ∧ n.natAbs < 2 ^ 60 ∧ ds = [d.ob, .int n] ∧ Q (d.mul n).ob false c
def spText (k : Nat) : SpT := fun ds c Q _ => ∃ d : Dd, d.ok ∧ d.cl = k ∧ ds = [d.ob] ∧ Q (.str d.txt) false c
def spNumTxt : SpT := fun ds c Q _ => ∃ i : Int, ds = [.int i] ∧ i.natAbs.log2 < 1920 ∧ Q (.str (toString i)) false c
def spMade : SpT := fun ds c Q _ => ∃ d : Dd, d.ok ∧ ds = [d.tp] ∧ Q d.ob false c
def spLText : SpT := fun ds c Q _ => ∃ d : Dd, d.ok ∧ ds = [d.tp] ∧ Q (.str d.txt) false c
/-- a deed of the law -/
def spDeed : SpT := fun ds c Q _ => ∃ c0 n a b t zs, ds = [.cell n, .lst (zs.map .str)] ∧ c = fC c0 n a b t ∧ n < c0.length ∧ NamesOk zs ∧ 0 < zs.length ∧ zs.length < 1000 ∧ ∀ (d : Dd) a' b' t', d.okB 20 → Q d.tp false (fC c0 n a' b' t')
def ir_SameRegister_init : ISs := (.cons (.setf 0 0 (.var 1))
  .nil)
def ir_number_text : ISs := (.cons (.ret (.prim .str (.cons (.var 0) .nil)))
  .nil)
def ir_Add_init : ISs := (.cons (.ifs (.cmp .Eq (.var 1) (.var 2)) (.cons (.raise_ 3 (.cons (.var 1) .nil))
  .nil) .nil)
  (.cons (.setf 0 9 (.var 1))
  (.cons (.setf 0 10 (.var 2))
  (.cons (.setf 0 11 (.var 3))
  (.cons (.setf 0 12 (.var 3))
  (.cons (.setf 0 13 (.tup (.cons (.var 1) (.cons (.var 2) .nil))))
  .nil))))))
def ir_Add_neg : ISs := (.cons (.ret (.op (.mk 20 3 [] [.inl 0, .inl 1, .inl 2, .inl 3]) (.cons (.op (.fld 9) (.cons (.var 0) .nil)) (.cons (.op (.fld 10) (.cons (.var 0) .nil)) (.cons (.un .USub (.op (.fld 11) (.cons (.var 0) .nil))) .nil)))))
  .nil)
def ir_Add_mul : ISs := (.cons (.ifs (.not (.isi (.var 1) "int")) (.cons .dead
  .nil) .nil)
  (.cons (.ret (.op (.mk 20 3 [] [.inl 0, .inl 1, .inl 2, .inl 3]) (.cons (.op (.fld 9) (.cons (.var 0) .nil)) (.cons (.op (.fld 10) (.cons (.var 0) .nil)) (.cons (.bin .Mult (.op (.fld 11) (.cons (.var 0) .nil)) (.var 1)) .nil)))))
  .nil))
def ir_Add_text : ISs := (.cons (.ret (.fstr (.cons (.op .fmt (.cons (.op (.fld 9) (.cons (.var 0) .nil)) .nil)) (.cons (.con (.str " += ")) (.cons (.op .fmt (.cons (.call 1 (.cons (.op (.fld 11) (.cons (.var 0) .nil)) .nil)) .nil)) (.cons (.con (.str "*")) (.cons (.op .fmt (.cons (.op (.fld 10) (.cons (.var 0) .nil)) .nil)) .nil)))))))
  .nil)
def ir_Push_init : ISs := (.cons (.setf 0 9 (.var 1))
  (.cons (.setf 0 14 (.var 2))
  (.cons (.setf 0 12 (.var 2))
  (.cons (.setf 0 13 (.tup (.cons (.var 1) .nil)))
  .nil))))
def ir_Push_neg : ISs := (.cons (.ret (.op (.mk 21 2 [] [.inl 0, .inl 1, .inl 2]) (.cons (.op (.fld 9) (.cons (.var 0) .nil)) (.cons (.un .USub (.op (.fld 14) (.cons (.var 0) .nil))) .nil))))
  .nil)
def ir_Push_mul : ISs := (.cons (.ifs (.not (.isi (.var 1) "int")) (.cons .dead
  .nil) .nil)
  (.cons (.ret (.op (.mk 21 2 [] [.inl 0, .inl 1, .inl 2]) (.cons (.op (.fld 9) (.cons (.var 0) .nil)) (.cons (.bin .Mult (.op (.fld 14) (.cons (.var 0) .nil)) (.var 1)) .nil))))
  .nil))
def ir_Push_text : ISs := (.cons (.ret (.fstr (.cons (.op .fmt (.cons (.op (.fld 9) (.cons (.var 0) .nil)) .nil)) (.cons (.con (.str " += ")) (.cons (.op .fmt (.cons (.call 1 (.cons (.op (.fld 14) (.cons (.var 0) .nil)) .nil)) .nil)) .nil)))))
  .nil)
def ir_Turn_init : ISs := (.cons (.setf 0 9 (.var 1))
  (.cons (.setf 0 13 (.tup (.cons (.var 1) .nil)))
  .nil))
def ir_Turn_neg : ISs := (.cons (.ret (.op (.mk 22 1 [] [.inl 0, .inl 1]) (.cons (.op (.fld 9) (.cons (.var 0) .nil)) .nil)))
  .nil)
def ir_Turn_text : ISs := (.cons (.ret (.fstr (.cons (.op .fmt (.cons (.op (.fld 9) (.cons (.var 0) .nil)) .nil)) (.cons (.con (.str " = -")) (.cons (.op .fmt (.cons (.op (.fld 9) (.cons (.var 0) .nil)) .nil)) .nil)))))
  .nil)
def ir_l_deed : ISs := (.cons (.par [2, 3] (.cons (.call 301 (.cons (.var 0) (.cons (.con (.int 5)) .nil))) (.cons (.call 303 (.cons (.var 0) .nil)) .nil)))
  (.cons (.asg 4 (.call 301 (.cons (.var 0) (.cons (.prim .len (.cons (.var 1) .nil)) .nil))))
  (.cons (.ifs (.bool true (.cons (.cmp .Lt (.var 2) (.con (.int 3))) (.cons (.cmp .Gt (.prim .len (.cons (.var 1) .nil)) (.con (.int 1))) .nil))) (.cons (.ret (.tup (.cons (.con (.str "add")) (.cons (.idx (.var 1) (.var 4)) (.cons (.idx (.var 1) (.bin .Mod (.bin .Add (.bin .Add (.var 4) (.con (.int 1))) (.call 301 (.cons (.var 0) (.cons (.bin .Sub (.prim .len (.cons (.var 1) .nil)) (.con (.int 1))) .nil)))) (.prim .len (.cons (.var 1) .nil)))) (.cons (.var 3) .nil))))))
  .nil) .nil)
  (.cons (.ret (.ite (.cmp .Eq (.var 2) (.con (.int 3))) (.tup (.cons (.con (.str "push")) (.cons (.idx (.var 1) (.var 4)) (.cons (.var 3) .nil)))) (.tup (.cons (.con (.str "turn")) (.cons (.idx (.var 1) (.var 4)) .nil)))))
  .nil))))
def ir_l_made : ISs := (.cons (.ifs (.cmp .Eq (.idx (.var 0) (.con (.int 0))) (.con (.str "add"))) (.cons (.ret (.op (.mk 20 3 [] [.inl 0, .inl 1, .inl 2, .inl 3]) (.cons (.idx (.var 0) (.con (.int 1))) (.cons (.idx (.var 0) (.con (.int 2))) (.cons (.idx (.var 0) (.con (.int 3))) .nil)))))
  .nil) .nil)
  (.cons (.ret (.ite (.cmp .Eq (.idx (.var 0) (.con (.int 0))) (.con (.str "push"))) (.op (.mk 21 2 [] [.inl 0, .inl 1, .inl 2]) (.cons (.idx (.var 0) (.con (.int 1))) (.cons (.idx (.var 0) (.con (.int 2))) .nil))) (.op (.mk 22 1 [] [.inl 0, .inl 1]) (.cons (.idx (.var 0) (.con (.int 1))) .nil))))
  .nil))
def ir_l_text : ISs := (.cons (.ifs (.cmp .Eq (.idx (.var 0) (.con (.int 0))) (.con (.str "add"))) (.cons (.ret (.bin .Add (.bin .Add (.bin .Add (.bin .Add (.idx (.var 0) (.con (.int 1))) (.con (.str " += "))) (.prim .str (.cons (.idx (.var 0) (.con (.int 3))) .nil))) (.con (.str "*"))) (.idx (.var 0) (.con (.int 2)))))
  .nil) .nil)
  (.cons (.ret (.bin .Add (.idx (.var 0) (.con (.int 1))) (.ite (.cmp .Eq (.idx (.var 0) (.con (.int 0))) (.con (.str "push"))) (.bin .Add (.con (.str " += ")) (.prim .str (.cons (.idx (.var 0) (.con (.int 2))) .nil))) (.bin .Add (.con (.str " = -")) (.idx (.var 0) (.con (.int 1)))))))
  .nil))
theorem j_s {z y : Str} {P : Str → Prop} (h : (z ++ y).length ≤ sizeLine) (q : P y) : ∃ w, D.str y = .str w ∧ (z ++ w).length ≤ sizeLine ∧ P w := ⟨y, rfl, h, q⟩
/-- what the deeds' classes promise within a context -/
structure DC (C : Ctx) : Prop where
  hp : ∀ p, C.hasP p = true
  x3 : C.hasX 3 = true
  at_ : ∀ p ∈ [(20, 9), (20, 10), (20, 11), (20, 12), (20, 13), (21, 9), (21, 14), (21, 12), (21, 13), (22, 9), (22, 13)], C.hasA p.1 p.2 = true
/-- C(..) is known -/
structure MkC (C : Ctx) (k n : Nat) (g : List D → Option (List Nat × List D)) : Prop where
  c : C.hasC k = true
  m : C.hasM k 0 = true
  f : C.hasF (mtF k 0) = true
  p : C.hasP2 (mtF k 0) (n + 1) [] (idP (n + 1)) = true
  s : ∀ ds c Q E, spIni k g ds c Q E → C.fn (mtF k 0) ds c Q E
theorem mk_ {C : Ctx} {k n : Nat} {g : List D → Option (List Nat × List D)} {pl : Pl} {ds ys : List D} {ns : List Nat} {c : Cl} {Q : D → Bool → Cl → Prop} {E : Ex → Cl → Prop} (h : MkC C k n g) (e : idP (n + 1) = pl) (hl : ds.length = n) (hp : appD pl (.cell c.length :: ds) = .cell c.length :: ds) (hg : g ds = some (ns, ys)) (hf : flatL ys = true) (q : Q (.ins k ns ys) false c) : opW C (.mk k n [] pl) ds c Q E := by
  subst e
  exact o_mkS h.m h.f h.p (by rw [List.length_cons, hl]; rfl) h.s hp hg hf q
variable {C : Ctx}
/-- an Add's __init__: SameRegister of one register -/
def spAddI : SpT := fun ds c Q E => ∃ n t s k, ds = [.cell n, .str t, .str s, .int k] ∧ c[n]? = some (.ins 20 [] []) ∧ (t = s → E ⟨3, [(0, .str t)]⟩ c) ∧ (t ≠ s → Q .non false (c.set n (.ins 20 [9, 10, 11, 12, 13] [.str t, .str s, .int k, .int k, .tup [.str t, .str s]])))
theorem spAddI_of : ∀ ds c Q E, spIni 20 gAdd ds c Q E → spAddI ds c Q E := by
  rintro ds c Q E ⟨n, xs, ns, ys, rfl, hc, hg, q⟩
  unfold gAdd at hg
  split at hg
  · rename_i t s k
    split at hg
    · cases hg
    · rename_i hne
      cases hg
      exact ⟨n, t, s, k, rfl, hc, fun e => (hne e).elim, fun _ => q⟩
  · cases hg
theorem wp_Add_init (h : DC C) : ∀ ds c Q E, spAddI ds c Q E → wpDef C 4 4 ir_Add_init ds c Q E := by
  rintro ds c Q E ⟨n, t, s, k, rfl, hc, q1, q⟩
  refine ⟨rfl, ?_⟩
  show wpSs _ _ [.sh (.cell n), .sh (.str t), .sh (.str s), .sh (.int k)] c _ _
  unfold ir_Add_init
  walk_at "vm"
  refine ifk_d (fun e => ?_) fun hne => ?_
  · refine ss_cons (s_raise h.x3 ?_)
    walk_at "vm"
    exact ⟨_, rfl, q1 e⟩
  walk_at "vm"
  refine Exists.intro _ (Exists.intro _ (Exists.intro _ (And.intro hc (And.intro (h.at_ (20, 9) (by decide)) (And.intro (by exact Nat.le_of_ble_eq_true rfl) ?_)))))
  walk_at "vm"
  refine Exists.intro _ (Exists.intro _ (Exists.intro _ (And.intro (cset hc) (And.intro (h.at_ (20, 10) (by decide)) (And.intro (by exact Nat.le_of_ble_eq_true rfl) ?_)))))
  rw [List.set_set]
  walk_at "vm"
  refine Exists.intro _ (Exists.intro _ (Exists.intro _ (And.intro (cset hc) (And.intro (h.at_ (20, 11) (by decide)) (And.intro (by exact Nat.le_of_ble_eq_true rfl) ?_)))))
  rw [List.set_set]
  walk_at "vm"
  refine Exists.intro _ (Exists.intro _ (Exists.intro _ (And.intro (cset hc) (And.intro (h.at_ (20, 12) (by decide)) (And.intro (by exact Nat.le_of_ble_eq_true rfl) ?_)))))
  rw [List.set_set]
  walk_at "vm"
  refine tupk rfl ?_
  refine Exists.intro _ (Exists.intro _ (Exists.intro _ (And.intro (cset hc) (And.intro (h.at_ (20, 13) (by decide)) (And.intro (by exact Nat.le_of_ble_eq_true rfl) ?_)))))
  rw [List.set_set]
  walk_at "vm"
  exact q hne
theorem wp_Push_init (h : DC C) : ∀ ds c Q E, spIni 21 gPush ds c Q E → wpDef C 3 3 ir_Push_init ds c Q E := by
  rintro ds c Q E ⟨n, xs, ns, ys, rfl, hc, hg, q⟩
  unfold gPush at hg
  split at hg
  · rename_i t k
    cases hg
    refine ⟨rfl, ?_⟩
    show wpSs _ _ [.sh (.cell n), .sh (.str t), .sh (.int k)] c _ _
    unfold ir_Push_init
    walk_at "vm"
    refine Exists.intro _ (Exists.intro _ (Exists.intro _ (And.intro hc (And.intro (h.at_ (21, 9) (by decide)) (And.intro (by exact Nat.le_of_ble_eq_true rfl) ?_)))))
    walk_at "vm"
    refine Exists.intro _ (Exists.intro _ (Exists.intro _ (And.intro (cset hc) (And.intro (h.at_ (21, 14) (by decide)) (And.intro (by exact Nat.le_of_ble_eq_true rfl) ?_)))))
    rw [List.set_set]
    walk_at "vm"
    refine Exists.intro _ (Exists.intro _ (Exists.intro _ (And.intro (cset hc) (And.intro (h.at_ (21, 12) (by decide)) (And.intro (by exact Nat.le_of_ble_eq_true rfl) ?_)))))
    rw [List.set_set]
    walk_at "vm"
    refine ⟨szk (by exact Nat.le_of_ble_eq_true rfl), ?_⟩
    refine Exists.intro _ (Exists.intro _ (Exists.intro _ (And.intro (cset hc) (And.intro (h.at_ (21, 13) (by decide)) (And.intro (by exact Nat.le_of_ble_eq_true rfl) ?_)))))
    rw [List.set_set]
    walk_at "vm"
    exact q
  · cases hg
theorem wp_Turn_init (h : DC C) : ∀ ds c Q E, spIni 22 gTurn ds c Q E → wpDef C 2 2 ir_Turn_init ds c Q E := by
  rintro ds c Q E ⟨n, xs, ns, ys, rfl, hc, hg, q⟩
  unfold gTurn at hg
  split at hg
  · rename_i t
    cases hg
    refine ⟨rfl, ?_⟩
    show wpSs _ _ [.sh (.cell n), .sh (.str t)] c _ _
    unfold ir_Turn_init
    walk_at "vm"
    refine Exists.intro _ (Exists.intro _ (Exists.intro _ (And.intro hc (And.intro (h.at_ (22, 9) (by decide)) (And.intro (by exact Nat.le_of_ble_eq_true rfl) ?_)))))
    walk_at "vm"
    refine ⟨szk (by exact Nat.le_of_ble_eq_true rfl), ?_⟩
    refine Exists.intro _ (Exists.intro _ (Exists.intro _ (And.intro (cset hc) (And.intro (h.at_ (22, 13) (by decide)) (And.intro (by exact Nat.le_of_ble_eq_true rfl) ?_)))))
    rw [List.set_set]
    walk_at "vm"
    exact q
  · cases hg
theorem gAdd_ok {t s : Str} {k : Int} (h : t ≠ s) : gAdd [.str t, .str s, .int k] = some ([9, 10, 11, 12, 13], [.str t, .str s, .int k, .int k, .tup [.str t, .str s]]) := by
  show (if t = s then none else some _) = _
  rw [if_neg h]
theorem wp_Add_neg (h : DC C) (m : MkC C 20 3 gAdd) : ∀ ds c Q E, spNeg 20 ds c Q E → wpDef C 1 1 ir_Add_neg ds c Q E := by
  rintro ds c Q E ⟨d, ok, hk, rfl, q⟩
  match d, hk with
  | .add t s k, _ =>
  refine ⟨rfl, ?_⟩
  show wpSs _ _ [.sh (Dd.ob (.add t s k))] c _ _
  unfold ir_Add_neg
  walk_at "vm"
  refine e_op0 (by exact m.c) ?_
  walk_at "vm"
  refine o_fldI (h.at_ (20, 9) (by decide)) (by rfl) ?_
  walk_at "vm"
  refine o_fldI (h.at_ (20, 10) (by decide)) (by rfl) ?_
  walk_at "vm"
  refine o_fldI (h.at_ (20, 11) (by decide)) (by rfl) ?_
  walk_at "vm"
  exact mk_ m rfl rfl rfl (gAdd_ok ok.1) rfl q
theorem wp_Push_neg (h : DC C) (m : MkC C 21 2 gPush) : ∀ ds c Q E, spNeg 21 ds c Q E → wpDef C 1 1 ir_Push_neg ds c Q E := by
  rintro ds c Q E ⟨d, ok, hk, rfl, q⟩
  match d, hk with
  | .push t k, _ =>
  refine ⟨rfl, ?_⟩
  show wpSs _ _ [.sh (Dd.ob (.push t k))] c _ _
  unfold ir_Push_neg
  walk_at "vm"
  refine e_op0 (by exact m.c) ?_
  walk_at "vm"
  refine o_fldI (h.at_ (21, 9) (by decide)) (by rfl) ?_
  walk_at "vm"
  refine o_fldI (h.at_ (21, 14) (by decide)) (by rfl) ?_
  walk_at "vm"
  exact mk_ m rfl rfl rfl rfl rfl q
theorem wp_Turn_neg (h : DC C) (m : MkC C 22 1 gTurn) : ∀ ds c Q E, spNeg 22 ds c Q E → wpDef C 1 1 ir_Turn_neg ds c Q E := by
  rintro ds c Q E ⟨d, ok, hk, rfl, q⟩
  match d, hk with
  | .turn t, _ =>
  refine ⟨rfl, ?_⟩
  show wpSs _ _ [.sh (Dd.ob (.turn t))] c _ _
  unfold ir_Turn_neg
  walk_at "vm"
  refine e_op0 (by exact m.c) ?_
  walk_at "vm"
  refine o_fldI (h.at_ (22, 9) (by decide)) (by rfl) ?_
  walk_at "vm"
  exact mk_ m rfl rfl rfl rfl rfl q
theorem mul60 {i j : Int} (h : j.natAbs < 2 ^ 60) : CMul i j ∨ CMulW i j := mulC (by omega)
theorem wp_Add_mul (h : DC C) (m : MkC C 20 3 gAdd) : ∀ ds c Q E, spMul 20 ds c Q E → wpDef C 2 2 ir_Add_mul ds c Q E := by
  rintro ds c Q E ⟨d, n, ok, hk, hn, rfl, q⟩
  match d, hk with
  | .add t s k, _ =>
  refine ⟨rfl, ?_⟩
  show wpSs _ _ [.sh (Dd.ob (.add t s k)), .sh (.int n)] c _ _
  unfold ir_Add_mul
  walk_at "vm"
  refine isik (u := "int") (r := true) rfl (by decide) ?_
  walk_at "vm"
  refine e_op0 (by exact m.c) ?_
  walk_at "vm"
  refine o_fldI (h.at_ (20, 9) (by decide)) (by rfl) ?_
  walk_at "vm"
  refine o_fldI (h.at_ (20, 10) (by decide)) (by rfl) ?_
  walk_at "vm"
  refine o_fldI (h.at_ (20, 11) (by decide)) (by rfl) ?_
  walk_at "vm"
  refine p_mul (mul60 hn) ?_
  exact mk_ m rfl rfl rfl (gAdd_ok ok.1) rfl q
theorem wp_Push_mul (h : DC C) (m : MkC C 21 2 gPush) : ∀ ds c Q E, spMul 21 ds c Q E → wpDef C 2 2 ir_Push_mul ds c Q E := by
  rintro ds c Q E ⟨d, n, ok, hk, hn, rfl, q⟩
  match d, hk with
  | .push t k, _ =>
  refine ⟨rfl, ?_⟩
  show wpSs _ _ [.sh (Dd.ob (.push t k)), .sh (.int n)] c _ _
  unfold ir_Push_mul
  walk_at "vm"
  refine isik (u := "int") (r := true) rfl (by decide) ?_
  walk_at "vm"
  refine e_op0 (by exact m.c) ?_
  walk_at "vm"
  refine o_fldI (h.at_ (21, 9) (by decide)) (by rfl) ?_
  walk_at "vm"
  refine o_fldI (h.at_ (21, 14) (by decide)) (by rfl) ?_
  walk_at "vm"
  refine p_mul (mul60 hn) ?_
  exact mk_ m rfl rfl rfl rfl rfl q
theorem wp_number_text (hp : ∀ p, C.hasP p = true) : ∀ ds c Q E, spNumTxt ds c Q E → wpDef C 1 1 ir_number_text ds c Q E := by
  rintro ds c Q E ⟨i, rfl, hi, q⟩
  refine ⟨rfl, ?_⟩
  show wpSs _ _ [.sh (.int i)] c _ _
  unfold ir_number_text
  walk_at "vm"
  refine p_strI hi ?_
  walk_at "vm"
  exact q
theorem emp_add (z : Str) : Str.empty ++ z = z := Str.empty_append z

theorem wp_Add_text (h : DC C) (hN : C.fn 1 = spNumTxt) (hF : C.hasF 1 = true) (hB : C.hasB 1 = true) : ∀ ds c Q E, spText 20 ds c Q E → wpDef C 1 1 ir_Add_text ds c Q E := by
  rintro ds c Q E ⟨d, ok, hk, rfl, q⟩
  match d, hk with
  | .add t s k, _ =>
  have l1 := nm_len ok.2.1
  have l2 := nm_len ok.2.2.1
  have l3 := toStr_len ok.2.2.2
  have e1 : (" += " : Str).length = 4 := rfl
  have e2 : ("*" : Str).length = 1 := rfl
  refine ⟨rfl, ?_⟩
  show wpSs _ _ [.sh (Dd.ob (.add t s k))] c _ _
  unfold ir_Add_text
  walk_at "vm"
  refine o_fldI (h.at_ (20, 9) (by decide)) (by rfl) ?_
  walk_at "vm"
  refine o_fmtS (szk (by omega)) ?_
  walk_at "vm"
  refine j_s (szk (by rw [emp_add]; omega)) ?_
  rw [emp_add]
  walk_at "vm"
  refine j_s (szk (by rw [len_add]; omega)) ?_
  walk_at "vm"
  refine o_fldI (h.at_ (20, 11) (by decide)) (by rfl) ?_
  walk_at "vm"
  rw [hN]
  refine ⟨_, rfl, log_ok ok.2.2.2, ?_⟩
  walk_at "vm"
  refine o_fmtS (szk (by omega)) ?_
  walk_at "vm"
  refine j_s (szk (by rw [len_add, len_add]; omega)) ?_
  walk_at "vm"
  refine j_s (szk (by rw [len_add, len_add, len_add]; omega)) ?_
  walk_at "vm"
  refine o_fldI (h.at_ (20, 10) (by decide)) (by rfl) ?_
  walk_at "vm"
  refine o_fmtS (szk (by omega)) ?_
  walk_at "vm"
  refine j_s (szk (by rw [len_add, len_add, len_add, len_add]; omega)) ?_
  walk_at "vm"
  exact q
theorem wp_Push_text (h : DC C) (hN : C.fn 1 = spNumTxt) (hF : C.hasF 1 = true) (hB : C.hasB 1 = true) : ∀ ds c Q E, spText 21 ds c Q E → wpDef C 1 1 ir_Push_text ds c Q E := by
  rintro ds c Q E ⟨d, ok, hk, rfl, q⟩
  match d, hk with
  | .push t k, _ =>
  have l1 := nm_len ok.1
  have l3 := toStr_len ok.2
  have e1 : (" += " : Str).length = 4 := rfl
  refine ⟨rfl, ?_⟩
  show wpSs _ _ [.sh (Dd.ob (.push t k))] c _ _
  unfold ir_Push_text
  walk_at "vm"
  refine o_fldI (h.at_ (21, 9) (by decide)) (by rfl) ?_
  walk_at "vm"
  refine o_fmtS (szk (by omega)) ?_
  walk_at "vm"
  refine j_s (szk (by rw [emp_add]; omega)) ?_
  rw [emp_add]
  walk_at "vm"
  refine j_s (szk (by rw [len_add]; omega)) ?_
  walk_at "vm"
  refine o_fldI (h.at_ (21, 14) (by decide)) (by rfl) ?_
  walk_at "vm"
  rw [hN]
  refine ⟨_, rfl, log_ok ok.2, ?_⟩
  walk_at "vm"
  refine o_fmtS (szk (by omega)) ?_
  walk_at "vm"
  refine j_s (szk (by rw [len_add, len_add]; omega)) ?_
  walk_at "vm"
  exact q
theorem wp_Turn_text (h : DC C) : ∀ ds c Q E, spText 22 ds c Q E → wpDef C 1 1 ir_Turn_text ds c Q E := by
  rintro ds c Q E ⟨d, ok, hk, rfl, q⟩
  match d, hk with
  | .turn t, _ =>
  have l1 := nm_len ok
  have e1 : (" = -" : Str).length = 4 := rfl
  refine ⟨rfl, ?_⟩
  show wpSs _ _ [.sh (Dd.ob (.turn t))] c _ _
  unfold ir_Turn_text
  walk_at "vm"
  refine o_fldI (h.at_ (22, 9) (by decide)) (by rfl) ?_
  walk_at "vm"
  refine o_fmtS (szk (by omega)) ?_
  walk_at "vm"
  refine j_s (szk (by rw [emp_add]; omega)) ?_
  rw [emp_add]
  walk_at "vm"
  refine j_s (szk (by rw [len_add]; omega)) ?_
  walk_at "vm"
  refine o_fldI (h.at_ (22, 9) (by decide)) (by rfl) ?_
  walk_at "vm"
  refine o_fmtS (szk (by omega)) ?_
  walk_at "vm"
  refine j_s (szk (by rw [len_add, len_add]; omega)) ?_
  walk_at "vm"
  exact q
theorem wp_l_text (hp : ∀ p, C.hasP p = true) : ∀ ds c Q E, spLText ds c Q E → wpDef C 1 1 ir_l_text ds c Q E := by
  rintro ds c Q E ⟨d, ok, rfl, q⟩
  have e1 : (" += " : Str).length = 4 := rfl
  have e2 : ("*" : Str).length = 1 := rfl
  have e3 : (" = -" : Str).length = 4 := rfl
  refine ⟨rfl, ?_⟩
  show wpSs _ _ [.sh d.tp] c _ _
  unfold ir_l_text
  cases d with
  | add t s k =>
    have l1 := nm_len ok.2.1
    have l2 := nm_len ok.2.2.1
    have l3 := toStr_len ok.2.2.2
    walk_at "vm"
    refine p_idxT (by rfl) ?_
    walk_at "vm"
    refine ifk_d (fun _ => ?_) fun h => (h rfl).elim
    walk_at "vm"
    refine p_idxT (by rfl) ?_
    walk_at "vm"
    refine p_addS (szk (by omega)) ?_
    walk_at "vm"
    refine p_idxT (by rfl) ?_
    walk_at "vm"
    refine p_strI (log_ok ok.2.2.2) ?_
    walk_at "vm"
    refine p_addS (szk (by rw [len_add]; omega)) ?_
    walk_at "vm"
    refine p_addS (szk (by rw [len_add, len_add]; omega)) ?_
    walk_at "vm"
    refine p_idxT (by rfl) ?_
    walk_at "vm"
    refine p_addS (szk (by rw [len_add, len_add, len_add]; omega)) ?_
    walk_at "vm"
    exact q
  | push t k =>
    have l1 := nm_len ok.1
    have l3 := toStr_len ok.2
    walk_at "vm"
    refine p_idxT (by rfl) ?_
    walk_at "vm"
    refine ifk_d (fun h => absurd h (by decide)) fun _ => ?_
    walk_at "vm"
    refine p_idxT (by rfl) ?_
    walk_at "vm"
    refine p_idxT (by rfl) ?_
    walk_at "vm"
    refine ifk_d (fun _ => ?_) fun h => (h rfl).elim
    walk_at "vm"
    refine p_idxT (by rfl) ?_
    walk_at "vm"
    refine p_strI (log_ok ok.2) ?_
    walk_at "vm"
    refine p_addS (szk (by omega)) ?_
    walk_at "vm"
    refine p_addS (szk (by rw [len_add]; omega)) ?_
    walk_at "vm"
    rw [← Str.append_assoc]
    exact q
  | turn t =>
    have l1 := nm_len ok
    walk_at "vm"
    refine p_idxT (by rfl) ?_
    walk_at "vm"
    refine ifk_d (fun h => absurd h (by decide)) fun _ => ?_
    walk_at "vm"
    refine p_idxT (by rfl) ?_
    walk_at "vm"
    refine p_idxT (by rfl) ?_
    walk_at "vm"
    refine ifk_d (fun h => absurd h (by decide)) fun _ => ?_
    walk_at "vm"
    refine p_idxT (by rfl) ?_
    walk_at "vm"
    refine p_addS (szk (by omega)) ?_
    walk_at "vm"
    refine p_addS (szk (by rw [len_add]; omega)) ?_
    walk_at "vm"
    rw [← Str.append_assoc]
    exact q
theorem wp_l_made (hp : ∀ p, C.hasP p = true) (mA : MkC C 20 3 gAdd) (mP : MkC C 21 2 gPush) (mT : MkC C 22 1 gTurn) : ∀ ds c Q E, spMade ds c Q E → wpDef C 1 1 ir_l_made ds c Q E := by
  rintro ds c Q E ⟨d, ok, rfl, q⟩
  refine ⟨rfl, ?_⟩
  show wpSs _ _ [.sh d.tp] c _ _
  unfold ir_l_made
  cases d with
  | add t s k =>
    walk_at "vm"
    refine p_idxT (by rfl) ?_
    walk_at "vm"
    refine ifk_d (fun _ => ?_) fun h => (h rfl).elim
    walk_at "vm"
    refine e_op0 (by exact mA.c) ?_
    walk_at "vm"
    refine p_idxT (by rfl) ?_
    walk_at "vm"
    refine p_idxT (by rfl) ?_
    walk_at "vm"
    refine p_idxT (by rfl) ?_
    walk_at "vm"
    exact mk_ mA rfl rfl rfl (gAdd_ok ok.1) rfl q
  | push t k =>
    walk_at "vm"
    refine p_idxT (by rfl) ?_
    walk_at "vm"
    refine ifk_d (fun h => absurd h (by decide)) fun _ => ?_
    walk_at "vm"
    refine p_idxT (by rfl) ?_
    walk_at "vm"
    refine ifk_d (fun _ => ?_) fun h => (h rfl).elim
    walk_at "vm"
    refine e_op0 (by exact mP.c) ?_
    walk_at "vm"
    refine p_idxT (by rfl) ?_
    walk_at "vm"
    refine p_idxT (by rfl) ?_
    walk_at "vm"
    exact mk_ mP rfl rfl rfl rfl rfl q
  | turn t =>
    walk_at "vm"
    refine p_idxT (by rfl) ?_
    walk_at "vm"
    refine ifk_d (fun h => absurd h (by decide)) fun _ => ?_
    walk_at "vm"
    refine p_idxT (by rfl) ?_
    walk_at "vm"
    refine ifk_d (fun h => absurd h (by decide)) fun _ => ?_
    walk_at "vm"
    refine e_op0 (by exact mT.c) ?_
    walk_at "vm"
    refine p_idxT (by rfl) ?_
    walk_at "vm"
    exact mk_ mT rfl rfl rfl rfl rfl q
theorem nm_at {zs : List Str} (h : NamesOk zs) {r : Int} (h0 : 0 ≤ r) (h1 : r < (zs.length : Int)) : ∃ z, atI (zs.map D.str) r = some (.str z) ∧ nmS z ∧ zs[r.toNat]? = some z := by
  have er : r = ((r.toNat : Nat) : Int) := by omega
  have hl : r.toNat < zs.length := by omega
  refine ⟨zs[r.toNat], ?_, h.ok _ (List.getElem_mem hl), List.getElem?_eq_getElem hl⟩
  have e2 : atI (zs.map D.str) ((r.toNat : Nat) : Int) = some (.str zs[r.toNat]) := by
    rw [atI_n, List.getElem?_map, List.getElem?_eq_getElem hl]; rfl
  rw [← er] at e2
  exact e2
theorem nm_ne {zs : List Str} (h : NamesOk zs) {i j : Nat} {a b : Str} (hi : zs[i]? = some a) (hj : zs[j]? = some b) (e : i ≠ j) : a ≠ b := fun z => by
  subst z
  obtain ⟨h1, g1⟩ := List.getElem?_eq_some_iff.mp hi
  obtain ⟨h2, g2⟩ := List.getElem?_eq_some_iff.mp hj
  have nd : List.Pairwise (· ≠ ·) zs := h.nd
  rcases Nat.lt_or_gt_of_ne e with l | l
  · exact (List.pairwise_iff_getElem.mp nd i j h1 h2 l) (g1.trans g2.symm)
  · exact (List.pairwise_iff_getElem.mp nd j i h2 h1 l) (g2.trans g1.symm)
theorem wp_l_deed (hp : ∀ p, C.hasP p = true) (hT : C.fn 301 = spTake) (hF : C.hasF 301 = true) (hB : C.hasB 301 = true) (hN : C.fn 303 = spNumber) (hNF : C.hasF 303 = true) (hNB : C.hasB 303 = true) : ∀ ds c Q E, spDeed ds c Q E → wpDef C 2 5 ir_l_deed ds c Q E := by
  rintro ds c Q E ⟨c0, n, a, b, t, zs, rfl, rfl, hn, ok, z0, z1, q⟩
  have ln : ∀ c, lenD c (.lst (zs.map .str)) = some zs.length := fun c => by show some (zs.map D.str).length = _; rw [List.length_map]
  refine ⟨rfl, ?_⟩
  show wpSs _ _ [.sh (.cell n), .sh (.lst (zs.map .str)), .no, .no, .no] _ _ _
  unfold ir_l_deed
  walk_at "vm"
  refine tk_ hT (by decide) (by decide) hn fun way a b t w0 w1 => ?_
  walk_at "vm"
  rw [hN]
  refine ⟨c0, n, a, b, t, rfl, rfl, hn, fun num a b t hnum => ?_⟩
  walk_at "vm"
  refine ⟨rfl, ?_⟩
  show wpSs _ _ [.sh (.cell n), .sh (.lst (zs.map .str)), .sh (.int way), .sh (.int num), .no] _ _ _
  walk_at "vm"
  refine p_len (ln _) ?_
  walk_at "vm"
  refine tk_ hT (by omega) (by omega) hn fun at_ a b t a0 a1 => ?_
  obtain ⟨za, e1, n1, i1⟩ := nm_at ok a0 a1
  walk_at "vm"
  by_cases hw : way < 3
  · rw [decide_eq_true hw]
    walk_at "vm"
    refine p_len (ln _) ?_
    walk_at "vm"
    refine ifk_d (fun h2 => ?_) fun h2 => ?_
    · walk_at "vm"
      refine p_idxL e1 ?_
      walk_at "vm"
      refine p_len (ln _) ?_
      walk_at "vm"
      refine tk_ hT (by omega) (by omega) hn fun r a b t r0 r1 => ?_
      walk_at "vm"
      refine p_len (ln _) ?_
      walk_at "vm"
      refine p_mod (by omega) ?_
      have hm : Int.fmod (at_ + 1 + r) (zs.length : Int) = (((at_.toNat + 1 + r.toNat) % zs.length : Nat) : Int) := by
        have e : at_ + 1 + r = ((at_.toNat + 1 + r.toNat : Nat) : Int) := by omega
        rw [e, Int.fmod_eq_emod_of_nonneg _ (by omega)]; omega
      have hlt : (at_.toNat + 1 + r.toNat) % zs.length < zs.length := Nat.mod_lt _ z0
      obtain ⟨zb, e2, n2, i2⟩ := nm_at ok (r := (((at_.toNat + 1 + r.toNat) % zs.length : Nat) : Int)) (by omega) (by omega)
      rw [hm]
      refine p_idxL e2 ?_
      walk_at "vm"
      refine ⟨szk (by exact Nat.le_of_ble_eq_true rfl), q (.add za zb num) a b t ⟨nm_ne ok i1 i2 ?_, n1, n2, hnum⟩⟩
      have ha : at_.toNat < zs.length := by omega
      have hr : r.toNat + 1 < zs.length := by omega
      intro e
      rw [Int.toNat_natCast] at e
      by_cases hx : at_.toNat + 1 + r.toNat < zs.length
      · rw [Nat.mod_eq_of_lt hx] at e; omega
      · rw [Nat.mod_eq_sub_mod (by omega), Nat.mod_eq_of_lt (by omega)] at e; omega
    · walk_at "vm"
      refine ifk_d (fun h => ?_) fun h => ?_
      · walk_at "vm"
        refine p_idxL e1 ?_
        walk_at "vm"
        exact ⟨szk (by exact Nat.le_of_ble_eq_true rfl), q (.push za num) a b t ⟨n1, hnum⟩⟩
      · walk_at "vm"
        refine p_idxL e1 ?_
        walk_at "vm"
        exact ⟨szk (by exact Nat.le_of_ble_eq_true rfl), q (.turn za) a b t n1⟩
  · rw [decide_eq_false hw]
    walk_at "vm"
    refine ifk_d (fun h => ?_) fun h => ?_
    · walk_at "vm"
      refine p_idxL e1 ?_
      walk_at "vm"
      exact ⟨szk (by exact Nat.le_of_ble_eq_true rfl), q (.push za num) a b t ⟨n1, hnum⟩⟩
    · walk_at "vm"
      refine p_idxL e1 ?_
      walk_at "vm"
      exact ⟨szk (by exact Nat.le_of_ble_eq_true rfl), q (.turn za) a b t n1⟩
end Vm.Lib

-- mac2
open PySem PySem.Spec L2 Vm Vm.Lib
local macro_rules | `(tactic| walk_at "vm") => `(tactic| (repeat (first
  | (with_reducible refine ss_cons ?_) | (with_reducible refine ss_nil ?_) | (with_reducible refine s_asg ?_) | (with_reducible refine s_ret ?_) | (with_reducible refine s_ifs ?_) | (with_reducible refine s_expr ?_) | (with_reducible refine s_pass ?_) | (with_reducible refine s_par ?_) | (with_reducible refine s_asgT ?_) | (with_reducible refine s_retN ?_) | (with_reducible refine s_setf ?_) | (with_reducible refine e_con0 ?_) | (with_reducible refine e_bin0 ?_) | (with_reducible refine e_cmp0 ?_) | (with_reducible refine e_cmp1 ?_) | (with_reducible refine l_nil ?_) | (with_reducible refine l_cons ?_) | (with_reducible refine e_idx0 ?_) | (with_reducible refine p_addI ?_) | (with_reducible refine p_sub ?_) | (with_reducible refine p_gtI ?_) | (with_reducible refine p_ltI ?_) | (with_reducible refine p_leI ?_) | (with_reducible refine p_geI ?_) | (with_reducible refine p_eqI ?_) | (with_reducible refine p_neI ?_) | (with_reducible refine p_eqS ?_) | (with_reducible refine p_neS ?_) | (with_reducible refine p_abs ?_) | (with_reducible refine p_intI ?_) | (with_reducible refine p_intB ?_) | (with_reducible refine p_boolB ?_) | (with_reducible refine p_min ?_) | (with_reducible refine p_max ?_) | (with_reducible refine p_leS ?_) | (with_reducible refine e_chain0 ?_) | (with_reducible refine e_chain1 ?_) | (with_reducible refine e_bool0 ?_) | (with_reducible refine e_bool1 ?_) | (with_reducible refine b_one0 ?_) | (with_reducible refine b_one1 ?_) | (with_reducible refine b_cons0 ?_) | (with_reducible refine b_cons1 ?_) | (with_reducible refine e_not0 ?_) | (with_reducible refine e_not1 ?_) | (with_reducible refine e_isi0 ?_) | (with_reducible refine e_isi1 ?_) | (with_reducible refine notk_t ?_) | (with_reducible refine notk_f ?_) | (with_reducible refine notk_d ?_) | (with_reducible refine notk_b ?_) | (with_reducible refine intk ?_) | (with_reducible refine int2k ?_) | (with_reducible refine blk ?_) | (with_reducible refine p_inC ?_) | (with_reducible refine bok_tt ?_) | (with_reducible refine bok_tf ?_) | (with_reducible refine bok_ff ?_) | (with_reducible refine bok_ft ?_) | (with_reducible refine ifk_t ?_) | (with_reducible refine ifk_f ?_) | (with_reducible refine qt_bl ?_) | (with_reducible refine e_lst0 ?_) | (with_reducible refine e_tup0 ?_) | (with_reducible refine e_slc0 ?_) | (with_reducible refine o_no ?_) | (with_reducible refine o_so ?_) | (with_reducible refine e_meth0 ?_) | (with_reducible refine e_un0 ?_) | (with_reducible refine p_neg ?_) | (with_reducible refine s_seti ?_) | (with_reducible refine e_comp0 ?_) | (with_reducible refine s_for ?_) | (with_reducible refine i_val ?_) | (with_reducible refine i_range1 ?_) | (with_reducible refine i_range2 ?_) | (with_reducible refine i_enum ?_) | (with_reducible refine s_cellify ?_) | (with_reducible refine e_fstr0 ?_) | (with_reducible refine e_mcall0 ?_) | (with_reducible refine j_nil ?_) | (with_reducible refine j_cons ?_) | (with_reducible refine p_slcT ?_) | (with_reducible refine e_ite0 ?_) | (with_reducible refine qtf ?_) | (with_reducible refine qtt ?_) | ((with_reducible apply s_retv); (next => rfl)) | ((with_reducible apply e_var0); (next => rfl)) | ((with_reducible apply e_own0); (next => rfl)) | ((with_reducible apply e_var1); (next => rfl)) | ((with_reducible apply e_prim0); (next => first | rfl | (exact allP (by assumption)))) | ((with_reducible apply e_call0); (next => first | rfl | assumption); (next => first | rfl | assumption)) | ((with_reducible apply e_glob0); (next => first | rfl | assumption)) | ((with_reducible apply e_op0); (next => first | rfl | assumption)) | ((with_reducible apply e_op1); (next => first | rfl | assumption)) | ((with_reducible apply o_fldI); (next => rfl); (next => rfl)) | ((with_reducible apply o_iscT); (next => rfl); (next => rfl)) | ((with_reducible apply o_iscF); (next => rfl); (next => rfl)) | ((with_reducible apply o_iscI); (next => rfl); (next => rfl)) | ((with_reducible apply o_prpI); (next => rfl); (next => rfl); (next => rfl)) | ((with_reducible apply o_unI); (next => rfl); (next => rfl)) | ((with_reducible apply o_binN); (next => rfl); (next => rfl); (next => rfl); (next => rfl)) | ((with_reducible apply o_binI); (next => rfl); (next => rfl); (next => rfl); (next => rfl)) | ((with_reducible apply m_ins); (next => rfl)) | ((with_reducible apply k_call); (next => rfl); (next => rfl); (next => rfl); (next => rfl)) | ((with_reducible apply o_call); (next => rfl); (next => rfl); (next => rfl); (next => rfl)) | ((with_reducible apply p_idxT); (next => rfl)) | ((with_reducible apply p_idxL); (next => rfl)) | (with_reducible refine p_slcS (by assumption) ?_) | ((with_reducible apply tupk); (next => rfl)) | ((with_reducible apply ifk_dt); (next => first | rfl | decide)) | ((with_reducible apply ifk_dn); (next => first | rfl | decide)) | ((with_reducible apply ifk_nt); (next => first | rfl | decide)) | ((with_reducible apply ifk_nn); (next => first | rfl | decide)) | ((with_reducible apply bok_at); (next => first | rfl | decide)) | ((with_reducible apply bok_an); (next => first | rfl | decide)) | ((with_reducible apply bok_ot); (next => first | rfl | decide)) | ((with_reducible apply bok_on); (next => first | rfl | decide)) | ((with_reducible apply bok_ant); (next => first | rfl | decide)) | ((with_reducible apply bok_ann); (next => first | rfl | decide)) | ((with_reducible apply bok_ont); (next => first | rfl | decide)) | ((with_reducible apply bok_onn); (next => first | rfl | decide)) | ((with_reducible apply p_addT); (next => exact szk (by exact Nat.le_of_ble_eq_true rfl))) | ((with_reducible apply p_addL); (next => exact szk (by exact Nat.le_of_ble_eq_true rfl))) | ((with_reducible apply s_try); (next => rfl)) | ((with_reducible apply s_raise); (next => rfl)) | (with_reducible refine s_ifI ?_) | ((with_reducible apply e_prim1); (next => first | rfl | (exact allP (by assumption)))) | ((with_reducible apply e_call1); (next => first | rfl | assumption); (next => first | rfl | assumption)) | ((with_reducible apply e_own1); (next => rfl)) | (with_reducible refine s_parL ?_) | (with_reducible refine e_con1 ?_) | (with_reducible refine e_bin1 ?_) | (with_reducible refine e_idx1 ?_) | (with_reducible refine e_comp1 ?_) | (with_reducible refine e_meth1 ?_) | (with_reducible refine e_un1 ?_) | (with_reducible refine p_allT ?_) | (with_reducible refine e_dispT ?_) | (with_reducible refine e_dispL ?_) | (with_reducible refine d_nil ?_) | (with_reducible refine d_st ?_) | (with_reducible refine d_no ?_) | ((with_reducible apply e_mkv0); (next => rfl); (next => first | rfl | assumption)))))
-- /mac2
namespace Vm.Lib
open PySem PySem.Spec L2 Vm PySem.NumText
open PyProof.Rows hiding St
/-! ### names and numbers as texts -/
theorem szb {n : Nat} (h : n ≤ 1000000) : n ≤ sizeLine := by have : sizeLine = 16777216 := sizeLine_eq; omega
def optI : Option Int → D
  | none => .non
  | some n => .int n
/-- the digits of a text -/
def dsL (l : List Nat) : List Nat := if l.head? = some 45 then l.tail else l
/-- the number of a text -/
def dueL (l : List Nat) : Option Int :=
  if dsL l = [] ∨ 4000 < l.length ∨ (dsL l).all isDig = false then none
  else if (dsL l).head? = some 48 ∧ l ≠ [48] then none
  else some (if l.head? = some 45 then -((digitsVal (dsL l) : Nat) : Int) else ((digitsVal (dsL l) : Nat) : Int))
/-- a number of at most so many digits -/
def shortL (m : Int) (l : List Nat) : Option Int := if (l.length : Int) - (if l.head? = some 45 then 1 else 0) > m then none else dueL l
def spIsNm : SpT := fun ds c Q _ => ∃ z : Str, ds = [.str z] ∧ z.length ≤ sizeLine ∧ Q (.bl (isNm z.cps.toList)) false c
def spNumIn : SpT := fun ds c Q _ => ∃ z : Str, ds = [.str z] ∧ z.length ≤ 9000 ∧ Q (optI (dueL z.cps.toList)) false c
def spShort : SpT := fun ds c Q _ => ∃ (z : Str) (m : Int), ds = [.str z, .int m] ∧ z.length ≤ 9000 ∧ Q (optI (shortL m z.cps.toList)) false c
theorem let_mem (ch : Nat) : decide (ch ∈ ("abcdefghijklmnopqrstuvwxyz" : Str).cps.toList) = isLet ch := by
  have e : ("abcdefghijklmnopqrstuvwxyz" : Str).cps.toList = (List.range 26).map (· + 97) := LET_eq
  rw [e]
  unfold isLet
  by_cases h : 97 ≤ ch ∧ ch ≤ 122
  · rw [decide_eq_true h.1, decide_eq_true h.2]
    exact decide_eq_true (List.mem_map.mpr ⟨ch - 97, List.mem_range.mpr (by omega), by omega⟩)
  · have : (decide (97 ≤ ch) && decide (ch ≤ 122)) = false := by
      rw [Bool.and_eq_false_iff]
      by_cases h1 : 97 ≤ ch
      · right; exact decide_eq_false fun h2 => h ⟨h1, h2⟩
      · left; exact decide_eq_false h1
    rw [this]
    refine decide_eq_false fun z => ?_
    obtain ⟨x, hx, rfl⟩ := List.mem_map.mp z
    rw [List.mem_range] at hx
    exact h ⟨by omega, by omega⟩
theorem dig_mem (ch : Nat) : decide (ch ∈ ("0123456789" : Str).cps.toList) = isDig ch := by
  have e : ("0123456789" : Str).cps.toList = (List.range 10).map (· + 48) := by decide +kernel
  rw [e]
  unfold isDig
  by_cases h : 48 ≤ ch ∧ ch ≤ 57
  · rw [decide_eq_true h.1, decide_eq_true h.2]
    exact decide_eq_true (List.mem_map.mpr ⟨ch - 48, List.mem_range.mpr (by omega), by omega⟩)
  · have : (decide (48 ≤ ch) && decide (ch ≤ 57)) = false := by
      rw [Bool.and_eq_false_iff]
      by_cases h1 : 48 ≤ ch
      · right; exact decide_eq_false fun h2 => h ⟨h1, h2⟩
      · left; exact decide_eq_false h1
    rw [this]
    refine decide_eq_false fun z => ?_
    obtain ⟨x, hx, rfl⟩ := List.mem_map.mp z
    rw [List.mem_range] at hx
    exact h ⟨by omega, by omega⟩
theorem signs_at {z : Str} {i : Nat} {x : D} (h : (signs z)[i]? = some x) : ∃ ch, z.cps.toList[i]? = some ch ∧ x = .str ⟨#[ch]⟩ := by
  unfold signs at h
  rw [List.getElem?_map] at h
  cases q : z.cps.toList[i]? with
  | none => rw [q] at h; cases h
  | some ch => rw [q] at h; exact ⟨ch, rfl, (Option.some.inj h).symm⟩
theorem ln_ {z : Str} {c : Cl} (h : z.length ≤ sizeLine) : lenD c (.str z) = some z.length := by show (if z.length ≤ sizeLine then some z.length else none) = _; rw [if_pos h]
section
variable {C : Ctx}
def ir_is_name : ISs := (.cons (.ifs (.bool false (.cons (.not (.isi (.var 0) "str")) (.cons (.not (.chain .LtE .LtE (.con (.int 1)) (.prim .len (.cons (.var 0) .nil)) (.glob 2))) .nil))) (.cons (.ret (.con (.bl false)))
  .nil) .nil)
  (.cons (.ret (.bool true (.cons (.cmp .In (.idx (.var 0) (.con (.int 0))) (.glob 0)) (.cons (.prim .all (.cons (.comp [1] (.nm 1) (.val (.var 0)) .nil (.bool false (.cons (.cmp .In (.var 1) (.glob 0)) (.cons (.cmp .In (.var 1) (.glob 1)) .nil)))) .nil)) .nil))))
  .nil))
theorem lod_of_not {k : Nat} (h : isLet k = false) : lod k = isDig k := by unfold lod; rw [h]; rfl
theorem wp_is_name (hp : ∀ p, C.hasP p = true) (g0 : C.hasG 0 = true) (v0 : C.gl 0 = .str "abcdefghijklmnopqrstuvwxyz") (g1 : C.hasG 1 = true) (v1 : C.gl 1 = .str "0123456789") (g2 : C.hasG 2 = true) (v2 : C.gl 2 = .int 8) : ∀ ds c Q E, spIsNm ds c Q E → wpDef C 1 2 ir_is_name ds c Q E := by
  rintro ds c Q E ⟨z, rfl, hz, q⟩
  refine ⟨rfl, ?_⟩
  show wpSs _ _ [.sh (.str z), .no] c _ _
  unfold ir_is_name
  walk_at "vm"
  refine isik (r := true) rfl (by decide) ?_
  have hl := strLen z
  have bad : (z.length < 1 ∨ 8 < z.length) → Q (.bl false) false c := fun h => by
    have e : isNm z.cps.toList = false := by
      cases e : z.cps.toList with
      | nil => rfl
      | cons x l =>
        rw [e, List.length_cons] at hl
        show (isLet x && l.all lod && decide (l.length ≤ 7)) = false
        rw [decide_eq_false (by omega), Bool.and_false]
    rw [e] at q; exact q
  walk_at "vm"
  refine p_len (ln_ hz) ?_
  walk_at "vm"
  refine chk_d (fun h1 => ?_) fun h1 => ?_
  · walk_at "vm"
    rw [v2]
    walk_at "vm"
    refine ifk_d (fun h2 => ?_) fun h2 => ?_
    · walk_at "vm"
      exact bad (.inr (by omega))
    · walk_at "vm"
      obtain ⟨ch, l, hc⟩ : ∃ ch l, z.cps.toList = ch :: l := by
        cases e : z.cps.toList with
        | nil => rw [e] at hl; simp at hl; omega
        | cons ch l => exact ⟨ch, l, rfl⟩
      have hl7 : l.length ≤ 7 := by
        rw [hc, List.length_cons] at hl
        omega
      have isn : isNm z.cps.toList = (isLet ch && l.all lod) := by
        rw [hc]
        show (isLet ch && l.all lod && decide (l.length ≤ 7)) = _
        rw [decide_eq_true hl7, Bool.and_true]
      rw [isn] at q
      refine p_idxS hz (by rw [hc]; exact atI_n (ch :: l) 0) ?_
      walk_at "vm"
      rw [v0]
      refine p_inC ?_
      rw [let_mem]
      cases h3 : isLet ch with
      | true =>
        rw [h3, Bool.true_and] at q
        have hall : l.all lod = z.cps.toList.all lod := by
          rw [hc, List.all_cons]
          have : lod ch = true := by unfold lod; rw [h3]; rfl
          rw [this, Bool.true_and]
        rw [hall] at q
        refine bok_tt ?_
        walk_at "vm"
        refine p_itS _ ?_
        refine loopC_ix (fun i acc s c1 => acc = (z.cps.toList.take i).map (fun ch => D.bl (lod ch)) ∧ c1 = c ∧ ∃ x, s = [.sh (.str z), x]) _ ?_ ?_ _ _ _ ⟨rfl, rfl, _, rfl⟩
        · rintro i x hx acc s c1 ⟨rfl, rfl, x2, rfl⟩
          obtain ⟨k, hch, rfl⟩ := signs_at hx
          refine ⟨trivial, fun K k1 k2 => c_step rfl (if_nil (chk_b (fun _ => ?_) nofun))⟩
          show wpE _ _ _ [.sh (.str z), .sh (.str ⟨#[k]⟩)] c1 _ _
          have fin : K (some (.bl (lod k))) [.sh (.str z), .sh (.str ⟨#[k]⟩)] c1 := by
            refine k1 _ _ _ ⟨?_, ?_, rfl, _, rfl⟩
            · rw [List.length_map, List.length_take]
              have : sizeLine = 16777216 := sizeLine_eq
              have := hl
              omega
            · rw [List.take_add_one, hch, List.map_append]; rfl
          walk_at "vm"
          rw [v0]
          refine p_inC ?_
          rw [let_mem]
          cases h4 : isLet k with
          | true =>
            have e : lod k = true := by unfold lod; rw [h4]; rfl
            rw [e] at fin
            exact bok_ft fin
          | false =>
            refine bok_ff ?_
            walk_at "vm"
            rw [v1]
            refine p_inC ?_
            rw [dig_mem, ← lod_of_not h4]
            exact fin
        · rintro acc s c1 ⟨rfl, rfl, x2, rfl⟩
          refine ⟨trivial, ?_⟩
          have el : (signs z).length = z.cps.toList.length := by unfold signs; rw [List.length_map]
          rw [el, List.take_length]
          walk_at "vm"
          refine p_all (bs := z.cps.toList.map lod) (by rw [List.map_map]; rfl) ?_
          have ea : (z.cps.toList.map lod).all id = z.cps.toList.all lod := by rw [List.all_map]; rfl
          rw [ea]
          exact q
      | false =>
        rw [h3, Bool.false_and] at q
        exact bok_tf q
  · walk_at "vm"
    exact bad (.inl (by omega))
end
theorem all_dg {l : List Nat} (h : l.all isDig = true) : AllDigits l := fun c hc => by
  have := List.all_eq_true.mp h c hc
  unfold isDig at this
  simp only [Bool.and_eq_true, decide_eq_true_eq] at this
  exact this
theorem dsL_len {l : List Nat} : (dsL l).length ≤ l.length := by
  unfold dsL
  split
  · rw [List.length_tail]; omega
  · exact Nat.le_refl _
theorem len_l (z : Str) : z.cps.toList.length = z.length := Array.length_toList
/-- int(text) -/
theorem due_int {z : Str} {n : Int} (h : dueL z.cps.toList = some n) : intText? z = some n ∧ z.length ≤ 4000 ∧ z.cps.all (· < 128) = true := by
  unfold dueL at h
  split at h
  · cases h
  · rename_i h1
    split at h
    · cases h
    · rename_i h2
      have n1 : dsL z.cps.toList ≠ [] := fun e => h1 (.inl e)
      have n2 : z.cps.toList.length ≤ 4000 := Nat.le_of_not_lt fun e => h1 (.inr (.inl e))
      have n3 : (dsL z.cps.toList).all isDig = true := by
        cases q : (dsL z.cps.toList).all isDig with
        | true => rfl
        | false => exact absurd (.inr (.inr q)) h1
      have ad := all_dg n3
      rw [len_l] at n2
      have asc : (∀ c ∈ z.cps.toList, c < 128) → z.cps.all (· < 128) = true := fun h => by
        rw [← Array.all_toList]
        exact List.all_eq_true.mpr fun c hc => decide_eq_true (h c hc)
      have e := Option.some.inj h
      by_cases hh : z.cps.toList.head? = some 45
      · have e1 : dsL z.cps.toList = z.cps.toList.tail := if_pos hh
        have e2 : z.cps.toList = 45 :: dsL z.cps.toList := by
          rw [e1]
          cases q : z.cps.toList with
          | nil => rw [q] at hh; cases hh
          | cons x l => rw [q] at hh; cases hh; rfl
        rw [if_pos hh] at e
        subst e
        refine ⟨intText_neg e2 ad n1 (by omega), n2, asc fun c hc => ?_⟩
        rw [e2] at hc
        rcases List.mem_cons.mp hc with rfl | hc
        · decide
        · have := ad c hc; omega
      · have e1 : dsL z.cps.toList = z.cps.toList := if_neg hh
        rw [if_neg hh] at e
        rw [e1] at ad n1 e
        subst e
        exact ⟨intText_digits ad n1 (by omega), n2, asc fun c hc => by have := ad c hc; omega⟩
theorem val_lt : ∀ (l : List Nat), AllDigits l → ∀ a : Nat, l.foldl (fun acc c => acc * 10 + (c - 48)) a < (a + 1) * 10 ^ l.length
  | [], _, a => by simp
  | c :: l, h, a => by
    have hc := h.head
    have ih := val_lt l h.tail (a * 10 + (c - 48))
    refine Nat.lt_of_lt_of_le ih ?_
    rw [List.length_cons, Nat.pow_succ, Nat.mul_comm (10 ^ l.length) 10, ← Nat.mul_assoc]
    exact Nat.mul_le_mul_right _ (by omega)
theorem dv_lt {l : List Nat} (h : AllDigits l) : digitsVal l < 10 ^ l.length := by
  have := val_lt l h 0
  simpa [digitsVal] using this
theorem cps_inj {a b : Str} : a = b ↔ a.cps.toList = b.cps.toList := ⟨fun h => by rw [h], str_ext⟩
theorem minus_iff {z : Str} : (cutS z none (some 1) = "-") ↔ z.cps.toList.head? = some 45 := by
  rw [cps_inj]
  have em : ("-" : Str).cps.toList = [45] := by decide +kernel
  rw [em]
  by_cases h : 1 ≤ z.length
  · have e := cutS_lo (z := z) (k := 1) h
    have e' : (cutS z none (some 1)).cps.toList = z.cps.toList.take 1 := e
    rw [e']
    cases q : z.cps.toList with
    | nil => simp
    | cons x l => simp
  · have e0 : z.cps.toList = [] := by
      have : z.cps.toList.length = 0 := by rw [← strLen]; omega
      exact List.length_eq_zero_iff.mp this
    have e1 : (cutS z none (some 1)).cps.toList = [] := by
      show ((z.cps.toList.drop _).take _) = []
      rw [e0]; simp
    rw [e1, e0]; simp
theorem tail_cps {z : Str} : (cutS z (some 1) none).cps.toList = z.cps.toList.tail := by
  by_cases h : 1 ≤ z.length
  · have e := cutS_hi (z := z) (k := 1) h
    have e' : (cutS z (some 1) none).cps.toList = z.cps.toList.drop 1 := e
    rw [e', List.drop_one]
  · have e0 : z.cps.toList = [] := by
      have : z.cps.toList.length = 0 := by rw [← strLen]; omega
      exact List.length_eq_zero_iff.mp this
    show ((z.cps.toList.drop _).take _) = _
    rw [e0]; simp
/-- the digits of a text, as a text -/
def dsS (z : Str) : Str := if cutS z none (some 1) = "-" then cutS z (some 1) none else z
theorem dsS_cps {z : Str} : (dsS z).cps.toList = dsL z.cps.toList := by
  unfold dsS dsL
  by_cases h : cutS z none (some 1) = "-"
  · rw [if_pos h, if_pos (minus_iff.mp h), tail_cps]
  · rw [if_neg h, if_neg (fun e => h (minus_iff.mpr e))]
theorem dsS_len {z : Str} : (dsS z).length ≤ z.length := by
  rw [strLen, strLen, dsS_cps]; exact dsL_len
theorem emp_iff {z : Str} : z = "" ↔ z.cps.toList = [] := by
  rw [cps_inj, show ("" : Str).cps.toList = [] by decide +kernel]
theorem bok_f {c : Cl} {p : Prop} [Decidable p] {A B : Prop} (h1 : ¬ p → A) (h2 : p → B) : BoK c false (.bl (decide p)) A B := bok_df h1 h2
section
variable {C : Ctx}
def ir_number_in_rest : ISs := (.cons (.ifs (.bool false (.cons (.cmp .Eq (.var 1) (.con (.str ""))) (.cons (.cmp .Gt (.prim .len (.cons (.var 0) .nil)) (.glob 3)) (.cons (.not (.prim .all (.cons (.comp [2] (.nm 2) (.val (.var 1)) .nil (.cmp .In (.var 2) (.glob 1))) .nil))) .nil)))) (.cons (.ret (.con .non))
  .nil) .nil)
  (.cons (.ifs (.bool true (.cons (.cmp .Eq (.idx (.var 1) (.con (.int 0))) (.con (.str "0"))) (.cons (.cmp .NotEq (.var 0) (.con (.str "0"))) .nil))) (.cons (.ret (.con .non))
  .nil) .nil)
  (.cons (.ret (.prim .intL (.cons (.var 0) .nil)))
  .nil)))
def ir_number_in : ISs := (.cons (.asg 1 (.ite (.cmp .Eq (.slc (.var 0) .no (.so (.con (.int 1)))) (.con (.str "-"))) (.slc (.var 0) (.so (.con (.int 1))) .no) (.var 0))) ir_number_in_rest)
theorem one_iff {ch : Nat} : (⟨#[ch]⟩ : Str) = "0" ↔ ch = 48 := by
  rw [cps_inj, show ("0" : Str).cps.toList = [48] by decide +kernel]
  simp
theorem zero_iff {z : Str} : z = "0" ↔ z.cps.toList = [48] := by
  rw [cps_inj, show ("0" : Str).cps.toList = [48] by decide +kernel]
theorem ifk_n {p : Prop} [Decidable p] {A B : Prop} (h1 : ¬ p → A) (h2 : p → B) : IfK (.bl (!decide p)) A B := by
  by_cases z : p
  · rw [decide_eq_true z]; exact ifk_f (h2 z)
  · rw [decide_eq_false z]; exact ifk_t (h1 z)
theorem wp_ni_rest {z : Str} {Q : D → Bool → Cl → Prop} {E : Ex → Cl → Prop} {c : Cl} (hp : ∀ p, C.hasP p = true) (g1 : C.hasG 1 = true) (v1 : C.gl 1 = .str "0123456789") (g3 : C.hasG 3 = true) (v3 : C.gl 3 = .int 4000) (hz : z.length ≤ 9000) (q : Q (optI (dueL z.cps.toList)) false c) :
    wpSs C ir_number_in_rest [.sh (.str z), .sh (.str (dsS z)), .no] c ⟨fun _ c1 => Q .non false c1, fun d o _ c1 => Q d o c1, fun _ _ => False, fun _ _ => False⟩ (fun ex _ c1 => E ex c1) := by
  have hzk : z.length ≤ sizeLine := szb (by omega)
  have hdk : (dsS z).length ≤ sizeLine := Nat.le_trans dsS_len hzk
  have dc := @dsS_cps z
  have ll : z.cps.toList.length = z.length := (strLen z).symm
  have lnz : ∀ c, lenD c (.str z) = some z.length := fun c => by show (if z.length ≤ sizeLine then some z.length else none) = _; rw [if_pos hzk]
  have none_ : (dsL z.cps.toList = [] ∨ 4000 < z.cps.toList.length ∨ (dsL z.cps.toList).all isDig = false) → Q .non false c := fun h => by
    have e : dueL z.cps.toList = none := by unfold dueL; rw [if_pos h]
    rw [e] at q; exact q
  unfold ir_number_in_rest
  walk_at "vm"
  refine bok_df (fun h1 => ?_) fun h1 => ?_
  · walk_at "vm"
    refine p_len (lnz _) ?_
    walk_at "vm"
    rw [v3]
    walk_at "vm"
    refine bok_df (fun h2 => ?_) fun h2 => ?_
    · walk_at "vm"
      refine p_itS _ ?_
      refine loopC_ix (fun i acc s c1 => acc = ((dsS z).cps.toList.take i).map (fun ch => D.bl (isDig ch)) ∧ c1 = c ∧ ∃ x, s = [.sh (.str z), .sh (.str (dsS z)), x]) _ ?_ ?_ _ _ _ ⟨rfl, rfl, _, rfl⟩
      · rintro i x hx acc s c1 ⟨rfl, rfl, x2, rfl⟩
        obtain ⟨ch, hch, rfl⟩ := signs_at hx
        refine ⟨trivial, fun K k1 k2 => c_step rfl (if_nil (chk_b (fun _ => ?_) nofun))⟩
        show wpE _ _ _ [.sh (.str z), .sh (.str (dsS z)), .sh (.str ⟨#[ch]⟩)] c1 _ _
        walk_at "vm"
        rw [v1]
        refine p_inC ?_
        rw [dig_mem]
        refine k1 _ _ _ ⟨?_, ?_, rfl, _, rfl⟩
        · rw [List.length_map, List.length_take]; exact Nat.lt_of_le_of_lt (Nat.min_le_right _ _) (by rw [← strLen]; have := @dsS_len z; have : sizeLine = 16777216 := sizeLine_eq; omega)
        · rw [List.take_succ, hch, List.map_append]; rfl
      · rintro acc s c1 ⟨rfl, rfl, x2, rfl⟩
        refine ⟨trivial, ?_⟩
        have el : (signs (dsS z)).length = (dsS z).cps.toList.length := by unfold signs; rw [List.length_map]
        rw [el, List.take_length]
        walk_at "vm"
        refine p_all (bs := (dsS z).cps.toList.map isDig) (by rw [List.map_map]; rfl) ?_
        have ea : ((dsS z).cps.toList.map isDig).all id = (dsS z).cps.toList.all isDig := by rw [List.all_map]; rfl
        rw [ea, dc]
        walk_at "vm"
        cases h3 : (dsL z.cps.toList).all isDig with
        | false =>
          walk_at "vm"
          refine ifk_t ?_
          walk_at "vm"
          exact none_ (.inr (.inr h3))
        | true =>
          walk_at "vm"
          refine ifk_f ?_
          obtain ⟨ch, rest, ed⟩ : ∃ ch rest, dsL z.cps.toList = ch :: rest := by
            cases q2 : dsL z.cps.toList with
            | nil => exact absurd (emp_iff.mpr (by rw [dc]; exact q2)) h1
            | cons ch rest => exact ⟨ch, rest, rfl⟩
          have go : ¬ ((dsL z.cps.toList).head? = some 48 ∧ z.cps.toList ≠ [48]) → Q (.int (if z.cps.toList.head? = some 45 then -((digitsVal (dsL z.cps.toList) : Nat) : Int) else ((digitsVal (dsL z.cps.toList) : Nat) : Int))) false c1 ∧ dueL z.cps.toList = some (if z.cps.toList.head? = some 45 then -((digitsVal (dsL z.cps.toList) : Nat) : Int) else ((digitsVal (dsL z.cps.toList) : Nat) : Int)) := fun hh => by
            have e : dueL z.cps.toList = some (if z.cps.toList.head? = some 45 then -((digitsVal (dsL z.cps.toList) : Nat) : Int) else ((digitsVal (dsL z.cps.toList) : Nat) : Int)) := by
              unfold dueL
              rw [if_neg (fun h => by
                rcases h with h | h | h
                · rw [ed] at h; cases h
                · omega
                · rw [h3] at h; cases h), if_neg hh]
            rw [e] at q
            exact ⟨q, e⟩
          have fin : ¬ ((dsL z.cps.toList).head? = some 48 ∧ z.cps.toList ≠ [48]) → primW .intL c1 [.str z] (fun d o => Q d o c1) := fun hh => by
            obtain ⟨g1, g2⟩ := go hh
            obtain ⟨d1, d2, d3⟩ := due_int g2
            exact ⟨_, d3, hzk, d1, g1⟩
          walk_at "vm"
          refine p_idxS hdk (show atI (dsS z).cps.toList 0 = some ch by rw [dc, ed]; exact atI_n (ch :: rest) 0) ?_
          walk_at "vm"
          refine bok_dt (fun h4 => ?_) fun h4 => ?_
          · walk_at "vm"
            refine ifk_n (fun h5 => ?_) fun h5 => ?_
            · walk_at "vm"
              have e : dueL z.cps.toList = none := by
                unfold dueL
                split
                · rfl
                · rw [if_pos ⟨by rw [ed, one_iff.mp h4]; rfl, fun e => h5 (zero_iff.mpr e)⟩]
              rw [e] at q
              exact q
            · walk_at "vm"
              exact fin fun hh => hh.2 (zero_iff.mp h5)
          · refine ifk_d (fun h => (h4 h).elim) fun _ => ?_
            walk_at "vm"
            exact fin fun hh => h4 (one_iff.mpr (by have := hh.1; rw [ed] at this; exact Option.some.inj this))
    · refine ifk_d (fun _ => ?_) fun h => (h h2).elim
      walk_at "vm"
      exact none_ (.inr (.inl (by omega)))
  · refine ifk_d (fun _ => ?_) fun h => (h h1).elim
    walk_at "vm"
    exact none_ (.inl (by rw [← dc]; exact emp_iff.mp h1))

theorem wp_number_in (hp : ∀ p, C.hasP p = true) (g1 : C.hasG 1 = true) (v1 : C.gl 1 = .str "0123456789") (g3 : C.hasG 3 = true) (v3 : C.gl 3 = .int 4000) : ∀ ds c Q E, spNumIn ds c Q E → wpDef C 1 3 ir_number_in ds c Q E := by
  rintro ds c Q E ⟨z, rfl, hz, q⟩
  have hzk : z.length ≤ sizeLine := szb (by omega)
  refine ⟨rfl, ?_⟩
  have r := wp_ni_rest (E := E) hp g1 v1 g3 v3 hz q
  unfold dsS at r
  show wpSs _ (.cons (.asg 1 (.ite (.cmp .Eq (.slc (.var 0) .no (.so (.con (.int 1)))) (.con (.str "-"))) (.slc (.var 0) (.so (.con (.int 1))) .no) (.var 0))) ir_number_in_rest) [.sh (.str z), .no, .no] c _ _
  generalize hr : ir_number_in_rest = R at r ⊢
  walk_at "vm"
  refine ifk_d (fun h => ?_) fun h => ?_
  · rw [if_pos h] at r
    walk_at "vm"
    exact r
  · rw [if_neg h] at r
    walk_at "vm"
    exact r

def ir_short_number : ISs := (.cons (.ifs (.cmp .Gt (.bin .Sub (.prim .len (.cons (.var 0) .nil)) (.prim .int (.cons (.cmp .Eq (.slc (.var 0) .no (.so (.con (.int 1)))) (.con (.str "-"))) .nil))) (.var 1)) (.cons (.ret (.con .non))
  .nil) .nil)
  (.cons (.ret (.call 2 (.cons (.var 0) .nil)))
  .nil))
theorem wp_short_number (hp : ∀ p, C.hasP p = true) (hF : C.hasF 2 = true) (hB : C.hasB 2 = true) (hN : C.fn 2 = spNumIn) : ∀ ds c Q E, spShort ds c Q E → wpDef C 2 2 ir_short_number ds c Q E := by
  rintro ds c Q E ⟨z, m, rfl, hz, q⟩
  refine ⟨rfl, ?_⟩
  show wpSs _ _ [.sh (.str z), .sh (.int m)] c _ _
  have hzk : z.length ≤ sizeLine := szb (by omega)
  have hl := strLen z
  unfold ir_short_number
  walk_at "vm"
  refine p_len (ln_ hzk) ?_
  walk_at "vm"
  have e : (if decide (cutS z none (some 1) = "-") = true then (1 : Int) else 0) = if z.cps.toList.head? = some 45 then 1 else 0 := by
    by_cases h : z.cps.toList.head? = some 45
    · rw [if_pos h, decide_eq_true (minus_iff.mpr h)]; rfl
    · rw [if_neg h, decide_eq_false (fun e => h (minus_iff.mp e))]; rfl
  rw [e]
  refine ifk_d (fun h => ?_) fun h => ?_
  · walk_at "vm"
    have e2 : shortL m z.cps.toList = none := by unfold shortL; rw [if_pos (by rw [← hl]; exact h)]
    rw [e2] at q
    exact q
  · walk_at "vm"
    have e2 : shortL m z.cps.toList = dueL z.cps.toList := by unfold shortL; rw [if_neg (by rw [← hl]; exact h)]
    rw [e2] at q
    exact fn_ hN ⟨z, rfl, hz, q⟩
end
end Vm.Lib

/-! deeds as texts: what is read, the plain law -/
namespace Vm.Lib
open PySem PySem.Spec L2 Vm PySem.NumText
open PyProof.Rows hiding St
def optDd : Option Dd → D
  | some d => d.ob
  | none => .non
/-- what a word adds to a register -/
def scaledS (t w : Str) : Option Dd := match shortL 20 (Txt.partition w "*").1.cps.toList with
  | none => none
  | some n => if (Txt.partition w "*").2.1 = "" then some (.push t n) else if isNm (Txt.partition w "*").2.2.cps.toList = false ∨ (Txt.partition w "*").2.2 = t then none else some (.add t (Txt.partition w "*").2.2 n)
/-- what three words say -/
def deed3 (a b w : Str) : Option Dd := if isNm a.cps.toList = false then none else if b = "+=" then scaledS a w else if b = "=" ∧ w = "-" ++ a then some (.turn a) else none
/-- the deed that a text writes -/
def deedS (z : Str) : Option Dd := match Txt.split z " " with
  | [a, b, w] => deed3 a b w
  | _ => none
/-- the lines of a text -/
def linesS (z : Str) : List Str := if z = "" then [] else Txt.split z "\n"
/-- deeds, or the number of the first line that is none -/
def readFrom (i : Nat) : List Str → Nat ⊕ List Dd
  | [] => .inr []
  | x :: xs => match deedS x with
    | none => .inl i
    | some d => match readFrom (i + 1) xs with
      | .inl j => .inl j
      | .inr l => .inr (d :: l)
theorem sub_len (x : Str) (i j : Nat) : (PySem.Builtin.Str.strSub x i j).length ≤ x.length := strSub_length_le ..
theorem part_len (w y : Str) : (Txt.partition w y).1.length ≤ w.length ∧ (Txt.partition w y).2.2.length ≤ w.length := by
  rcases PyProof.Rows.partition_whole w y with ⟨e, _⟩ | ⟨i, e, _⟩
  · rw [e]
    exact ⟨Nat.le_refl _, Nat.zero_le _⟩
  · rw [e]
    exact ⟨sub_len .., sub_len ..⟩
theorem mem_join (y : Str) : ∀ {ps : List Str} {p : Str}, p ∈ ps → p.length ≤ (Str.join y ps).length
  | [x], p, h => by
    rw [List.mem_singleton] at h
    subst h
    exact Nat.le_refl _
  | x :: z :: r, p, h => by
    show p.length ≤ (x ++ y ++ Str.join y (z :: r)).length
    rw [len_add, len_add]
    rcases List.mem_cons.mp h with rfl | h
    · omega
    · have := mem_join y h
      omega
theorem split_mem {z y p : Str} (h : p ∈ Txt.split z y) : p.length ≤ z.length := by
  have := mem_join y h
  rwa [StrLaws.join_split] at this
theorem tl_of (s : String) : (Str.ofString s).cps.toList = s.toList.map Char.toNat := PyProof.Rows.signs_ofString s
/-! numbers -/
theorem numL_head (n : Nat) (h : (TL.numL n).head? = some 48) : n = 0 := by
  induction n using Nat.strongRecOn with
  | _ n ih =>
    by_cases h1 : n < 10
    · rw [TL.numL_lt h1] at h
      have : 48 + n = 48 := by simpa using h
      omega
    · rw [TL.numL_step (by omega)] at h
      have hn := TL.numL_ne (n / 10)
      have h2 : (TL.numL (n / 10)).head? = some 48 := by
        cases q : TL.numL (n / 10) with
        | nil => exact absurd q hn
        | cons a l => rw [q] at h; exact h
      have := ih (n / 10) (by omega) h2
      omega
theorem num_pos (n : Nat) : (numS (n : Int)).cps.toList = TL.numL n := TL.tl_num n
theorem num_neg (n : Nat) (h : 0 < n) : (numS (-(n : Int))).cps.toList = 45 :: TL.numL n := by
  unfold numS
  obtain ⟨m, rfl⟩ : ∃ m, n = m + 1 := ⟨n - 1, by omega⟩
  have e : toString (-((m + 1 : Nat) : Int)) = "-" ++ toString (((m + 1 : Nat)) : Int) := rfl
  rw [e]
  have e2 : Str.ofString ("-" ++ toString ((m + 1 : Nat) : Int)) = Str.ofString "-" ++ Str.ofString (toString ((m + 1 : Nat) : Int)) := by
    refine TL.ext_tl ?_
    rw [TL.tl_append]
    show (Str.ofString _).cps.toList = (Str.ofString _).cps.toList ++ (Str.ofString _).cps.toList
    rw [tl_of, tl_of, tl_of, String.toList_append, List.map_append]
  rw [e2]
  have e3 := TL.tl_append (Str.ofString "-") (Str.ofString (toString ((m + 1 : Nat) : Int)))
  have e4 : (Str.ofString "-" ++ Str.ofString (toString ((m + 1 : Nat) : Int))).cps.toList = (Str.ofString "-").cps.toList ++ (Str.ofString (toString ((m + 1 : Nat) : Int))).cps.toList := e3
  rw [e4, show (Str.ofString "-").cps.toList = [45] by decide +kernel]
  have := num_pos (m + 1)
  unfold numS at this
  rw [this]; rfl
theorem dig_all (n : Nat) : (TL.numL n).all isDig = true := List.all_eq_true.mpr fun c hc => by
  have := TL.numL_digits n c hc
  unfold isDig
  rw [decide_eq_true this.1, decide_eq_true this.2]; rfl
theorem numL_no45 (n : Nat) : (TL.numL n).head? ≠ some 45 := fun h => by
  have hm : 45 ∈ TL.numL n := List.mem_of_head? h
  exact TL.numL_free (.inl (by decide)) hm
/-- a number's own text is read as the number -/
theorem due_num {k : Int} {B : Nat} (hB : 0 < B) (hb : B ≤ 30) (h : k.natAbs < 10 ^ B) : shortL B (numS k).cps.toList = some k := by
  rcases Int.eq_nat_or_neg k with ⟨n, rfl | rfl⟩
  · rw [Int.natAbs_natCast] at h
    have hl := TL.numL_len hB h
    rw [num_pos]
    unfold shortL
    rw [if_neg (numL_no45 n), if_neg (by omega)]
    unfold dueL
    have e1 : dsL (TL.numL n) = TL.numL n := by unfold dsL; rw [if_neg (numL_no45 n)]
    rw [e1, if_neg (by
      rintro (h | h | h)
      · exact TL.numL_ne n h
      · omega
      · rw [dig_all] at h; cases h), if_neg (by
      rintro ⟨h1, h2⟩
      have := numL_head n h1
      subst this
      exact h2 (TL.numL_lt (by decide))), if_neg (numL_no45 n), TL.numL_val]
  · rw [Int.natAbs_neg, Int.natAbs_natCast] at h
    by_cases h0 : n = 0
    · subst h0
      have e : (numS (-((0 : Nat) : Int))).cps.toList = [48] := by decide +kernel
      rw [e]
      unfold shortL
      have h1 : (if ([48] : List Nat).head? = some 45 then (1 : Int) else 0) = 0 := rfl
      rw [h1, if_neg (by show ¬ (((1 : Nat) : Int) - 0 > (B : Int)); omega)]
      decide +kernel
    · have hl := TL.numL_len hB h
      rw [num_neg n (by omega)]
      unfold shortL
      have h2 : (if (45 :: TL.numL n).head? = some 45 then (1 : Int) else 0) = 1 := if_pos rfl
      rw [h2, if_neg (by rw [List.length_cons]; omega)]
      unfold dueL
      have e1 : dsL (45 :: TL.numL n) = TL.numL n := rfl
      rw [e1, if_neg (by
        rintro (h | h | h)
        · exact TL.numL_ne n h
        · rw [List.length_cons] at h; omega
        · rw [dig_all] at h; cases h), if_neg (by
        rintro ⟨h1, h2⟩
        exact h0 (numL_head n h1)), if_pos (show (45 :: TL.numL n).head? = some 45 from rfl), TL.numL_val]
theorem num_free {k : Int} {s : Nat} (h : s < 45 ∨ 57 < s) : s ∉ (numS k).cps.toList := by
  rcases Int.eq_nat_or_neg k with ⟨n, rfl | rfl⟩
  · rw [num_pos]; exact TL.numL_free (by omega)
  · by_cases h0 : n = 0
    · subst h0
      have e : (numS (-((0 : Nat) : Int))).cps.toList = [48] := by decide +kernel
      rw [e]
      intro hm
      rw [List.mem_singleton] at hm
      omega
    · rw [num_neg n (by omega)]
      intro hm
      rcases List.mem_cons.mp hm with e | e
      · omega
      · exact TL.numL_free (by omega) e
theorem nm_free {z : Str} {s : Nat} (h : nmS z) (hs : lod s = false) : s ∉ z.cps.toList := fun hm => by
  rw [nm_lod h s hm] at hs; cases hs
theorem nm_ne_emp {z : Str} (h : nmS z) : z ≠ "" := fun e => by
  subst e
  have h' : isNm ("" : Str).cps.toList = true := h
  rw [show ("" : Str).cps.toList = [] by decide +kernel] at h'
  cases h'
theorem app_free {a b : Str} {s : Nat} (h : s ∉ a.cps.toList) (g : s ∉ b.cps.toList) : s ∉ (a ++ b).cps.toList := by
  rw [cps_add]
  intro z
  rcases List.mem_append.mp z with z | z
  · exact h z
  · exact g z
theorem sp_eq : (" " : Str).cps.toList = [32] := by decide +kernel
theorem nl_eq : ("\n" : Str).cps.toList = [10] := by decide +kernel
theorem st_eq : ("*" : Str).cps.toList = [42] := by decide +kernel
theorem join3 (a b w : Str) : Txt.join " " [a, b, w] = a ++ " " ++ (b ++ " " ++ w) := by rw [TL.join_eq]; rfl
theorem split3 {a b w : Str} (ha : 32 ∉ a.cps.toList) (hb : 32 ∉ b.cps.toList) (hw : 32 ∉ w.cps.toList) : Txt.split (a ++ " " ++ (b ++ " " ++ w)) " " = [a, b, w] := by
  rw [← join3]
  exact TL.split_join (y := " ") (s := 32) (S := []) sp_eq (by decide +kernel) (by simp) fun p hp => by
    simp only [List.mem_cons, List.not_mem_nil, or_false] at hp
    rcases hp with rfl | rfl | rfl
    · exact ha
    · exact hb
    · exact hw
theorem str_assoc (a b c : Str) : a ++ b ++ c = a ++ (b ++ c) := TL.ext_tl (by rw [TL.tl_append, TL.tl_append, TL.tl_append, TL.tl_append, List.append_assoc])
theorem scaled_num {t w : Str} {k : Int} {B : Nat} (hw : (Txt.partition w "*").1 = numS k) (h : k.natAbs < 10 ^ 20) : scaledS t w = if (Txt.partition w "*").2.1 = "" then some (.push t k) else if isNm (Txt.partition w "*").2.2.cps.toList = false ∨ (Txt.partition w "*").2.2 = t then none else some (.add t (Txt.partition w "*").2.2 k) := by
  unfold scaledS
  rw [hw, show shortL 20 (numS k).cps.toList = some k from due_num (B := 20) (by decide) (by decide) h]
/-- a deed's text is read as the deed -/
theorem deed_txt {d : Dd} (h : d.okB 20) : deedS d.txt = some d := by
  cases d with
  | add t s k =>
    obtain ⟨hne, ht, hs, hk⟩ := h
    have fw : 32 ∉ (numS k ++ "*" ++ s).cps.toList := app_free (app_free (num_free (.inl (by decide))) (by decide +kernel)) (nm_free hs (by decide))
    have e : Dd.txt (.add t s k) = t ++ " " ++ ("+=" ++ " " ++ (numS k ++ "*" ++ s)) := by
      show t ++ " += " ++ numS k ++ "*" ++ s = _
      rw [show (" += " : Str) = " " ++ ("+=" ++ " ") by decide +kernel]
      simp only [str_assoc]
    unfold deedS
    rw [e, split3 (nm_free ht (by decide)) (by decide +kernel) fw]
    show deed3 t "+=" (numS k ++ "*" ++ s) = _
    unfold deed3
    have ep : Txt.partition (numS k ++ "*" ++ s) "*" = (numS k, ("*" : Str), s) := TL.partition_app (y := "*") (s := 42) (S := []) st_eq (num_free (.inl (by decide)))
    rw [if_neg (by rw [show isNm t.cps.toList = true from ht]; decide), if_pos rfl, scaled_num (B := 20) (k := k) (by rw [ep]) hk, ep, if_neg (show ¬ ("*" : Str) = "" by decide +kernel), if_neg (by
      rintro (h | h)
      · rw [show isNm s.cps.toList = true from hs] at h; cases h
      · exact hne h.symm)]
  | push t k =>
    obtain ⟨ht, hk⟩ := h
    have e : Dd.txt (.push t k) = t ++ " " ++ ("+=" ++ " " ++ numS k) := by
      show t ++ " += " ++ numS k = _
      rw [show (" += " : Str) = " " ++ ("+=" ++ " ") by decide +kernel]
      simp only [str_assoc]
    unfold deedS
    rw [e, split3 (nm_free ht (by decide)) (by decide +kernel) (num_free (.inl (by decide)))]
    show deed3 t "+=" (numS k) = _
    unfold deed3
    have ep : Txt.partition (numS k) "*" = (numS k, Str.empty, Str.empty) := TL.partition_none (y := "*") (s := 42) (S := []) st_eq (num_free (.inl (by decide)))
    rw [if_neg (by rw [show isNm t.cps.toList = true from ht]; decide), if_pos rfl, scaled_num (B := 20) (k := k) (by rw [ep]) hk, ep, if_pos (show Str.empty = "" by decide +kernel)]
  | turn t =>
    have ht : nmS t := h
    have e : Dd.txt (.turn t) = t ++ " " ++ ("=" ++ " " ++ ("-" ++ t)) := by
      show t ++ " = -" ++ t = _
      rw [show (" = -" : Str) = " " ++ ("=" ++ (" " ++ "-")) by decide +kernel]
      simp only [str_assoc]
    unfold deedS
    rw [e, split3 (nm_free ht (by decide)) (by decide +kernel) (app_free (by decide +kernel) (nm_free ht (by decide)))]
    show deed3 t "=" ("-" ++ t) = _
    unfold deed3
    rw [if_neg (by rw [show isNm t.cps.toList = true from ht]; decide), if_neg (by decide +kernel), if_pos ⟨rfl, rfl⟩]
theorem txt_free {d : Dd} (h : d.okB 20) : 10 ∉ d.txt.cps.toList := by
  cases d with
  | add t s k =>
    obtain ⟨hne, ht, hs, hk⟩ := h
    exact app_free (app_free (app_free (app_free (nm_free ht (by decide)) (by decide +kernel)) (num_free (.inl (by decide)))) (by decide +kernel)) (nm_free hs (by decide))
  | push t k => exact app_free (app_free (nm_free h.1 (by decide)) (by decide +kernel)) (num_free (.inl (by decide)))
  | turn t => exact app_free (app_free (nm_free h (by decide)) (by decide +kernel)) (nm_free h (by decide))
theorem read_all : ∀ {l : List Dd} (i : Nat), (∀ d ∈ l, d.okB 20) → readFrom i (l.map Dd.txt) = .inr l
  | [], _, _ => rfl
  | d :: l, i, h => by
    rw [List.map_cons]
    unfold readFrom
    rw [deed_txt (h d List.mem_cons_self), read_all (i + 1) fun x hx => h x (List.mem_cons_of_mem _ hx)]
/-- the text of a program -/
def ptxt (l : List Dd) : Str := Txt.join "\n" (l.map Dd.txt)
theorem ptxt_nil : ptxt [] = "" := by unfold ptxt; rw [List.map_nil, TL.join_eq]; decide +kernel
theorem lines_txt {l : List Dd} (h : ∀ d ∈ l, d.okB 20) : linesS (ptxt l) = l.map Dd.txt := by
  unfold linesS
  cases l with
  | nil => rw [ptxt_nil, if_pos rfl]; rfl
  | cons d l =>
    have hn : ptxt (d :: l) ≠ "" := fun e => by
      have e2 : d.txt.length ≤ (ptxt (d :: l)).length := by
        unfold ptxt
        rw [TL.join_eq]
        exact mem_join _ (by rw [List.map_cons]; exact List.mem_cons_self)
      rw [e] at e2
      have e0 : ("" : Str).length = 0 := rfl
      have h1 : 0 < d.txt.length := by
        cases d with
        | add t s k =>
          show 0 < (t ++ " += " ++ numS k ++ "*" ++ s).length
          rw [len_add, len_add]
          have : ("*" : Str).length = 1 := rfl
          omega
        | push t k =>
          show 0 < (t ++ " += " ++ numS k).length
          rw [len_add, len_add]
          have : (" += " : Str).length = 4 := rfl
          omega
        | turn t =>
          show 0 < (t ++ " = -" ++ t).length
          rw [len_add, len_add]
          have : (" = -" : Str).length = 4 := rfl
          omega
      omega
    rw [if_neg hn]
    unfold ptxt
    exact TL.split_join (y := "\n") (s := 10) (S := []) nl_eq (by decide +kernel) (by simp) fun p hp => by
      obtain ⟨x, hx, rfl⟩ := List.mem_map.mp hp
      exact txt_free (h x hx)
theorem read_txt {l : List Dd} (h : ∀ d ∈ l, d.okB 20) : readFrom 0 (linesS (ptxt l)) = .inr l := by rw [lines_txt h]; exact read_all 0 h
/-! ### programs: what their defs promise -/
/-- a program: its deeds, its names -/
def pg (l : List Dd) (ys : List Str) : D := .ins 23 [15, 16] [.tup (l.map Dd.ob), .tup (ys.map .str)]
def spSame (k : Nat) : SpT := fun ds c Q _ => ∃ d : Dd, d.cl = k ∧ ds = [d.ob, d.ob] ∧ Q (.bl true) false c
def spPI : SpT := fun ds c Q _ => ∃ n x, ∃ l : List Dd, ds = [.cell n, x] ∧ c[n]? = some (.ins 23 [] []) ∧ asS c x = some (l.map Dd.ob) ∧ l.length ≤ 1900 ∧ ∀ ys, ys.Nodup → Q .non false (c.set n (pg l ys))
def spPE : SpT := fun ds c Q _ => ∃ l ys ys', ds = [pg l ys, pg l ys'] ∧ Q (.bl true) false c
def spShown : SpT := fun ds c Q _ => ∃ d : Dd, ds = [d.ob] ∧ Q d.tp false c
def spScaled : SpT := fun ds c Q _ => ∃ t w : Str, ds = [.str t, .str w] ∧ w.length ≤ 9000 ∧ Q (optDd (scaledS t w)) false c
def spDeedIn : SpT := fun ds c Q _ => ∃ z : Str, ds = [.str z] ∧ z.length ≤ 9000 ∧ Q (optDd (deedS z)) false c
def spRead : SpT := fun ds c Q E => ∃ z : Str, ds = [.cls 23, .str z] ∧ z.length ≤ 9000 ∧ (linesS z).length ≤ 1900 ∧
  (∀ l, readFrom 0 (linesS z) = .inr l → ∀ ys x, ys.Nodup → Q (pg l ys) false (c ++ [x])) ∧ ∀ i, readFrom 0 (linesS z) = .inl i → ∀ x, E ⟨7, [(3, .int (i : Nat))]⟩ (c ++ [x])
def undoneL (l : List Dd) : List Dd := l.reverse.map Dd.neg
def spUndone : SpT := fun ds c Q _ => ∃ l : List Dd, ds = [.tup (l.map Dd.ob)] ∧ (∀ d ∈ l, d.ok) ∧ l.length ≤ 1900 ∧ Q (.tup ((undoneL l).map Dd.ob)) false c
def spPNeg : SpT := fun ds c Q _ => ∃ l ys, ds = [pg l ys] ∧ (∀ d ∈ l, d.ok) ∧ l.length ≤ 1900 ∧ ∀ ys', ys'.Nodup → Q (pg (undoneL l) ys') false c
def spPLen : SpT := fun ds c Q _ => ∃ l ys, ds = [pg l ys] ∧ Q (.int l.length) false c
def spPText : SpT := fun ds c Q _ => ∃ l ys, ds = [pg l ys] ∧ (∀ d ∈ l, d.ok) ∧ l.length ≤ 1900 ∧ Q (.str (ptxt l)) false c
/-- the registers a deed touches -/
def tchd : Dd → List Str
  | .add t s _ => [t, s]
  | .push t _ => [t]
  | .turn t => [t]
theorem tchd_len (d : Dd) : (tchd d).length ≤ 2 := by cases d <;> simp [tchd]
theorem flat_len : ∀ l : List Dd, (l.map tchd).flatten.length ≤ 2 * l.length
  | [] => Nat.le_refl _
  | d :: l => by
    rw [List.map_cons, List.flatten_cons, List.length_append, List.length_cons]
    have := flat_len l
    have := tchd_len d
    omega
theorem flat_ob : ∀ l : List Dd, flatL (l.map Dd.ob) = true
  | [] => rfl
  | d :: l => by
    rw [List.map_cons]
    unfold flatL
    rw [flat_ob l, Bool.and_true]
    cases d <;> rfl
theorem flat_str : ∀ l : List Str, flatL (l.map D.str) = true
  | [] => rfl
  | d :: l => by rw [List.map_cons]; unfold flatL; rw [flat_str l]; rfl
theorem flat_pg (l : List Dd) (ys : List Str) : flatL [.tup (l.map Dd.ob), .tup (ys.map .str)] = true := by
  show (flatL (l.map Dd.ob) && (flatL (ys.map D.str) && true)) = true
  rw [flat_ob, flat_str]; rfl
theorem undone_len (l : List Dd) : (undoneL l).length = l.length := by unfold undoneL; rw [List.length_map, List.length_reverse]
theorem undone_ok {B : Nat} {l : List Dd} (h : ∀ d ∈ l, d.okB B) : ∀ d ∈ undoneL l, d.okB B := fun d hd => by
  obtain ⟨x, hx, rfl⟩ := List.mem_map.mp hd
  exact Dd.neg_ok (h x (List.mem_reverse.mp hx))
end Vm.Lib

/-! deeds as plain data -/
namespace Vm.Lib
open PySem PySem.Spec L2 Vm
open PyProof.Rows hiding St
instance : DecidableEq Dd := fun a b => match a, b with
  | .add t s k, .add t' s' k' => if h : t = t' ∧ s = s' ∧ k = k' then isTrue (by obtain ⟨rfl, rfl, rfl⟩ := h; rfl) else isFalse fun e => h (by cases e; exact ⟨rfl, rfl, rfl⟩)
  | .push t k, .push t' k' => if h : t = t' ∧ k = k' then isTrue (by obtain ⟨rfl, rfl⟩ := h; rfl) else isFalse fun e => h (by cases e; exact ⟨rfl, rfl⟩)
  | .turn t, .turn t' => if h : t = t' then isTrue (by rw [h]) else isFalse fun e => h (by cases e; rfl)
  | .add .., .push .. => isFalse nofun
  | .add .., .turn .. => isFalse nofun
  | .push .., .add .. => isFalse nofun
  | .push .., .turn .. => isFalse nofun
  | .turn .., .add .. => isFalse nofun
  | .turn .., .push .. => isFalse nofun
def Dd.nmk : Dd → Prop
  | .add t s _ => t ≠ s ∧ nmS t ∧ nmS s
  | .push t _ => nmS t
  | .turn t => nmS t
theorem ok_nmk {B : Nat} : ∀ {d : Dd}, d.okB B → d.nmk
  | .add t s k, g => ⟨g.1, g.2.1, g.2.2.1⟩
  | .push t k, g => g.1
  | .turn t, g => g
theorem str_ok {z : Str} (h : nmS z) : PyData.strOk z = true := by
  unfold PyData.strOk
  rw [← Array.all_toList]
  exact List.all_eq_true.mpr fun ch hc => decide_eq_true (Nat.lt_trans (lod_lt (nm_lod h ch hc)) (by decide))
theorem sh_of {p : PyData} (h1 : p.canLay0 = true) (h2 : Nat.ble p.depth 64 = true) : SeqAt.shaped p = true := by
  unfold SeqAt.shaped
  rw [h1, decide_eq_true (Nat.le_of_ble_eq_true h2)]; rfl
theorem sh2 {a b : Str} (ha : nmS a) (hb : nmS b) : SeqAt.shaped (.tuple [.str a, .str b]) = true :=
  sh_of (by simp only [PyData.canLay0, PyData.canLayAll0, str_ok ha, str_ok hb, Bool.and_self]) rfl
theorem beqS (a b : Str) : (a == b) = decide (a = b) := by
  by_cases h : a = b
  · subst h; simp
  · rw [decide_eq_false h]; exact beq_eq_false_iff_ne.mpr h
theorem eqv2 (a b a' b' : Str) : PyData.eqv (.tuple [.str a, .str b]) (.tuple [.str a', .str b']) = decide (a = a' ∧ b = b') := by
  unfold PyData.eqv PyData.eqvAll
  simp only [PyData.eqv, PyData.eqvAll, beqS, Bool.and_true]
  by_cases h : a = a' <;> by_cases g : b = b' <;> simp [h, g]
/-! ### lists of deeds as plain data -/
def Dd.py : Dd → PyData
  | .add t s k => .tuple [.str "add", .str t, .str s, .int k]
  | .push t k => .tuple [.str "push", .str t, .int k]
  | .turn t => .tuple [.str "turn", .str t]
theorem py_tp (d : Dd) : pyD d.tp = some (Dd.py d) := by cases d <;> rfl
theorem pyL_tp : ∀ l : List Dd, pyL (l.map Dd.tp) = some (l.map Dd.py)
  | [] => rfl
  | d :: l => by
    rw [List.map_cons]
    unfold pyL
    rw [py_tp, pyL_tp l]; rfl
theorem py_lst (c : Cl) (l : List Dd) : pyC c (.lst (l.map Dd.tp)) = some (.list (l.map Dd.py)) := by
  show (pyL (l.map Dd.tp)).map PyData.list = _
  rw [pyL_tp]; rfl
theorem py_cell {c : Cl} {n : Nat} {l : List Dd} (h : c[n]? = some (.lst (l.map Dd.tp))) : pyC c (.cell n) = some (.list (l.map Dd.py)) := by
  show (match c[n]? with | some (D.lst xs) => Option.map PyData.list (pyL xs) | _ => none) = _
  rw [h]
  show (pyL (l.map Dd.tp)).map PyData.list = _
  rw [pyL_tp]; rfl
theorem lay_py {d : Dd} (h : Dd.nmk d) : PyData.canLay0 (Dd.py d) = true := by
  have a1 : PyData.strOk "add" = true := by decide +kernel
  have a2 : PyData.strOk "push" = true := by decide +kernel
  have a3 : PyData.strOk "turn" = true := by decide +kernel
  cases d with
  | add t s k => simp only [Dd.py, PyData.canLay0, PyData.canLayAll0, a1, str_ok h.2.1, str_ok h.2.2, Bool.and_self]
  | push t k => simp only [Dd.py, PyData.canLay0, PyData.canLayAll0, a2, str_ok (z := t) h, Bool.and_self]
  | turn t => simp only [Dd.py, PyData.canLay0, PyData.canLayAll0, a3, str_ok (z := t) h, Bool.and_self]
theorem lay_all : ∀ {l : List Dd}, (∀ d ∈ l, Dd.nmk d) → PyData.canLayAll0 (l.map Dd.py) = true
  | [], _ => rfl
  | d :: l, h => by
    rw [List.map_cons]
    unfold PyData.canLayAll0
    rw [lay_py (h d List.mem_cons_self), lay_all fun x hx => h x (List.mem_cons_of_mem _ hx)]; rfl
theorem dep_py (d : Dd) : PyData.depth (Dd.py d) = 1 := by cases d <;> rfl
theorem dep_all : ∀ l : List Dd, PyData.depthAll (l.map Dd.py) ≤ 1
  | [] => Nat.zero_le _
  | d :: l => by
    rw [List.map_cons]
    unfold PyData.depthAll
    rw [dep_py]
    have := dep_all l
    omega
theorem sh_py {d : Dd} (h : Dd.nmk d) : SeqAt.shaped (Dd.py d) = true := by
  unfold SeqAt.shaped
  rw [lay_py h, dep_py]; rfl
theorem sh_lst {l : List Dd} (h : ∀ d ∈ l, Dd.nmk d) : SeqAt.shaped (.list (l.map Dd.py)) = true := by
  unfold SeqAt.shaped
  have h1 : PyData.canLay0 (.list (l.map Dd.py)) = true := by unfold PyData.canLay0; exact lay_all h
  have h2 : PyData.depth (.list (l.map Dd.py)) ≤ 64 := by
    unfold PyData.depth
    have := dep_all l
    omega
  rw [h1, decide_eq_true h2]; rfl
theorem eqv_nil : ∀ {l : List PyData}, PyData.eqv (.list l) (.list []) = l.isEmpty
  | [] => rfl
  | _ :: _ => rfl
/-- data that are not [] -/
theorem ne_nil {c : Cl} {n : Nat} {l : List Dd} {kb : Bool → Prop} (h : c[n]? = some (.lst (l.map Dd.tp))) (hl : ∀ d ∈ l, Dd.nmk d) (k : kb (!l.isEmpty)) : cmpW .NotEq c (.cell n) (.lst []) kb := by
  refine p_neD (py_cell h) (q := .list []) rfl (sh_lst hl) rfl ?_
  rw [eqv_nil]
  have e : (l.map Dd.py).isEmpty = l.isEmpty := by cases l <;> rfl
  rw [e]; exact k
theorem beqI (a b : Int) : (a == b) = decide (a = b) := by
  by_cases h : a = b
  · subst h; simp
  · rw [decide_eq_false h]; exact beq_eq_false_iff_ne.mpr h
theorem dec_and {p q : Prop} [Decidable p] [Decidable q] : (decide p && decide q) = decide (p ∧ q) := by
  by_cases h : p <;> by_cases g : q <;> simp [h, g]
theorem py_eqv (d e : Dd) : PyData.eqv (Dd.py d) (Dd.py e) = decide (d = e) := by
  have n1 : (("add" : Str) == "push") = false := by decide
  have n2 : (("add" : Str) == "turn") = false := by decide
  have n3 : (("push" : Str) == "add") = false := by decide
  have n4 : (("push" : Str) == "turn") = false := by decide
  have n5 : (("turn" : Str) == "add") = false := by decide
  have n6 : (("turn" : Str) == "push") = false := by decide
  cases d <;> cases e
  all_goals
    unfold Dd.py PyData.eqv PyData.eqvAll
    simp only [PyData.eqv, PyData.eqvAll, n1, n2, n3, n4, n5, n6, Bool.false_and, beq_self_eq_true, Bool.true_and, Bool.and_true]
  all_goals first
    | (symm; refine decide_eq_false ?_; intro h; cases h; done)
    | (simp only [beqS, beqI, dec_and, Dd.add.injEq, Dd.push.injEq, Dd.turn.injEq]; done)
theorem eq_tp {c : Cl} {d e : Dd} {kb : Bool → Prop} (hd : Dd.nmk d) (he : Dd.nmk e) (k : kb (decide (d = e))) : cmpW .Eq c d.tp e.tp kb :=
  .inr ⟨_, _, by cases d <;> exact py_tp _, by cases e <;> exact py_tp _, sh_py hd, sh_py he, by rw [py_eqv]; exact k⟩
/-! reading, line by line -/
theorem read_cons (k : Nat) (x : Str) (a : List Str) : readFrom k (x :: a) = match deedS x with
    | none => .inl k
    | some d => match readFrom (k + 1) a with
      | .inl j => .inl j
      | .inr l => .inr (d :: l) := rfl
theorem read_app : ∀ {a b : List Str} {k : Nat} {l : List Dd}, readFrom k a = .inr l → readFrom k (a ++ b) = match readFrom (k + a.length) b with
    | .inl j => .inl j
    | .inr m => .inr (l ++ m)
  | [], b, k, l, h => by
    cases h
    show readFrom k b = match readFrom (k + 0) b with | .inl j => .inl j | .inr m => .inr ([] ++ m)
    rw [Nat.add_zero]
    cases readFrom k b <;> rfl
  | x :: a, b, k, l, h => by
    rw [List.cons_append, read_cons]
    rw [read_cons] at h
    cases hd : deedS x with
    | none => rw [hd] at h; cases h
    | some d =>
      rw [hd] at h
      simp only at h ⊢
      cases hr : readFrom (k + 1) a with
      | inl j => rw [hr] at h; cases h
      | inr m =>
        rw [hr] at h
        cases h
        rw [read_app hr, List.length_cons, show k + (a.length + 1) = k + 1 + a.length by omega]
        cases readFrom (k + 1 + a.length) b <;> rfl
theorem read_bad {ls : List Str} {i : Nat} {x : Str} {l : List Dd} (h : readFrom 0 (ls.take i) = .inr l) (hx : ls[i]? = some x) (hd : deedS x = none) : readFrom 0 ls = .inl i := by
  have hi : i < ls.length := (List.getElem?_eq_some_iff.mp hx).1
  have e : ls = ls.take i ++ x :: ls.drop (i + 1) := by
    have e1 : ls.drop i = x :: ls.drop (i + 1) := by
      rw [List.drop_eq_getElem_cons hi]
      have := (List.getElem?_eq_some_iff.mp hx).2
      rw [this]
    rw [← e1, List.take_append_drop]
  rw [e, read_app h, List.length_take, Nat.min_eq_left (Nat.le_of_lt hi), Nat.zero_add]
  unfold readFrom
  rw [hd]
theorem read_more {ls : List Str} {i : Nat} {x : Str} {l : List Dd} {d : Dd} (h : readFrom 0 (ls.take i) = .inr l) (hx : ls[i]? = some x) (hd : deedS x = some d) : readFrom 0 (ls.take (i + 1)) = .inr (l ++ [d]) := by
  rw [List.take_add_one, hx]
  show readFrom 0 (ls.take i ++ [x]) = _
  rw [read_app h]
  unfold readFrom
  rw [hd]; rfl
theorem read_len : ∀ {ls : List Str} {k : Nat} {l : List Dd}, readFrom k ls = .inr l → l.length = ls.length
  | [], k, l, h => by cases h; rfl
  | x :: ls, k, l, h => by
    unfold readFrom at h
    cases hd : deedS x with
    | none => rw [hd] at h; cases h
    | some d =>
      rw [hd] at h
      simp only at h
      cases hr : readFrom (k + 1) ls with
      | inl j => rw [hr] at h; cases h
      | inr m =>
        rw [hr] at h
        cases h
        rw [List.length_cons, List.length_cons, read_len hr]
/-! texts of programs -/
theorem p_reprL {c : Cl} {z : Str} {Q : Q1} (h : asc z) (hl : z.length ≤ 1000000) (q : Q (.str (reprText z)) false) : primW .repr c [.str z] Q := by
  have e : (PyData.str z).shown = reprText z := PyData.shown_str z
  refine ⟨.str z, rfl, rfl, Nat.le_of_ble_eq_true rfl, ?_, ?_⟩
  · rw [e]
    have := StrLaws.reprText_len z h
    have : sizeLine = 16777216 := sizeLine_eq
    omega
  · rw [e]; exact q
theorem asc_join {y : Str} (hy : asc y) : ∀ {ps : List Str}, (∀ p ∈ ps, asc p) → asc (Str.join y ps)
  | [], _ => asc_of ""
  | [x], h => h x List.mem_cons_self
  | x :: z :: r, h => by
    show asc (x ++ y ++ Str.join y (z :: r))
    exact asc_add (asc_add (h x List.mem_cons_self) hy) (asc_join hy fun p hp => h p (List.mem_cons_of_mem _ hp))
theorem ptxt_asc {l : List Dd} (h : ∀ d ∈ l, d.ok) : asc (ptxt l) := by
  unfold ptxt
  rw [TL.join_eq]
  exact asc_join (asc_of "\n") fun p hp => by
    obtain ⟨d, hd, rfl⟩ := List.mem_map.mp hp
    exact Dd.txt_asc (h d hd)
theorem sum_txt : ∀ {l : List Dd}, (∀ d ∈ l, d.ok) → ((l.map Dd.txt).map (·.length)).sum ≤ 60 * l.length
  | [], _ => Nat.le_refl _
  | d :: l, h => by
    rw [List.map_cons, List.map_cons, List.sum_cons, List.length_cons]
    have := sum_txt (l := l) fun x hx => h x (List.mem_cons_of_mem _ hx)
    have := Dd.txt_len (h d List.mem_cons_self)
    omega
theorem ptxt_len {l : List Dd} (h : ∀ d ∈ l, d.ok) : (ptxt l).length ≤ 61 * l.length := by
  have h1 := StrLaws.join_length_le "\n" (l.map Dd.txt)
  have h2 := sum_txt h
  unfold ptxt
  rw [TL.join_eq]
  have h3 : ("\n" : Str).length = 1 := rfl
  rw [List.length_map, h3] at h1
  omega
theorem ptxt_lenM {m : Nat} {l : List Dd} (h : ∀ d ∈ l, d.txt.length ≤ m) : (ptxt l).length ≤ (m + 1) * l.length := by
  have h1 := StrLaws.join_length_le "\n" (l.map Dd.txt)
  have h2 : ∀ l : List Dd, (∀ d ∈ l, d.txt.length ≤ m) → ((l.map Dd.txt).map (·.length)).sum ≤ m * l.length := fun l => by
    induction l with
    | nil => intro _; exact Nat.le_refl _
    | cons d l ih =>
      intro h
      rw [List.map_cons, List.map_cons, List.sum_cons, List.length_cons, Nat.mul_succ]
      have := ih fun x hx => h x (List.mem_cons_of_mem _ hx)
      have := h d List.mem_cons_self
      omega
  have h4 := h2 l h
  unfold ptxt
  rw [TL.join_eq]
  have h3 : ("\n" : Str).length = 1 := rfl
  rw [List.length_map, h3] at h1
  rw [Nat.add_mul]
  omega
/-- "\n".join of deeds' texts -/
theorem p_joinT {c : Cl} {l : List Dd} {Q : Q1} (h : ∀ d ∈ l, d.ok) (hl : l.length ≤ 1900) (q : Q (.str (ptxt l)) false) : methW .join c (.str "\n") [.lst (l.map fun d => .str d.txt)] Q := by
  refine ⟨_, l.map Dd.txt, rfl, by rw [List.map_map]; rfl, ?_, q⟩
  have h1 := sum_txt h
  have h2 : ("\n" : Str).length = 1 := rfl
  rw [h2, List.length_map]
  omega
/-- as the law turns a deed round -/
def Dd.bk : Dd → D
  | .turn t => (Dd.turn t).tp
  | d => d.neg.tp
theorem bk_eq (d : Dd) : d.bk = d.neg.tp := by cases d <;> rfl
theorem ok_of20 {d : Dd} (h : d.okB 20) : d.ok := h.imp (by decide)
end Vm.Lib

namespace Vm.K26
open PySem PySem.Spec L2 Vm
open PyProof.Rows hiding St
/-! ### the text, its terms in the small language (printed by a program of this claim) -/
def top (i : Nat) : Stmt := PySem.Challenge.pw_addalong_k26_programs_written_and_read.main.body.getD i (.Pass ⟨0, 0, 0, 0⟩)
def mem (i j : Nat) : Stmt := match top i with
  | .ClassDef _ _ _ b _ _ _ _ _ _ _ => b.getD j (.Pass ⟨0, 0, 0, 0⟩)
  | _ => .Pass ⟨0, 0, 0, 0⟩
def lawNames : List Str := [("_law_feed" : Str), ("_law_take" : Str), ("_law_names" : Str), ("_law_number" : Str), ("_law_deed" : Str), ("_law_made" : Str), ("_law_shown" : Str), ("_law_text" : Str), ("law" : Str)]
def glNames : List Str := [("LETTERS" : Str), ("DIGITS" : Str), ("MOST_NAME" : Str), ("MOST_TEXT" : Str), ("MOST_DIGITS" : Str)]
def psTab : List (Nat × List Str) := [(1600, [("self" : Str), ("name" : Str)]), (2400, [("self" : Str), ("line" : Str)]), (0, [("value" : Str)]), (1, [("number" : Str)]), (2, [("text" : Str)]), (3, [("text" : Str), ("most" : Str)]), (5000, [("self" : Str), ("target" : Str), ("source" : Str), ("times" : Str)]), (5001, [("self" : Str), ("other" : Str)]), (5002, [("self" : Str)]), (5026, [("self" : Str)]), (5200, [("self" : Str), ("target" : Str), ("amount" : Str)]), (5201, [("self" : Str), ("other" : Str)]), (5202, [("self" : Str)]), (5226, [("self" : Str)]), (5400, [("self" : Str), ("target" : Str)]), (5401, [("self" : Str), ("other" : Str)]), (5402, [("self" : Str)]), (5426, [("self" : Str)]), (28, [("target" : Str), ("word" : Str)]), (29, [("text" : Str)]), (30, [("deeds" : Str)]), (5600, [("self" : Str), ("deeds" : Str)]), (5601, [("self" : Str), ("other" : Str)]), (5606, [("self" : Str)]), (5602, [("self" : Str)]), (5626, [("self" : Str)]), (5629, [("cls" : Str), ("text" : Str)]), (300, [("_law_script" : Str), ("_law_k" : Str)]), (301, [("_law_feed_here" : Str), ("_law_many" : Str)]), (302, [("_law_feed_here" : Str), ("_law_many" : Str)]), (303, [("_law_feed_here" : Str)]), (304, [("_law_feed_here" : Str), ("_law_names_here" : Str)]), (305, [("_law_deed_here" : Str)]), (306, [("_law_deed_here" : Str)]), (307, [("_law_deed_here" : Str)]), (308, [("_law_script" : Str)])]
def mpTab : List (Nat × List Str) := [(1, [("self" : Str), ("other" : Str)]), (2, [("self" : Str)]), (26, [("self" : Str)]), (6, [("self" : Str)]), (29, [("cls" : Str), ("text" : Str)])]
def nm : Nm := ⟨fun i => fnPath lawNames i, fun i => (glNames[i]?).getD "", fun i => (psTab.lookup i).getD [], fun m => (mpTab.lookup m).getD []⟩
def glVals : List D := [.str "abcdefghijklmnopqrstuvwxyz", .str "0123456789", .int 8, .int 4000, .int 20]
abbrev st_SameRegister_init : Stmt := mem 4 0
/-- SameRegister.__init__: 0 self, 1 name -/
def N_SameRegister_init : List Str := ["self", "name"]
def ir_SameRegister_init : ISs := (.cons (.setf 0 0 (.var 1))
  .nil)
theorem ck_SameRegister_init : ckSs N_SameRegister_init nm (defScope st_SameRegister_init) ir_SameRegister_init (defBody st_SameRegister_init) = true := by decide +kernel
theorem sc_SameRegister_init : FnScope N_SameRegister_init ["self", "name"] (defScope st_SameRegister_init) := ⟨rfl, rfl, rfl, by decide +kernel, by decide +kernel, by decide +kernel, by decide +kernel⟩
abbrev st_BadLine_init : Stmt := mem 5 0
/-- BadLine.__init__: 0 self, 1 line -/
def N_BadLine_init : List Str := ["self", "line"]
def ir_BadLine_init : ISs := (.cons (.setf 0 3 (.var 1))
  .nil)
theorem ck_BadLine_init : ckSs N_BadLine_init nm (defScope st_BadLine_init) ir_BadLine_init (defBody st_BadLine_init) = true := by decide +kernel
theorem sc_BadLine_init : FnScope N_BadLine_init ["self", "line"] (defScope st_BadLine_init) := ⟨rfl, rfl, rfl, by decide +kernel, by decide +kernel, by decide +kernel, by decide +kernel⟩
abbrev st_is_name : Stmt := top 11
/-- is_name: 0 value, 1 sign_here -/
def N_is_name : List Str := ["value", "sign_here"]
def ir_is_name : ISs := (.cons (.ifs (.bool false (.cons (.not (.isi (.var 0) "str")) (.cons (.not (.chain .LtE .LtE (.con (.int 1)) (.prim .len (.cons (.var 0) .nil)) (.glob 2))) .nil))) (.cons (.ret (.con (.bl false)))
  .nil) .nil)
  (.cons (.ret (.bool true (.cons (.cmp .In (.idx (.var 0) (.con (.int 0))) (.glob 0)) (.cons (.prim .all (.cons (.comp [1] (.nm 1) (.val (.var 0)) .nil (.bool false (.cons (.cmp .In (.var 1) (.glob 0)) (.cons (.cmp .In (.var 1) (.glob 1)) .nil)))) .nil)) .nil))))
  .nil))
theorem ck_is_name : ckSs N_is_name nm (defScope st_is_name) ir_is_name (defBody st_is_name) = true := by decide +kernel
theorem sc_is_name : FnScope N_is_name ["value"] (defScope st_is_name) := ⟨rfl, rfl, rfl, by decide +kernel, by decide +kernel, by decide +kernel, by decide +kernel⟩
abbrev st_number_text : Stmt := top 12
/-- number_text: 0 number -/
def N_number_text : List Str := ["number"]
def ir_number_text : ISs := (.cons (.ret (.prim .str (.cons (.var 0) .nil)))
  .nil)
theorem ck_number_text : ckSs N_number_text nm (defScope st_number_text) ir_number_text (defBody st_number_text) = true := by decide +kernel
theorem sc_number_text : FnScope N_number_text ["number"] (defScope st_number_text) := ⟨rfl, rfl, rfl, by decide +kernel, by decide +kernel, by decide +kernel, by decide +kernel⟩
abbrev st_number_in : Stmt := top 13
/-- number_in: 0 text, 1 digits, 2 sign -/
def N_number_in : List Str := ["text", "digits", "sign"]
def ir_number_in : ISs := (.cons (.asg 1 (.ite (.cmp .Eq (.slc (.var 0) .no (.so (.con (.int 1)))) (.con (.str "-"))) (.slc (.var 0) (.so (.con (.int 1))) .no) (.var 0)))
  (.cons (.ifs (.bool false (.cons (.cmp .Eq (.var 1) (.con (.str ""))) (.cons (.cmp .Gt (.prim .len (.cons (.var 0) .nil)) (.glob 3)) (.cons (.not (.prim .all (.cons (.comp [2] (.nm 2) (.val (.var 1)) .nil (.cmp .In (.var 2) (.glob 1))) .nil))) .nil)))) (.cons (.ret (.con .non))
  .nil) .nil)
  (.cons (.ifs (.bool true (.cons (.cmp .Eq (.idx (.var 1) (.con (.int 0))) (.con (.str "0"))) (.cons (.cmp .NotEq (.var 0) (.con (.str "0"))) .nil))) (.cons (.ret (.con .non))
  .nil) .nil)
  (.cons (.ret (.prim .intL (.cons (.var 0) .nil)))
  .nil))))
theorem ck_number_in : ckSs N_number_in nm (defScope st_number_in) ir_number_in (defBody st_number_in) = true := by decide +kernel
theorem sc_number_in : FnScope N_number_in ["text"] (defScope st_number_in) := ⟨rfl, rfl, rfl, by decide +kernel, by decide +kernel, by decide +kernel, by decide +kernel⟩
abbrev st_short_number : Stmt := top 14
/-- short_number: 0 text, 1 most -/
def N_short_number : List Str := ["text", "most"]
def ir_short_number : ISs := (.cons (.ifs (.cmp .Gt (.bin .Sub (.prim .len (.cons (.var 0) .nil)) (.prim .int (.cons (.cmp .Eq (.slc (.var 0) .no (.so (.con (.int 1)))) (.con (.str "-"))) .nil))) (.var 1)) (.cons (.ret (.con .non))
  .nil) .nil)
  (.cons (.ret (.call 2 (.cons (.var 0) .nil)))
  .nil))
theorem ck_short_number : ckSs N_short_number nm (defScope st_short_number) ir_short_number (defBody st_short_number) = true := by decide +kernel
theorem sc_short_number : FnScope N_short_number ["text", "most"] (defScope st_short_number) := ⟨rfl, rfl, rfl, by decide +kernel, by decide +kernel, by decide +kernel, by decide +kernel⟩
abbrev st_Add_init : Stmt := mem 20 0
/-- Add.__init__: 0 self, 1 target, 2 source, 3 times -/
def N_Add_init : List Str := ["self", "target", "source", "times"]
def ir_Add_init : ISs := (.cons (.ifs (.cmp .Eq (.var 1) (.var 2)) (.cons (.raise_ 3 (.cons (.var 1) .nil))
  .nil) .nil)
  (.cons (.setf 0 9 (.var 1))
  (.cons (.setf 0 10 (.var 2))
  (.cons (.setf 0 11 (.var 3))
  (.cons (.setf 0 12 (.var 3))
  (.cons (.setf 0 13 (.tup (.cons (.var 1) (.cons (.var 2) .nil))))
  .nil))))))
theorem ck_Add_init : ckSs N_Add_init nm (defScope st_Add_init) ir_Add_init (defBody st_Add_init) = true := by decide +kernel
theorem sc_Add_init : FnScope N_Add_init ["self", "target", "source", "times"] (defScope st_Add_init) := ⟨rfl, rfl, rfl, by decide +kernel, by decide +kernel, by decide +kernel, by decide +kernel⟩
abbrev st_Add_eq : Stmt := mem 20 1
/-- Add.__eq__: 0 self, 1 other -/
def N_Add_eq : List Str := ["self", "other"]
def ir_Add_eq : ISs := (.cons (.ret (.bool true (.cons (.op (.isc 20) (.cons (.var 1) .nil)) (.cons (.cmp .Eq (.op (.fld 9) (.cons (.var 0) .nil)) (.op (.fld 9) (.cons (.var 1) .nil))) (.cons (.cmp .Eq (.op (.fld 10) (.cons (.var 0) .nil)) (.op (.fld 10) (.cons (.var 1) .nil))) (.cons (.cmp .Eq (.op (.fld 11) (.cons (.var 0) .nil)) (.op (.fld 11) (.cons (.var 1) .nil))) .nil))))))
  .nil)
theorem ck_Add_eq : ckSs N_Add_eq nm (defScope st_Add_eq) ir_Add_eq (defBody st_Add_eq) = true := by decide +kernel
theorem sc_Add_eq : FnScope N_Add_eq ["self", "other"] (defScope st_Add_eq) := ⟨rfl, rfl, rfl, by decide +kernel, by decide +kernel, by decide +kernel, by decide +kernel⟩
abbrev st_Add_neg : Stmt := mem 20 2
/-- Add.__neg__: 0 self -/
def N_Add_neg : List Str := ["self"]
def ir_Add_neg : ISs := (.cons (.ret (.op (.mk 20 3 [] [.inl 0, .inl 1, .inl 2, .inl 3]) (.cons (.op (.fld 9) (.cons (.var 0) .nil)) (.cons (.op (.fld 10) (.cons (.var 0) .nil)) (.cons (.un .USub (.op (.fld 11) (.cons (.var 0) .nil))) .nil)))))
  .nil)
theorem ck_Add_neg : ckSs N_Add_neg nm (defScope st_Add_neg) ir_Add_neg (defBody st_Add_neg) = true := by decide +kernel
theorem sc_Add_neg : FnScope N_Add_neg ["self"] (defScope st_Add_neg) := ⟨rfl, rfl, rfl, by decide +kernel, by decide +kernel, by decide +kernel, by decide +kernel⟩
abbrev st_Add_text : Stmt := mem 20 7
/-- Add.text: 0 self -/
def N_Add_text : List Str := ["self"]
def ir_Add_text : ISs := (.cons (.ret (.fstr (.cons (.op .fmt (.cons (.op (.fld 9) (.cons (.var 0) .nil)) .nil)) (.cons (.con (.str " += ")) (.cons (.op .fmt (.cons (.call 1 (.cons (.op (.fld 11) (.cons (.var 0) .nil)) .nil)) .nil)) (.cons (.con (.str "*")) (.cons (.op .fmt (.cons (.op (.fld 10) (.cons (.var 0) .nil)) .nil)) .nil)))))))
  .nil)
theorem ck_Add_text : ckSs N_Add_text nm (defScope st_Add_text) ir_Add_text (defBody st_Add_text) = true := by decide +kernel
theorem sc_Add_text : FnScope N_Add_text ["self"] (defScope st_Add_text) := ⟨rfl, rfl, rfl, by decide +kernel, by decide +kernel, by decide +kernel, by decide +kernel⟩
abbrev st_Push_init : Stmt := mem 21 0
/-- Push.__init__: 0 self, 1 target, 2 amount -/
def N_Push_init : List Str := ["self", "target", "amount"]
def ir_Push_init : ISs := (.cons (.setf 0 9 (.var 1))
  (.cons (.setf 0 14 (.var 2))
  (.cons (.setf 0 12 (.var 2))
  (.cons (.setf 0 13 (.tup (.cons (.var 1) .nil)))
  .nil))))
theorem ck_Push_init : ckSs N_Push_init nm (defScope st_Push_init) ir_Push_init (defBody st_Push_init) = true := by decide +kernel
theorem sc_Push_init : FnScope N_Push_init ["self", "target", "amount"] (defScope st_Push_init) := ⟨rfl, rfl, rfl, by decide +kernel, by decide +kernel, by decide +kernel, by decide +kernel⟩
abbrev st_Push_eq : Stmt := mem 21 1
/-- Push.__eq__: 0 self, 1 other -/
def N_Push_eq : List Str := ["self", "other"]
def ir_Push_eq : ISs := (.cons (.ret (.bool true (.cons (.op (.isc 21) (.cons (.var 1) .nil)) (.cons (.cmp .Eq (.op (.fld 9) (.cons (.var 0) .nil)) (.op (.fld 9) (.cons (.var 1) .nil))) (.cons (.cmp .Eq (.op (.fld 14) (.cons (.var 0) .nil)) (.op (.fld 14) (.cons (.var 1) .nil))) .nil)))))
  .nil)
theorem ck_Push_eq : ckSs N_Push_eq nm (defScope st_Push_eq) ir_Push_eq (defBody st_Push_eq) = true := by decide +kernel
theorem sc_Push_eq : FnScope N_Push_eq ["self", "other"] (defScope st_Push_eq) := ⟨rfl, rfl, rfl, by decide +kernel, by decide +kernel, by decide +kernel, by decide +kernel⟩
abbrev st_Push_neg : Stmt := mem 21 2
/-- Push.__neg__: 0 self -/
def N_Push_neg : List Str := ["self"]
def ir_Push_neg : ISs := (.cons (.ret (.op (.mk 21 2 [] [.inl 0, .inl 1, .inl 2]) (.cons (.op (.fld 9) (.cons (.var 0) .nil)) (.cons (.un .USub (.op (.fld 14) (.cons (.var 0) .nil))) .nil))))
  .nil)
theorem ck_Push_neg : ckSs N_Push_neg nm (defScope st_Push_neg) ir_Push_neg (defBody st_Push_neg) = true := by decide +kernel
theorem sc_Push_neg : FnScope N_Push_neg ["self"] (defScope st_Push_neg) := ⟨rfl, rfl, rfl, by decide +kernel, by decide +kernel, by decide +kernel, by decide +kernel⟩
abbrev st_Push_text : Stmt := mem 21 7
/-- Push.text: 0 self -/
def N_Push_text : List Str := ["self"]
def ir_Push_text : ISs := (.cons (.ret (.fstr (.cons (.op .fmt (.cons (.op (.fld 9) (.cons (.var 0) .nil)) .nil)) (.cons (.con (.str " += ")) (.cons (.op .fmt (.cons (.call 1 (.cons (.op (.fld 14) (.cons (.var 0) .nil)) .nil)) .nil)) .nil)))))
  .nil)
theorem ck_Push_text : ckSs N_Push_text nm (defScope st_Push_text) ir_Push_text (defBody st_Push_text) = true := by decide +kernel
theorem sc_Push_text : FnScope N_Push_text ["self"] (defScope st_Push_text) := ⟨rfl, rfl, rfl, by decide +kernel, by decide +kernel, by decide +kernel, by decide +kernel⟩
abbrev st_Turn_init : Stmt := mem 22 0
/-- Turn.__init__: 0 self, 1 target -/
def N_Turn_init : List Str := ["self", "target"]
def ir_Turn_init : ISs := (.cons (.setf 0 9 (.var 1))
  (.cons (.setf 0 13 (.tup (.cons (.var 1) .nil)))
  .nil))
theorem ck_Turn_init : ckSs N_Turn_init nm (defScope st_Turn_init) ir_Turn_init (defBody st_Turn_init) = true := by decide +kernel
theorem sc_Turn_init : FnScope N_Turn_init ["self", "target"] (defScope st_Turn_init) := ⟨rfl, rfl, rfl, by decide +kernel, by decide +kernel, by decide +kernel, by decide +kernel⟩
abbrev st_Turn_eq : Stmt := mem 22 1
/-- Turn.__eq__: 0 self, 1 other -/
def N_Turn_eq : List Str := ["self", "other"]
def ir_Turn_eq : ISs := (.cons (.ret (.bool true (.cons (.op (.isc 22) (.cons (.var 1) .nil)) (.cons (.cmp .Eq (.op (.fld 9) (.cons (.var 0) .nil)) (.op (.fld 9) (.cons (.var 1) .nil))) .nil))))
  .nil)
theorem ck_Turn_eq : ckSs N_Turn_eq nm (defScope st_Turn_eq) ir_Turn_eq (defBody st_Turn_eq) = true := by decide +kernel
theorem sc_Turn_eq : FnScope N_Turn_eq ["self", "other"] (defScope st_Turn_eq) := ⟨rfl, rfl, rfl, by decide +kernel, by decide +kernel, by decide +kernel, by decide +kernel⟩
abbrev st_Turn_neg : Stmt := mem 22 2
/-- Turn.__neg__: 0 self -/
def N_Turn_neg : List Str := ["self"]
def ir_Turn_neg : ISs := (.cons (.ret (.op (.mk 22 1 [] [.inl 0, .inl 1]) (.cons (.op (.fld 9) (.cons (.var 0) .nil)) .nil)))
  .nil)
theorem ck_Turn_neg : ckSs N_Turn_neg nm (defScope st_Turn_neg) ir_Turn_neg (defBody st_Turn_neg) = true := by decide +kernel
theorem sc_Turn_neg : FnScope N_Turn_neg ["self"] (defScope st_Turn_neg) := ⟨rfl, rfl, rfl, by decide +kernel, by decide +kernel, by decide +kernel, by decide +kernel⟩
abbrev st_Turn_text : Stmt := mem 22 6
/-- Turn.text: 0 self -/
def N_Turn_text : List Str := ["self"]
def ir_Turn_text : ISs := (.cons (.ret (.fstr (.cons (.op .fmt (.cons (.op (.fld 9) (.cons (.var 0) .nil)) .nil)) (.cons (.con (.str " = -")) (.cons (.op .fmt (.cons (.op (.fld 9) (.cons (.var 0) .nil)) .nil)) .nil)))))
  .nil)
theorem ck_Turn_text : ckSs N_Turn_text nm (defScope st_Turn_text) ir_Turn_text (defBody st_Turn_text) = true := by decide +kernel
theorem sc_Turn_text : FnScope N_Turn_text ["self"] (defScope st_Turn_text) := ⟨rfl, rfl, rfl, by decide +kernel, by decide +kernel, by decide +kernel, by decide +kernel⟩
abbrev st_scaled_in : Stmt := top 23
/-- scaled_in: 0 target, 1 word, 2 head, 3 star, 4 source, 5 number -/
def N_scaled_in : List Str := ["target", "word", "head", "star", "source", "number"]
def ir_scaled_in : ISs := (.cons (.asgT (.cons (.nm 2) (.cons (.nm 3) (.cons (.nm 4) .nil))) (.meth .partition (.var 1) (.cons (.con (.str "*")) .nil)))
  (.cons (.asg 5 (.call 3 (.cons (.var 2) (.cons (.glob 4) .nil))))
  (.cons (.ifs (.cmp .Is (.var 5) (.con .non)) (.cons (.ret (.con .non))
  .nil) .nil)
  (.cons (.ifs (.cmp .Eq (.var 3) (.con (.str ""))) (.cons (.ret (.op (.mk 21 2 [] [.inl 0, .inl 1, .inl 2]) (.cons (.var 0) (.cons (.var 5) .nil))))
  .nil) .nil)
  (.cons (.ifs (.bool false (.cons (.not (.call 0 (.cons (.var 4) .nil))) (.cons (.cmp .Eq (.var 4) (.var 0)) .nil))) (.cons (.ret (.con .non))
  .nil) .nil)
  (.cons (.ret (.op (.mk 20 3 [] [.inl 0, .inl 1, .inl 2, .inl 3]) (.cons (.var 0) (.cons (.var 4) (.cons (.var 5) .nil)))))
  .nil))))))
theorem ck_scaled_in : ckSs N_scaled_in nm (defScope st_scaled_in) ir_scaled_in (defBody st_scaled_in) = true := by decide +kernel
theorem sc_scaled_in : FnScope N_scaled_in ["target", "word"] (defScope st_scaled_in) := ⟨rfl, rfl, rfl, by decide +kernel, by decide +kernel, by decide +kernel, by decide +kernel⟩
abbrev st_deed_in : Stmt := top 24
/-- deed_in: 0 text, 1 words, 2 target, 3 sign, 4 word -/
def N_deed_in : List Str := ["text", "words", "target", "sign", "word"]
def ir_deed_in : ISs := (.cons (.asg 1 (.meth .split (.var 0) (.cons (.con (.str " ")) .nil)))
  (.cons (.ifs (.bool false (.cons (.cmp .NotEq (.prim .len (.cons (.var 1) .nil)) (.con (.int 3))) (.cons (.not (.call 0 (.cons (.idx (.var 1) (.con (.int 0))) .nil))) .nil))) (.cons (.ret (.con .non))
  .nil) .nil)
  (.cons (.asgT (.cons (.nm 2) (.cons (.nm 3) (.cons (.nm 4) .nil))) (.var 1))
  (.cons (.ifs (.cmp .Eq (.var 3) (.con (.str "+="))) (.cons (.ret (.call 28 (.cons (.var 2) (.cons (.var 4) .nil))))
  .nil) .nil)
  (.cons (.ifs (.bool true (.cons (.cmp .Eq (.var 3) (.con (.str "="))) (.cons (.cmp .Eq (.var 4) (.fstr (.cons (.con (.str "-")) (.cons (.op .fmt (.cons (.var 2) .nil)) .nil)))) .nil))) (.cons (.ret (.op (.mk 22 1 [] [.inl 0, .inl 1]) (.cons (.var 2) .nil)))
  .nil) .nil)
  (.cons (.ret (.con .non))
  .nil))))))
theorem ck_deed_in : ckSs N_deed_in nm (defScope st_deed_in) ir_deed_in (defBody st_deed_in) = true := by decide +kernel
theorem sc_deed_in : FnScope N_deed_in ["text"] (defScope st_deed_in) := ⟨rfl, rfl, rfl, by decide +kernel, by decide +kernel, by decide +kernel, by decide +kernel⟩
abbrev st_undone : Stmt := top 26
/-- undone: 0 deeds, 1 deed -/
def N_undone : List Str := ["deeds", "deed"]
def ir_undone : ISs := (.cons (.ret (.prim .tuple (.cons (.comp [1] (.nm 1) (.val (.op .rev (.cons (.var 0) .nil))) .nil (.op (.un .USub) (.cons (.var 1) .nil))) .nil)))
  .nil)
theorem ck_undone : ckSs N_undone nm (defScope st_undone) ir_undone (defBody st_undone) = true := by decide +kernel
theorem sc_undone : FnScope N_undone ["deeds"] (defScope st_undone) := ⟨rfl, rfl, rfl, by decide +kernel, by decide +kernel, by decide +kernel, by decide +kernel⟩
abbrev st_Program_init : Stmt := mem 27 0
/-- Program.__init__: 0 self, 1 deeds, 2 deed, 3 name -/
def N_Program_init : List Str := ["self", "deeds", "deed", "name"]
def ir_Program_init : ISs := (.cons (.setf 0 15 (.prim .tuple (.cons (.var 1) .nil)))
  (.cons (.setf 0 16 (.prim .tuple (.cons (.op (.srt 2 3 13) (.cons (.op (.fld 15) (.cons (.var 0) .nil)) .nil)) .nil)))
  .nil))
theorem ck_Program_init : ckSs N_Program_init nm (defScope st_Program_init) ir_Program_init (defBody st_Program_init) = true := by decide +kernel
theorem sc_Program_init : FnScope N_Program_init ["self", "deeds"] (defScope st_Program_init) := ⟨rfl, rfl, rfl, by decide +kernel, by decide +kernel, by decide +kernel, by decide +kernel⟩
abbrev st_Program_eq : Stmt := mem 27 1
/-- Program.__eq__: 0 self, 1 other -/
def N_Program_eq : List Str := ["self", "other"]
def ir_Program_eq : ISs := (.cons (.ret (.bool true (.cons (.op (.isc 23) (.cons (.var 1) .nil)) (.cons (.op .eqT (.cons (.op (.fld 15) (.cons (.var 0) .nil)) (.cons (.op (.fld 15) (.cons (.var 1) .nil)) .nil))) .nil))))
  .nil)
theorem ck_Program_eq : ckSs N_Program_eq nm (defScope st_Program_eq) ir_Program_eq (defBody st_Program_eq) = true := by decide +kernel
theorem sc_Program_eq : FnScope N_Program_eq ["self", "other"] (defScope st_Program_eq) := ⟨rfl, rfl, rfl, by decide +kernel, by decide +kernel, by decide +kernel, by decide +kernel⟩
abbrev st_Program_len : Stmt := mem 27 2
/-- Program.__len__: 0 self -/
def N_Program_len : List Str := ["self"]
def ir_Program_len : ISs := (.cons (.ret (.prim .len (.cons (.op (.fld 15) (.cons (.var 0) .nil)) .nil)))
  .nil)
theorem ck_Program_len : ckSs N_Program_len nm (defScope st_Program_len) ir_Program_len (defBody st_Program_len) = true := by decide +kernel
theorem sc_Program_len : FnScope N_Program_len ["self"] (defScope st_Program_len) := ⟨rfl, rfl, rfl, by decide +kernel, by decide +kernel, by decide +kernel, by decide +kernel⟩
abbrev st_Program_neg : Stmt := mem 27 7
/-- Program.__neg__: 0 self -/
def N_Program_neg : List Str := ["self"]
def ir_Program_neg : ISs := (.cons (.ret (.op (.mk 23 1 [] [.inl 0, .inl 1]) (.cons (.call 30 (.cons (.op (.fld 15) (.cons (.var 0) .nil)) .nil)) .nil)))
  .nil)
theorem ck_Program_neg : ckSs N_Program_neg nm (defScope st_Program_neg) ir_Program_neg (defBody st_Program_neg) = true := by decide +kernel
theorem sc_Program_neg : FnScope N_Program_neg ["self"] (defScope st_Program_neg) := ⟨rfl, rfl, rfl, by decide +kernel, by decide +kernel, by decide +kernel, by decide +kernel⟩
abbrev st_Program_text : Stmt := mem 27 14
/-- Program.text: 0 self, 1 deed -/
def N_Program_text : List Str := ["self", "deed"]
def ir_Program_text : ISs := (.cons (.ret (.meth .join (.con (.str "\n")) (.cons (.comp [1] (.nm 1) (.val (.op (.fld 15) (.cons (.var 0) .nil))) .nil (.op (.prp 26) (.cons (.var 1) .nil))) .nil)))
  .nil)
theorem ck_Program_text : ckSs N_Program_text nm (defScope st_Program_text) ir_Program_text (defBody st_Program_text) = true := by decide +kernel
theorem sc_Program_text : FnScope N_Program_text ["self"] (defScope st_Program_text) := ⟨rfl, rfl, rfl, by decide +kernel, by decide +kernel, by decide +kernel, by decide +kernel⟩
abbrev st_Program_read : Stmt := mem 27 15
/-- Program.read: 0 cls, 1 text, 2 deeds, 3 line, 4 one, 5 deed -/
def N_Program_read : List Str := ["cls", "text", "deeds", "line", "one", "deed"]
def ir_Program_read : ISs := (.cons (.cellify 2 (.lst .nil))
  (.cons (.for_ (.tp (.cons (.nm 3) (.cons (.nm 4) .nil))) (.enum (.ite (.cmp .NotEq (.var 1) (.con (.str ""))) (.meth .split (.var 1) (.cons (.con (.str "\n")) .nil)) (.lst .nil))) (.cons (.asg 5 (.call 29 (.cons (.var 4) .nil)))
  (.cons (.ifs (.cmp .Is (.var 5) (.con .non)) (.cons (.raise_ 7 (.cons (.var 3) .nil))
  .nil) .nil)
  (.cons (.expr (.methv .append 2 (.cons (.var 5) .nil)))
  .nil))))
  (.cons (.ret (.mkv 23 0 1 [] [.inl 0, .inl 1] (.cons (.var 2) .nil)))
  .nil)))
theorem ck_Program_read : ckSs N_Program_read nm (defScope st_Program_read) ir_Program_read (defBody st_Program_read) = true := by decide +kernel
theorem sc_Program_read : FnScope N_Program_read ["cls", "text"] (defScope st_Program_read) := ⟨rfl, rfl, rfl, by decide +kernel, by decide +kernel, by decide +kernel, by decide +kernel⟩
abbrev st_l_feed : Stmt := top 29
/-- _law_feed: 0 _law_script, 1 _law_k, 2 _law_cell, 3 _law_seed -/
def N_l_feed : List Str := ["_law_script", "_law_k", "_law_cell", "_law_seed"]
def ir_l_feed : ISs := (.cons (.asg 2 (.bin .Add (.bin .Mult (.con (.int 7411)) (.var 1)) (.con (.int 47))))
  (.cons (.ifs (.cmp .Lt (.var 1) (.prim .len (.cons (.var 0) .nil))) (.cons (.asg 2 (.prim .abs (.cons (.idx (.var 0) (.var 1)) .nil)))
  .nil) (.cons (.ifs (.cmp .Gt (.prim .len (.cons (.var 0) .nil)) (.con (.int 0))) (.cons (.asg 2 (.bin .Add (.var 2) (.bin .Mult (.bin .Mod (.prim .abs (.cons (.idx (.var 0) (.bin .Mod (.var 1) (.prim .len (.cons (.var 0) .nil)))) .nil)) (.con (.int 2147483629))) (.con (.int 40009)))))
  .nil) .nil)
  .nil))
  (.cons (.asg 3 (.bin .Add (.bin .Mod (.bin .Add (.bin .Mult (.bin .Mod (.var 2) (.con (.int 2147483629))) (.con (.int 48271))) (.bin .Mult (.con (.int 30323)) (.var 1))) (.con (.int 2147483629))) (.con (.int 1))))
  (.cons (.ret (.lst (.cons (.bin .Mult (.var 2) (.prim .int (.cons (.cmp .GtE (.var 2) (.bin .Pow (.con (.int 10)) (.con (.int 18)))) .nil))) (.cons (.var 3) (.cons (.con (.int 0)) .nil)))))
  .nil))))
theorem ck_l_feed : ckSs N_l_feed nm (defScope st_l_feed) ir_l_feed (defBody st_l_feed) = true := by decide +kernel
theorem sc_l_feed : FnScope N_l_feed ["_law_script", "_law_k"] (defScope st_l_feed) := ⟨rfl, rfl, rfl, by decide +kernel, by decide +kernel, by decide +kernel, by decide +kernel⟩
abbrev st_l_take : Stmt := top 30
/-- _law_take: 0 _law_feed_here, 1 _law_many, 2 _law_digit, 3 _law_mix -/
def N_l_take : List Str := ["_law_feed_here", "_law_many", "_law_digit", "_law_mix"]
def ir_l_take : ISs := (.cons (.ifs (.cmp .Gt (.idx (.var 0) (.con (.int 0))) (.con (.int 0))) (.cons (.asg 2 (.bin .Mod (.idx (.var 0) (.con (.int 0))) (.var 1)))
  (.cons (.seti 0 (.con (.int 0)) (.bin .FloorDiv (.idx (.var 0) (.con (.int 0))) (.var 1)))
  (.cons (.retv 2)
  .nil))) .nil)
  (.cons (.seti 0 (.con (.int 2)) (.bin .Add (.idx (.var 0) (.con (.int 2))) (.con (.int 1))))
  (.cons (.asg 3 (.bin .Mod (.bin .Mult (.bin .Add (.idx (.var 0) (.con (.int 1))) (.bin .Mult (.con (.int 104729)) (.idx (.var 0) (.con (.int 2))))) (.con (.int 69623))) (.con (.int 2147483647))))
  (.cons (.seti 0 (.con (.int 1)) (.bin .Add (.bin .Mod (.bin .Add (.bin .Mult (.var 3) (.con (.int 48271))) (.con (.int 30103))) (.con (.int 2147483629))) (.con (.int 1))))
  (.cons (.ret (.bin .Mod (.bin .FloorDiv (.bin .Add (.bin .Mult (.var 3) (.con (.int 2147483647))) (.idx (.var 0) (.con (.int 1)))) (.con (.int 8191))) (.var 1)))
  .nil)))))
theorem ck_l_take : ckSs N_l_take nm (defScope st_l_take) ir_l_take (defBody st_l_take) = true := by decide +kernel
theorem sc_l_take : FnScope N_l_take ["_law_feed_here", "_law_many"] (defScope st_l_take) := ⟨rfl, rfl, rfl, by decide +kernel, by decide +kernel, by decide +kernel, by decide +kernel⟩
abbrev st_l_names : Stmt := top 31
/-- _law_names: 0 _law_feed_here, 1 _law_many, 2 _law_letters, 3 _law_marks, 4 _law_size, 5 _law_stem, 6 _law_at, 7 _law_start, 8 _law_longer, 9 _law_found, 10 _law_k, 11 _law_mark, 12 _law_more -/
def N_l_names : List Str := ["_law_feed_here", "_law_many", "_law_letters", "_law_marks", "_law_size", "_law_stem", "_law_at", "_law_start", "_law_longer", "_law_found", "_law_k", "_law_mark", "_law_more"]
def ir_l_names : ISs := (.cons (.asg 2 (.con (.str "abcdefghijklmnopqrstuvwxyz")))
  (.cons (.asg 3 (.bin .Add (.var 2) (.con (.str "0123456789"))))
  (.cons (.asg 4 (.call 301 (.cons (.var 0) (.cons (.con (.int 7)) .nil))))
  (.cons (.asg 5 (.meth .join (.con (.str "")) (.cons (.comp [6] (.nm 6) (.range1 (.var 4)) .nil (.idx (.var 3) (.call 301 (.cons (.var 0) (.cons (.bin .Add (.con (.int 26)) (.bin .Mult (.con (.int 10)) (.prim .int (.cons (.cmp .Gt (.var 6) (.con (.int 0))) .nil)))) .nil))))) .nil)))
  (.cons (.par [6, 7, 8] (.cons (.call 301 (.cons (.var 0) (.cons (.bin .Add (.prim .len (.cons (.var 5) .nil)) (.con (.int 1))) .nil))) (.cons (.call 301 (.cons (.var 0) (.cons (.con (.int 26)) .nil))) (.cons (.call 301 (.cons (.var 0) (.cons (.con (.int 2)) .nil))) .nil))))
  (.cons (.asg 9 (.lst .nil))
  (.cons (.for_ (.nm 10) (.range1 (.var 1)) (.cons (.asg 11 (.idx (.var 2) (.bin .Mod (.bin .Add (.var 7) (.bin .Mult (.con (.int 7)) (.var 10))) (.con (.int 26)))))
  (.cons (.asg 12 (.bin .Mult (.var 11) (.bin .Mod (.bin .Mult (.var 8) (.var 10)) (.con (.int 2)))))
  (.cons (.expr (.methv .append 9 (.cons (.bin .Add (.bin .Add (.bin .Add (.slc (.var 5) .no (.so (.var 6))) (.var 11)) (.slc (.var 5) (.so (.var 6)) .no)) (.var 12)) .nil)))
  .nil))))
  (.cons (.retv 9)
  .nil))))))))
theorem ck_l_names : ckSs N_l_names nm (defScope st_l_names) ir_l_names (defBody st_l_names) = true := by decide +kernel
theorem sc_l_names : FnScope N_l_names ["_law_feed_here", "_law_many"] (defScope st_l_names) := ⟨rfl, rfl, rfl, by decide +kernel, by decide +kernel, by decide +kernel, by decide +kernel⟩
abbrev st_l_number : Stmt := top 32
/-- _law_number: 0 _law_feed_here, 1 _law_way, 2 _law_size, 3 _law_number_here -/
def N_l_number : List Str := ["_law_feed_here", "_law_way", "_law_size", "_law_number_here"]
def ir_l_number : ISs := (.cons (.asg 1 (.call 301 (.cons (.var 0) (.cons (.con (.int 6)) .nil))))
  (.cons (.ifs (.cmp .Lt (.var 1) (.con (.int 3))) (.cons (.ret (.bin .Sub (.call 301 (.cons (.var 0) (.cons (.con (.int 9)) .nil))) (.con (.int 4))))
  .nil) .nil)
  (.cons (.asg 2 (.ite (.cmp .Lt (.var 1) (.con (.int 5))) (.idx (.lst (.cons (.con (.int 0)) (.cons (.con (.int 1)) (.cons (.con (.int 10)) (.cons (.con (.int 99)) (.cons (.bin .Pow (.con (.int 10)) (.con (.int 9))) .nil)))))) (.var 1)) (.bin .Mult (.call 301 (.cons (.var 0) (.cons (.bin .Pow (.con (.int 10)) (.con (.int 10))) .nil))) (.bin .Pow (.con (.int 10)) (.con (.int 10))))))
  (.cons (.asg 3 (.bin .Add (.var 2) (.bin .Mult (.call 301 (.cons (.var 0) (.cons (.bin .Pow (.con (.int 10)) (.con (.int 10))) .nil))) (.prim .int (.cons (.cmp .Eq (.var 1) (.con (.int 5))) .nil)))))
  (.cons (.ret (.bin .Mult (.var 3) (.idx (.lst (.cons (.con (.int 1)) (.cons (.bin .Sub (.con (.int 0)) (.con (.int 1))) .nil))) (.call 301 (.cons (.var 0) (.cons (.con (.int 2)) .nil))))))
  .nil)))))
theorem ck_l_number : ckSs N_l_number nm (defScope st_l_number) ir_l_number (defBody st_l_number) = true := by decide +kernel
theorem sc_l_number : FnScope N_l_number ["_law_feed_here"] (defScope st_l_number) := ⟨rfl, rfl, rfl, by decide +kernel, by decide +kernel, by decide +kernel, by decide +kernel⟩
abbrev st_l_deed : Stmt := top 33
/-- _law_deed: 0 _law_feed_here, 1 _law_names_here, 2 _law_way, 3 _law_number_here, 4 _law_at -/
def N_l_deed : List Str := ["_law_feed_here", "_law_names_here", "_law_way", "_law_number_here", "_law_at"]
def ir_l_deed : ISs := (.cons (.par [2, 3] (.cons (.call 301 (.cons (.var 0) (.cons (.con (.int 5)) .nil))) (.cons (.call 303 (.cons (.var 0) .nil)) .nil)))
  (.cons (.asg 4 (.call 301 (.cons (.var 0) (.cons (.prim .len (.cons (.var 1) .nil)) .nil))))
  (.cons (.ifs (.bool true (.cons (.cmp .Lt (.var 2) (.con (.int 3))) (.cons (.cmp .Gt (.prim .len (.cons (.var 1) .nil)) (.con (.int 1))) .nil))) (.cons (.ret (.tup (.cons (.con (.str "add")) (.cons (.idx (.var 1) (.var 4)) (.cons (.idx (.var 1) (.bin .Mod (.bin .Add (.bin .Add (.var 4) (.con (.int 1))) (.call 301 (.cons (.var 0) (.cons (.bin .Sub (.prim .len (.cons (.var 1) .nil)) (.con (.int 1))) .nil)))) (.prim .len (.cons (.var 1) .nil)))) (.cons (.var 3) .nil))))))
  .nil) .nil)
  (.cons (.ret (.ite (.cmp .Eq (.var 2) (.con (.int 3))) (.tup (.cons (.con (.str "push")) (.cons (.idx (.var 1) (.var 4)) (.cons (.var 3) .nil)))) (.tup (.cons (.con (.str "turn")) (.cons (.idx (.var 1) (.var 4)) .nil)))))
  .nil))))
theorem ck_l_deed : ckSs N_l_deed nm (defScope st_l_deed) ir_l_deed (defBody st_l_deed) = true := by decide +kernel
theorem sc_l_deed : FnScope N_l_deed ["_law_feed_here", "_law_names_here"] (defScope st_l_deed) := ⟨rfl, rfl, rfl, by decide +kernel, by decide +kernel, by decide +kernel, by decide +kernel⟩
abbrev st_l_made : Stmt := top 34
/-- _law_made: 0 _law_deed_here -/
def N_l_made : List Str := ["_law_deed_here"]
def ir_l_made : ISs := (.cons (.ifs (.cmp .Eq (.idx (.var 0) (.con (.int 0))) (.con (.str "add"))) (.cons (.ret (.op (.mk 20 3 [] [.inl 0, .inl 1, .inl 2, .inl 3]) (.cons (.idx (.var 0) (.con (.int 1))) (.cons (.idx (.var 0) (.con (.int 2))) (.cons (.idx (.var 0) (.con (.int 3))) .nil)))))
  .nil) .nil)
  (.cons (.ret (.ite (.cmp .Eq (.idx (.var 0) (.con (.int 0))) (.con (.str "push"))) (.op (.mk 21 2 [] [.inl 0, .inl 1, .inl 2]) (.cons (.idx (.var 0) (.con (.int 1))) (.cons (.idx (.var 0) (.con (.int 2))) .nil))) (.op (.mk 22 1 [] [.inl 0, .inl 1]) (.cons (.idx (.var 0) (.con (.int 1))) .nil))))
  .nil))
theorem ck_l_made : ckSs N_l_made nm (defScope st_l_made) ir_l_made (defBody st_l_made) = true := by decide +kernel
theorem sc_l_made : FnScope N_l_made ["_law_deed_here"] (defScope st_l_made) := ⟨rfl, rfl, rfl, by decide +kernel, by decide +kernel, by decide +kernel, by decide +kernel⟩
abbrev st_l_shown : Stmt := top 35
/-- _law_shown: 0 _law_deed_here -/
def N_l_shown : List Str := ["_law_deed_here"]
def ir_l_shown : ISs := (.cons (.ifs (.op (.isc 20) (.cons (.var 0) .nil)) (.cons (.ret (.tup (.cons (.con (.str "add")) (.cons (.op (.fld 9) (.cons (.var 0) .nil)) (.cons (.op (.fld 10) (.cons (.var 0) .nil)) (.cons (.op (.fld 11) (.cons (.var 0) .nil)) .nil))))))
  .nil) .nil)
  (.cons (.ifs (.op (.isc 21) (.cons (.var 0) .nil)) (.cons (.ret (.tup (.cons (.con (.str "push")) (.cons (.op (.fld 9) (.cons (.var 0) .nil)) (.cons (.op (.fld 14) (.cons (.var 0) .nil)) .nil)))))
  .nil) .nil)
  (.cons (.ret (.ite (.op (.isc 22) (.cons (.var 0) .nil)) (.tup (.cons (.con (.str "turn")) (.cons (.op (.fld 9) (.cons (.var 0) .nil)) .nil))) (.tup (.cons (.con (.str "none")) .nil))))
  .nil)))
theorem ck_l_shown : ckSs N_l_shown nm (defScope st_l_shown) ir_l_shown (defBody st_l_shown) = true := by decide +kernel
theorem sc_l_shown : FnScope N_l_shown ["_law_deed_here"] (defScope st_l_shown) := ⟨rfl, rfl, rfl, by decide +kernel, by decide +kernel, by decide +kernel, by decide +kernel⟩
abbrev st_l_text : Stmt := top 36
/-- _law_text: 0 _law_deed_here -/
def N_l_text : List Str := ["_law_deed_here"]
def ir_l_text : ISs := (.cons (.ifs (.cmp .Eq (.idx (.var 0) (.con (.int 0))) (.con (.str "add"))) (.cons (.ret (.bin .Add (.bin .Add (.bin .Add (.bin .Add (.idx (.var 0) (.con (.int 1))) (.con (.str " += "))) (.prim .str (.cons (.idx (.var 0) (.con (.int 3))) .nil))) (.con (.str "*"))) (.idx (.var 0) (.con (.int 2)))))
  .nil) .nil)
  (.cons (.ret (.bin .Add (.idx (.var 0) (.con (.int 1))) (.ite (.cmp .Eq (.idx (.var 0) (.con (.int 0))) (.con (.str "push"))) (.bin .Add (.con (.str " += ")) (.prim .str (.cons (.idx (.var 0) (.con (.int 2))) .nil))) (.bin .Add (.con (.str " = -")) (.idx (.var 0) (.con (.int 1)))))))
  .nil))
theorem ck_l_text : ckSs N_l_text nm (defScope st_l_text) ir_l_text (defBody st_l_text) = true := by decide +kernel
theorem sc_l_text : FnScope N_l_text ["_law_deed_here"] (defScope st_l_text) := ⟨rfl, rfl, rfl, by decide +kernel, by decide +kernel, by decide +kernel, by decide +kernel⟩
abbrev st_law : Stmt := top 37
/-- law: 0 _law_script, 1 _law_k, 2 _law_feed_here, 3 _law_names_here, 4 _law_deeds, 5 _law_turn, 6 _law_program, 7 _law_line, 8 _law_deed_here, 9 _law_found, 10 _law_back, 11 _law_menu, 12 _law_long -/
def N_law : List Str := ["_law_script", "_law_k", "_law_feed_here", "_law_names_here", "_law_deeds", "_law_turn", "_law_program", "_law_line", "_law_deed_here", "_law_found", "_law_back", "_law_menu", "_law_long"]
def ir_law : ISs := (.cons (.for_ (.nm 1) (.range1 (.prim .max (.cons (.con (.int 1)) (.cons (.prim .min (.cons (.con (.int 5)) (.cons (.prim .len (.cons (.var 0) .nil)) .nil))) .nil)))) (.cons (.cellify 2 (.call 300 (.cons (.var 0) (.cons (.var 1) .nil))))
  (.cons (.asg 3 (.call 302 (.cons (.var 2) (.cons (.bin .Add (.con (.int 2)) (.call 301 (.cons (.var 2) (.cons (.con (.int 5)) .nil)))) .nil))))
  (.cons (.asg 4 (.comp [5] (.nm 5) (.range1 (.call 301 (.cons (.var 2) (.cons (.con (.int 13)) .nil)))) .nil (.call 304 (.cons (.var 2) (.cons (.var 3) .nil)))))
  (.cons (.par [6, 7] (.cons (.op (.mk 23 1 [] [.inl 0, .inl 1]) (.cons (.comp [8] (.nm 8) (.val (.var 4)) .nil (.call 305 (.cons (.var 8) .nil))) .nil)) (.cons (.meth .join (.con (.str "\n")) (.cons (.comp [8] (.nm 8) (.val (.var 4)) .nil (.call 307 (.cons (.var 8) .nil))) .nil)) .nil)))
  (.cons (.asg 9 (.op (.cm 23 29 1 [] [.inl 0, .inl 1]) (.cons (.var 7) .nil)))
  (.cons (.ifs (.bool false (.cons (.cmp .NotEq (.prim .repr (.cons (.op (.prp 26) (.cons (.var 6) .nil)) .nil)) (.prim .repr (.cons (.var 7) .nil))) (.cons (.not (.op (.isc 23) (.cons (.var 9) .nil))) (.cons (.op .neI (.cons (.var 9) (.cons (.var 6) .nil))) .nil)))) (.cons (.ret (.con (.bl false)))
  .nil) .nil)
  (.cons (.ifs (.bool false (.cons (.cmp .NotEq (.comp [8] (.nm 8) (.val (.op (.fld 15) (.cons (.var 9) .nil))) .nil (.call 306 (.cons (.var 8) .nil))) (.var 4)) (.cons (.cmp .NotEq (.prim .repr (.cons (.op (.prp 26) (.cons (.var 9) .nil)) .nil)) (.prim .repr (.cons (.var 7) .nil))) .nil))) (.cons (.ret (.con (.bl false)))
  .nil) .nil)
  (.cons (.asg 10 (.comp [8] (.nm 8) (.val (.op .rev (.cons (.var 4) .nil))) .nil (.ite (.cmp .Eq (.idx (.var 8) (.con (.int 0))) (.con (.str "turn"))) (.var 8) (.bin .Add (.slc (.var 8) .no (.so (.un .USub (.con (.int 1))))) (.tup (.cons (.bin .Sub (.con (.int 0)) (.idx (.var 8) (.un .USub (.con (.int 1))))) .nil))))))
  (.cons (.ifs (.bool false (.cons (.cmp .NotEq (.op (.prp 26) (.cons (.op (.un .USub) (.cons (.var 9) .nil)) .nil)) (.meth .join (.con (.str "\n")) (.cons (.comp [8] (.nm 8) (.val (.var 10)) .nil (.call 307 (.cons (.var 8) .nil))) .nil))) (.cons (.op .neI (.cons (.op (.cm 23 29 1 [] [.inl 0, .inl 1]) (.cons (.op (.prp 26) (.cons (.op (.un .USub) (.cons (.var 9) .nil)) .nil)) .nil)) (.cons (.op (.un .USub) (.cons (.var 6) .nil)) .nil))) .nil))) (.cons (.ret (.con (.bl false)))
  .nil) .nil)
  (.cons (.asg 11 (.lst (.cons (.tup (.cons (.con (.str "turn")) (.cons (.con (.str "x")) .nil))) (.cons (.tup (.cons (.con (.str "push")) (.cons (.con (.str "y")) (.cons (.bin .Sub (.con (.int 0)) (.con (.int 7))) .nil)))) (.cons (.tup (.cons (.con (.str "add")) (.cons (.con (.str "x")) (.cons (.con (.str "y")) (.cons (.con (.int 5)) .nil))))) (.cons (.tup (.cons (.con (.str "push")) (.cons (.con (.str "x")) (.cons (.con (.int 0)) .nil)))) .nil))))))
  (.cons (.asg 12 (.comp [5] (.nm 5) (.range1 (.bin .Sub (.con (.int 200)) (.call 301 (.cons (.var 2) (.cons (.con (.int 3)) .nil))))) .nil (.idx (.var 11) (.call 301 (.cons (.var 2) (.cons (.con (.int 4)) .nil))))))
  (.cons (.asg 7 (.meth .join (.con (.str "\n")) (.cons (.comp [8] (.nm 8) (.val (.var 12)) .nil (.call 307 (.cons (.var 8) .nil))) .nil)))
  (.cons (.asg 9 (.op (.cm 23 29 1 [] [.inl 0, .inl 1]) (.cons (.var 7) .nil)))
  (.cons (.ifs (.bool false (.cons (.cmp .NotEq (.comp [8] (.nm 8) (.val (.op (.fld 15) (.cons (.var 9) .nil))) .nil (.call 306 (.cons (.var 8) .nil))) (.var 12)) (.cons (.cmp .NotEq (.op (.prp 26) (.cons (.var 9) .nil)) (.var 7)) .nil))) (.cons (.ret (.con (.bl false)))
  .nil) .nil)
  .nil)))))))))))))))
  (.cons (.ret (.bool true (.cons (.cmp .Eq (.op .lenI (.cons (.op (.cm 23 29 0 [0] [.inl 0, .inl 1]) (.cons (.con (.str "")) .nil)) .nil)) (.con (.int 0))) (.cons (.cmp .Eq (.op (.prp 26) (.cons (.op (.mk 23 0 [] [.inl 0, .inr (.tup [])]) .nil) .nil)) (.con (.str ""))) .nil))))
  .nil))
theorem ck_law : ckSs N_law nm (defScope st_law) ir_law (defBody st_law) = true := by decide +kernel
theorem sc_law : FnScope N_law ["_law_script"] (defScope st_law) := ⟨rfl, rfl, rfl, by decide +kernel, by decide +kernel, by decide +kernel, by decide +kernel⟩
end Vm.K26

namespace Vm.K26
open PySem PySem.Spec L2 Vm Vm.Lib
open PyProof.Rows hiding St
def fnS : Nat → SpT
  | 0 => spIsNm
  | 1 => spNumTxt
  | 2 => spNumIn
  | 3 => spShort
  | 5000 => spAddI
  | 5200 => spIni 21 gPush
  | 5400 => spIni 22 gTurn
  | 5001 => spSame 20
  | 5201 => spSame 21
  | 5401 => spSame 22
  | 5002 => spNeg 20
  | 5202 => spNeg 21
  | 5402 => spNeg 22
  | 5026 => spText 20
  | 5226 => spText 21
  | 5426 => spText 22
  | 28 => spScaled
  | 29 => spDeedIn
  | 30 => spUndone
  | 5600 => spPI
  | 5601 => spPE
  | 5606 => spPLen
  | 5602 => spPNeg
  | 5626 => spPText
  | 5629 => spRead
  | 300 => spFeed
  | 301 => spTake
  | 302 => spNames
  | 303 => spNumber
  | 304 => spDeed
  | 305 => spMade
  | 306 => spShown
  | 307 => spLText
  | 308 => lawSp 63
  | _ => fun _ _ _ _ => False
def pls : Nat → List (Nat × List Nat × Pl)
  | 0 => [(1, [], [.inl 0])]
  | 1 => [(1, [], [.inl 0])]
  | 2 => [(1, [], [.inl 0])]
  | 3 => [(2, [], [.inl 0, .inl 1])]
  | 5000 => [(4, [], [.inl 0, .inl 1, .inl 2, .inl 3])]
  | 5200 => [(3, [], [.inl 0, .inl 1, .inl 2])]
  | 5400 => [(2, [], [.inl 0, .inl 1])]
  | 5001 => [(2, [], [.inl 0, .inl 1])]
  | 5201 => [(2, [], [.inl 0, .inl 1])]
  | 5401 => [(2, [], [.inl 0, .inl 1])]
  | 5002 => [(1, [], [.inl 0])]
  | 5202 => [(1, [], [.inl 0])]
  | 5402 => [(1, [], [.inl 0])]
  | 5026 => [(1, [], [.inl 0])]
  | 5226 => [(1, [], [.inl 0])]
  | 5426 => [(1, [], [.inl 0])]
  | 28 => [(2, [], [.inl 0, .inl 1])]
  | 29 => [(1, [], [.inl 0])]
  | 30 => [(1, [], [.inl 0])]
  | 5600 => [(2, [], [.inl 0, .inl 1]), (1, [], [.inl 0, .inr (.tup [])])]
  | 5601 => [(2, [], [.inl 0, .inl 1])]
  | 5606 => [(1, [], [.inl 0])]
  | 5602 => [(1, [], [.inl 0])]
  | 5626 => [(1, [], [.inl 0])]
  | 5629 => [(2, [], [.inl 0, .inl 1]), (1, [0], [.inl 0, .inl 1])]
  | 300 => [(2, [], [.inl 0, .inl 1])]
  | 301 => [(2, [], [.inl 0, .inl 1])]
  | 302 => [(2, [], [.inl 0, .inl 1])]
  | 303 => [(1, [], [.inl 0])]
  | 304 => [(2, [], [.inl 0, .inl 1])]
  | 305 => [(1, [], [.inl 0])]
  | 306 => [(1, [], [.inl 0])]
  | 307 => [(1, [], [.inl 0])]
  | 308 => [(1, [], [.inl 0])]
  | _ => []
def T : CT := { fld := [(20, 9), (20, 10), (20, 11), (20, 12), (20, 13), (21, 9), (21, 14), (21, 12), (21, 13), (22, 9), (22, 13), (23, 15), (23, 16)], mth := [(20, 0), (21, 0), (22, 0), (23, 0), (20, 1), (21, 1), (22, 1), (23, 1), (20, 2), (21, 2), (22, 2), (23, 2), (23, 6)], mak := [20, 21, 22, 23], isn := [20, 21, 22, 23], isi := [(20, 20), (20, 21), (20, 22), (21, 20), (21, 21), (21, 22), (22, 20), (22, 21), (22, 22), (23, 23)], ne := [23], exc := [3, 7], prp := [(20, 26), (21, 26), (22, 26), (23, 26)], cmt := [(23, 29)] }
def L : LawC := ⟨nm, [0, 1, 2, 3, 5000, 5200, 5400, 5001, 5201, 5401, 5002, 5202, 5402, 5026, 5226, 5426, 28, 29, 30, 5600, 5601, 5606, 5602, 5626, 5629, 300, 301, 302, 303, 304, 305, 306, 307, 308], fnS, glVals, T, fun f => decide (f < 1000), pls⟩
abbrev cx_is_name : Ctx := L.cx 0
abbrev cx_number_text : Ctx := L.cx 1
abbrev cx_number_in : Ctx := L.cx 2
abbrev cx_short_number : Ctx := L.cx 3
abbrev cx_Add_init : Ctx := L.cx 4
abbrev cx_Push_init : Ctx := L.cx 5
abbrev cx_Turn_init : Ctx := L.cx 6
abbrev cx_Add_eq : Ctx := L.cx 7
abbrev cx_Push_eq : Ctx := L.cx 8
abbrev cx_Turn_eq : Ctx := L.cx 9
abbrev cx_Add_neg : Ctx := L.cx 10
abbrev cx_Push_neg : Ctx := L.cx 11
abbrev cx_Turn_neg : Ctx := L.cx 12
abbrev cx_Add_text : Ctx := L.cx 13
abbrev cx_Push_text : Ctx := L.cx 14
abbrev cx_Turn_text : Ctx := L.cx 15
abbrev cx_scaled_in : Ctx := L.cx 16
abbrev cx_deed_in : Ctx := L.cx 17
abbrev cx_undone : Ctx := L.cx 18
abbrev cx_Program_init : Ctx := L.cx 19
abbrev cx_Program_eq : Ctx := L.cx 20
abbrev cx_Program_len : Ctx := L.cx 21
abbrev cx_Program_neg : Ctx := L.cx 22
abbrev cx_Program_text : Ctx := L.cx 23
abbrev cx_Program_read : Ctx := L.cx 24
abbrev cx_l_feed : Ctx := L.cx 25
abbrev cx_l_take : Ctx := L.cx 26
abbrev cx_l_names : Ctx := L.cx 27
abbrev cx_l_number : Ctx := L.cx 28
abbrev cx_l_deed : Ctx := L.cx 29
abbrev cx_l_made : Ctx := L.cx 30
abbrev cx_l_shown : Ctx := L.cx 31
abbrev cx_l_text : Ctx := L.cx 32
abbrev cx_law : Ctx := L.cx 33
end Vm.K26

-- mac2
open PySem PySem.Spec L2 Vm Vm.Lib
local macro_rules | `(tactic| walk_at "vm") => `(tactic| (repeat (first
  | (with_reducible refine ss_cons ?_) | (with_reducible refine ss_nil ?_) | (with_reducible refine s_asg ?_) | (with_reducible refine s_ret ?_) | (with_reducible refine s_ifs ?_) | (with_reducible refine s_expr ?_) | (with_reducible refine s_pass ?_) | (with_reducible refine s_par ?_) | (with_reducible refine s_asgT ?_) | (with_reducible refine s_retN ?_) | (with_reducible refine s_setf ?_) | (with_reducible refine e_con0 ?_) | (with_reducible refine e_bin0 ?_) | (with_reducible refine e_cmp0 ?_) | (with_reducible refine e_cmp1 ?_) | (with_reducible refine l_nil ?_) | (with_reducible refine l_cons ?_) | (with_reducible refine e_idx0 ?_) | (with_reducible refine p_addI ?_) | (with_reducible refine p_sub ?_) | (with_reducible refine p_gtI ?_) | (with_reducible refine p_ltI ?_) | (with_reducible refine p_leI ?_) | (with_reducible refine p_geI ?_) | (with_reducible refine p_eqI ?_) | (with_reducible refine p_neI ?_) | (with_reducible refine p_eqS ?_) | (with_reducible refine p_neS ?_) | (with_reducible refine p_abs ?_) | (with_reducible refine p_intI ?_) | (with_reducible refine p_intB ?_) | (with_reducible refine p_boolB ?_) | (with_reducible refine p_min ?_) | (with_reducible refine p_max ?_) | (with_reducible refine p_leS ?_) | (with_reducible refine e_chain0 ?_) | (with_reducible refine e_chain1 ?_) | (with_reducible refine e_bool0 ?_) | (with_reducible refine e_bool1 ?_) | (with_reducible refine b_one0 ?_) | (with_reducible refine b_one1 ?_) | (with_reducible refine b_cons0 ?_) | (with_reducible refine b_cons1 ?_) | (with_reducible refine e_not0 ?_) | (with_reducible refine e_not1 ?_) | (with_reducible refine e_isi0 ?_) | (with_reducible refine e_isi1 ?_) | (with_reducible refine notk_t ?_) | (with_reducible refine notk_f ?_) | (with_reducible refine notk_d ?_) | (with_reducible refine notk_b ?_) | (with_reducible refine intk ?_) | (with_reducible refine int2k ?_) | (with_reducible refine blk ?_) | (with_reducible refine p_inC ?_) | (with_reducible refine bok_tt ?_) | (with_reducible refine bok_tf ?_) | (with_reducible refine bok_ff ?_) | (with_reducible refine bok_ft ?_) | (with_reducible refine ifk_t ?_) | (with_reducible refine ifk_f ?_) | (with_reducible refine qt_bl ?_) | (with_reducible refine e_lst0 ?_) | (with_reducible refine e_tup0 ?_) | (with_reducible refine e_slc0 ?_) | (with_reducible refine o_no ?_) | (with_reducible refine o_so ?_) | (with_reducible refine e_meth0 ?_) | (with_reducible refine e_un0 ?_) | (with_reducible refine p_neg ?_) | (with_reducible refine s_seti ?_) | (with_reducible refine e_comp0 ?_) | (with_reducible refine s_for ?_) | (with_reducible refine i_val ?_) | (with_reducible refine i_range1 ?_) | (with_reducible refine i_range2 ?_) | (with_reducible refine i_enum ?_) | (with_reducible refine s_cellify ?_) | (with_reducible refine e_fstr0 ?_) | (with_reducible refine e_mcall0 ?_) | (with_reducible refine j_nil ?_) | (with_reducible refine j_cons ?_) | (with_reducible refine p_slcT ?_) | (with_reducible refine e_ite0 ?_) | (with_reducible refine qtf ?_) | (with_reducible refine qtt ?_) | ((with_reducible apply s_retv); (next => rfl)) | ((with_reducible apply e_var0); (next => rfl)) | ((with_reducible apply e_own0); (next => rfl)) | ((with_reducible apply e_var1); (next => rfl)) | ((with_reducible apply e_prim0); (next => first | rfl | (exact allP (by assumption)))) | ((with_reducible apply e_call0); (next => first | rfl | assumption); (next => first | rfl | assumption)) | ((with_reducible apply e_glob0); (next => first | rfl | assumption)) | ((with_reducible apply e_op0); (next => first | rfl | assumption)) | ((with_reducible apply e_op1); (next => first | rfl | assumption)) | ((with_reducible apply o_fldI); (next => rfl); (next => rfl)) | ((with_reducible apply o_iscT); (next => rfl); (next => rfl)) | ((with_reducible apply o_iscF); (next => rfl); (next => rfl)) | ((with_reducible apply o_iscI); (next => rfl); (next => rfl)) | ((with_reducible apply o_prpI); (next => rfl); (next => rfl); (next => rfl)) | ((with_reducible apply o_unI); (next => rfl); (next => rfl)) | ((with_reducible apply o_binN); (next => rfl); (next => rfl); (next => rfl); (next => rfl)) | ((with_reducible apply o_binI); (next => rfl); (next => rfl); (next => rfl); (next => rfl)) | ((with_reducible apply m_ins); (next => rfl)) | ((with_reducible apply k_call); (next => rfl); (next => rfl); (next => rfl); (next => rfl)) | ((with_reducible apply o_call); (next => rfl); (next => rfl); (next => rfl); (next => rfl)) | ((with_reducible apply p_idxT); (next => rfl)) | ((with_reducible apply p_idxL); (next => rfl)) | (with_reducible refine p_slcS (by assumption) ?_) | ((with_reducible apply tupk); (next => rfl)) | ((with_reducible apply ifk_dt); (next => first | rfl | decide)) | ((with_reducible apply ifk_dn); (next => first | rfl | decide)) | ((with_reducible apply ifk_nt); (next => first | rfl | decide)) | ((with_reducible apply ifk_nn); (next => first | rfl | decide)) | ((with_reducible apply bok_at); (next => first | rfl | decide)) | ((with_reducible apply bok_an); (next => first | rfl | decide)) | ((with_reducible apply bok_ot); (next => first | rfl | decide)) | ((with_reducible apply bok_on); (next => first | rfl | decide)) | ((with_reducible apply bok_ant); (next => first | rfl | decide)) | ((with_reducible apply bok_ann); (next => first | rfl | decide)) | ((with_reducible apply bok_ont); (next => first | rfl | decide)) | ((with_reducible apply bok_onn); (next => first | rfl | decide)) | ((with_reducible apply p_addT); (next => exact szk (by exact Nat.le_of_ble_eq_true rfl))) | ((with_reducible apply p_addL); (next => exact szk (by exact Nat.le_of_ble_eq_true rfl))) | ((with_reducible apply s_try); (next => rfl)) | ((with_reducible apply s_raise); (next => rfl)) | (with_reducible refine s_ifI ?_) | ((with_reducible apply e_prim1); (next => first | rfl | (exact allP (by assumption)))) | ((with_reducible apply e_call1); (next => first | rfl | assumption); (next => first | rfl | assumption)) | ((with_reducible apply e_own1); (next => rfl)) | (with_reducible refine s_parL ?_) | (with_reducible refine e_con1 ?_) | (with_reducible refine e_bin1 ?_) | (with_reducible refine e_idx1 ?_) | (with_reducible refine e_comp1 ?_) | (with_reducible refine e_meth1 ?_) | (with_reducible refine e_un1 ?_) | (with_reducible refine p_allT ?_) | (with_reducible refine is_non ?_) | (with_reducible refine isnt_non ?_) | (with_reducible refine is_int ?_) | (with_reducible refine isnt_int ?_) | (with_reducible refine is_str ?_) | (with_reducible refine isnt_str ?_) | (with_reducible refine is_tup ?_) | (with_reducible refine isnt_tup ?_) | (with_reducible refine is_lst ?_) | (with_reducible refine isnt_lst ?_) | (with_reducible refine is_ins ?_) | (with_reducible refine isnt_ins ?_) | (with_reducible refine is_cell ?_) | (with_reducible refine isnt_cell ?_) | (with_reducible refine is_bl ?_) | (with_reducible refine isnt_bl ?_) | (with_reducible refine e_dispT ?_) | (with_reducible refine e_dispL ?_) | (with_reducible refine d_nil ?_) | (with_reducible refine d_st ?_) | (with_reducible refine d_no ?_) | ((with_reducible apply e_mkv0); (next => rfl); (next => first | rfl | assumption)))))
-- /mac2
namespace Vm.K26
open PySem PySem.Spec L2 Vm Vm.Lib
open PyProof.Rows hiding St
section
variable {k : Nat}
theorem fl_ : ∀ p ∈ T.fld, (L.cx k).hasA p.1 p.2 = true := fun p h => List.contains_iff_mem.mpr h
theorem dc_ : DC (L.cx k) := ⟨fun _ => rfl, rfl, fun p h => fl_ p (List.mem_append_left [(23, 15), (23, 16)] h)⟩
theorem mkA (h1 : (L.cx k).hasF (mtF 20 0) = true) (h2 : (L.cx k).hasP2 (mtF 20 0) 4 [] (idP 4) = true) : MkC (L.cx k) 20 3 gAdd := ⟨rfl, rfl, h1, h2, spAddI_of⟩
theorem mkP (h1 : (L.cx k).hasF (mtF 21 0) = true) (h2 : (L.cx k).hasP2 (mtF 21 0) 3 [] (idP 3) = true) : MkC (L.cx k) 21 2 gPush := ⟨rfl, rfl, h1, h2, fun _ _ _ _ h => h⟩
theorem mkT (h1 : (L.cx k).hasF (mtF 22 0) = true) (h2 : (L.cx k).hasP2 (mtF 22 0) 2 [] (idP 2) = true) : MkC (L.cx k) 22 1 gTurn := ⟨rfl, rfl, h1, h2, fun _ _ _ _ h => h⟩
end
/-! ### equal deeds, their truth -/
theorem wp_Add_eq : ∀ ds c Q E, spSame 20 ds c Q E → wpDef cx_Add_eq 2 2 ir_Add_eq ds c Q E := by
  rintro ds c Q E ⟨d, hk, rfl, q⟩
  match d, hk with
  | .add t s k, _ =>
  refine ⟨rfl, ?_⟩
  show wpSs _ _ [.sh (.ins 20 [9, 10, 11, 12, 13] [.str t, .str s, .int k, .int k, .tup [.str t, .str s]]), .sh (.ins 20 [9, 10, 11, 12, 13] [.str t, .str s, .int k, .int k, .tup [.str t, .str s]])] c _ _
  unfold ir_Add_eq
  walk_at "vm"
  rw [decide_eq_true rfl]; exact q
theorem wp_Push_eq : ∀ ds c Q E, spSame 21 ds c Q E → wpDef cx_Push_eq 2 2 ir_Push_eq ds c Q E := by
  rintro ds c Q E ⟨d, hk, rfl, q⟩
  match d, hk with
  | .push t k, _ =>
  refine ⟨rfl, ?_⟩
  show wpSs _ _ [.sh (.ins 21 [9, 14, 12, 13] [.str t, .int k, .int k, .tup [.str t]]), .sh (.ins 21 [9, 14, 12, 13] [.str t, .int k, .int k, .tup [.str t]])] c _ _
  unfold ir_Push_eq
  walk_at "vm"
  rw [decide_eq_true rfl]; exact q
theorem wp_Turn_eq : ∀ ds c Q E, spSame 22 ds c Q E → wpDef cx_Turn_eq 2 2 ir_Turn_eq ds c Q E := by
  rintro ds c Q E ⟨d, hk, rfl, q⟩
  match d, hk with
  | .turn t, _ =>
  refine ⟨rfl, ?_⟩
  show wpSs _ _ [.sh (.ins 22 [9, 13] [.str t, .tup [.str t]]), .sh (.ins 22 [9, 13] [.str t, .tup [.str t]])] c _ _
  unfold ir_Turn_eq
  walk_at "vm"
  rw [decide_eq_true rfl]; exact q
theorem wp_Program_init : ∀ ds c Q E, spPI ds c Q E → wpDef cx_Program_init 2 4 ir_Program_init ds c Q E := by
  rintro ds c Q E ⟨n, x, l, rfl, hc, hx, hl, q⟩
  refine ⟨rfl, ?_⟩
  show wpSs _ _ [.sh (.cell n), .sh x, .no, .no] c _ _
  have hn : n < c.length := (List.getElem?_eq_some_iff.mp hc).1
  unfold ir_Program_init
  walk_at "vm"
  refine ⟨_, hx, ?_⟩
  refine ⟨23, [], [], hc, rfl, by decide, ?_⟩
  show wpSs _ _ _ (c.set n (.ins 23 [15] [.tup (l.map Dd.ob)])) _ _
  have h1 : (c.set n (.ins 23 [15] [.tup (l.map Dd.ob)]))[n]? = some (.ins 23 [15] [.tup (l.map Dd.ob)]) := List.getElem?_set_self hn
  walk_at "vm"
  refine o_fldC h1 rfl rfl ?_
  walk_at "vm"
  refine o_srt (l.map tchd) (by rw [List.length_map, List.length_map]) (fun i d zs hd hz => ?_) (Nat.lt_of_le_of_lt (flat_len l) (by omega)) fun ys ynd _ _ => ?_
  · rw [List.getElem?_map] at hd hz
    match e2 : l[i]?, hd, hz with
    | some a, hd, hz =>
      have hd : a.ob = d := by simpa using hd
      have hz : tchd a = zs := by simpa using hz
      subst hd hz
      cases a with
      | add t s k => exact ⟨20, [9, 10, 11, 12, 13], [.str t, .str s, .int k, .int k, .tup [.str t, .str s]], rfl, rfl, rfl⟩
      | push t k => exact ⟨21, [9, 14, 12, 13], [.str t, .int k, .int k, .tup [.str t]], rfl, rfl, rfl⟩
      | turn t => exact ⟨22, [9, 13], [.str t, .tup [.str t]], rfl, rfl, rfl⟩
  walk_at "vm"
  refine ⟨_, rfl, ?_⟩
  refine ⟨23, [15], [.tup (l.map Dd.ob)], h1, rfl, by decide, ?_⟩
  show wpSs _ _ _ ((c.set n (.ins 23 [15] [.tup (l.map Dd.ob)])).set n (pg l ys)) _ _
  rw [List.set_set]
  walk_at "vm"
  exact q ys ynd
theorem wp_Program_eq : ∀ ds c Q E, spPE ds c Q E → wpDef cx_Program_eq 2 2 ir_Program_eq ds c Q E := by
  rintro ds c Q E ⟨l, ys, ys', rfl, q⟩
  refine ⟨rfl, ?_⟩
  show wpSs _ _ [.sh (.ins 23 [15, 16] [.tup (l.map Dd.ob), .tup (ys.map .str)]), .sh (.ins 23 [15, 16] [.tup (l.map Dd.ob), .tup (ys'.map .str)])] c _ _
  unfold ir_Program_eq
  walk_at "vm"
  refine o_eqT rfl (fun i d e hd he => ?_) ?_
  · rw [hd] at he
    cases he
    rw [List.getElem?_map] at hd
    match e2 : l[i]?, hd with
    | some a, hd =>
      have hd : a.ob = d := by simpa using hd
      subst hd
      cases a with
      | add t s k => exact ⟨20, rfl, ⟨rfl, .inl rfl⟩, rfl, rfl, rfl, rfl, .add t s k, rfl, rfl, rfl, rfl⟩
      | push t k => exact ⟨21, rfl, ⟨rfl, .inl rfl⟩, rfl, rfl, rfl, rfl, .push t k, rfl, rfl, rfl, rfl⟩
      | turn t => exact ⟨22, rfl, ⟨rfl, .inl rfl⟩, rfl, rfl, rfl, rfl, .turn t, rfl, rfl, rfl, rfl⟩
  · exact q
theorem wp_l_shown : ∀ ds c Q E, spShown ds c Q E → wpDef cx_l_shown 1 1 ir_l_shown ds c Q E := by
  rintro ds c Q E ⟨d, rfl, q⟩
  refine ⟨rfl, ?_⟩
  cases d with
  | add t s k =>
    show wpSs _ _ [.sh (.ins 20 [9, 10, 11, 12, 13] [.str t, .str s, .int k, .int k, .tup [.str t, .str s]])] c _ _
    unfold ir_l_shown
    walk_at "vm"
    exact q
  | push t k =>
    show wpSs _ _ [.sh (.ins 21 [9, 14, 12, 13] [.str t, .int k, .int k, .tup [.str t]])] c _ _
    unfold ir_l_shown
    walk_at "vm"
    exact q
  | turn t =>
    show wpSs _ _ [.sh (.ins 22 [9, 13] [.str t, .tup [.str t]])] c _ _
    unfold ir_l_shown
    walk_at "vm"
    exact q
/-! ### programs -/
theorem wp_Program_len : ∀ ds c Q E, spPLen ds c Q E → wpDef cx_Program_len 1 1 ir_Program_len ds c Q E := by
  rintro ds c Q E ⟨l, ys, rfl, q⟩
  refine ⟨rfl, ?_⟩
  show wpSs _ _ [.sh (.ins 23 [15, 16] [.tup (l.map Dd.ob), .tup (ys.map .str)])] c _ _
  unfold ir_Program_len
  walk_at "vm"
  refine p_len (n := l.length) (by show some (l.map Dd.ob).length = _; rw [List.length_map]) ?_
  walk_at "vm"
  exact q
theorem wp_undone : ∀ ds c Q E, spUndone ds c Q E → wpDef cx_undone 1 2 ir_undone ds c Q E := by
  rintro ds c Q E ⟨l, rfl, ok, hl, q⟩
  refine ⟨rfl, ?_⟩
  show wpSs _ _ [.sh (.tup (l.map Dd.ob)), .no] c _ _
  unfold ir_undone
  walk_at "vm"
  refine o_revT ?_
  rw [← List.map_reverse]
  walk_at "vm"
  refine loopC_map Dd.ob (fun d => d.neg.ob) (fun s c1 => ∃ x, s = [.sh (.tup (l.map Dd.ob)), x] ∧ c1 = c) l.reverse (szb (by rw [List.length_reverse]; omega)) ?_ ?_ _ _ ⟨_, rfl, rfl⟩
  · rintro d hd s c1 ⟨x, rfl, rfl⟩
    refine ⟨trivial, fun K k1 => c_step rfl (if_nil (chk_b (fun _ => ?_) nofun))⟩
    have od := ok d (List.mem_reverse.mp hd)
    have fin : K (some d.neg.ob) [.sh (.tup (l.map Dd.ob)), .sh d.ob] c1 := k1 _ _ ⟨_, rfl, rfl⟩
    cases d with
    | add t s k =>
      show wpE _ _ _ [.sh (.tup (l.map Dd.ob)), .sh (.ins 20 [9, 10, 11, 12, 13] [.str t, .str s, .int k, .int k, .tup [.str t, .str s]])] c1 _ _
      walk_at "vm"
      exact ⟨.add t s k, od, rfl, rfl, fin⟩
    | push t k =>
      show wpE _ _ _ [.sh (.tup (l.map Dd.ob)), .sh (.ins 21 [9, 14, 12, 13] [.str t, .int k, .int k, .tup [.str t]])] c1 _ _
      walk_at "vm"
      exact ⟨.push t k, od, rfl, rfl, fin⟩
    | turn t =>
      show wpE _ _ _ [.sh (.tup (l.map Dd.ob)), .sh (.ins 22 [9, 13] [.str t, .tup [.str t]])] c1 _ _
      walk_at "vm"
      exact ⟨.turn t, od, rfl, rfl, fin⟩
  · rintro s c1 ⟨x, rfl, rfl⟩
    refine ⟨trivial, ?_⟩
    walk_at "vm"
    refine xs_ rfl ?_
    walk_at "vm"
    have e : (undoneL l).map Dd.ob = l.reverse.map fun d => d.neg.ob := by unfold undoneL; rw [List.map_map]; rfl
    rw [e] at q
    exact q
theorem wp_Program_neg : ∀ ds c Q E, spPNeg ds c Q E → wpDef cx_Program_neg 1 1 ir_Program_neg ds c Q E := by
  rintro ds c Q E ⟨l, ys, rfl, ok, hl, q⟩
  refine ⟨rfl, ?_⟩
  show wpSs _ _ [.sh (.ins 23 [15, 16] [.tup (l.map Dd.ob), .tup (ys.map .str)])] c _ _
  unfold ir_Program_neg
  walk_at "vm"
  refine fn_ (S := spUndone) rfl ⟨l, rfl, ok, hl, ?_⟩
  walk_at "vm"
  refine ⟨rfl, rfl, rfl, rfl, fn_ (S := spPI) rfl ?_⟩
  exact ⟨_, .tup ((undoneL l).map Dd.ob), undoneL l, rfl, get_last, rfl, by rw [undone_len]; omega, fun ys' nd => ⟨rfl, [15, 16], [.tup ((undoneL l).map Dd.ob), .tup (ys'.map .str)], set_last, flat_pg _ _, q ys' nd⟩⟩
theorem wp_Program_text : ∀ ds c Q E, spPText ds c Q E → wpDef cx_Program_text 1 2 ir_Program_text ds c Q E := by
  rintro ds c Q E ⟨l, ys, rfl, ok, hl, q⟩
  refine ⟨rfl, ?_⟩
  show wpSs _ _ [.sh (.ins 23 [15, 16] [.tup (l.map Dd.ob), .tup (ys.map .str)]), .no] c _ _
  unfold ir_Program_text
  walk_at "vm"
  refine ⟨trivial, ?_⟩
  walk_at "vm"
  refine loopC_map Dd.ob (fun d => .str d.txt) (fun s c1 => ∃ x, s = [.sh (.ins 23 [15, 16] [.tup (l.map Dd.ob), .tup (ys.map .str)]), x] ∧ c1 = c) l (szb (by omega)) ?_ ?_ _ _ ⟨_, rfl, rfl⟩
  · rintro d hd s c1 ⟨x, rfl, rfl⟩
    refine ⟨trivial, fun K k1 => c_step rfl (if_nil (chk_b (fun _ => ?_) nofun))⟩
    have od := ok d hd
    have fin : K (some (.str d.txt)) [.sh (.ins 23 [15, 16] [.tup (l.map Dd.ob), .tup (ys.map .str)]), .sh d.ob] c1 := k1 _ _ ⟨_, rfl, rfl⟩
    cases d with
    | add t s k =>
      show wpE _ _ _ [.sh (.ins 23 [15, 16] [.tup (l.map Dd.ob), .tup (ys.map .str)]), .sh (.ins 20 [9, 10, 11, 12, 13] [.str t, .str s, .int k, .int k, .tup [.str t, .str s]])] c1 _ _
      walk_at "vm"
      exact ⟨.add t s k, od, rfl, rfl, fin⟩
    | push t k =>
      show wpE _ _ _ [.sh (.ins 23 [15, 16] [.tup (l.map Dd.ob), .tup (ys.map .str)]), .sh (.ins 21 [9, 14, 12, 13] [.str t, .int k, .int k, .tup [.str t]])] c1 _ _
      walk_at "vm"
      exact ⟨.push t k, od, rfl, rfl, fin⟩
    | turn t =>
      show wpE _ _ _ [.sh (.ins 23 [15, 16] [.tup (l.map Dd.ob), .tup (ys.map .str)]), .sh (.ins 22 [9, 13] [.str t, .tup [.str t]])] c1 _ _
      walk_at "vm"
      exact ⟨.turn t, od, rfl, rfl, fin⟩
  · rintro s c1 ⟨x, rfl, rfl⟩
    refine ⟨trivial, ?_⟩
    walk_at "vm"
    refine ⟨_, l.map Dd.txt, rfl, by rw [List.map_map]; rfl, ?_, q⟩
    have hs : ∀ l : List Dd, (∀ d ∈ l, d.ok) → ((l.map Dd.txt).map (·.length)).sum ≤ 60 * l.length := fun l => by
      induction l with
      | nil => intro _; exact Nat.le_refl _
      | cons d l ih =>
        intro h
        rw [List.map_cons, List.map_cons, List.sum_cons, List.length_cons]
        have := ih fun x hx => h x (List.mem_cons_of_mem _ hx)
        have := Dd.txt_len (h d List.mem_cons_self)
        omega
    have h1 := hs l ok
    have h2 : ("\n" : Str).length = 1 := rfl
    rw [h2, List.length_map]
    omega
end Vm.K26

-- mac2
open PySem PySem.Spec L2 Vm Vm.Lib
local macro_rules | `(tactic| walk_at "vm") => `(tactic| (repeat (first
  | (with_reducible refine ss_cons ?_) | (with_reducible refine ss_nil ?_) | (with_reducible refine s_asg ?_) | (with_reducible refine s_ret ?_) | (with_reducible refine s_ifs ?_) | (with_reducible refine s_expr ?_) | (with_reducible refine s_pass ?_) | (with_reducible refine s_par ?_) | (with_reducible refine s_asgT ?_) | (with_reducible refine s_retN ?_) | (with_reducible refine s_setf ?_) | (with_reducible refine e_con0 ?_) | (with_reducible refine e_bin0 ?_) | (with_reducible refine e_cmp0 ?_) | (with_reducible refine e_cmp1 ?_) | (with_reducible refine l_nil ?_) | (with_reducible refine l_cons ?_) | (with_reducible refine e_idx0 ?_) | (with_reducible refine p_addI ?_) | (with_reducible refine p_sub ?_) | (with_reducible refine p_gtI ?_) | (with_reducible refine p_ltI ?_) | (with_reducible refine p_leI ?_) | (with_reducible refine p_geI ?_) | (with_reducible refine p_eqI ?_) | (with_reducible refine p_neI ?_) | (with_reducible refine p_eqS ?_) | (with_reducible refine p_neS ?_) | (with_reducible refine p_abs ?_) | (with_reducible refine p_intI ?_) | (with_reducible refine p_intB ?_) | (with_reducible refine p_boolB ?_) | (with_reducible refine p_min ?_) | (with_reducible refine p_max ?_) | (with_reducible refine p_leS ?_) | (with_reducible refine e_chain0 ?_) | (with_reducible refine e_chain1 ?_) | (with_reducible refine e_bool0 ?_) | (with_reducible refine e_bool1 ?_) | (with_reducible refine b_one0 ?_) | (with_reducible refine b_one1 ?_) | (with_reducible refine b_cons0 ?_) | (with_reducible refine b_cons1 ?_) | (with_reducible refine e_not0 ?_) | (with_reducible refine e_not1 ?_) | (with_reducible refine e_isi0 ?_) | (with_reducible refine e_isi1 ?_) | (with_reducible refine notk_t ?_) | (with_reducible refine notk_f ?_) | (with_reducible refine notk_d ?_) | (with_reducible refine notk_b ?_) | (with_reducible refine intk ?_) | (with_reducible refine int2k ?_) | (with_reducible refine blk ?_) | (with_reducible refine p_inC ?_) | (with_reducible refine bok_tt ?_) | (with_reducible refine bok_tf ?_) | (with_reducible refine bok_ff ?_) | (with_reducible refine bok_ft ?_) | (with_reducible refine ifk_t ?_) | (with_reducible refine ifk_f ?_) | (with_reducible refine qt_bl ?_) | (with_reducible refine e_lst0 ?_) | (with_reducible refine e_tup0 ?_) | (with_reducible refine e_slc0 ?_) | (with_reducible refine o_no ?_) | (with_reducible refine o_so ?_) | (with_reducible refine e_meth0 ?_) | (with_reducible refine e_un0 ?_) | (with_reducible refine p_neg ?_) | (with_reducible refine s_seti ?_) | (with_reducible refine e_comp0 ?_) | (with_reducible refine s_for ?_) | (with_reducible refine i_val ?_) | (with_reducible refine i_range1 ?_) | (with_reducible refine i_range2 ?_) | (with_reducible refine i_enum ?_) | (with_reducible refine s_cellify ?_) | (with_reducible refine e_fstr0 ?_) | (with_reducible refine e_mcall0 ?_) | (with_reducible refine j_nil ?_) | (with_reducible refine j_cons ?_) | (with_reducible refine p_slcT ?_) | (with_reducible refine e_ite0 ?_) | (with_reducible refine qtf ?_) | (with_reducible refine qtt ?_) | ((with_reducible apply s_retv); (next => rfl)) | ((with_reducible apply e_var0); (next => rfl)) | ((with_reducible apply e_own0); (next => rfl)) | ((with_reducible apply e_var1); (next => rfl)) | ((with_reducible apply e_prim0); (next => first | rfl | (exact allP (by assumption)))) | ((with_reducible apply e_call0); (next => first | rfl | assumption); (next => first | rfl | assumption)) | ((with_reducible apply e_glob0); (next => first | rfl | assumption)) | ((with_reducible apply e_op0); (next => first | rfl | assumption)) | ((with_reducible apply e_op1); (next => first | rfl | assumption)) | ((with_reducible apply o_fldI); (next => rfl); (next => rfl)) | ((with_reducible apply o_iscT); (next => rfl); (next => rfl)) | ((with_reducible apply o_iscF); (next => rfl); (next => rfl)) | ((with_reducible apply o_iscI); (next => rfl); (next => rfl)) | ((with_reducible apply o_prpI); (next => rfl); (next => rfl); (next => rfl)) | ((with_reducible apply o_unI); (next => rfl); (next => rfl)) | ((with_reducible apply o_binN); (next => rfl); (next => rfl); (next => rfl); (next => rfl)) | ((with_reducible apply o_binI); (next => rfl); (next => rfl); (next => rfl); (next => rfl)) | ((with_reducible apply m_ins); (next => rfl)) | ((with_reducible apply k_call); (next => rfl); (next => rfl); (next => rfl); (next => rfl)) | ((with_reducible apply o_call); (next => rfl); (next => rfl); (next => rfl); (next => rfl)) | ((with_reducible apply p_idxT); (next => rfl)) | ((with_reducible apply p_idxL); (next => rfl)) | (with_reducible refine p_slcS (by assumption) ?_) | ((with_reducible apply tupk); (next => rfl)) | ((with_reducible apply ifk_dt); (next => first | rfl | decide)) | ((with_reducible apply ifk_dn); (next => first | rfl | decide)) | ((with_reducible apply ifk_nt); (next => first | rfl | decide)) | ((with_reducible apply ifk_nn); (next => first | rfl | decide)) | ((with_reducible apply bok_at); (next => first | rfl | decide)) | ((with_reducible apply bok_an); (next => first | rfl | decide)) | ((with_reducible apply bok_ot); (next => first | rfl | decide)) | ((with_reducible apply bok_on); (next => first | rfl | decide)) | ((with_reducible apply bok_ant); (next => first | rfl | decide)) | ((with_reducible apply bok_ann); (next => first | rfl | decide)) | ((with_reducible apply bok_ont); (next => first | rfl | decide)) | ((with_reducible apply bok_onn); (next => first | rfl | decide)) | ((with_reducible apply p_addT); (next => exact szk (by exact Nat.le_of_ble_eq_true rfl))) | ((with_reducible apply p_addL); (next => exact szk (by exact Nat.le_of_ble_eq_true rfl))) | ((with_reducible apply s_try); (next => rfl)) | ((with_reducible apply s_raise); (next => rfl)) | (with_reducible refine s_ifI ?_) | ((with_reducible apply e_prim1); (next => first | rfl | (exact allP (by assumption)))) | ((with_reducible apply e_call1); (next => first | rfl | assumption); (next => first | rfl | assumption)) | ((with_reducible apply e_own1); (next => rfl)) | (with_reducible refine s_parL ?_) | (with_reducible refine e_con1 ?_) | (with_reducible refine e_bin1 ?_) | (with_reducible refine e_idx1 ?_) | (with_reducible refine e_comp1 ?_) | (with_reducible refine e_meth1 ?_) | (with_reducible refine e_un1 ?_) | (with_reducible refine p_allT ?_) | ((with_reducible apply bindk1); (next => rfl)) | (with_reducible refine is_non ?_) | (with_reducible refine isnt_non ?_) | (with_reducible refine is_int ?_) | (with_reducible refine isnt_int ?_) | (with_reducible refine is_str ?_) | (with_reducible refine isnt_str ?_) | (with_reducible refine is_tup ?_) | (with_reducible refine isnt_tup ?_) | (with_reducible refine is_lst ?_) | (with_reducible refine isnt_lst ?_) | (with_reducible refine is_ins ?_) | (with_reducible refine isnt_ins ?_) | (with_reducible refine is_cell ?_) | (with_reducible refine isnt_cell ?_) | (with_reducible refine is_bl ?_) | (with_reducible refine isnt_bl ?_) | (with_reducible refine e_dispT ?_) | (with_reducible refine e_dispL ?_) | (with_reducible refine d_nil ?_) | (with_reducible refine d_st ?_) | (with_reducible refine d_no ?_) | ((with_reducible apply e_mkv0); (next => rfl); (next => first | rfl | assumption)))))
-- /mac2
namespace Vm.K26
open PySem PySem.Spec L2 Vm Vm.Lib
open PyProof.Rows hiding St
/-! ### texts read -/
theorem wp_scaled_in : ∀ ds c Q E, spScaled ds c Q E → wpDef cx_scaled_in 2 6 ir_scaled_in ds c Q E := by
  rintro ds c Q E ⟨t, w, rfl, hw, q⟩
  refine ⟨rfl, ?_⟩
  show wpSs _ _ [.sh (.str t), .sh (.str w), .no, .no, .no, .no] c _ _
  have pl := part_len w "*"
  unfold ir_scaled_in
  walk_at "vm"
  refine ⟨trivial, ?_⟩
  walk_at "vm"
  refine p_part (by decide +kernel) (szb (by omega)) ?_
  generalize hA : (Txt.partition w "*").1 = A at pl
  generalize hB : (Txt.partition w "*").2.1 = B
  generalize hC : (Txt.partition w "*").2.2 = C' at pl
  unfold scaledS at q
  rw [hA, hB, hC] at q
  show wpSs _ _ [.sh (.str t), .sh (.str w), .sh (.str A), .sh (.str B), .sh (.str C'), .no] c _ _
  walk_at "vm"
  refine fn_ (S := spShort) rfl ⟨A, 20, rfl, by omega, ?_⟩
  generalize shortL 20 A.cps.toList = r at q
  cases r with
  | none =>
    show wpSs _ _ [.sh (.str t), .sh (.str w), .sh (.str A), .sh (.str B), .sh (.str C'), .sh .non] c _ _
    walk_at "vm"
    exact q
  | some n =>
    have q : Q (optDd (if B = "" then some (.push t n) else if isNm C'.cps.toList = false ∨ C' = t then none else some (.add t C' n))) false c := q
    show wpSs _ _ [.sh (.str t), .sh (.str w), .sh (.str A), .sh (.str B), .sh (.str C'), .sh (.int n)] c _ _
    walk_at "vm"
    refine ifk_d (fun h => ?_) fun h => ?_
    · rw [if_pos h] at q
      walk_at "vm"
      exact mk_ (mkP rfl rfl) rfl rfl rfl rfl rfl q
    · rw [if_neg h] at q
      walk_at "vm"
      refine fn_ (S := spIsNm) rfl ⟨C', rfl, szb (by omega), ?_⟩
      walk_at "vm"
      cases h2 : isNm C'.cps.toList with
      | false =>
        rw [if_pos (.inl h2)] at q
        refine bok_ft ?_
        walk_at "vm"
        refine ifk_t ?_
        walk_at "vm"
        exact q
      | true =>
        refine bok_ff ?_
        walk_at "vm"
        refine ifk_d (fun h3 => ?_) fun h3 => ?_
        · rw [if_pos (.inr h3)] at q
          walk_at "vm"
          exact q
        · rw [if_neg (by rintro (e | e); exact Bool.noConfusion (h2.symm.trans e); exact h3 e)] at q
          walk_at "vm"
          exact mk_ (mkA rfl rfl) rfl rfl rfl (gAdd_ok fun e => h3 e.symm) rfl q
theorem wp_deed_in : ∀ ds c Q E, spDeedIn ds c Q E → wpDef cx_deed_in 1 5 ir_deed_in ds c Q E := by
  rintro ds c Q E ⟨z, rfl, hz, q⟩
  refine ⟨rfl, ?_⟩
  show wpSs _ _ [.sh (.str z), .no, .no, .no, .no] c _ _
  unfold ir_deed_in
  walk_at "vm"
  refine ⟨trivial, ?_⟩
  walk_at "vm"
  refine p_split (by decide +kernel) (szb (by omega)) ?_
  have sm : ∀ p ∈ Txt.split z " ", p.length ≤ 9000 := fun p hp => Nat.le_trans (split_mem hp) hz
  unfold deedS at q
  generalize Txt.split z " " = ws at q sm
  match ws, q, sm with
  | [a, b, w], q, sm =>
    have la := sm a (by simp)
    have lw := sm w (by simp)
    have q : Q (optDd (deed3 a b w)) false c := q
    unfold deed3 at q
    walk_at "vm"
    refine p_len (n := 3) rfl ?_
    walk_at "vm"
    refine ⟨a, rfl, szb (by omega), ?_⟩
    walk_at "vm"
    cases h1 : isNm a.cps.toList with
    | false =>
      rw [if_pos h1] at q
      refine ifk_t ?_
      walk_at "vm"
      exact q
    | true =>
      rw [if_neg (by rw [h1]; decide)] at q
      refine ifk_f ?_
      walk_at "vm"
      refine ifk_d (fun h2 => ?_) fun h2 => ?_
      · rw [if_pos h2] at q
        walk_at "vm"
        exact ⟨a, w, rfl, by omega, q⟩
      · rw [if_neg h2] at q
        walk_at "vm"
        refine bok_dt (fun h3 => ?_) fun h3 => ?_
        · walk_at "vm"
          refine j_s (szb (by rw [emp_add]; exact Nat.le_of_ble_eq_true rfl)) ?_
          rw [emp_add]
          walk_at "vm"
          refine o_fmtS (szb (by omega)) ?_
          walk_at "vm"
          refine j_s (szb (by rw [len_add]; have : ("-" : Str).length = 1 := rfl; omega)) ?_
          walk_at "vm"
          refine ifk_d (fun h4 => ?_) fun h4 => ?_
          · rw [if_pos ⟨h3, h4⟩] at q
            walk_at "vm"
            exact mk_ (mkT rfl rfl) rfl rfl rfl rfl rfl q
          · rw [if_neg (fun e => h4 e.2)] at q
            walk_at "vm"
            exact q
        · rw [if_neg (fun e => h3 e.1)] at q
          refine ifk_dn h3 ?_
          walk_at "vm"
          exact q
  | [], q, _ =>
    have q : Q .non false c := q
    walk_at "vm"
    refine p_len (n := 0) rfl ?_
    walk_at "vm"
    exact q
  | [_], q, _ =>
    have q : Q .non false c := q
    walk_at "vm"
    refine p_len (n := 1) rfl ?_
    walk_at "vm"
    exact q
  | [_, _], q, _ =>
    have q : Q .non false c := q
    walk_at "vm"
    refine p_len (n := 2) rfl ?_
    walk_at "vm"
    exact q
  | _ :: _ :: _ :: _ :: l, q, _ =>
    have q : Q .non false c := q
    walk_at "vm"
    refine p_len (n := (l.map D.str).length + 4) rfl ?_
    walk_at "vm"
    refine bok_ot (by simp; omega) ?_
    refine ifk_dt (by simp; omega) ?_
    walk_at "vm"
    exact q
theorem wp_Program_read : ∀ ds c Q E, spRead ds c Q E → wpDef cx_Program_read 2 6 ir_Program_read ds c Q E := by
  rintro ds c Q E ⟨z, rfl, hz, hl, q1, q2⟩
  refine ⟨rfl, ?_⟩
  show wpSs _ _ [.sh (.cls 23), .sh (.str z), .no, .no, .no, .no] c _ _
  have hll : ∀ x ∈ linesS z, x.length ≤ 9000 := fun x hx => by
    unfold linesS at hx
    split at hx
    · cases hx
    · exact Nat.le_trans (split_mem hx) hz
  -- the loop over the lines
  have main : ∀ (ls : List Str), linesS z = ls → ∀ (A : List Sl → Cl → Prop), (∀ l x3 x4 x5, readFrom 0 ls = .inr l → A [.sh (.cls 23), .sh (.str z), .sh (.cell c.length), x3, x4, x5] (c ++ [.lst (l.map Dd.ob)])) →
      loopF (fun _ => True) (fStep cx_Program_read (.tp (.cons (.nm 3) (.cons (.nm 4) .nil))) (.cons (.asg 5 (.call 29 (.cons (.var 4) .nil))) (.cons (.ifs (.cmp .Is (.var 5) (.con .non)) (.cons (.raise_ 7 (.cons (.var 3) .nil)) .nil) .nil) (.cons (.expr (.methv .append 2 (.cons (.var 5) .nil))) .nil))) A (fun d o _ c1 => Q d o c1) (fun ex _ c1 => E ex c1))
        (enumD 0 (ls.map .str)) [.sh (.cls 23), .sh (.str z), .sh (.cell c.length), .no, .no, .no] (c ++ [.lst []]) A := by
    intro ls el A hA
    rw [el] at hl hll
    refine loopF_ix (fun i s c2 => ∃ x3 x4 x5 l, s = [.sh (.cls 23), .sh (.str z), .sh (.cell c.length), x3, x4, x5] ∧ c2 = c ++ [.lst (l.map Dd.ob)] ∧ readFrom 0 (ls.take i) = .inr l) _ ?_ ?_ _ _ ⟨.no, .no, .no, [], rfl, rfl, rfl⟩
    · rintro i x hx s c2 ⟨x3, x4, x5, l, rfl, rfl, hr⟩
      refine ⟨trivial, fun K kk => ?_⟩
      have hil : i < ls.length := by
        have := (List.getElem?_eq_some_iff.mp hx).1
        rwa [enumD_len, List.length_map] at this
      have e2 : ls[i]? = some ls[i] := List.getElem?_eq_getElem hil
      generalize ls[i] = y at e2
      have e4 := enumD_at (k := 0) (show (ls.map D.str)[i]? = some (.str y) by rw [List.getElem?_map, e2]; rfl)
      rw [e4] at hx
      cases hx
      rw [Nat.zero_add]
      have ly := hll y (List.mem_of_getElem? e2)
      have ll : l.length ≤ 1900 := by
        rw [read_len hr, List.length_take]; omega
      refine f_step rfl ?_
      show wpSs _ _ [.sh (.cls 23), .sh (.str z), .sh (.cell c.length), .sh (.int (i : Nat)), .sh (.str y), x5] _ _ _
      walk_at "vm"
      refine ⟨y, rfl, ly, ?_⟩
      cases hd : deedS y with
      | none =>
        show wpSs _ _ [.sh (.cls 23), .sh (.str z), .sh (.cell c.length), .sh (.int (i : Nat)), .sh (.str y), .sh .non] _ _ _
        walk_at "vm"
        exact ⟨_, rfl, q2 i (by rw [el]; exact read_bad hr e2 hd) _⟩
      | some d =>
        show wpSs _ _ [.sh (.cls 23), .sh (.str z), .sh (.cell c.length), .sh (.int (i : Nat)), .sh (.str y), .sh d.ob] _ _ _
        walk_at "vm"
        refine p_isN ?_
        rw [show isNon d.ob = false by cases d <;> rfl]
        walk_at "vm"
        refine e_methv0 ⟨_, get_last⟩ ?_
        walk_at "vm"
        refine p_slotC (by rfl) get_last ?_
        refine ⟨by rw [List.length_map]; exact Nat.lt_of_le_of_lt ll (by rw [sizeLine_eq]; decide), ?_⟩
        show K [.sh (.cls 23), .sh (.str z), .sh (.cell c.length), .sh (.int (i : Nat)), .sh (.str y), .sh d.ob] ((c ++ [D.lst (l.map Dd.ob)]).set c.length (D.lst (l.map Dd.ob ++ [d.ob])))
        rw [set_last]
        exact kk _ _ ⟨_, _, _, l ++ [d], rfl, by rw [List.map_append]; rfl, read_more hr e2 hd⟩
    · rintro s c2 ⟨x3, x4, x5, l, rfl, rfl, hr⟩
      rw [enumD_len, List.length_map, List.take_length] at hr
      exact ⟨trivial, hA l _ _ _ hr⟩
  unfold ir_Program_read
  walk_at "vm"
  refine ⟨rfl, ?_⟩
  show wpSs _ _ [.sh (.cls 23), .sh (.str z), .sh (.cell c.length), .no, .no, .no] (c ++ [.lst []]) _ _
  walk_at "vm"
  have fin : ∀ l x3 x4 x5, readFrom 0 (linesS z) = .inr l → wpSs cx_Program_read (.cons (.ret (.mkv 23 0 1 [] [.inl 0, .inl 1] (.cons (.var 2) .nil))) .nil) [.sh (.cls 23), .sh (.str z), .sh (.cell c.length), x3, x4, x5] (c ++ [.lst (l.map Dd.ob)])
      ⟨fun _ c1 => Q .non false c1, fun d o _ c1 => Q d o c1, fun _ _ => False, fun _ _ => False⟩ (fun ex _ c1 => E ex c1) := by
    intro l x3 x4 x5 hr
    walk_at "vm"
    have hk : (c ++ [D.lst (l.map Dd.ob)] ++ [.ins 23 [] []])[c.length]? = some (.lst (l.map Dd.ob)) := by
      rw [List.getElem?_append_left (by simp)]; exact get_last
    exact ⟨rfl, rfl, rfl, rfl, _, .cell c.length, l, rfl, get_last, asC hk, by rw [read_len hr]; omega, fun ys nd => ⟨rfl, [15, 16], [.tup (l.map Dd.ob), .tup (ys.map .str)], set_last, flat_pg _ _, q1 l hr ys _ nd⟩⟩
  refine ifk_d2 (fun h => ?_) fun h => ?_
  · have el : linesS z = [] := by unfold linesS; rw [if_pos h]
    walk_at "vm"
    refine p_itL _ ?_
    refine main [] el _ ?_
    exact fun l x3 x4 x5 hr => fin l x3 x4 x5 (by rw [el]; exact hr)
  · have el : linesS z = Txt.split z "\n" := by unfold linesS; rw [if_neg h]
    walk_at "vm"
    refine ⟨trivial, ?_⟩
    walk_at "vm"
    refine p_split (by decide +kernel) (szb (by omega)) ?_
    walk_at "vm"
    refine p_itL _ ?_
    refine main _ el _ ?_
    exact fun l x3 x4 x5 hr => fin l x3 x4 x5 (by rw [el]; exact hr)
end Vm.K26

-- mac2
open PySem PySem.Spec L2 Vm Vm.Lib
local macro_rules | `(tactic| walk_at "vm") => `(tactic| (repeat (first
  | (with_reducible refine ss_cons ?_) | (with_reducible refine ss_nil ?_) | (with_reducible refine s_asg ?_) | (with_reducible refine s_ret ?_) | (with_reducible refine s_ifs ?_) | (with_reducible refine s_expr ?_) | (with_reducible refine s_pass ?_) | (with_reducible refine s_par ?_) | (with_reducible refine s_asgT ?_) | (with_reducible refine s_retN ?_) | (with_reducible refine s_setf ?_) | (with_reducible refine e_con0 ?_) | (with_reducible refine e_bin0 ?_) | (with_reducible refine e_cmp0 ?_) | (with_reducible refine e_cmp1 ?_) | (with_reducible refine l_nil ?_) | (with_reducible refine l_cons ?_) | (with_reducible refine e_idx0 ?_) | (with_reducible refine p_addI ?_) | (with_reducible refine p_sub ?_) | (with_reducible refine p_gtI ?_) | (with_reducible refine p_ltI ?_) | (with_reducible refine p_leI ?_) | (with_reducible refine p_geI ?_) | (with_reducible refine p_eqI ?_) | (with_reducible refine p_neI ?_) | (with_reducible refine p_eqS ?_) | (with_reducible refine p_neS ?_) | (with_reducible refine p_abs ?_) | (with_reducible refine p_intI ?_) | (with_reducible refine p_intB ?_) | (with_reducible refine p_boolB ?_) | (with_reducible refine p_min ?_) | (with_reducible refine p_max ?_) | (with_reducible refine p_leS ?_) | (with_reducible refine e_chain0 ?_) | (with_reducible refine e_chain1 ?_) | (with_reducible refine e_bool0 ?_) | (with_reducible refine e_bool1 ?_) | (with_reducible refine b_one0 ?_) | (with_reducible refine b_one1 ?_) | (with_reducible refine b_cons0 ?_) | (with_reducible refine b_cons1 ?_) | (with_reducible refine e_not0 ?_) | (with_reducible refine e_not1 ?_) | (with_reducible refine e_isi0 ?_) | (with_reducible refine e_isi1 ?_) | (with_reducible refine notk_t ?_) | (with_reducible refine notk_f ?_) | (with_reducible refine notk_d ?_) | (with_reducible refine notk_b ?_) | (with_reducible refine intk ?_) | (with_reducible refine int2k ?_) | (with_reducible refine blk ?_) | (with_reducible refine p_inC ?_) | (with_reducible refine bok_tt ?_) | (with_reducible refine bok_tf ?_) | (with_reducible refine bok_ff ?_) | (with_reducible refine bok_ft ?_) | (with_reducible refine ifk_t ?_) | (with_reducible refine ifk_f ?_) | (with_reducible refine qt_bl ?_) | (with_reducible refine e_lst0 ?_) | (with_reducible refine e_tup0 ?_) | (with_reducible refine e_slc0 ?_) | (with_reducible refine o_no ?_) | (with_reducible refine o_so ?_) | (with_reducible refine e_meth0 ?_) | (with_reducible refine e_un0 ?_) | (with_reducible refine p_neg ?_) | (with_reducible refine s_seti ?_) | (with_reducible refine e_comp0 ?_) | (with_reducible refine s_for ?_) | (with_reducible refine i_val ?_) | (with_reducible refine i_range1 ?_) | (with_reducible refine i_range2 ?_) | (with_reducible refine i_enum ?_) | (with_reducible refine s_cellify ?_) | (with_reducible refine e_fstr0 ?_) | (with_reducible refine e_mcall0 ?_) | (with_reducible refine j_nil ?_) | (with_reducible refine j_cons ?_) | (with_reducible refine p_slcT ?_) | (with_reducible refine e_ite0 ?_) | (with_reducible refine qtf ?_) | (with_reducible refine qtt ?_) | ((with_reducible apply s_retv); (next => rfl)) | ((with_reducible apply e_var0); (next => rfl)) | ((with_reducible apply e_own0); (next => rfl)) | ((with_reducible apply e_var1); (next => rfl)) | ((with_reducible apply e_prim0); (next => first | rfl | (exact allP (by assumption)))) | ((with_reducible apply e_call0); (next => first | rfl | assumption); (next => first | rfl | assumption)) | ((with_reducible apply e_glob0); (next => first | rfl | assumption)) | ((with_reducible apply e_op0); (next => first | rfl | assumption)) | ((with_reducible apply e_op1); (next => first | rfl | assumption)) | ((with_reducible apply o_fldI); (next => rfl); (next => rfl)) | ((with_reducible apply o_iscT); (next => rfl); (next => rfl)) | ((with_reducible apply o_iscF); (next => rfl); (next => rfl)) | ((with_reducible apply o_iscI); (next => rfl); (next => rfl)) | ((with_reducible apply o_prpI); (next => rfl); (next => rfl); (next => rfl)) | ((with_reducible apply o_unI); (next => rfl); (next => rfl)) | ((with_reducible apply o_binN); (next => rfl); (next => rfl); (next => rfl); (next => rfl)) | ((with_reducible apply o_binI); (next => rfl); (next => rfl); (next => rfl); (next => rfl)) | ((with_reducible apply m_ins); (next => rfl)) | ((with_reducible apply k_call); (next => rfl); (next => rfl); (next => rfl); (next => rfl)) | ((with_reducible apply o_call); (next => rfl); (next => rfl); (next => rfl); (next => rfl)) | ((with_reducible apply p_idxT); (next => rfl)) | ((with_reducible apply p_idxL); (next => rfl)) | (with_reducible refine p_slcS (by assumption) ?_) | ((with_reducible apply tupk); (next => rfl)) | ((with_reducible apply ifk_dt); (next => first | rfl | decide)) | ((with_reducible apply ifk_dn); (next => first | rfl | decide)) | ((with_reducible apply ifk_nt); (next => first | rfl | decide)) | ((with_reducible apply ifk_nn); (next => first | rfl | decide)) | ((with_reducible apply bok_at); (next => first | rfl | decide)) | ((with_reducible apply bok_an); (next => first | rfl | decide)) | ((with_reducible apply bok_ot); (next => first | rfl | decide)) | ((with_reducible apply bok_on); (next => first | rfl | decide)) | ((with_reducible apply bok_ant); (next => first | rfl | decide)) | ((with_reducible apply bok_ann); (next => first | rfl | decide)) | ((with_reducible apply bok_ont); (next => first | rfl | decide)) | ((with_reducible apply bok_onn); (next => first | rfl | decide)) | ((with_reducible apply p_addT); (next => exact szk (by exact Nat.le_of_ble_eq_true rfl))) | ((with_reducible apply p_addL); (next => exact szk (by exact Nat.le_of_ble_eq_true rfl))) | ((with_reducible apply s_try); (next => rfl)) | ((with_reducible apply s_raise); (next => rfl)) | (with_reducible refine s_ifI ?_) | ((with_reducible apply e_prim1); (next => first | rfl | (exact allP (by assumption)))) | ((with_reducible apply e_call1); (next => first | rfl | assumption); (next => first | rfl | assumption)) | ((with_reducible apply e_own1); (next => rfl)) | (with_reducible refine s_parL ?_) | (with_reducible refine e_con1 ?_) | (with_reducible refine e_bin1 ?_) | (with_reducible refine e_idx1 ?_) | (with_reducible refine e_comp1 ?_) | (with_reducible refine e_meth1 ?_) | (with_reducible refine e_un1 ?_) | (with_reducible refine p_allT ?_) | ((with_reducible apply bindk1); (next => rfl)) | (with_reducible refine is_non ?_) | (with_reducible refine isnt_non ?_) | (with_reducible refine is_int ?_) | (with_reducible refine isnt_int ?_) | (with_reducible refine is_str ?_) | (with_reducible refine isnt_str ?_) | (with_reducible refine is_tup ?_) | (with_reducible refine isnt_tup ?_) | (with_reducible refine is_lst ?_) | (with_reducible refine isnt_lst ?_) | (with_reducible refine is_ins ?_) | (with_reducible refine isnt_ins ?_) | (with_reducible refine is_cell ?_) | (with_reducible refine isnt_cell ?_) | (with_reducible refine is_bl ?_) | (with_reducible refine isnt_bl ?_) | (with_reducible refine e_dispT ?_) | (with_reducible refine e_dispL ?_) | (with_reducible refine d_nil ?_) | (with_reducible refine d_st ?_) | (with_reducible refine d_no ?_) | ((with_reducible apply e_mkv0); (next => rfl); (next => first | rfl | assumption)))))
-- /mac2
namespace Vm.K26
open PySem PySem.Spec L2 Vm Vm.Lib
open PyProof.Rows hiding St
section
variable {c : Cl} {Q : D → Bool → Cl → Prop} {E : Ex → Cl → Prop}
/-- C.read of a program's text -/
theorem read_ {l : List Dd} {k : Nat} (h20 : ∀ d ∈ l, d.okB 20) (hl : l.length ≤ 1000) (hz : (ptxt l).length ≤ 9000) (h : (L.cx k).fn (mtF 23 29) = spRead) (q : ∀ ys x, ys.Nodup → Q (pg l ys) false (c ++ [x])) :
    (L.cx k).fn (mtF 23 29) [.cls 23, .str (ptxt l)] c Q E := by
  rw [h]
  refine ⟨ptxt l, rfl, hz, ?_, fun l' e ys x nd => ?_, fun i e => ?_⟩
  · rw [lines_txt h20, List.length_map]; omega
  · rw [read_txt h20] at e
    cases e
    exact q ys x nd
  · rw [read_txt h20] at e
    cases e
end
theorem fC_app {c : Cl} {n : Nat} {a b t : Int} {z : D} (h : n < c.length) : fC c n a b t ++ [z] = fC (c ++ [z]) n a b t := by
  unfold fC
  rw [List.set_append_left _ _ h]
def menu : List Dd := [.turn "x", .push "y" (-7), .add "x" "y" 5, .push "x" 0]
theorem nmx : nmS "x" := (by decide +kernel : isNm ("x" : Str).cps.toList = true)
theorem nmy : nmS "y" := (by decide +kernel : isNm ("y" : Str).cps.toList = true)
theorem menu_ok : ∀ d ∈ menu, d.okB 20 ∧ d.txt.length ≤ 9 := by
  intro d h
  simp only [menu, List.mem_cons, List.not_mem_nil, or_false] at h
  rcases h with rfl | rfl | rfl | rfl
  · exact ⟨nmx, by decide +kernel⟩
  · exact ⟨⟨nmy, by decide⟩, by decide +kernel⟩
  · exact ⟨⟨by decide, nmx, nmy, by decide⟩, by decide +kernel⟩
  · exact ⟨⟨nmx, by decide⟩, by decide +kernel⟩
theorem wp_law : ∀ ds c Q E, lawSp 63 ds c Q E → wpDef cx_law 1 13 ir_law ds c Q E := by
  rintro ds c Q E ⟨ns, rfl, hn, rfl, q⟩
  refine ⟨rfl, ?_⟩
  show wpSs _ _ [.sh (.scr (ns.map D.int)), .no, .no, .no, .no, .no, .no, .no, .no, .no, .no, .no, .no] [] _ _
  have ln : ∀ c, lenD c (.scr (ns.map D.int)) = some ns.length := fun c => by show some (ns.map D.int).length = _; rw [List.length_map]
  unfold ir_law
  walk_at "vm"
  refine p_len (ln _) ?_
  walk_at "vm"
  refine ⟨⟨by split <;> (try split) <;> omega, by split <;> (try split) <;> omega⟩, ?_⟩
  refine loopF_rng (fun i s c => ∃ (x1 x2 x3 x4 x5 x6 x7 x8 x9 x10 x11 x12 : Sl), s = [.sh (.scr (ns.map D.int)), x1, x2, x3, x4, x5, x6, x7, x8, x9, x10, x11, x12]) _ ?_ ?_ _ _ ⟨.no, .no, .no, .no, .no, .no, .no, .no, .no, .no, .no, .no, rfl⟩
  · rintro i hi s c ⟨x1, x2, x3, x4, x5, x6, x7, x8, x9, x10, x11, x12, rfl⟩
    have hi8 : i < 6 := Nat.lt_of_lt_of_le hi (by split <;> (try split) <;> omega)
    refine ⟨trivial, fun K kk => f_step rfl ?_⟩
    show wpSs _ _ [.sh (.scr (ns.map D.int)), .sh (.int (0 + (i : Nat))), x2, x3, x4, x5, x6, x7, x8, x9, x10, x11, x12] c _ _
    rw [Int.zero_add]
    walk_at "vm"
    refine ⟨ns, i, rfl, by omega, hn, fun a b => ⟨rfl, ?_⟩⟩
    rw [fC_new]
    have hn0 : c.length < (c ++ [feedD 0 0 0]).length := by rw [List.length_append]; exact Nat.lt_succ_self _
    generalize c ++ [feedD 0 0 0] = c0 at hn0 ⊢
    generalize c.length = n at hn0 ⊢
    show wpSs _ _ [.sh (.scr (ns.map D.int)), .sh (.int (i : Nat)), .sh (.cell n), x3, x4, x5, x6, x7, x8, x9, x10, x11, x12] (fC c0 n a b 0) _ _
    walk_at "vm"
    refine tk_ (C := cx_law) rfl (by decide) (by decide) hn0 fun r a b t r0 r1 => ?_
    walk_at "vm"
    refine ⟨c0, n, a, b, t, _, rfl, rfl, hn0, by omega, by omega, fun zs a b t ok hl => ?_⟩
    walk_at "vm"
    refine tk_ (C := cx_law) rfl (by decide) (by decide) hn0 fun m a b t m0 m1 => ?_
    walk_at "vm"
    refine ⟨⟨by omega, by omega⟩, ?_⟩
    refine loopC_draw Dd.tp (Dd.okB 20) (fun s c => ∃ o3 z5 a b t, s = [.sh (.scr (ns.map D.int)), .sh (.int (i : Nat)), .sh (.cell n), slOf (.lst (zs.map .str)) o3, x4, z5, x6, x7, x8, x9, x10, x11, x12] ∧ c = fC c0 n a b t) m.toNat (szb (by omega)) ?_ ?_ _ _ ⟨true, _, _, _, _, rfl, rfl⟩
    · rintro j hj s c ⟨o3, z5, a, b, t, rfl, rfl⟩
      refine ⟨trivial, fun K2 k1 => c_step rfl (if_nil (chk_b (fun _ => ?_) nofun))⟩
      show wpE _ _ _ [.sh (.scr (ns.map D.int)), .sh (.int (i : Nat)), .sh (.cell n), slOf (.lst (zs.map .str)) o3, x4, .sh (.int (0 + (j : Nat))), x6, x7, x8, x9, x10, x11, x12] _ _ _
      walk_at "vm"
      refine e_slO rfl ?_
      walk_at "vm"
      exact ⟨c0, n, a, b, t, zs, rfl, rfl, hn0, ok, by omega, by omega, fun d a b t od => k1 d _ _ od ⟨false, _, _, _, _, rfl, rfl⟩⟩
    rintro l s c hl2 ol ⟨o3, z5, a, b, t, rfl, rfl⟩
    refine ⟨trivial, ?_⟩
    have okl : ∀ d ∈ l, d.ok := fun d h => ok_of20 (ol d h)
    have ll : l.length ≤ 12 := by omega
    show wpSs _ _ [.sh (.scr (ns.map D.int)), .sh (.int (i : Nat)), .sh (.cell n), slOf (.lst (zs.map .str)) o3, .ow (.lst (l.map Dd.tp)), x5, x6, x7, x8, x9, x10, x11, x12] _ _ _
    generalize slOf (D.lst (zs.map D.str)) o3 = y3
    walk_at "vm"
    refine loopC_map Dd.tp Dd.ob (fun s c => ∃ z8, s = [.sh (.scr (ns.map D.int)), .sh (.int (i : Nat)), .sh (.cell n), y3, .sh (.lst (l.map Dd.tp)), x5, x6, x7, z8, x9, x10, x11, x12] ∧ c = fC c0 n a b t) l (szb (by omega)) ?_ ?_ _ _ ⟨_, rfl, rfl⟩
    · rintro d hd s c ⟨z8, rfl, rfl⟩
      refine ⟨trivial, fun K2 k1 => c_step rfl (if_nil (chk_b (fun _ => ?_) nofun))⟩
      show wpE _ _ _ [.sh (.scr (ns.map D.int)), .sh (.int (i : Nat)), .sh (.cell n), y3, .sh (.lst (l.map Dd.tp)), x5, x6, x7, .sh d.tp, x9, x10, x11, x12] _ _ _
      walk_at "vm"
      exact ⟨d, okl d hd, rfl, k1 _ _ ⟨_, rfl, rfl⟩⟩
    rintro s c ⟨y8, rfl, rfl⟩
    refine ⟨trivial, ?_⟩
    walk_at "vm"
    generalize hc : fC c0 n a b t = c1
    refine ⟨rfl, rfl, rfl, rfl, _, .lst (l.map Dd.ob), l, rfl, get_last, rfl, by omega, fun ys nd => ⟨rfl, [15, 16], [.tup (l.map Dd.ob), .tup (ys.map .str)], set_last, flat_pg _ _, ?_⟩⟩
    walk_at "vm"
    refine ⟨trivial, ?_⟩
    walk_at "vm"
    refine loopC_map Dd.tp (fun d => .str d.txt) (fun s c => ∃ z8, s = [.sh (.scr (ns.map D.int)), .sh (.int (i : Nat)), .sh (.cell n), y3, .sh (.lst (l.map Dd.tp)), x5, x6, x7, z8, x9, x10, x11, x12] ∧ c = c1) l (szb (by omega)) ?_ ?_ _ _ ⟨_, rfl, rfl⟩
    · rintro d hd s c ⟨z8, rfl, rfl⟩
      refine ⟨trivial, fun K2 k1 => c_step rfl (if_nil (chk_b (fun _ => ?_) nofun))⟩
      show wpE _ _ _ [.sh (.scr (ns.map D.int)), .sh (.int (i : Nat)), .sh (.cell n), y3, .sh (.lst (l.map Dd.tp)), x5, x6, x7, .sh d.tp, x9, x10, x11, x12] _ _ _
      walk_at "vm"
      exact ⟨d, okl d hd, rfl, k1 _ _ ⟨_, rfl, rfl⟩⟩
    rintro s c ⟨z8, rfl, e0⟩
    have e1 := e0.symm; subst e1
    refine ⟨trivial, ?_⟩
    walk_at "vm"
    refine p_joinT okl (by omega) ?_
    walk_at "vm"
    refine ⟨rfl, ?_⟩
    have lz : (ptxt l).length ≤ 9000 := by have := ptxt_len okl; omega
    have nm : ∀ d ∈ l, Dd.nmk d := fun d h => ok_nmk (ol d h)
    have lz2 : (ptxt (undoneL l)).length ≤ 9000 := by have := ptxt_len (undone_ok okl); rw [undone_len] at this; omega
    show wpSs _ _ [.sh (.scr (ns.map D.int)), .sh (.int (i : Nat)), .sh (.cell n), y3, .sh (.lst (l.map Dd.tp)), x5, .sh (.ins 23 [15, 16] [.tup ((l).map Dd.ob), .tup (ys.map .str)]), .sh (.str (ptxt l)), x8, x9, x10, x11, x12] _ _ _
    walk_at "vm"
    refine ⟨rfl, rfl, rfl, read_ (k := 33) ol (by omega) lz rfl fun ys1 z1 nd1 => ?_⟩
    replace hc : fC (c0 ++ [z1]) n a b t = c1 ++ [z1] := by rw [← hc]; exact (fC_app hn0).symm
    replace hn0 : n < (c0 ++ [z1]).length := by rw [List.length_append]; omega
    generalize c0 ++ [z1] = c0 at hc hn0
    generalize c1 ++ [z1] = c1 at hc ⊢
    show wpSs _ _ [.sh (.scr (ns.map D.int)), .sh (.int (i : Nat)), .sh (.cell n), y3, .sh (.lst (l.map Dd.tp)), x5, .sh (.ins 23 [15, 16] [.tup ((l).map Dd.ob), .tup (ys.map .str)]), .sh (.str (ptxt l)), x8, .sh (.ins 23 [15, 16] [.tup ((l).map Dd.ob), .tup (ys1.map .str)]), x10, x11, x12] _ _ _
    walk_at "vm"
    refine ⟨l, ys, rfl, okl, by omega, ?_⟩
    walk_at "vm"
    refine p_reprL (ptxt_asc okl) (by omega) ?_
    walk_at "vm"
    refine p_reprL (ptxt_asc okl) (by omega) ?_
    walk_at "vm"
    refine o_neI (k := 23) (ns := [15, 16]) rfl rfl ⟨rfl, .inl rfl⟩ ?_
    refine ⟨l, ys1, ys, rfl, true, rfl, ?_⟩
    walk_at "vm"
    refine ifk_f ?_
    walk_at "vm"
    refine loopC_map Dd.ob Dd.tp (fun s c => ∃ z8, s = [.sh (.scr (ns.map D.int)), .sh (.int (i : Nat)), .sh (.cell n), y3, .sh (.lst (l.map Dd.tp)), x5, .sh (.ins 23 [15, 16] [.tup ((l).map Dd.ob), .tup (ys.map .str)]), .sh (.str (ptxt l)), z8, .sh (.ins 23 [15, 16] [.tup ((l).map Dd.ob), .tup (ys1.map .str)]), x10, x11, x12] ∧ c = c1) l (szb (by omega)) ?_ ?_ _ _ ⟨_, rfl, rfl⟩
    · rintro d hd s c ⟨z8, rfl, rfl⟩
      refine ⟨trivial, fun K2 k1 => c_step rfl (if_nil (chk_b (fun _ => ?_) nofun))⟩
      show wpE _ _ _ [.sh (.scr (ns.map D.int)), .sh (.int (i : Nat)), .sh (.cell n), y3, .sh (.lst (l.map Dd.tp)), x5, .sh (.ins 23 [15, 16] [.tup ((l).map Dd.ob), .tup (ys.map .str)]), .sh (.str (ptxt l)), .sh d.ob, .sh (.ins 23 [15, 16] [.tup ((l).map Dd.ob), .tup (ys1.map .str)]), x10, x11, x12] _ _ _
      walk_at "vm"
      exact ⟨d, rfl, k1 _ _ ⟨_, rfl, rfl⟩⟩
    rintro s c ⟨z8, rfl, e0⟩
    have e1 := e0.symm; subst e1
    refine ⟨trivial, ?_⟩
    walk_at "vm"
    refine p_ne0 (py_lst _ _) (py_lst _ _) (sh_lst nm) ?_
    walk_at "vm"
    refine ⟨l, ys1, rfl, okl, by omega, ?_⟩
    walk_at "vm"
    refine p_reprL (ptxt_asc okl) (by omega) ?_
    walk_at "vm"
    refine p_reprL (ptxt_asc okl) (by omega) ?_
    walk_at "vm"
    refine o_revL ?_
    rw [← List.map_reverse]
    walk_at "vm"
    refine loopC_map Dd.tp (fun d => d.neg.tp) (fun s c => ∃ z8, s = [.sh (.scr (ns.map D.int)), .sh (.int (i : Nat)), .sh (.cell n), y3, .sh (.lst (l.map Dd.tp)), x5, .sh (.ins 23 [15, 16] [.tup ((l).map Dd.ob), .tup (ys.map .str)]), .sh (.str (ptxt l)), z8, .sh (.ins 23 [15, 16] [.tup ((l).map Dd.ob), .tup (ys1.map .str)]), x10, x11, x12] ∧ c = c1) l.reverse (szb (by rw [List.length_reverse]; omega)) ?_ ?_ _ _ ⟨_, rfl, rfl⟩
    · rintro d hd s c ⟨z8, rfl, rfl⟩
      refine ⟨trivial, fun K2 k1 => c_step rfl (if_nil (chk_b (fun _ => ?_) nofun))⟩
      show wpE _ _ _ [.sh (.scr (ns.map D.int)), .sh (.int (i : Nat)), .sh (.cell n), y3, .sh (.lst (l.map Dd.tp)), x5, .sh (.ins 23 [15, 16] [.tup ((l).map Dd.ob), .tup (ys.map .str)]), .sh (.str (ptxt l)), .sh d.tp, .sh (.ins 23 [15, 16] [.tup ((l).map Dd.ob), .tup (ys1.map .str)]), x10, x11, x12] _ _ _
      cases d with
      | add t' s' k' =>
        show wpE _ _ _ [.sh (.scr (ns.map D.int)), .sh (.int (i : Nat)), .sh (.cell n), y3, .sh (.lst (l.map Dd.tp)), x5, .sh (.ins 23 [15, 16] [.tup ((l).map Dd.ob), .tup (ys.map .str)]), .sh (.str (ptxt l)), .sh (.tup [.str "add", .str t', .str s', .int k']), .sh (.ins 23 [15, 16] [.tup ((l).map Dd.ob), .tup (ys1.map .str)]), x10, x11, x12] _ _ _
        walk_at "vm"
        rw [Int.zero_sub]
        exact k1 _ _ ⟨_, rfl, rfl⟩
      | push t' k' =>
        show wpE _ _ _ [.sh (.scr (ns.map D.int)), .sh (.int (i : Nat)), .sh (.cell n), y3, .sh (.lst (l.map Dd.tp)), x5, .sh (.ins 23 [15, 16] [.tup ((l).map Dd.ob), .tup (ys.map .str)]), .sh (.str (ptxt l)), .sh (.tup [.str "push", .str t', .int k']), .sh (.ins 23 [15, 16] [.tup ((l).map Dd.ob), .tup (ys1.map .str)]), x10, x11, x12] _ _ _
        walk_at "vm"
        rw [Int.zero_sub]
        exact k1 _ _ ⟨_, rfl, rfl⟩
      | turn t' =>
        show wpE _ _ _ [.sh (.scr (ns.map D.int)), .sh (.int (i : Nat)), .sh (.cell n), y3, .sh (.lst (l.map Dd.tp)), x5, .sh (.ins 23 [15, 16] [.tup ((l).map Dd.ob), .tup (ys.map .str)]), .sh (.str (ptxt l)), .sh (.tup [.str "turn", .str t']), .sh (.ins 23 [15, 16] [.tup ((l).map Dd.ob), .tup (ys1.map .str)]), x10, x11, x12] _ _ _
        walk_at "vm"
        exact k1 _ _ ⟨_, rfl, rfl⟩
    rintro s c ⟨z8, rfl, e0⟩
    have e1 := e0.symm; subst e1
    refine ⟨trivial, ?_⟩
    walk_at "vm"
    have eb : (l.reverse.map fun d => d.neg.tp) = (undoneL l).map Dd.tp := by unfold undoneL; rw [List.map_map]; rfl
    rw [eb]
    have ul : (undoneL l).length ≤ 12 := by rw [undone_len]; exact ll
    have nu := undone_ok ol
    refine ⟨l, ys1, rfl, okl, by omega, fun ys2 nd2 => ?_⟩
    walk_at "vm"
    refine ⟨23, rfl, rfl, rfl, rfl, rfl, undoneL l, ys2, rfl, undone_ok okl, by omega, ?_⟩
    walk_at "vm"
    refine ⟨trivial, ?_⟩
    walk_at "vm"
    refine loopC_map Dd.tp (fun d => .str d.txt) (fun s c => ∃ z8, s = [.sh (.scr (ns.map D.int)), .sh (.int (i : Nat)), .sh (.cell n), y3, .sh (.lst (l.map Dd.tp)), x5, .sh (.ins 23 [15, 16] [.tup ((l).map Dd.ob), .tup (ys.map .str)]), .sh (.str (ptxt l)), z8, .sh (.ins 23 [15, 16] [.tup ((l).map Dd.ob), .tup (ys1.map .str)]), .sh (.lst ((undoneL l).map Dd.tp)), x11, x12] ∧ c = c1) (undoneL l) (szb (by omega)) ?_ ?_ _ _ ⟨_, rfl, rfl⟩
    · rintro d hd s c ⟨z8, rfl, rfl⟩
      refine ⟨trivial, fun K2 k1 => c_step rfl (if_nil (chk_b (fun _ => ?_) nofun))⟩
      show wpE _ _ _ [.sh (.scr (ns.map D.int)), .sh (.int (i : Nat)), .sh (.cell n), y3, .sh (.lst (l.map Dd.tp)), x5, .sh (.ins 23 [15, 16] [.tup ((l).map Dd.ob), .tup (ys.map .str)]), .sh (.str (ptxt l)), .sh d.tp, .sh (.ins 23 [15, 16] [.tup ((l).map Dd.ob), .tup (ys1.map .str)]), .sh (.lst ((undoneL l).map Dd.tp)), x11, x12] _ _ _
      walk_at "vm"
      exact ⟨d, undone_ok okl d hd, rfl, k1 _ _ ⟨_, rfl, rfl⟩⟩
    rintro s c ⟨z8, rfl, e0⟩
    have e1 := e0.symm; subst e1
    refine ⟨trivial, ?_⟩
    walk_at "vm"
    refine p_joinT (undone_ok okl) (by omega) ?_
    walk_at "vm"
    refine ⟨l, ys1, rfl, okl, by omega, fun ys3 nd3 => ?_⟩
    walk_at "vm"
    refine ⟨23, rfl, rfl, rfl, rfl, rfl, undoneL l, ys3, rfl, undone_ok okl, by omega, ?_⟩
    walk_at "vm"
    refine ⟨rfl, rfl, rfl, read_ (k := 33) nu (by omega) lz2 rfl fun ys4 z4 nd4 => ?_⟩
    replace hc : fC (c0 ++ [z4]) n a b t = c1 ++ [z4] := by rw [← hc]; exact (fC_app hn0).symm
    replace hn0 : n < (c0 ++ [z4]).length := by rw [List.length_append]; omega
    generalize c0 ++ [z4] = c0 at hc hn0
    generalize c1 ++ [z4] = c1 at hc ⊢
    walk_at "vm"
    refine ⟨l, ys, rfl, okl, by omega, fun ys5 nd5 => ?_⟩
    walk_at "vm"
    refine o_neI (k := 23) (ns := [15, 16]) rfl rfl ⟨rfl, .inl rfl⟩ ?_
    refine ⟨undoneL l, ys4, ys5, rfl, true, rfl, ?_⟩
    walk_at "vm"
    refine ifk_f ?_
    walk_at "vm"
    subst hc
    refine tk_ (C := cx_law) rfl (by decide) (by decide) hn0 fun m2 a b t m20 m21 => ?_
    walk_at "vm"
    refine ⟨⟨by omega, by omega⟩, ?_⟩
    generalize hpr : D.ins 23 [15, 16] [.tup (l.map Dd.ob), .tup (ys.map .str)] = pr
    generalize hbk : D.lst ((undoneL l).map Dd.tp) = bk
    refine loopC_draw Dd.tp (fun d => d.okB 20 ∧ d.txt.length ≤ 9) (fun s c => ∃ z5 z6 z7 z8 z9 z10 o11 a b t, s = [.sh (.scr (ns.map D.int)), .sh (.int (i : Nat)), .sh (.cell n), y3, .sh (.lst (l.map Dd.tp)), z5, z6, z7, z8, z9, z10, slOf (.lst (menu.map Dd.tp)) o11, x12] ∧ c = fC c0 n a b t) (200 - m2).toNat (szb (by omega)) ?_ ?_ _ _ ⟨_, _, _, _, _, _, true, _, _, _, rfl, rfl⟩
    · rintro j hj s c ⟨z5, z6, z7, z8, z9, z10, o11, a, b, t, rfl, rfl⟩
      refine ⟨trivial, fun K2 k1 => c_step rfl (if_nil (chk_b (fun _ => ?_) nofun))⟩
      show wpE _ _ _ [.sh (.scr (ns.map D.int)), .sh (.int (i : Nat)), .sh (.cell n), y3, .sh (.lst (l.map Dd.tp)), .sh (.int (0 + (j : Nat))), z6, z7, z8, z9, z10, slOf (.lst (menu.map Dd.tp)) o11, x12] _ _ _
      walk_at "vm"
      refine e_slO rfl ?_
      walk_at "vm"
      refine tk_ (C := cx_law) rfl (by decide) (by decide) hn0 fun m2 a b t m20 m21 => ?_
      walk_at "vm"
      obtain ⟨v, hv, od⟩ : ∃ v, v ∈ menu ∧ atI (menu.map Dd.tp) m2 = some (Dd.tp v) := by
        obtain ⟨z, rfl⟩ : ∃ z : Nat, m2 = z := ⟨m2.toNat, by omega⟩
        have hz : z < 4 := by omega
        match z, hz with
        | 0, _ => exact ⟨_, List.Mem.head _, rfl⟩
        | 1, _ => exact ⟨_, List.Mem.tail _ (List.Mem.head _), rfl⟩
        | 2, _ => exact ⟨_, List.Mem.tail _ (List.Mem.tail _ (List.Mem.head _)), rfl⟩
        | 3, _ => exact ⟨_, List.Mem.tail _ (List.Mem.tail _ (List.Mem.tail _ (List.Mem.head _))), rfl⟩
      refine p_idxL od ?_
      exact k1 v _ _ (menu_ok v hv) ⟨_, _, _, _, _, _, false, _, _, _, rfl, rfl⟩
    rintro l2 s c hl3 ol2 ⟨z5, z6, z7, z8, z9, z10, o11, a, b, t, rfl, rfl⟩
    refine ⟨trivial, ?_⟩
    clear hpr hbk
    have okl2 : ∀ d ∈ l2, d.okB 20 := fun d h => (ol2 d h).1
    have okl3 : ∀ d ∈ l2, d.ok := fun d h => ok_of20 (okl2 d h)
    have lz3 := ptxt_lenM (m := 9) fun d h => (ol2 d h).2
    have ll2 : l2.length ≤ 200 := by omega
    show wpSs _ _ [.sh (.scr (ns.map D.int)), .sh (.int (i : Nat)), .sh (.cell n), y3, .sh (.lst (l.map Dd.tp)), x5, z6, z7, z8, z9, z10, slOf (.lst (menu.map Dd.tp)) o11, .ow (.lst (l2.map Dd.tp))] _ _ _
    generalize slOf (.lst (menu.map Dd.tp)) o11 = y11
    walk_at "vm"
    refine ⟨trivial, ?_⟩
    walk_at "vm"
    refine loopC_map Dd.tp (fun d => .str d.txt) (fun s c => ∃ z8, s = [.sh (.scr (ns.map D.int)), .sh (.int (i : Nat)), .sh (.cell n), y3, .sh (.lst (l.map Dd.tp)), x5, z6, z7, z8, z9, z10, y11, .sh (.lst (l2.map Dd.tp))] ∧ c = fC c0 n a b t) l2 (szb (by omega)) ?_ ?_ _ _ ⟨_, rfl, rfl⟩
    · rintro d hd s c ⟨z8, rfl, rfl⟩
      refine ⟨trivial, fun K2 k1 => c_step rfl (if_nil (chk_b (fun _ => ?_) nofun))⟩
      show wpE _ _ _ [.sh (.scr (ns.map D.int)), .sh (.int (i : Nat)), .sh (.cell n), y3, .sh (.lst (l.map Dd.tp)), x5, z6, z7, .sh d.tp, z9, z10, y11, .sh (.lst (l2.map Dd.tp))] _ _ _
      walk_at "vm"
      exact ⟨d, okl3 d hd, rfl, k1 _ _ ⟨_, rfl, rfl⟩⟩
    rintro s c ⟨w8, rfl, rfl⟩
    refine ⟨trivial, ?_⟩
    walk_at "vm"
    refine p_joinT okl3 (by omega) ?_
    walk_at "vm"
    refine ⟨rfl, rfl, rfl, read_ (k := 33) okl2 (by omega) (by omega) rfl fun ys6 q6 nd6 => ?_⟩
    generalize fC c0 n a b t ++ [q6] = c1
    walk_at "vm"
    show opW cx_law (Gn.fld 15) [.ins 23 [15, 16] [.tup (l2.map Dd.ob), .tup (ys6.map .str)]] _ _ _
    walk_at "vm"
    refine loopC_map Dd.ob Dd.tp (fun s c => ∃ v8, s = [.sh (.scr (ns.map D.int)), .sh (.int (i : Nat)), .sh (.cell n), y3, .sh (.lst (l.map Dd.tp)), x5, z6, .sh (.str (ptxt l2)), v8, .sh (.ins 23 [15, 16] [.tup (l2.map Dd.ob), .tup (ys6.map .str)]), z10, y11, .sh (.lst (l2.map Dd.tp))] ∧ c = c1) l2 (szb (by omega)) ?_ ?_ _ _ ⟨_, rfl, rfl⟩
    · rintro d hd s c ⟨v8, rfl, rfl⟩
      refine ⟨trivial, fun K2 k1 => c_step rfl (if_nil (chk_b (fun _ => ?_) nofun))⟩
      show wpE _ _ _ [.sh (.scr (ns.map D.int)), .sh (.int (i : Nat)), .sh (.cell n), y3, .sh (.lst (l.map Dd.tp)), x5, z6, .sh (.str (ptxt l2)), .sh d.ob, .sh (.ins 23 [15, 16] [.tup (l2.map Dd.ob), .tup (ys6.map .str)]), z10, y11, .sh (.lst (l2.map Dd.tp))] _ _ _
      walk_at "vm"
      exact ⟨d, rfl, k1 _ _ ⟨_, rfl, rfl⟩⟩
    rintro s c ⟨v8, rfl, e0⟩
    have e1 := e0.symm; subst e1
    refine ⟨trivial, ?_⟩
    walk_at "vm"
    refine p_ne0 (py_lst _ _) (py_lst _ _) (sh_lst fun d h => ok_nmk (okl2 d h)) ?_
    walk_at "vm"
    refine ⟨l2, ys6, rfl, okl3, by omega, ?_⟩
    walk_at "vm"
    exact kk _ _ ⟨_, _, _, _, _, _, _, _, _, _, _, _, rfl⟩
  · rintro s c ⟨x1, x2, x3, x4, x5, x6, x7, x8, x9, x10, x11, x12, rfl⟩
    refine ⟨trivial, ?_⟩
    walk_at "vm"
    refine ⟨rfl, rfl, rfl, ?_⟩
    show (L.cx 33).fn (mtF 23 29) [.cls 23, .str ""] _ _ _
    rw [← ptxt_nil]
    refine read_ (l := []) nofun (by decide) (by rw [ptxt_nil]; decide) rfl fun ys z nd => ?_
    walk_at "vm"
    refine o_lenI rfl ⟨[], ys, rfl, 0, rfl, by decide, ?_⟩
    walk_at "vm"
    refine ⟨rfl, rfl, rfl, rfl, _, .tup [], [], rfl, get_last, rfl, by decide, fun ys' nd => ⟨rfl, [15, 16], [.tup (([] : List Dd).map Dd.ob), .tup (ys'.map .str)], set_last, flat_pg _ _, ?_⟩⟩
    walk_at "vm"
    refine ⟨[], ys', rfl, nofun, by decide, ?_⟩
    rw [ptxt_nil]
    walk_at "vm"
    rw [decide_eq_true rfl]
    exact q _
end Vm.K26

set_option maxHeartbeats 0
namespace Vm.K26
open PySem PySem.Spec L2 Vm Vm.Lib
open PyProof.Rows hiding St
/-! ### the defs, one behind another -/
abbrev dd_is_name : He.DefD := ⟨("is_name", none), "is_name", "is_name", defArgs st_is_name, defBody st_is_name, defScope st_is_name, [], []⟩
abbrev dd_number_text : He.DefD := ⟨("number_text", none), "number_text", "number_text", defArgs st_number_text, defBody st_number_text, defScope st_number_text, [], []⟩
abbrev dd_number_in : He.DefD := ⟨("number_in", none), "number_in", "number_in", defArgs st_number_in, defBody st_number_in, defScope st_number_in, [], []⟩
abbrev dd_short_number : He.DefD := ⟨("short_number", none), "short_number", "short_number", defArgs st_short_number, defBody st_short_number, defScope st_short_number, [], []⟩
abbrev dd_Add_init : He.DefD := ⟨("Add", some "__init__"), "__init__", "Add.__init__", defArgs st_Add_init, defBody st_Add_init, defScope st_Add_init, [.int 1], []⟩
abbrev dd_Push_init : He.DefD := ⟨("Push", some "__init__"), "__init__", "Push.__init__", defArgs st_Push_init, defBody st_Push_init, defScope st_Push_init, [.int 1], []⟩
abbrev dd_Turn_init : He.DefD := ⟨("Turn", some "__init__"), "__init__", "Turn.__init__", defArgs st_Turn_init, defBody st_Turn_init, defScope st_Turn_init, [], []⟩
abbrev dd_Add_eq : He.DefD := ⟨("Add", some "__eq__"), "__eq__", "Add.__eq__", defArgs st_Add_eq, defBody st_Add_eq, defScope st_Add_eq, [], []⟩
abbrev dd_Push_eq : He.DefD := ⟨("Push", some "__eq__"), "__eq__", "Push.__eq__", defArgs st_Push_eq, defBody st_Push_eq, defScope st_Push_eq, [], []⟩
abbrev dd_Turn_eq : He.DefD := ⟨("Turn", some "__eq__"), "__eq__", "Turn.__eq__", defArgs st_Turn_eq, defBody st_Turn_eq, defScope st_Turn_eq, [], []⟩
abbrev dd_Add_neg : He.DefD := ⟨("Add", some "__neg__"), "__neg__", "Add.__neg__", defArgs st_Add_neg, defBody st_Add_neg, defScope st_Add_neg, [], []⟩
abbrev dd_Push_neg : He.DefD := ⟨("Push", some "__neg__"), "__neg__", "Push.__neg__", defArgs st_Push_neg, defBody st_Push_neg, defScope st_Push_neg, [], []⟩
abbrev dd_Turn_neg : He.DefD := ⟨("Turn", some "__neg__"), "__neg__", "Turn.__neg__", defArgs st_Turn_neg, defBody st_Turn_neg, defScope st_Turn_neg, [], []⟩
abbrev dd_Add_text : He.DefD := ⟨("Add", some "text"), "text", "Add.text", defArgs st_Add_text, defBody st_Add_text, defScope st_Add_text, [], []⟩
abbrev dd_Push_text : He.DefD := ⟨("Push", some "text"), "text", "Push.text", defArgs st_Push_text, defBody st_Push_text, defScope st_Push_text, [], []⟩
abbrev dd_Turn_text : He.DefD := ⟨("Turn", some "text"), "text", "Turn.text", defArgs st_Turn_text, defBody st_Turn_text, defScope st_Turn_text, [], []⟩
abbrev dd_scaled_in : He.DefD := ⟨("scaled_in", none), "scaled_in", "scaled_in", defArgs st_scaled_in, defBody st_scaled_in, defScope st_scaled_in, [], []⟩
abbrev dd_deed_in : He.DefD := ⟨("deed_in", none), "deed_in", "deed_in", defArgs st_deed_in, defBody st_deed_in, defScope st_deed_in, [], []⟩
abbrev dd_undone : He.DefD := ⟨("undone", none), "undone", "undone", defArgs st_undone, defBody st_undone, defScope st_undone, [], []⟩
abbrev dd_Program_init : He.DefD := ⟨("Program", some "__init__"), "__init__", "Program.__init__", defArgs st_Program_init, defBody st_Program_init, defScope st_Program_init, [.adr (He.dflAt ("Program", some "__init__") 0)], []⟩
abbrev dd_Program_eq : He.DefD := ⟨("Program", some "__eq__"), "__eq__", "Program.__eq__", defArgs st_Program_eq, defBody st_Program_eq, defScope st_Program_eq, [], []⟩
abbrev dd_Program_len : He.DefD := ⟨("Program", some "__len__"), "__len__", "Program.__len__", defArgs st_Program_len, defBody st_Program_len, defScope st_Program_len, [], []⟩
abbrev dd_Program_neg : He.DefD := ⟨("Program", some "__neg__"), "__neg__", "Program.__neg__", defArgs st_Program_neg, defBody st_Program_neg, defScope st_Program_neg, [], []⟩
abbrev dd_Program_text : He.DefD := ⟨("Program", some "text"), "text", "Program.text", defArgs st_Program_text, defBody st_Program_text, defScope st_Program_text, [], []⟩
abbrev dd_Program_read : He.DefD := ⟨("Program", some "read"), "read", "Program.read", defArgs st_Program_read, defBody st_Program_read, defScope st_Program_read, [], []⟩
abbrev dd_l_feed : He.DefD := ⟨("_law_feed", none), "_law_feed", "_law_feed", defArgs st_l_feed, defBody st_l_feed, defScope st_l_feed, [], []⟩
abbrev dd_l_take : He.DefD := ⟨("_law_take", none), "_law_take", "_law_take", defArgs st_l_take, defBody st_l_take, defScope st_l_take, [], []⟩
abbrev dd_l_names : He.DefD := ⟨("_law_names", none), "_law_names", "_law_names", defArgs st_l_names, defBody st_l_names, defScope st_l_names, [], []⟩
abbrev dd_l_number : He.DefD := ⟨("_law_number", none), "_law_number", "_law_number", defArgs st_l_number, defBody st_l_number, defScope st_l_number, [], []⟩
abbrev dd_l_deed : He.DefD := ⟨("_law_deed", none), "_law_deed", "_law_deed", defArgs st_l_deed, defBody st_l_deed, defScope st_l_deed, [], []⟩
abbrev dd_l_made : He.DefD := ⟨("_law_made", none), "_law_made", "_law_made", defArgs st_l_made, defBody st_l_made, defScope st_l_made, [], []⟩
abbrev dd_l_shown : He.DefD := ⟨("_law_shown", none), "_law_shown", "_law_shown", defArgs st_l_shown, defBody st_l_shown, defScope st_l_shown, [], []⟩
abbrev dd_l_text : He.DefD := ⟨("_law_text", none), "_law_text", "_law_text", defArgs st_l_text, defBody st_l_text, defScope st_l_text, [], []⟩
abbrev dd_law : He.DefD := ⟨("law", none), "law", "law", defArgs st_law, defBody st_law, defScope st_law, [], []⟩
abbrev dd_SameRegister_init : He.DefD := ⟨("SameRegister", some "__init__"), "__init__", "SameRegister.__init__", defArgs st_SameRegister_init, defBody st_SameRegister_init, defScope st_SameRegister_init, [], []⟩
abbrev dd_BadLine_init : He.DefD := ⟨("BadLine", some "__init__"), "__init__", "BadLine.__init__", defArgs st_BadLine_init, defBody st_BadLine_init, defScope st_BadLine_init, [], []⟩
def fnD : List He.DefD := [dd_is_name, dd_number_text, dd_number_in, dd_short_number, dd_Add_init, dd_Push_init, dd_Turn_init, dd_Add_eq, dd_Push_eq, dd_Turn_eq, dd_Add_neg, dd_Push_neg, dd_Turn_neg, dd_Add_text, dd_Push_text, dd_Turn_text, dd_scaled_in, dd_deed_in, dd_undone, dd_Program_init, dd_Program_eq, dd_Program_len, dd_Program_neg, dd_Program_text, dd_Program_read, dd_l_feed, dd_l_take, dd_l_names, dd_l_number, dd_l_deed, dd_l_made, dd_l_shown, dd_l_text, dd_law, dd_SameRegister_init, dd_BadLine_init]
def faD : List He.Fa := freeFa ++ [.glo "is_name", .glo "number_text", .glo "number_in", .glo "short_number", .glo "scaled_in", .glo "deed_in", .glo "undone", .glo "_law_feed", .glo "_law_take", .glo "_law_names", .glo "_law_number", .glo "_law_deed", .glo "_law_made", .glo "_law_shown", .glo "_law_text", .glo "law", .str "LETTERS" "abcdefghijklmnopqrstuvwxyz", .str "DIGITS" "0123456789", .int "MOST_NAME" 8, .int "MOST_TEXT" 4000, .int "MOST_DIGITS" 20]
def xb (K : PySem.W.Frag) : Bool := ctB T nm K && emT K (He.dflAt ("Program", some "__init__") 0 K)
section
variable {P : Program} {w : World} {K : PySem.W.Frag} {mg : Str → Option Value} {base : Heap}
theorem b_is_name {f : Addr} {fd : FuncData} (F : FunD K dd_is_name.name dd_is_name.qual dd_is_name.params dd_is_name.body dd_is_name.scope (dd_is_name.dvs K) (dd_is_name.kws K) f fd) : Binds K fd (nm.ps 0) [] := FunD.bindsN F fun _ _ _ _ _ _ us hl => match us, hl with | [_], _ => rfl
theorem k_is_name_0 {f : Addr} {fd : FuncData} (F : FunD K dd_is_name.name dd_is_name.qual dd_is_name.params dd_is_name.body dd_is_name.scope (dd_is_name.dvs K) (dd_is_name.kws K) f fd) : KBP K fd (nm.ps 0) 1 (kwN (nm.ps 0) 1 []) [.inl 0] := kbp_plain [.inl 0] F (by decide) fun _ _ _ _ _ _ us ws h1 h2 => match us, ws, h1, h2 with | [_], [], _, _ => rfl
theorem b_number_text {f : Addr} {fd : FuncData} (F : FunD K dd_number_text.name dd_number_text.qual dd_number_text.params dd_number_text.body dd_number_text.scope (dd_number_text.dvs K) (dd_number_text.kws K) f fd) : Binds K fd (nm.ps 1) [] := FunD.bindsN F fun _ _ _ _ _ _ us hl => match us, hl with | [_], _ => rfl
theorem k_number_text_0 {f : Addr} {fd : FuncData} (F : FunD K dd_number_text.name dd_number_text.qual dd_number_text.params dd_number_text.body dd_number_text.scope (dd_number_text.dvs K) (dd_number_text.kws K) f fd) : KBP K fd (nm.ps 1) 1 (kwN (nm.ps 1) 1 []) [.inl 0] := kbp_plain [.inl 0] F (by decide) fun _ _ _ _ _ _ us ws h1 h2 => match us, ws, h1, h2 with | [_], [], _, _ => rfl
theorem b_number_in {f : Addr} {fd : FuncData} (F : FunD K dd_number_in.name dd_number_in.qual dd_number_in.params dd_number_in.body dd_number_in.scope (dd_number_in.dvs K) (dd_number_in.kws K) f fd) : Binds K fd (nm.ps 2) [] := FunD.bindsN F fun _ _ _ _ _ _ us hl => match us, hl with | [_], _ => rfl
theorem k_number_in_0 {f : Addr} {fd : FuncData} (F : FunD K dd_number_in.name dd_number_in.qual dd_number_in.params dd_number_in.body dd_number_in.scope (dd_number_in.dvs K) (dd_number_in.kws K) f fd) : KBP K fd (nm.ps 2) 1 (kwN (nm.ps 2) 1 []) [.inl 0] := kbp_plain [.inl 0] F (by decide) fun _ _ _ _ _ _ us ws h1 h2 => match us, ws, h1, h2 with | [_], [], _, _ => rfl
theorem b_short_number {f : Addr} {fd : FuncData} (F : FunD K dd_short_number.name dd_short_number.qual dd_short_number.params dd_short_number.body dd_short_number.scope (dd_short_number.dvs K) (dd_short_number.kws K) f fd) : Binds K fd (nm.ps 3) [] := FunD.bindsN F fun _ _ _ _ _ _ us hl => match us, hl with | [_, _], _ => rfl
theorem k_short_number_0 {f : Addr} {fd : FuncData} (F : FunD K dd_short_number.name dd_short_number.qual dd_short_number.params dd_short_number.body dd_short_number.scope (dd_short_number.dvs K) (dd_short_number.kws K) f fd) : KBP K fd (nm.ps 3) 2 (kwN (nm.ps 3) 2 []) [.inl 0, .inl 1] := kbp_plain [.inl 0, .inl 1] F (by decide) fun _ _ _ _ _ _ us ws h1 h2 => match us, ws, h1, h2 with | [_, _], [], _, _ => rfl
theorem k_Add_init_0 {f : Addr} {fd : FuncData} (F : FunD K dd_Add_init.name dd_Add_init.qual dd_Add_init.params dd_Add_init.body dd_Add_init.scope (dd_Add_init.dvs K) (dd_Add_init.kws K) f fd) : KBP K fd (nm.ps 5000) 4 (kwN (nm.ps 5000) 4 []) [.inl 0, .inl 1, .inl 2, .inl 3] := kbp_dflt [.inl 0, .inl 1, .inl 2, .inl 3] [.int 1] F (List.cons_ne_nil _ _) (by rfl) (fun H F rh => (.cons .int .nil)) fun _ _ _ _ _ _ _ us its ws h1 h2 h3 => match us, its, ws, h1, h2, h3 with | [_, _, _, _], [_], [], _, _, _ => ⟨_, rfl, rfl⟩
theorem k_Push_init_0 {f : Addr} {fd : FuncData} (F : FunD K dd_Push_init.name dd_Push_init.qual dd_Push_init.params dd_Push_init.body dd_Push_init.scope (dd_Push_init.dvs K) (dd_Push_init.kws K) f fd) : KBP K fd (nm.ps 5200) 3 (kwN (nm.ps 5200) 3 []) [.inl 0, .inl 1, .inl 2] := kbp_dflt [.inl 0, .inl 1, .inl 2] [.int 1] F (List.cons_ne_nil _ _) (by rfl) (fun H F rh => (.cons .int .nil)) fun _ _ _ _ _ _ _ us its ws h1 h2 h3 => match us, its, ws, h1, h2, h3 with | [_, _, _], [_], [], _, _, _ => ⟨_, rfl, rfl⟩
theorem k_Turn_init_0 {f : Addr} {fd : FuncData} (F : FunD K dd_Turn_init.name dd_Turn_init.qual dd_Turn_init.params dd_Turn_init.body dd_Turn_init.scope (dd_Turn_init.dvs K) (dd_Turn_init.kws K) f fd) : KBP K fd (nm.ps 5400) 2 (kwN (nm.ps 5400) 2 []) [.inl 0, .inl 1] := kbp_plain [.inl 0, .inl 1] F (by decide) fun _ _ _ _ _ _ us ws h1 h2 => match us, ws, h1, h2 with | [_, _], [], _, _ => rfl
theorem k_Add_eq_0 {f : Addr} {fd : FuncData} (F : FunD K dd_Add_eq.name dd_Add_eq.qual dd_Add_eq.params dd_Add_eq.body dd_Add_eq.scope (dd_Add_eq.dvs K) (dd_Add_eq.kws K) f fd) : KBP K fd (nm.ps 5001) 2 (kwN (nm.ps 5001) 2 []) [.inl 0, .inl 1] := kbp_plain [.inl 0, .inl 1] F (by decide) fun _ _ _ _ _ _ us ws h1 h2 => match us, ws, h1, h2 with | [_, _], [], _, _ => rfl
theorem k_Push_eq_0 {f : Addr} {fd : FuncData} (F : FunD K dd_Push_eq.name dd_Push_eq.qual dd_Push_eq.params dd_Push_eq.body dd_Push_eq.scope (dd_Push_eq.dvs K) (dd_Push_eq.kws K) f fd) : KBP K fd (nm.ps 5201) 2 (kwN (nm.ps 5201) 2 []) [.inl 0, .inl 1] := kbp_plain [.inl 0, .inl 1] F (by decide) fun _ _ _ _ _ _ us ws h1 h2 => match us, ws, h1, h2 with | [_, _], [], _, _ => rfl
theorem k_Turn_eq_0 {f : Addr} {fd : FuncData} (F : FunD K dd_Turn_eq.name dd_Turn_eq.qual dd_Turn_eq.params dd_Turn_eq.body dd_Turn_eq.scope (dd_Turn_eq.dvs K) (dd_Turn_eq.kws K) f fd) : KBP K fd (nm.ps 5401) 2 (kwN (nm.ps 5401) 2 []) [.inl 0, .inl 1] := kbp_plain [.inl 0, .inl 1] F (by decide) fun _ _ _ _ _ _ us ws h1 h2 => match us, ws, h1, h2 with | [_, _], [], _, _ => rfl
theorem k_Add_neg_0 {f : Addr} {fd : FuncData} (F : FunD K dd_Add_neg.name dd_Add_neg.qual dd_Add_neg.params dd_Add_neg.body dd_Add_neg.scope (dd_Add_neg.dvs K) (dd_Add_neg.kws K) f fd) : KBP K fd (nm.ps 5002) 1 (kwN (nm.ps 5002) 1 []) [.inl 0] := kbp_plain [.inl 0] F (by decide) fun _ _ _ _ _ _ us ws h1 h2 => match us, ws, h1, h2 with | [_], [], _, _ => rfl
theorem k_Push_neg_0 {f : Addr} {fd : FuncData} (F : FunD K dd_Push_neg.name dd_Push_neg.qual dd_Push_neg.params dd_Push_neg.body dd_Push_neg.scope (dd_Push_neg.dvs K) (dd_Push_neg.kws K) f fd) : KBP K fd (nm.ps 5202) 1 (kwN (nm.ps 5202) 1 []) [.inl 0] := kbp_plain [.inl 0] F (by decide) fun _ _ _ _ _ _ us ws h1 h2 => match us, ws, h1, h2 with | [_], [], _, _ => rfl
theorem k_Turn_neg_0 {f : Addr} {fd : FuncData} (F : FunD K dd_Turn_neg.name dd_Turn_neg.qual dd_Turn_neg.params dd_Turn_neg.body dd_Turn_neg.scope (dd_Turn_neg.dvs K) (dd_Turn_neg.kws K) f fd) : KBP K fd (nm.ps 5402) 1 (kwN (nm.ps 5402) 1 []) [.inl 0] := kbp_plain [.inl 0] F (by decide) fun _ _ _ _ _ _ us ws h1 h2 => match us, ws, h1, h2 with | [_], [], _, _ => rfl
theorem k_Add_text_0 {f : Addr} {fd : FuncData} (F : FunD K dd_Add_text.name dd_Add_text.qual dd_Add_text.params dd_Add_text.body dd_Add_text.scope (dd_Add_text.dvs K) (dd_Add_text.kws K) f fd) : KBP K fd (nm.ps 5026) 1 (kwN (nm.ps 5026) 1 []) [.inl 0] := kbp_plain [.inl 0] F (by decide) fun _ _ _ _ _ _ us ws h1 h2 => match us, ws, h1, h2 with | [_], [], _, _ => rfl
theorem k_Push_text_0 {f : Addr} {fd : FuncData} (F : FunD K dd_Push_text.name dd_Push_text.qual dd_Push_text.params dd_Push_text.body dd_Push_text.scope (dd_Push_text.dvs K) (dd_Push_text.kws K) f fd) : KBP K fd (nm.ps 5226) 1 (kwN (nm.ps 5226) 1 []) [.inl 0] := kbp_plain [.inl 0] F (by decide) fun _ _ _ _ _ _ us ws h1 h2 => match us, ws, h1, h2 with | [_], [], _, _ => rfl
theorem k_Turn_text_0 {f : Addr} {fd : FuncData} (F : FunD K dd_Turn_text.name dd_Turn_text.qual dd_Turn_text.params dd_Turn_text.body dd_Turn_text.scope (dd_Turn_text.dvs K) (dd_Turn_text.kws K) f fd) : KBP K fd (nm.ps 5426) 1 (kwN (nm.ps 5426) 1 []) [.inl 0] := kbp_plain [.inl 0] F (by decide) fun _ _ _ _ _ _ us ws h1 h2 => match us, ws, h1, h2 with | [_], [], _, _ => rfl
theorem b_scaled_in {f : Addr} {fd : FuncData} (F : FunD K dd_scaled_in.name dd_scaled_in.qual dd_scaled_in.params dd_scaled_in.body dd_scaled_in.scope (dd_scaled_in.dvs K) (dd_scaled_in.kws K) f fd) : Binds K fd (nm.ps 28) [] := FunD.bindsN F fun _ _ _ _ _ _ us hl => match us, hl with | [_, _], _ => rfl
theorem k_scaled_in_0 {f : Addr} {fd : FuncData} (F : FunD K dd_scaled_in.name dd_scaled_in.qual dd_scaled_in.params dd_scaled_in.body dd_scaled_in.scope (dd_scaled_in.dvs K) (dd_scaled_in.kws K) f fd) : KBP K fd (nm.ps 28) 2 (kwN (nm.ps 28) 2 []) [.inl 0, .inl 1] := kbp_plain [.inl 0, .inl 1] F (by decide) fun _ _ _ _ _ _ us ws h1 h2 => match us, ws, h1, h2 with | [_, _], [], _, _ => rfl
theorem b_deed_in {f : Addr} {fd : FuncData} (F : FunD K dd_deed_in.name dd_deed_in.qual dd_deed_in.params dd_deed_in.body dd_deed_in.scope (dd_deed_in.dvs K) (dd_deed_in.kws K) f fd) : Binds K fd (nm.ps 29) [] := FunD.bindsN F fun _ _ _ _ _ _ us hl => match us, hl with | [_], _ => rfl
theorem k_deed_in_0 {f : Addr} {fd : FuncData} (F : FunD K dd_deed_in.name dd_deed_in.qual dd_deed_in.params dd_deed_in.body dd_deed_in.scope (dd_deed_in.dvs K) (dd_deed_in.kws K) f fd) : KBP K fd (nm.ps 29) 1 (kwN (nm.ps 29) 1 []) [.inl 0] := kbp_plain [.inl 0] F (by decide) fun _ _ _ _ _ _ us ws h1 h2 => match us, ws, h1, h2 with | [_], [], _, _ => rfl
theorem b_undone {f : Addr} {fd : FuncData} (F : FunD K dd_undone.name dd_undone.qual dd_undone.params dd_undone.body dd_undone.scope (dd_undone.dvs K) (dd_undone.kws K) f fd) : Binds K fd (nm.ps 30) [] := FunD.bindsN F fun _ _ _ _ _ _ us hl => match us, hl with | [_], _ => rfl
theorem k_undone_0 {f : Addr} {fd : FuncData} (F : FunD K dd_undone.name dd_undone.qual dd_undone.params dd_undone.body dd_undone.scope (dd_undone.dvs K) (dd_undone.kws K) f fd) : KBP K fd (nm.ps 30) 1 (kwN (nm.ps 30) 1 []) [.inl 0] := kbp_plain [.inl 0] F (by decide) fun _ _ _ _ _ _ us ws h1 h2 => match us, ws, h1, h2 with | [_], [], _, _ => rfl
theorem k_Program_init_0 {f : Addr} {fd : FuncData} (F : FunD K dd_Program_init.name dd_Program_init.qual dd_Program_init.params dd_Program_init.body dd_Program_init.scope (dd_Program_init.dvs K) (dd_Program_init.kws K) f fd) : KBP K fd (nm.ps 5600) 2 (kwN (nm.ps 5600) 2 []) [.inl 0, .inl 1] := kbp_dfltN [.inl 0, .inl 1] F (List.cons_ne_nil _ _) (by rfl) fun _ _ _ _ _ _ _ us its ws h1 h2 h3 => match us, its, ws, h1, h2, h3 with | [_, _], [_], [], _, _, _ => ⟨_, rfl, rfl⟩
theorem k_Program_init_1 {f : Addr} {fd : FuncData} (em : emT K (He.dflAt ("Program", some "__init__") 0 K) = true) (F : FunD K dd_Program_init.name dd_Program_init.qual dd_Program_init.params dd_Program_init.body dd_Program_init.scope (dd_Program_init.dvs K) (dd_Program_init.kws K) f fd) : KBP K fd (nm.ps 5600) 1 (kwN (nm.ps 5600) 1 []) [.inl 0, .inr (.tup [])] := kbp_dflt [.inl 0, .inr 0] [.tup []] F (List.cons_ne_nil _ _) (by rfl) (fun H F rh => .cons (emT_rep em) .nil) fun _ _ _ _ _ _ _ us its ws h1 h2 h3 => match us, its, ws, h1, h2, h3 with | [_], [_], [], _, _, _ => ⟨_, rfl, rfl⟩
theorem k_Program_eq_0 {f : Addr} {fd : FuncData} (F : FunD K dd_Program_eq.name dd_Program_eq.qual dd_Program_eq.params dd_Program_eq.body dd_Program_eq.scope (dd_Program_eq.dvs K) (dd_Program_eq.kws K) f fd) : KBP K fd (nm.ps 5601) 2 (kwN (nm.ps 5601) 2 []) [.inl 0, .inl 1] := kbp_plain [.inl 0, .inl 1] F (by decide) fun _ _ _ _ _ _ us ws h1 h2 => match us, ws, h1, h2 with | [_, _], [], _, _ => rfl
theorem k_Program_len_0 {f : Addr} {fd : FuncData} (F : FunD K dd_Program_len.name dd_Program_len.qual dd_Program_len.params dd_Program_len.body dd_Program_len.scope (dd_Program_len.dvs K) (dd_Program_len.kws K) f fd) : KBP K fd (nm.ps 5606) 1 (kwN (nm.ps 5606) 1 []) [.inl 0] := kbp_plain [.inl 0] F (by decide) fun _ _ _ _ _ _ us ws h1 h2 => match us, ws, h1, h2 with | [_], [], _, _ => rfl
theorem k_Program_neg_0 {f : Addr} {fd : FuncData} (F : FunD K dd_Program_neg.name dd_Program_neg.qual dd_Program_neg.params dd_Program_neg.body dd_Program_neg.scope (dd_Program_neg.dvs K) (dd_Program_neg.kws K) f fd) : KBP K fd (nm.ps 5602) 1 (kwN (nm.ps 5602) 1 []) [.inl 0] := kbp_plain [.inl 0] F (by decide) fun _ _ _ _ _ _ us ws h1 h2 => match us, ws, h1, h2 with | [_], [], _, _ => rfl
theorem k_Program_text_0 {f : Addr} {fd : FuncData} (F : FunD K dd_Program_text.name dd_Program_text.qual dd_Program_text.params dd_Program_text.body dd_Program_text.scope (dd_Program_text.dvs K) (dd_Program_text.kws K) f fd) : KBP K fd (nm.ps 5626) 1 (kwN (nm.ps 5626) 1 []) [.inl 0] := kbp_plain [.inl 0] F (by decide) fun _ _ _ _ _ _ us ws h1 h2 => match us, ws, h1, h2 with | [_], [], _, _ => rfl
theorem k_Program_read_0 {f : Addr} {fd : FuncData} (F : FunD K dd_Program_read.name dd_Program_read.qual dd_Program_read.params dd_Program_read.body dd_Program_read.scope (dd_Program_read.dvs K) (dd_Program_read.kws K) f fd) : KBP K fd (nm.ps 5629) 2 (kwN (nm.ps 5629) 2 []) [.inl 0, .inl 1] := kbp_plain [.inl 0, .inl 1] F (by decide) fun _ _ _ _ _ _ us ws h1 h2 => match us, ws, h1, h2 with | [_, _], [], _, _ => rfl
theorem k_Program_read_1 {f : Addr} {fd : FuncData} (F : FunD K dd_Program_read.name dd_Program_read.qual dd_Program_read.params dd_Program_read.body dd_Program_read.scope (dd_Program_read.dvs K) (dd_Program_read.kws K) f fd) : KBP K fd (nm.ps 5629) 1 (kwN (nm.ps 5629) 1 [0]) [.inl 0, .inl 1] := kbp_plain [.inl 0, .inl 1] F (by decide) fun _ _ _ _ _ _ us ws h1 h2 => match us, ws, h1, h2 with | [_], [_], _, _ => rfl
theorem b_l_feed {f : Addr} {fd : FuncData} (F : FunD K dd_l_feed.name dd_l_feed.qual dd_l_feed.params dd_l_feed.body dd_l_feed.scope (dd_l_feed.dvs K) (dd_l_feed.kws K) f fd) : Binds K fd (nm.ps 300) [] := FunD.bindsN F fun _ _ _ _ _ _ us hl => match us, hl with | [_, _], _ => rfl
theorem k_l_feed_0 {f : Addr} {fd : FuncData} (F : FunD K dd_l_feed.name dd_l_feed.qual dd_l_feed.params dd_l_feed.body dd_l_feed.scope (dd_l_feed.dvs K) (dd_l_feed.kws K) f fd) : KBP K fd (nm.ps 300) 2 (kwN (nm.ps 300) 2 []) [.inl 0, .inl 1] := kbp_plain [.inl 0, .inl 1] F (by decide) fun _ _ _ _ _ _ us ws h1 h2 => match us, ws, h1, h2 with | [_, _], [], _, _ => rfl
theorem b_l_take {f : Addr} {fd : FuncData} (F : FunD K dd_l_take.name dd_l_take.qual dd_l_take.params dd_l_take.body dd_l_take.scope (dd_l_take.dvs K) (dd_l_take.kws K) f fd) : Binds K fd (nm.ps 301) [] := FunD.bindsN F fun _ _ _ _ _ _ us hl => match us, hl with | [_, _], _ => rfl
theorem k_l_take_0 {f : Addr} {fd : FuncData} (F : FunD K dd_l_take.name dd_l_take.qual dd_l_take.params dd_l_take.body dd_l_take.scope (dd_l_take.dvs K) (dd_l_take.kws K) f fd) : KBP K fd (nm.ps 301) 2 (kwN (nm.ps 301) 2 []) [.inl 0, .inl 1] := kbp_plain [.inl 0, .inl 1] F (by decide) fun _ _ _ _ _ _ us ws h1 h2 => match us, ws, h1, h2 with | [_, _], [], _, _ => rfl
theorem b_l_names {f : Addr} {fd : FuncData} (F : FunD K dd_l_names.name dd_l_names.qual dd_l_names.params dd_l_names.body dd_l_names.scope (dd_l_names.dvs K) (dd_l_names.kws K) f fd) : Binds K fd (nm.ps 302) [] := FunD.bindsN F fun _ _ _ _ _ _ us hl => match us, hl with | [_, _], _ => rfl
theorem k_l_names_0 {f : Addr} {fd : FuncData} (F : FunD K dd_l_names.name dd_l_names.qual dd_l_names.params dd_l_names.body dd_l_names.scope (dd_l_names.dvs K) (dd_l_names.kws K) f fd) : KBP K fd (nm.ps 302) 2 (kwN (nm.ps 302) 2 []) [.inl 0, .inl 1] := kbp_plain [.inl 0, .inl 1] F (by decide) fun _ _ _ _ _ _ us ws h1 h2 => match us, ws, h1, h2 with | [_, _], [], _, _ => rfl
theorem b_l_number {f : Addr} {fd : FuncData} (F : FunD K dd_l_number.name dd_l_number.qual dd_l_number.params dd_l_number.body dd_l_number.scope (dd_l_number.dvs K) (dd_l_number.kws K) f fd) : Binds K fd (nm.ps 303) [] := FunD.bindsN F fun _ _ _ _ _ _ us hl => match us, hl with | [_], _ => rfl
theorem k_l_number_0 {f : Addr} {fd : FuncData} (F : FunD K dd_l_number.name dd_l_number.qual dd_l_number.params dd_l_number.body dd_l_number.scope (dd_l_number.dvs K) (dd_l_number.kws K) f fd) : KBP K fd (nm.ps 303) 1 (kwN (nm.ps 303) 1 []) [.inl 0] := kbp_plain [.inl 0] F (by decide) fun _ _ _ _ _ _ us ws h1 h2 => match us, ws, h1, h2 with | [_], [], _, _ => rfl
theorem b_l_deed {f : Addr} {fd : FuncData} (F : FunD K dd_l_deed.name dd_l_deed.qual dd_l_deed.params dd_l_deed.body dd_l_deed.scope (dd_l_deed.dvs K) (dd_l_deed.kws K) f fd) : Binds K fd (nm.ps 304) [] := FunD.bindsN F fun _ _ _ _ _ _ us hl => match us, hl with | [_, _], _ => rfl
theorem k_l_deed_0 {f : Addr} {fd : FuncData} (F : FunD K dd_l_deed.name dd_l_deed.qual dd_l_deed.params dd_l_deed.body dd_l_deed.scope (dd_l_deed.dvs K) (dd_l_deed.kws K) f fd) : KBP K fd (nm.ps 304) 2 (kwN (nm.ps 304) 2 []) [.inl 0, .inl 1] := kbp_plain [.inl 0, .inl 1] F (by decide) fun _ _ _ _ _ _ us ws h1 h2 => match us, ws, h1, h2 with | [_, _], [], _, _ => rfl
theorem b_l_made {f : Addr} {fd : FuncData} (F : FunD K dd_l_made.name dd_l_made.qual dd_l_made.params dd_l_made.body dd_l_made.scope (dd_l_made.dvs K) (dd_l_made.kws K) f fd) : Binds K fd (nm.ps 305) [] := FunD.bindsN F fun _ _ _ _ _ _ us hl => match us, hl with | [_], _ => rfl
theorem k_l_made_0 {f : Addr} {fd : FuncData} (F : FunD K dd_l_made.name dd_l_made.qual dd_l_made.params dd_l_made.body dd_l_made.scope (dd_l_made.dvs K) (dd_l_made.kws K) f fd) : KBP K fd (nm.ps 305) 1 (kwN (nm.ps 305) 1 []) [.inl 0] := kbp_plain [.inl 0] F (by decide) fun _ _ _ _ _ _ us ws h1 h2 => match us, ws, h1, h2 with | [_], [], _, _ => rfl
theorem b_l_shown {f : Addr} {fd : FuncData} (F : FunD K dd_l_shown.name dd_l_shown.qual dd_l_shown.params dd_l_shown.body dd_l_shown.scope (dd_l_shown.dvs K) (dd_l_shown.kws K) f fd) : Binds K fd (nm.ps 306) [] := FunD.bindsN F fun _ _ _ _ _ _ us hl => match us, hl with | [_], _ => rfl
theorem k_l_shown_0 {f : Addr} {fd : FuncData} (F : FunD K dd_l_shown.name dd_l_shown.qual dd_l_shown.params dd_l_shown.body dd_l_shown.scope (dd_l_shown.dvs K) (dd_l_shown.kws K) f fd) : KBP K fd (nm.ps 306) 1 (kwN (nm.ps 306) 1 []) [.inl 0] := kbp_plain [.inl 0] F (by decide) fun _ _ _ _ _ _ us ws h1 h2 => match us, ws, h1, h2 with | [_], [], _, _ => rfl
theorem b_l_text {f : Addr} {fd : FuncData} (F : FunD K dd_l_text.name dd_l_text.qual dd_l_text.params dd_l_text.body dd_l_text.scope (dd_l_text.dvs K) (dd_l_text.kws K) f fd) : Binds K fd (nm.ps 307) [] := FunD.bindsN F fun _ _ _ _ _ _ us hl => match us, hl with | [_], _ => rfl
theorem k_l_text_0 {f : Addr} {fd : FuncData} (F : FunD K dd_l_text.name dd_l_text.qual dd_l_text.params dd_l_text.body dd_l_text.scope (dd_l_text.dvs K) (dd_l_text.kws K) f fd) : KBP K fd (nm.ps 307) 1 (kwN (nm.ps 307) 1 []) [.inl 0] := kbp_plain [.inl 0] F (by decide) fun _ _ _ _ _ _ us ws h1 h2 => match us, ws, h1, h2 with | [_], [], _, _ => rfl
theorem xi_SameRegister_init {fd : FuncData} (F : FunD K dd_SameRegister_init.name dd_SameRegister_init.qual dd_SameRegister_init.params dd_SameRegister_init.body dd_SameRegister_init.scope (dd_SameRegister_init.dvs K) (dd_SameRegister_init.kws K) (fA K (nm.fn (mtF 3 0))) fd) : XiSh K nm 3 := by
  have b := FunD.bindsN F (ps := nm.ps (mtF 3 0)) fun _ _ _ _ _ _ us hl => match us, hl with | [_, _], _ => rfl
  obtain ⟨oc, od, dV, kV, doc, pm, an, cdv, ct, osl, rfl, lk, hcd, _, _⟩ := F.ex
  exact ⟨_, .inr ⟨rfl, _, _, _, _, _, _, _, oc, od, dV, kV, doc, pm, an, cdv, ct, osl, rfl, lk, hcd, b⟩⟩
theorem xi_BadLine_init {fd : FuncData} (F : FunD K dd_BadLine_init.name dd_BadLine_init.qual dd_BadLine_init.params dd_BadLine_init.body dd_BadLine_init.scope (dd_BadLine_init.dvs K) (dd_BadLine_init.kws K) (fA K (nm.fn (mtF 7 0))) fd) : XiSh K nm 7 := by
  have b := FunD.bindsN F (ps := nm.ps (mtF 7 0)) fun _ _ _ _ _ _ us hl => match us, hl with | [_, _], _ => rfl
  obtain ⟨oc, od, dV, kV, doc, pm, an, cdv, ct, osl, rfl, lk, hcd, _, _⟩ := F.ex
  exact ⟨_, .inr ⟨rfl, _, _, _, _, _, _, _, oc, od, dV, kV, doc, pm, an, cdv, ct, osl, rfl, lk, hcd, b⟩⟩
theorem facts {h : Heap} {f : Addr} (X : K.In h) (G : h.Ns mainGlobals mg) (hfa : mg ("law" : Str) = some (.ref f)) (c : SaysX faD xb fnD K) :
    ∃ fd : FuncData, (∀ (s : Shared) (v : Value), BindsTo s fd ⟨[v], []⟩ [("_law_script", v)]) ∧ ∀ base : Heap, K.In base → base.Ns mainGlobals mg → FnG P w K mg base 100 f fd ["_law_script"] (spF sta0 K (lawSp 63)) := by
  have gs : Gs mg := gs_of X G c
  have gl : GlOk L mg := fun i hi => by
    have hi2 : i < 5 := hi
    match i, hi2 with
    | 0, _ => obtain ⟨t, e⟩ := He.str_ok X G (factX c 16 (f := .str "LETTERS" "abcdefghijklmnopqrstuvwxyz") rfl); exact ⟨_, .str _, e, ⟨t, rfl⟩, fun _ _ _ _ => .str⟩
    | 1, _ => obtain ⟨t, e⟩ := He.str_ok X G (factX c 17 (f := .str "DIGITS" "0123456789") rfl); exact ⟨_, .str _, e, ⟨t, rfl⟩, fun _ _ _ _ => .str⟩
    | 2, _ => obtain ⟨t, e⟩ := He.int_ok X G (factX c 18 (f := .int "MOST_NAME" 8) rfl); exact ⟨_, .int _, e, ⟨t, rfl⟩, fun _ _ _ _ => .int⟩
    | 3, _ => obtain ⟨t, e⟩ := He.int_ok X G (factX c 19 (f := .int "MOST_TEXT" 4000) rfl); exact ⟨_, .int _, e, ⟨t, rfl⟩, fun _ _ _ _ => .int⟩
    | 4, _ => obtain ⟨t, e⟩ := He.int_ok X G (factX c 20 (f := .int "MOST_DIGITS" 20) rfl); exact ⟨_, .int _, e, ⟨t, rfl⟩, fun _ _ _ _ => .int⟩
  obtain ⟨fd0, F0⟩ := c.def_ 0 (d := dd_is_name) rfl
  obtain ⟨fd1, F1⟩ := c.def_ 1 (d := dd_number_text) rfl
  obtain ⟨fd2, F2⟩ := c.def_ 2 (d := dd_number_in) rfl
  obtain ⟨fd3, F3⟩ := c.def_ 3 (d := dd_short_number) rfl
  obtain ⟨fd4, F4⟩ := c.def_ 4 (d := dd_Add_init) rfl
  obtain ⟨fd5, F5⟩ := c.def_ 5 (d := dd_Push_init) rfl
  obtain ⟨fd6, F6⟩ := c.def_ 6 (d := dd_Turn_init) rfl
  obtain ⟨fd7, F7⟩ := c.def_ 7 (d := dd_Add_eq) rfl
  obtain ⟨fd8, F8⟩ := c.def_ 8 (d := dd_Push_eq) rfl
  obtain ⟨fd9, F9⟩ := c.def_ 9 (d := dd_Turn_eq) rfl
  obtain ⟨fd10, F10⟩ := c.def_ 10 (d := dd_Add_neg) rfl
  obtain ⟨fd11, F11⟩ := c.def_ 11 (d := dd_Push_neg) rfl
  obtain ⟨fd12, F12⟩ := c.def_ 12 (d := dd_Turn_neg) rfl
  obtain ⟨fd13, F13⟩ := c.def_ 13 (d := dd_Add_text) rfl
  obtain ⟨fd14, F14⟩ := c.def_ 14 (d := dd_Push_text) rfl
  obtain ⟨fd15, F15⟩ := c.def_ 15 (d := dd_Turn_text) rfl
  obtain ⟨fd16, F16⟩ := c.def_ 16 (d := dd_scaled_in) rfl
  obtain ⟨fd17, F17⟩ := c.def_ 17 (d := dd_deed_in) rfl
  obtain ⟨fd18, F18⟩ := c.def_ 18 (d := dd_undone) rfl
  obtain ⟨fd19, F19⟩ := c.def_ 19 (d := dd_Program_init) rfl
  obtain ⟨fd20, F20⟩ := c.def_ 20 (d := dd_Program_eq) rfl
  obtain ⟨fd21, F21⟩ := c.def_ 21 (d := dd_Program_len) rfl
  obtain ⟨fd22, F22⟩ := c.def_ 22 (d := dd_Program_neg) rfl
  obtain ⟨fd23, F23⟩ := c.def_ 23 (d := dd_Program_text) rfl
  obtain ⟨fd24, F24⟩ := c.def_ 24 (d := dd_Program_read) rfl
  obtain ⟨fd25, F25⟩ := c.def_ 25 (d := dd_l_feed) rfl
  obtain ⟨fd26, F26⟩ := c.def_ 26 (d := dd_l_take) rfl
  obtain ⟨fd27, F27⟩ := c.def_ 27 (d := dd_l_names) rfl
  obtain ⟨fd28, F28⟩ := c.def_ 28 (d := dd_l_number) rfl
  obtain ⟨fd29, F29⟩ := c.def_ 29 (d := dd_l_deed) rfl
  obtain ⟨fd30, F30⟩ := c.def_ 30 (d := dd_l_made) rfl
  obtain ⟨fd31, F31⟩ := c.def_ 31 (d := dd_l_shown) rfl
  obtain ⟨fd32, F32⟩ := c.def_ 32 (d := dd_l_text) rfl
  obtain ⟨fd33, F33⟩ := c.def_ 33 (d := dd_law) rfl
  obtain ⟨fd34, F34⟩ := c.def_ 34 (d := dd_SameRegister_init) rfl
  obtain ⟨fd35, F35⟩ := c.def_ 35 (d := dd_BadLine_init) rfl
  have cl : ∀ k, ClOk K mg nm (L.cx k) := fun k => clOk_of X G (He.ba c.ext_).1 fun j hj => AllL.mem (P := fun k => XiSh K nm k) (l := [3, 7]) ⟨xi_SameRegister_init F34, ⟨xi_BadLine_init F35, trivial⟩⟩ j hj
  have e := hfa.symm.trans (He.glo_ok X G (factX c 15 (f := .glo "law") rfl))
  cases e
  have bl := FunD.bindsA (ps := ["_law_script"]) F33 fun _ _ _ _ _ _ us hl => match us, hl with | [_], _ => rfl
  refine ⟨fd33, fun s v => bl s [v] rfl, fun base _ _ => ?_⟩
  have a0 : L.AllP P w K mg base 0 := allP0 L
  have a1 : L.AllP P w K mg base 1 := allPs a0 (f := 0) rfl ⟨fd0, fun _ => He.glo_ok X G (factX c 0 (f := .glo "is_name") rfl), F0.kp, fun _ => b_is_name F0, (def_ok F0 sc_is_name (wd_ gs gl cl a0 (by decide)) (by decide) ck_is_name).imp (wp_is_name (C := (L.cx 0)) (fun _ => rfl) rfl rfl rfl rfl rfl rfl), ⟨k_is_name_0 F0, trivial⟩⟩
  have a2 : L.AllP P w K mg base 2 := allPs a1 (f := 1) rfl ⟨fd1, fun _ => He.glo_ok X G (factX c 1 (f := .glo "number_text") rfl), F1.kp, fun _ => b_number_text F1, (def_ok F1 sc_number_text (wd_ gs gl cl a1 (by decide)) (by decide) ck_number_text).imp (wp_number_text (C := (L.cx 1)) (fun _ => rfl)), ⟨k_number_text_0 F1, trivial⟩⟩
  have a3 : L.AllP P w K mg base 3 := allPs a2 (f := 2) rfl ⟨fd2, fun _ => He.glo_ok X G (factX c 2 (f := .glo "number_in") rfl), F2.kp, fun _ => b_number_in F2, (def_ok F2 sc_number_in (wd_ gs gl cl a2 (by decide)) (by decide) ck_number_in).imp (wp_number_in (C := (L.cx 2)) (fun _ => rfl) rfl rfl rfl rfl), ⟨k_number_in_0 F2, trivial⟩⟩
  have a4 : L.AllP P w K mg base 4 := allPs a3 (f := 3) rfl ⟨fd3, fun _ => He.glo_ok X G (factX c 3 (f := .glo "short_number") rfl), F3.kp, fun _ => b_short_number F3, (def_ok F3 sc_short_number (wd_ gs gl cl a3 (by decide)) (by decide) ck_short_number).imp (wp_short_number (C := (L.cx 3)) (fun _ => rfl) rfl rfl rfl), ⟨k_short_number_0 F3, trivial⟩⟩
  have a5 : L.AllP P w K mg base 5 := allPs a4 (f := 5000) rfl ⟨fd4, fun h => absurd h (by decide +kernel), F4.kp, fun h => absurd h (by decide +kernel), (def_ok F4 sc_Add_init (wd_ gs gl cl a4 (by decide)) (by decide) ck_Add_init).imp (wp_Add_init (C := (L.cx 4)) dc_), ⟨k_Add_init_0 F4, trivial⟩⟩
  have a6 : L.AllP P w K mg base 6 := allPs a5 (f := 5200) rfl ⟨fd5, fun h => absurd h (by decide +kernel), F5.kp, fun h => absurd h (by decide +kernel), (def_ok F5 sc_Push_init (wd_ gs gl cl a5 (by decide)) (by decide) ck_Push_init).imp (wp_Push_init (C := (L.cx 5)) dc_), ⟨k_Push_init_0 F5, trivial⟩⟩
  have a7 : L.AllP P w K mg base 7 := allPs a6 (f := 5400) rfl ⟨fd6, fun h => absurd h (by decide +kernel), F6.kp, fun h => absurd h (by decide +kernel), (def_ok F6 sc_Turn_init (wd_ gs gl cl a6 (by decide)) (by decide) ck_Turn_init).imp (wp_Turn_init (C := (L.cx 6)) dc_), ⟨k_Turn_init_0 F6, trivial⟩⟩
  have a8 : L.AllP P w K mg base 8 := allPs a7 (f := 5001) rfl ⟨fd7, fun h => absurd h (by decide +kernel), F7.kp, fun h => absurd h (by decide +kernel), (def_ok F7 sc_Add_eq (wd_ gs gl cl a7 (by decide)) (by decide) ck_Add_eq).imp (wp_Add_eq), ⟨k_Add_eq_0 F7, trivial⟩⟩
  have a9 : L.AllP P w K mg base 9 := allPs a8 (f := 5201) rfl ⟨fd8, fun h => absurd h (by decide +kernel), F8.kp, fun h => absurd h (by decide +kernel), (def_ok F8 sc_Push_eq (wd_ gs gl cl a8 (by decide)) (by decide) ck_Push_eq).imp (wp_Push_eq), ⟨k_Push_eq_0 F8, trivial⟩⟩
  have a10 : L.AllP P w K mg base 10 := allPs a9 (f := 5401) rfl ⟨fd9, fun h => absurd h (by decide +kernel), F9.kp, fun h => absurd h (by decide +kernel), (def_ok F9 sc_Turn_eq (wd_ gs gl cl a9 (by decide)) (by decide) ck_Turn_eq).imp (wp_Turn_eq), ⟨k_Turn_eq_0 F9, trivial⟩⟩
  have a11 : L.AllP P w K mg base 11 := allPs a10 (f := 5002) rfl ⟨fd10, fun h => absurd h (by decide +kernel), F10.kp, fun h => absurd h (by decide +kernel), (def_ok F10 sc_Add_neg (wd_ gs gl cl a10 (by decide)) (by decide) ck_Add_neg).imp (wp_Add_neg (C := (L.cx 10)) dc_ (mkA rfl rfl)), ⟨k_Add_neg_0 F10, trivial⟩⟩
  have a12 : L.AllP P w K mg base 12 := allPs a11 (f := 5202) rfl ⟨fd11, fun h => absurd h (by decide +kernel), F11.kp, fun h => absurd h (by decide +kernel), (def_ok F11 sc_Push_neg (wd_ gs gl cl a11 (by decide)) (by decide) ck_Push_neg).imp (wp_Push_neg (C := (L.cx 11)) dc_ (mkP rfl rfl)), ⟨k_Push_neg_0 F11, trivial⟩⟩
  have a13 : L.AllP P w K mg base 13 := allPs a12 (f := 5402) rfl ⟨fd12, fun h => absurd h (by decide +kernel), F12.kp, fun h => absurd h (by decide +kernel), (def_ok F12 sc_Turn_neg (wd_ gs gl cl a12 (by decide)) (by decide) ck_Turn_neg).imp (wp_Turn_neg (C := (L.cx 12)) dc_ (mkT rfl rfl)), ⟨k_Turn_neg_0 F12, trivial⟩⟩
  have a14 : L.AllP P w K mg base 14 := allPs a13 (f := 5026) rfl ⟨fd13, fun h => absurd h (by decide +kernel), F13.kp, fun h => absurd h (by decide +kernel), (def_ok F13 sc_Add_text (wd_ gs gl cl a13 (by decide)) (by decide) ck_Add_text).imp (wp_Add_text (C := (L.cx 13)) dc_ rfl rfl rfl), ⟨k_Add_text_0 F13, trivial⟩⟩
  have a15 : L.AllP P w K mg base 15 := allPs a14 (f := 5226) rfl ⟨fd14, fun h => absurd h (by decide +kernel), F14.kp, fun h => absurd h (by decide +kernel), (def_ok F14 sc_Push_text (wd_ gs gl cl a14 (by decide)) (by decide) ck_Push_text).imp (wp_Push_text (C := (L.cx 14)) dc_ rfl rfl rfl), ⟨k_Push_text_0 F14, trivial⟩⟩
  have a16 : L.AllP P w K mg base 16 := allPs a15 (f := 5426) rfl ⟨fd15, fun h => absurd h (by decide +kernel), F15.kp, fun h => absurd h (by decide +kernel), (def_ok F15 sc_Turn_text (wd_ gs gl cl a15 (by decide)) (by decide) ck_Turn_text).imp (wp_Turn_text (C := (L.cx 15)) dc_), ⟨k_Turn_text_0 F15, trivial⟩⟩
  have a17 : L.AllP P w K mg base 17 := allPs a16 (f := 28) rfl ⟨fd16, fun _ => He.glo_ok X G (factX c 4 (f := .glo "scaled_in") rfl), F16.kp, fun _ => b_scaled_in F16, (def_ok F16 sc_scaled_in (wd_ gs gl cl a16 (by decide)) (by decide) ck_scaled_in).imp (wp_scaled_in), ⟨k_scaled_in_0 F16, trivial⟩⟩
  have a18 : L.AllP P w K mg base 18 := allPs a17 (f := 29) rfl ⟨fd17, fun _ => He.glo_ok X G (factX c 5 (f := .glo "deed_in") rfl), F17.kp, fun _ => b_deed_in F17, (def_ok F17 sc_deed_in (wd_ gs gl cl a17 (by decide)) (by decide) ck_deed_in).imp (wp_deed_in), ⟨k_deed_in_0 F17, trivial⟩⟩
  have a19 : L.AllP P w K mg base 19 := allPs a18 (f := 30) rfl ⟨fd18, fun _ => He.glo_ok X G (factX c 6 (f := .glo "undone") rfl), F18.kp, fun _ => b_undone F18, (def_ok F18 sc_undone (wd_ gs gl cl a18 (by decide)) (by decide) ck_undone).imp (wp_undone), ⟨k_undone_0 F18, trivial⟩⟩
  have a20 : L.AllP P w K mg base 20 := allPs a19 (f := 5600) rfl ⟨fd19, fun h => absurd h (by decide +kernel), F19.kp, fun h => absurd h (by decide +kernel), (def_ok F19 sc_Program_init (wd_ gs gl cl a19 (by decide)) (by decide) ck_Program_init).imp (wp_Program_init), ⟨k_Program_init_0 F19, ⟨k_Program_init_1 (He.ba c.ext_).2 F19, trivial⟩⟩⟩
  have a21 : L.AllP P w K mg base 21 := allPs a20 (f := 5601) rfl ⟨fd20, fun h => absurd h (by decide +kernel), F20.kp, fun h => absurd h (by decide +kernel), (def_ok F20 sc_Program_eq (wd_ gs gl cl a20 (by decide)) (by decide) ck_Program_eq).imp (wp_Program_eq), ⟨k_Program_eq_0 F20, trivial⟩⟩
  have a22 : L.AllP P w K mg base 22 := allPs a21 (f := 5606) rfl ⟨fd21, fun h => absurd h (by decide +kernel), F21.kp, fun h => absurd h (by decide +kernel), (def_ok F21 sc_Program_len (wd_ gs gl cl a21 (by decide)) (by decide) ck_Program_len).imp (wp_Program_len), ⟨k_Program_len_0 F21, trivial⟩⟩
  have a23 : L.AllP P w K mg base 23 := allPs a22 (f := 5602) rfl ⟨fd22, fun h => absurd h (by decide +kernel), F22.kp, fun h => absurd h (by decide +kernel), (def_ok F22 sc_Program_neg (wd_ gs gl cl a22 (by decide)) (by decide) ck_Program_neg).imp (wp_Program_neg), ⟨k_Program_neg_0 F22, trivial⟩⟩
  have a24 : L.AllP P w K mg base 24 := allPs a23 (f := 5626) rfl ⟨fd23, fun h => absurd h (by decide +kernel), F23.kp, fun h => absurd h (by decide +kernel), (def_ok F23 sc_Program_text (wd_ gs gl cl a23 (by decide)) (by decide) ck_Program_text).imp (wp_Program_text), ⟨k_Program_text_0 F23, trivial⟩⟩
  have a25 : L.AllP P w K mg base 25 := allPs a24 (f := 5629) rfl ⟨fd24, fun h => absurd h (by decide +kernel), F24.kp, fun h => absurd h (by decide +kernel), (def_ok F24 sc_Program_read (wd_ gs gl cl a24 (by decide)) (by decide) ck_Program_read).imp (wp_Program_read), ⟨k_Program_read_0 F24, ⟨k_Program_read_1 F24, trivial⟩⟩⟩
  have a26 : L.AllP P w K mg base 26 := allPs a25 (f := 300) rfl ⟨fd25, fun _ => He.glo_ok X G (factX c 7 (f := .glo "_law_feed") rfl), F25.kp, fun _ => b_l_feed F25, (def_ok F25 sc_l_feed (wd_ gs gl cl a25 (by decide)) (by decide) ck_l_feed).imp (wp_feed (C := (L.cx 25)) (fun _ => rfl)), ⟨k_l_feed_0 F25, trivial⟩⟩
  have a27 : L.AllP P w K mg base 27 := allPs a26 (f := 301) rfl ⟨fd26, fun _ => He.glo_ok X G (factX c 8 (f := .glo "_law_take") rfl), F26.kp, fun _ => b_l_take F26, (def_ok F26 sc_l_take (wd_ gs gl cl a26 (by decide)) (by decide) ck_l_take).imp (wp_take (C := (L.cx 26)) (fun _ => rfl)), ⟨k_l_take_0 F26, trivial⟩⟩
  have a28 : L.AllP P w K mg base 28 := allPs a27 (f := 302) rfl ⟨fd27, fun _ => He.glo_ok X G (factX c 9 (f := .glo "_law_names") rfl), F27.kp, fun _ => b_l_names F27, (def_ok F27 sc_l_names (wd_ gs gl cl a27 (by decide)) (by decide) ck_l_names).imp (wp_names (C := (L.cx 27)) (fun _ => rfl) rfl rfl rfl), ⟨k_l_names_0 F27, trivial⟩⟩
  have a29 : L.AllP P w K mg base 29 := allPs a28 (f := 303) rfl ⟨fd28, fun _ => He.glo_ok X G (factX c 10 (f := .glo "_law_number") rfl), F28.kp, fun _ => b_l_number F28, (def_ok F28 sc_l_number (wd_ gs gl cl a28 (by decide)) (by decide) ck_l_number).imp (wp_number (C := (L.cx 28)) (fun _ => rfl) rfl rfl rfl), ⟨k_l_number_0 F28, trivial⟩⟩
  have a30 : L.AllP P w K mg base 30 := allPs a29 (f := 304) rfl ⟨fd29, fun _ => He.glo_ok X G (factX c 11 (f := .glo "_law_deed") rfl), F29.kp, fun _ => b_l_deed F29, (def_ok F29 sc_l_deed (wd_ gs gl cl a29 (by decide)) (by decide) ck_l_deed).imp (wp_l_deed (C := (L.cx 29)) (fun _ => rfl) rfl rfl rfl rfl rfl rfl), ⟨k_l_deed_0 F29, trivial⟩⟩
  have a31 : L.AllP P w K mg base 31 := allPs a30 (f := 305) rfl ⟨fd30, fun _ => He.glo_ok X G (factX c 12 (f := .glo "_law_made") rfl), F30.kp, fun _ => b_l_made F30, (def_ok F30 sc_l_made (wd_ gs gl cl a30 (by decide)) (by decide) ck_l_made).imp (Vm.Lib.wp_l_made (C := (L.cx 30)) (fun _ => rfl) (mkA rfl rfl) (mkP rfl rfl) (mkT rfl rfl)), ⟨k_l_made_0 F30, trivial⟩⟩
  have a32 : L.AllP P w K mg base 32 := allPs a31 (f := 306) rfl ⟨fd31, fun _ => He.glo_ok X G (factX c 13 (f := .glo "_law_shown") rfl), F31.kp, fun _ => b_l_shown F31, (def_ok F31 sc_l_shown (wd_ gs gl cl a31 (by decide)) (by decide) ck_l_shown).imp (wp_l_shown), ⟨k_l_shown_0 F31, trivial⟩⟩
  have a33 : L.AllP P w K mg base 33 := allPs a32 (f := 307) rfl ⟨fd32, fun _ => He.glo_ok X G (factX c 14 (f := .glo "_law_text") rfl), F32.kp, fun _ => b_l_text F32, (def_ok F32 sc_l_text (wd_ gs gl cl a32 (by decide)) (by decide) ck_l_text).imp (Vm.Lib.wp_l_text (C := (L.cx 32)) (fun _ => rfl)), ⟨k_l_text_0 F32, trivial⟩⟩
  exact (def_ok F33 sc_law (wd_ gs gl cl a33 (by decide)) (by decide) ck_law).imp (wp_law)
end
end Vm.K26

namespace Vm.K26
open PySem PySem.Spec L2 Vm
abbrev R : PySem.W.OpenRow := PySem.W.OpenLaw.row PySem.Challenge.rw_addalong_k26_programs_written_and_read
abbrev hk : PySem.W.Hook := hookX 6 faD xb fnD
def ob (s : PySem.W.SharedT) : AlX := obsXG 6 faD xb fnD (HandSHeadRun.getT s)
theorem ob_eq (s : PySem.W.SharedT) : ob s = hk.obs s.abs := obsXG_eq (HandSHeadRun.getT_eq s)
def loose : List Str := [("_wall" : Str), ("YardError" : Str), ("NoRegister" : Str), ("SameRegister" : Str), ("BadLine" : Str), ("LETTERS" : Str), ("DIGITS" : Str), ("MOST_NAME" : Str), ("MOST_TEXT" : Str), ("is_name" : Str), ("number_text" : Str), ("number_in" : Str), ("short_number" : Str), ("MOST_DIGITS" : Str), ("Deed" : Str), ("Scaled" : Str), ("remainder" : Str), ("Add" : Str), ("Push" : Str), ("Turn" : Str), ("scaled_in" : Str), ("deed_in" : Str), ("undone" : Str), ("Program" : Str), ("_law_feed" : Str), ("_law_take" : Str), ("_law_names" : Str), ("_law_number" : Str), ("_law_deed" : Str), ("_law_made" : Str)] ++ [("_law_shown" : Str), ("_law_text" : Str)]
theorem run (w : World) : HandSHeadRun.RunEq R (PySem.W.view R.prog [37]) hk ob 20000 loose w := by
  intro os
  kernel_rfl
end Vm.K26
open PySem PySem.W PySem.Calls PyProof.Rows
theorem PySem.Challenge.cw_addalong_k26_programs_written_and_read_holds : PySem.Challenge.rw_addalong_k26_programs_written_and_read.Holds := by
  w_on; o_law
  refine HandSHeadRun.head_any (r := OpenLaw.row PySem.Challenge.rw_addalong_k26_programs_written_and_read) (q := view (OpenLaw.row PySem.Challenge.rw_addalong_k26_programs_written_and_read).prog [37]) (H := Vm.K26.hk) (ob := Vm.K26.ob) (M := 20000) (loose := Vm.K26.loose) (d := HandSHeadRun.topDef (OpenLaw.row PySem.Challenge.rw_addalong_k26_programs_written_and_read).prog 37) (kwd := []) Vm.K26.ob_eq
    (by kernel_rfl) (fun s => by kernel_rfl) Vm.K26.run (by kernel_rfl) (by kernel_rfl) (by kernel_rfl) (by rfl) (by first | assumption | decide +kernel) (by decide +kernel) ⟨rfl, rfl, rfl, rfl, rfl, by decide +kernel⟩ ?hw ?hc
  case hw => w_witness2
  case hc =>
    refine Vm.walk_ofG (l := PySem.Challenge.rw_addalong_k26_programs_written_and_read) (n := 63) (k := 100) (x := "_law_script") (S := Vm.sta0) rfl (by decide) (by kernel_rfl) ⟨rfl, by decide, by decide⟩ ?F
    intro w mg fa h Y G hmg0
    obtain ⟨K, KX, c⟩ := Y
    have hmg : mg ("law" : PySem.Str) = some (.ref fa) := by
      have e : (HandSHeadRun.topDef (OpenLaw.row PySem.Challenge.rw_addalong_k26_programs_written_and_read).prog 37).name = ("law" : PySem.Str) := by kernel_rfl
      rw [← e]
      exact hmg0
    obtain ⟨fd, hb, hF⟩ := Vm.K26.facts (P := (PySem.Challenge.rw_addalong_k26_programs_written_and_read).prog) (w := w) KX G hmg c
    exact ⟨K, fd, KX, hb, hF⟩

