import PyProof.Rows.All
import Wide.All
import OpenK.AllK
import Wide.FinOn
import HandS.ForMost
import HandS.ForExc
import HandS.CallSlots
import HandS.Flow
import HandS.Style
import HandS.Wide
import HandS.WideMore
import HandS.RaiseMore
import HandS.Walk
import HandS.IsInst
import HandS.TupAny
import HandS.Deep
import HandS.Defaults
import KE.GoesNew
import HandS.Zip
import HandS.Lambda
import HandS.Ends
import PySem.Challenge.RW_addalong_k02_names
import HandS.Head0
import HandS.Head1
import HandS.Head2
import HandS.HeadEnd
import HandS.HeadHook1
import HandS.HeadHook2
import KE.KStateDown
import Lean
set_option Elab.async false
set_option linter.all false
set_option maxRecDepth 100000
set_option maxHeartbeats 4000000
/-! Vm: data values, what represents them in the abstract heap, weakest preconditions of a small language over them -/
namespace Vm
open PySem PySem.Spec L2
open PyProof.Rows hiding St

inductive D where
  | non | bl (b : Bool) | int (i : Int) | str (s : Str)
  | tup (xs : List D) | lst (xs : List D) | cell (n : Nat) | scr (xs : List D)

inductive Sl where
  | no | sh (d : D) | ow (d : D)

abbrev Cl := List D
abbrev Fz := Addr → Prop
structure Ex where
  cls : Nat
  fs : List (Nat × D)

/-! ### representation -/
def FT (K : PySem.W.Frag) (H : Hp) (F : Fz) (a : Addr) (vs : List V) : Prop := (F a ∧ SqT K H a vs) ∨ SqT K (fun _ => none) a vs
def FL (H : Hp) (F : Fz) (a : Addr) (vs : List V) : Prop := F a ∧ H a = some (.lst vs)
def FS (K : PySem.W.Frag) (H : Hp) (F : Fz) (a : Addr) (vs : List V) : Prop := (F a ∧ ∃ o, H a = some (.frz o (.lst vs))) ∨ SqL K (fun _ => none) a vs
mutual
inductive Rep (K : PySem.W.Frag) (H : Hp) (F : Fz) (rh : List Addr) : V → D → Prop
  | non : Rep K H F rh .non .non
  | bl {b} : Rep K H F rh (.bl b) (.bl b)
  | int {i} : Rep K H F rh (.int i) (.int i)
  | str {s} : Rep K H F rh (.str s) (.str s)
  | tup {a vs ds} : FT K H F a vs → RepL K H F rh vs ds → Rep K H F rh (.ref a) (.tup ds)
  | lst {a vs ds} : FL H F a vs → RepL K H F rh vs ds → Rep K H F rh (.ref a) (.lst ds)
  | scr {a vs ds} : FS K H F a vs → RepL K H F rh vs ds → Rep K H F rh (.ref a) (.scr ds)
  | cell {n a} : rh[n]? = some a → Rep K H F rh (.ref a) (.cell n)
inductive RepL (K : PySem.W.Frag) (H : Hp) (F : Fz) (rh : List Addr) : List V → List D → Prop
  | nil : RepL K H F rh [] []
  | cons {v d vs ds} : Rep K H F rh v d → RepL K H F rh vs ds → RepL K H F rh (v :: vs) (d :: ds)
end

structure Ext (H : Hp) (F : Fz) (rh : List Addr) (H' : Hp) (F' : Fz) (rh' : List Addr) : Prop where
  frz : ∀ a, F a → F' a
  stab : ∀ a o, F a → H a = some o → H' a = some o
  cel : ∀ (n : Nat) a, rh[n]? = some a → rh'[n]? = some a

section
variable {K : PySem.W.Frag} {H H' H'' : Hp} {F F' F'' : Fz} {rh rh' rh'' : List Addr}
theorem Ext.refl : Ext H F rh H F rh := ⟨fun _ h => h, fun _ _ _ h => h, fun _ _ h => h⟩
theorem Ext.trans (a : Ext H F rh H' F' rh') (b : Ext H' F' rh' H'' F'' rh'') : Ext H F rh H'' F'' rh'' :=
  ⟨fun x h => b.frz x (a.frz x h), fun x o f h => b.stab x o (a.frz x f) (a.stab x o f h), fun n x h => b.cel n x (a.cel n x h)⟩
theorem Ext.rd (e : Ext H F rh H' F' rh') {a : Addr} {u : HO} (f : F a) (h : Rd H a u) : Rd H' a u := by
  rcases h with h | ⟨o, h⟩
  · exact .inl (e.stab a _ f h)
  · exact .inr ⟨o, e.stab a _ f h⟩
theorem FT.ext (e : Ext H F rh H' F' rh') {a : Addr} {vs : List V} (h : FT K H F a vs) : FT K H' F' a vs := by
  rcases h with ⟨f, h | h⟩ | h
  · exact .inl ⟨e.frz a f, .inl (e.rd f h)⟩
  · exact .inl ⟨e.frz a f, .inr h⟩
  · exact .inr h
theorem FL.ext (e : Ext H F rh H' F' rh') {a : Addr} {vs : List V} (h : FL H F a vs) : FL H' F' a vs := ⟨e.frz a h.1, e.stab a _ h.1 h.2⟩
theorem FS.ext (e : Ext H F rh H' F' rh') {a : Addr} {vs : List V} (h : FS K H F a vs) : FS K H' F' a vs := by
  rcases h with ⟨f, o, g⟩ | h
  · exact .inl ⟨e.frz a f, o, e.stab a _ f g⟩
  · exact .inr h
theorem FT.sq {a : Addr} {vs : List V} (h : FT K H F a vs) : SqT K H a vs := by
  rcases h with ⟨_, h⟩ | (h | ⟨o, h⟩) | h
  · exact h
  · cases h
  · cases h
  · exact .inr h
theorem FL.sq {a : Addr} {vs : List V} (h : FL H F a vs) : SqL K H a vs := SqL.of h.2
theorem FS.sq {a : Addr} {vs : List V} (h : FS K H F a vs) : SqL K H a vs := by
  rcases h with ⟨_, h⟩ | (h | ⟨o, h⟩) | h
  · exact .inl (.inr h)
  · cases h
  · cases h
  · exact .inr h
mutual
theorem Rep.ext (e : Ext H F rh H' F' rh') : ∀ {v : V} {d : D}, Rep K H F rh v d → Rep K H' F' rh' v d
  | _, _, .non => .non
  | _, _, .bl => .bl
  | _, _, .int => .int
  | _, _, .str => .str
  | _, _, .tup h r => .tup (h.ext e) (RepL.ext e r)
  | _, _, .lst h r => .lst (h.ext e) (RepL.ext e r)
  | _, _, .scr h r => .scr (h.ext e) (RepL.ext e r)
  | _, _, .cell h => .cell (e.cel _ _ h)
theorem RepL.ext (e : Ext H F rh H' F' rh') : ∀ {vs : List V} {ds : List D}, RepL K H F rh vs ds → RepL K H' F' rh' vs ds
  | _, _, .nil => .nil
  | _, _, .cons h r => .cons (Rep.ext e h) (RepL.ext e r)
end
theorem RepL.len : ∀ {vs : List V} {ds : List D}, RepL K H F rh vs ds → vs.length = ds.length
  | _, _, .nil => rfl
  | _, _, .cons _ r => by rw [List.length_cons, List.length_cons, RepL.len r]
theorem RepL.app : ∀ {vs ws : List V} {ds es : List D}, RepL K H F rh vs ds → RepL K H F rh ws es → RepL K H F rh (vs ++ ws) (ds ++ es)
  | _, _, _, _, .nil, s => s
  | _, _, _, _, .cons h r, s => .cons h (RepL.app r s)
theorem RepL.at : ∀ {vs : List V} {ds : List D} {i : Nat} {d : D}, RepL K H F rh vs ds → ds[i]? = some d → ∃ v, vs[i]? = some v ∧ Rep K H F rh v d
  | _, _, _, _, .nil, e => by simp at e
  | _, _, 0, _, .cons h _, e => by simp at e; subst e; exact ⟨_, rfl, h⟩
  | _, _, i + 1, d, .cons _ r, e => by
    obtain ⟨v, h1, h2⟩ := RepL.at (i := i) (d := d) r (by simpa using e)
    exact ⟨v, by simpa using h1, h2⟩
theorem RepL.atV : ∀ {vs : List V} {ds : List D} {i : Nat} {v : V}, RepL K H F rh vs ds → vs[i]? = some v → ∃ d, ds[i]? = some d ∧ Rep K H F rh v d
  | _, _, _, _, .nil, e => by simp at e
  | _, _, 0, _, .cons h _, e => by simp at e; subst e; exact ⟨_, rfl, h⟩
  | _, _, i + 1, d, .cons _ r, e => by
    obtain ⟨v, h1, h2⟩ := RepL.atV (i := i) (v := d) r (by simpa using e)
    exact ⟨v, by simpa using h1, h2⟩
theorem RepL.set {x : V} {y : D} (q : Rep K H F rh x y) : ∀ {vs : List V} {ds : List D} (i : Nat), RepL K H F rh vs ds → RepL K H F rh (vs.set i x) (ds.set i y)
  | _, _, _, .nil => .nil
  | _, _, 0, .cons _ r => .cons q r
  | _, _, i + 1, .cons h r => .cons h (RepL.set q i r)
theorem RepL.take : ∀ {vs : List V} {ds : List D} (n : Nat), RepL K H F rh vs ds → RepL K H F rh (vs.take n) (ds.take n)
  | _, _, 0, _ => .nil
  | _, _, _ + 1, .nil => .nil
  | _, _, n + 1, .cons h r => .cons h (RepL.take n r)
theorem RepL.drop : ∀ {vs : List V} {ds : List D} (n : Nat), RepL K H F rh vs ds → RepL K H F rh (vs.drop n) (ds.drop n)
  | _, _, 0, r => r
  | _, _, _ + 1, .nil => .nil
  | _, _, n + 1, .cons _ r => RepL.drop n r
theorem RepL.rev {vs : List V} {ds : List D} (h : RepL K H F rh vs ds) : RepL K H F rh vs.reverse ds.reverse := by
  induction vs generalizing ds with
  | nil => cases h; exact .nil
  | cons v vs ih => cases h with
    | cons a r => rw [List.reverse_cons, List.reverse_cons]; exact (ih r).app (.cons a .nil)
theorem RepL.erase : ∀ {vs : List V} {ds : List D} (i : Nat), RepL K H F rh vs ds → RepL K H F rh (vs.eraseIdx i) (ds.eraseIdx i)
  | _, _, _, .nil => .nil
  | _, _, 0, .cons _ r => r
  | _, _, i + 1, .cons h r => .cons h (RepL.erase i r)
end

/-! ### objects that may change: owned by a slot, or cells -/
def ObjD (K : PySem.W.Frag) (H : Hp) (F : Fz) (rh : List Addr) (o : HO) : D → Prop
  | .lst ds => ∃ vs, o = .lst vs ∧ RepL K H F rh vs ds
  | _ => False
theorem ObjD.ext {K : PySem.W.Frag} {H H' : Hp} {F F' : Fz} {rh rh' : List Addr} (e : Ext H F rh H' F' rh') {o : HO} : ∀ {d : D}, ObjD K H F rh o d → ObjD K H' F' rh' o d
  | .lst _, ⟨vs, h, r⟩ => ⟨vs, h, r.ext e⟩
  | .non, h | .bl _, h | .int _, h | .str _, h | .tup _, h | .cell _, h | .scr _, h => h

structure Ce (K : PySem.W.Frag) (H : Hp) (F : Fz) (rh : List Addr) (c : Cl) : Prop where
  len : rh.length = c.length
  nd : rh.Nodup
  ob : ∀ (n : Nat) a d, rh[n]? = some a → c[n]? = some d → ∃ o, H a = some o ∧ ObjD K H F rh o d
  nf : ∀ a, a ∈ rh → ¬ F a
  ft : ∀ a, F a → H a ≠ none

def Owned (sh : L2.St) (s : List Sl) (a : Addr) : Prop := ∃ (i : Nat) (d : D), s[i]? = some (.ow d) ∧ sh[i]? = some (some (.ref a))
abbrev O0 : Addr → Prop := fun _ => False

structure Rl (K : PySem.W.Frag) (H0 H : Hp) (F : Fz) (rh : List Addr) (sh : L2.St) (s : List Sl) (c : Cl) : Prop extends Ce K H F rh c where
  shr : ∀ (i : Nat) d, s[i]? = some (.sh d) → ∃ v, sh[i]? = some (some v) ∧ Rep K H F rh v d
  own : ∀ (i : Nat) d, s[i]? = some (.ow d) → ∃ a o, sh[i]? = some (some (.ref a)) ∧ H a = some o ∧ ObjD K H F rh o d ∧ ¬ F a ∧ a ∉ rh
  uq : ∀ (i j : Nat) d e a, s[i]? = some (.ow d) → s[j]? = some (.ow e) → sh[i]? = some (some (.ref a)) → sh[j]? = some (some (.ref a)) → i = j
  ln : s.length = sh.length
  fr : ∀ (i : Nat) d a, s[i]? = some (.ow d) → sh[i]? = some (some (.ref a)) → H0 a = none
  mn : ∀ a, H a = none → H0 a = none

structure Ev (H : Hp) (F : Fz) (rh : List Addr) (O : Addr → Prop) (H' : Hp) (F' : Fz) (rh' : List Addr) (O' : Addr → Prop) : Prop extends Ext H F rh H' F' rh' where
  mono : ∀ a, H a ≠ none → H' a ≠ none
  priv : ∀ a o, H a = some o → ¬ F a → a ∉ rh → ¬ O a → H' a = some o ∧ ¬ F' a ∧ a ∉ rh' ∧ ¬ O' a

section
variable {K : PySem.W.Frag} {H H' H'' : Hp} {F F' F'' : Fz} {rh rh' rh'' : List Addr} {O O' O'' : Addr → Prop}
theorem Ev.refl : Ev H F rh O H F rh O := ⟨Ext.refl, fun _ h => h, fun _ _ h1 h2 h3 h4 => ⟨h1, h2, h3, h4⟩⟩
theorem Ev.trans (a : Ev H F rh O H' F' rh' O') (b : Ev H' F' rh' O' H'' F'' rh'' O'') : Ev H F rh O H'' F'' rh'' O'' :=
  ⟨a.toExt.trans b.toExt, fun x h => b.mono x (a.mono x h), fun x o h1 h2 h3 h4 => by
    obtain ⟨g1, g2, g3, g4⟩ := a.priv x o h1 h2 h3 h4
    exact b.priv x o g1 g2 g3 g4⟩
theorem Ev.fresh (a : Ev H F rh O H' F' rh' O') {p : Addr} (h : H' p = none) : H p = none := by
  cases q : H p with
  | none => rfl
  | some o => exact absurd h (a.mono p (by rw [q]; intro z; cases z))
end

/-! ### results -/
def Res (K : PySem.W.Frag) (H0 H : Hp) (F : Fz) (rh : List Addr) (O : Addr → Prop) (v : V) (d : D) : Bool → Prop
  | true => ∃ a o, v = .ref a ∧ H0 a = none ∧ H a = some o ∧ ObjD K H F rh o d ∧ ¬ F a ∧ a ∉ rh ∧ ¬ O a
  | false => Rep K H F rh v d

/-- F and one more -/
def addF (F : Fz) (a : Addr) : Fz := fun b => F b ∨ b = a
theorem Ext.addF {H : Hp} {F : Fz} {rh : List Addr} {a : Addr} : Ext H F rh H (addF F a) rh → True := fun _ => trivial

section
variable {K : PySem.W.Frag} {H H0 H1 Hs : Hp} {F F1 : Fz} {rh rh1 : List Addr} {sh : L2.St} {s s1 : List Sl} {c c1 : Cl} {v : V} {d : D}
theorem ext_addF {a : Addr} : Ext H F rh H (addF F a) rh := ⟨fun _ h => .inl h, fun _ _ _ h => h, fun _ _ h => h⟩
/-- a private object is frozen -/
theorem Rl.freeze (R : Rl K H0 H F rh sh s c) {a : Addr} {o : HO} (ha : H a = some o) (hr : a ∉ rh) (hO : ¬ Owned sh s a) : Rl K H0 H (addF F a) rh sh s c := by
  have e : Ext H F rh H (addF F a) rh := ext_addF
  refine ⟨⟨R.len, R.nd, fun n b x h1 h2 => ?_, fun b hb z => ?_, fun b z => ?_⟩, fun i x h => ?_, fun i x h => ?_, R.uq, R.ln, R.fr, R.mn⟩
  · obtain ⟨o', g1, g2⟩ := R.ob n b x h1 h2
    exact ⟨o', g1, g2.ext e⟩
  · rcases z with z | z
    · exact R.nf b hb z
    · subst z; exact hr hb
  · rcases z with z | z
    · exact R.ft b z
    · subst z; rw [ha]; intro q; cases q
  · obtain ⟨w, g1, g2⟩ := R.shr i x h
    exact ⟨w, g1, g2.ext e⟩
  · obtain ⟨b, o', g1, g2, g3, g4, g5⟩ := R.own i x h
    refine ⟨b, o', g1, g2, g3.ext e, fun z => ?_, g5⟩
    rcases z with z | z
    · exact g4 z
    · subst z; exact hO ⟨i, x, h, g1⟩
theorem ObjD.rep {a : Addr} {o : HO} (h : ObjD K H F rh o d) (ha : H a = some o) (f : F a) : Rep K H F rh (.ref a) d := by
  cases d with
  | lst ds =>
    obtain ⟨vs, rfl, r⟩ := h
    exact .lst ⟨f, ha⟩ r
  | _ => exact h.elim
/-- a result is shared from now on -/
theorem Res.share {O : Addr → Prop} {b : Bool} (R : Rl K H0 H1 F1 rh1 sh s1 c1) (E : Ev H F rh O H1 F1 rh1 (Owned sh s1)) (r : Res K H H1 F1 rh1 (Owned sh s1) v d b) :
    ∃ F2, Rl K H0 H1 F2 rh1 sh s1 c1 ∧ Ev H F rh O H1 F2 rh1 (Owned sh s1) ∧ Rep K H1 F2 rh1 v d := by
  cases b with
  | false => exact ⟨F1, R, E, r⟩
  | true =>
    obtain ⟨a, o, rfl, h0, h1, h2, h3, h4, h5⟩ := r
    refine ⟨addF F1 a, R.freeze h1 h4 h5, ⟨E.toExt.trans ext_addF, E.mono, fun x ob g1 g2 g3 g4 => ?_⟩, (h2.ext ext_addF).rep h1 (.inr rfl)⟩
    obtain ⟨k1, k2, k3, k4⟩ := E.priv x ob g1 g2 g3 g4
    refine ⟨k1, fun z => ?_, k3, k4⟩
    rcases z with z | z
    · exact k2 z
    · subst z; rw [h0] at g1; cases g1
/-- a new object is laid -/
theorem ext_new {p : Addr} {o : HO} (hp : H p = none) (ft : ∀ a, F a → H a ≠ none) : Ext H F rh (upd H p o) F rh :=
  ⟨fun _ h => h, fun a u f h => by rw [upd_ne (ne_of_none h hp)]; exact h, fun _ _ h => h⟩
theorem Rl.laid (R : Rl K H0 H F rh sh s c) {p : Addr} {o : HO} (hp : H p = none) : Rl K H0 (upd H p o) F rh sh s c := by
  have e : Ext H F rh (upd H p o) F rh := ext_new hp R.ft
  refine ⟨⟨R.len, R.nd, fun n b x h1 h2 => ?_, R.nf, fun b z => ?_⟩, fun i x h => ?_, fun i x h => ?_, R.uq, R.ln, R.fr, fun a z => R.mn a (by
    by_cases hb : a = p
    · subst hb; exact hp
    · rw [upd_ne hb] at z; exact z)⟩
  · obtain ⟨o', g1, g2⟩ := R.ob n b x h1 h2
    exact ⟨o', by rw [upd_ne (ne_of_none g1 hp)]; exact g1, g2.ext e⟩
  · have q := R.ft b z
    by_cases hb : b = p
    · subst hb; exact absurd hp q
    · rw [upd_ne hb]; exact q
  · obtain ⟨w, g1, g2⟩ := R.shr i x h
    exact ⟨w, g1, g2.ext e⟩
  · obtain ⟨b, o', g1, g2, g3, g4, g5⟩ := R.own i x h
    exact ⟨b, o', g1, by rw [upd_ne (ne_of_none g2 hp)]; exact g2, g3.ext e, g4, g5⟩
theorem Rl.free (R : Rl K H0 H F rh sh s c) {p : Addr} (hp : H p = none) : ¬ F p ∧ p ∉ rh ∧ ¬ Owned sh s p := by
  refine ⟨fun z => R.ft p z hp, fun z => ?_, fun ⟨i, x, h1, h2⟩ => ?_⟩
  · obtain ⟨n, hn, e⟩ := List.mem_iff_getElem.mp z
    have hc : n < c.length := by rw [← R.len]; exact hn
    obtain ⟨o, g, _⟩ := R.ob n p c[n] (by rw [List.getElem?_eq_getElem hn, e]) (by rw [List.getElem?_eq_getElem hc])
    rw [hp] at g; cases g
  · obtain ⟨b, o', g1, g2, _⟩ := R.own i x h1
    rw [h2] at g1; cases g1
    rw [hp] at g2; cases g2
theorem ev_new {O : Addr → Prop} {p : Addr} {o : HO} (hp : H p = none) (ft : ∀ a, F a → H a ≠ none) : Ev H F rh O (upd H p o) F rh O :=
  ⟨ext_new hp ft, fun a h => by
      by_cases hb : a = p
      · subst hb; exact absurd hp h
      · rw [upd_ne hb]; exact h, fun a u g1 g2 g3 g4 => ⟨by rw [upd_ne (ne_of_none g1 hp)]; exact g1, g2, g3, g4⟩⟩
end
end Vm

/-! Vm: the small language and its weakest preconditions -/
namespace Vm
open PySem PySem.Spec L2

/-! ### primitives over values -/
def Tru (c : Cl) : D → Option Bool
  | .non => some false
  | .bl b => some b
  | .int i => some (i != 0)
  | .str s => if s.length ≤ sizeLine then some ((s.length : Int) != 0) else none
  | .tup xs => some (!xs.isEmpty)
  | .lst xs => some (!xs.isEmpty)
  | .scr xs => some (!xs.isEmpty)
  | .cell n => match c[n]? with
    | some (.lst xs) => some (!xs.isEmpty)
    | _ => none
/-- a list, be it a value or a cell -/
def asL (c : Cl) : D → Option (List D)
  | .lst xs => some xs
  | .cell n => match c[n]? with
    | some (.lst xs) => some xs
    | _ => none
  | _ => none
/-- a list or a tuple, the script among them -/
def asS (c : Cl) : D → Option (List D)
  | .tup xs => some xs
  | .scr xs => some xs
  | d => asL c d
mutual
def pyD : D → Option PyData
  | .non => some .none
  | .bl b => some (.bool b)
  | .int i => some (.int i)
  | .str s => some (.str s)
  | .tup xs => (pyL xs).map .tuple
  | .lst xs => (pyL xs).map .list
  | .cell _ | .scr _ => none
def pyL : List D → Option (List PyData)
  | [] => some []
  | x :: xs => match pyD x, pyL xs with
    | some p, some ps => some (p :: ps)
    | _, _ => none
end
/-- as data, a cell at the top as the list that it is -/
def pyC (c : Cl) : D → Option PyData
  | .cell n => match c[n]? with
    | some (.lst xs) => (pyL xs).map .list
    | _ => none
  | d => pyD d
/-- the signs of a text -/
def signs (z : Str) : List D := z.cps.toList.map fun ch => D.str ⟨#[ch]⟩
def repS (s : Str) (n : Nat) : Str := ⟨(List.replicate n s.cps.toList).flatten.toArray⟩

def isNon : D → Bool
  | .non => true
  | _ => false
abbrev Q1 := D → Bool → Prop
def binW (op : Operator) (c : Cl) (x y : D) (Q : Q1) : Prop :=
  match op with
  | .Add => (match x, y with
    | .int i, .int j => Q (.int (i + j)) false
    | .str a, .str b => a.length + b.length ≤ sizeLine ∧ Q (.str (a ++ b)) false
    | .tup xs, .tup ys => xs.length + ys.length ≤ sizeLine ∧ Q (.tup (xs ++ ys)) false
    | _, _ => ∃ xs ys, asL c x = some xs ∧ asL c y = some ys ∧ xs.length + ys.length ≤ sizeLine ∧ Q (.lst (xs ++ ys)) true)
  | .Sub => (match x, y with
    | .int i, .int j => Q (.int (i - j)) false
    | _, _ => False)
  | .Mult => (match x, y with
    | .int i, .int j => (CMul i j ∨ CMulW i j) ∧ Q (.int (i * j)) false
    | .str a, .int k => a.length * k.toNat ≤ sizeLine ∧ k.natAbs < 2 ^ 62 ∧ Q (.str (repS a k.toNat)) false
    | _, .int k => ∃ xs, asL c x = some xs ∧ xs.length * k.toNat ≤ sizeLine ∧ k.natAbs < 2 ^ 62 ∧ Q (.lst (List.replicate k.toNat xs).flatten) true
    | _, _ => False)
  | .FloorDiv => (match x, y with
    | .int i, .int j => (CDivN i j ∨ CDivW i j) ∧ Q (.int (i.fdiv j)) false
    | _, _ => False)
  | .Mod => (match x, y with
    | .int i, .int j => j ≠ 0 ∧ Q (.int (i.fmod j)) false
    | _, _ => False)
  | .Pow => (match x, y with
    | .int i, .int j => CPow i j ∧ Q (.int (i ^ j.toNat)) false
    | _, _ => False)
  | _ => False
def unW (op : UnaryOp) (x : D) (Q : Q1) : Prop :=
  match op, x with
  | .USub, .int i => Q (.int (-i)) false
  | _, _ => False
def cmpW (op : CmpOp) (c : Cl) (x y : D) (k : Bool → Prop) : Prop :=
  match op with
  | .Eq => ∃ p q, pyC c x = some p ∧ pyC c y = some q ∧ SeqAt.shaped p = true ∧ SeqAt.shaped q = true ∧ k (PyData.eqv p q)
  | .NotEq => ∃ p q, pyC c x = some p ∧ pyC c y = some q ∧ SeqAt.shaped p = true ∧ SeqAt.shaped q = true ∧ k (!PyData.eqv p q)
  | .Lt => (match x, y with
    | .int i, .int j => k (decide (i < j))
    | .str a, .str b => k (decide (a.cps.toList < b.cps.toList))
    | _, _ => False)
  | .LtE => (match x, y with
    | .int i, .int j => k (decide (i ≤ j))
    | .str a, .str b => k (!decide (b.cps.toList < a.cps.toList))
    | _, _ => False)
  | .Gt => (match x, y with
    | .int i, .int j => k (decide (j < i))
    | .str a, .str b => k (decide (b.cps.toList < a.cps.toList))
    | _, _ => False)
  | .GtE => (match x, y with
    | .int i, .int j => k (decide (j ≤ i))
    | .str a, .str b => k (!decide (a.cps.toList < b.cps.toList))
    | _, _ => False)
  | .In => (match x, y with
    | .str a, .str b => (∃ ch, a = ⟨#[ch]⟩ ∧ k (decide (ch ∈ b.cps.toList))) ∨ k (!(Builtin.Str.occurrences b a 0 b.length 1).isEmpty)
    | _, _ => ∃ p ys ps, pyC c x = some p ∧ asS c y = some ys ∧ pyL ys = some ps ∧ SeqAt.shaped p = true ∧ SeqAt.shaped (.list ps) = true ∧ k (ps.any fun z => PyData.eqv z p))
  | .NotIn => (match x, y with
    | .str a, .str b => (∃ ch, a = ⟨#[ch]⟩ ∧ k (!decide (ch ∈ b.cps.toList))) ∨ k (!!(Builtin.Str.occurrences b a 0 b.length 1).isEmpty)
    | _, _ => ∃ p ys ps, pyC c x = some p ∧ asS c y = some ys ∧ pyL ys = some ps ∧ SeqAt.shaped p = true ∧ SeqAt.shaped (.list ps) = true ∧ k (!ps.any fun z => PyData.eqv z p))
  | .Is => (match y with
    | .non => k (isNon x)
    | _ => False)
  | .IsNot => (match y with
    | .non => k (!isNon x)
    | _ => False)
/-- an item by its place -/
def idxW (c : Cl) (x y : D) (Q : Q1) : Prop :=
  match x, y with
  | .str z, .int i => z.length ≤ sizeLine ∧ ∃ ch, atI z.cps.toList i = some ch ∧ Q (.str ⟨#[ch]⟩) false
  | _, .int i => ∃ xs v, asS c x = some xs ∧ atI xs i = some v ∧ Q v false
  | _, _ => False
def cutD (xs : List D) (lo hi : Option Int) : List D := (xs.drop (HT.sIx xs.length 0 lo)).take (HT.sIx xs.length xs.length hi - HT.sIx xs.length 0 lo)
def slcW (c : Cl) (x : D) (l h : Option Int) (Q : Q1) : Prop :=
  match x with
  | .str z => z.length ≤ sizeLine ∧ Q (.str (cutS z l h)) false
  | .tup xs => Q (.tup (cutD xs l h)) false
  | _ => ∃ xs, (asL c x = some xs ∨ x = .scr xs) ∧ Q (.lst (cutD xs l h)) true

inductive Prim where
  | len | abs | int | bool | str | repr | min | max | all | any | sum
  deriving DecidableEq
def Prim.name : Prim → Str
  | .len => "len" | .abs => "abs" | .int => "int" | .bool => "bool" | .str => "str" | .repr => "repr" | .min => "min" | .max => "max" | .all => "all" | .any => "any" | .sum => "sum"
def Prim.val : Prim → Value
  | .len => .builtin "len" | .abs => .builtin "abs" | .int => .type "int" | .bool => .type "bool" | .str => .type "str" | .repr => .builtin "repr" | .min => .builtin "min" | .max => .builtin "max"
  | .all => .builtin "all" | .any => .builtin "any" | .sum => .builtin "sum"
def lenD (c : Cl) : D → Option Nat
  | .str z => if z.length ≤ sizeLine then some z.length else none
  | d => (asS c d).map List.length
def blOf : D → Option Bool
  | .bl b => some b
  | _ => none
def intOf : D → Option Int
  | .int i => some i
  | _ => none
def primW (p : Prim) (c : Cl) (ds : List D) (Q : Q1) : Prop :=
  match p, ds with
  | .len, [d] => ∃ n, lenD c d = some n ∧ Q (.int (n : Nat)) false
  | .abs, [.int i] => Q (.int (if i < 0 then -i else i)) false
  | .int, [.int i] => Q (.int i) false
  | .int, [.bl b] => Q (.int (if b then 1 else 0)) false
  | .bool, [.int i] => Q (.bl (i != 0)) false
  | .bool, [.bl b] => Q (.bl b) false
  | .str, [.int i] => i.natAbs.log2 < 1920 ∧ Q (.str (toString i)) false
  | .repr, [d] => ∃ p, pyC c d = some p ∧ p.showable = true ∧ p.depth ≤ 60 ∧ p.shown.length ≤ sizeLine ∧ Q (.str p.shown) false
  | .min, [.int i, .int j] => Q (.int (if j < i then j else i)) false
  | .max, [.int i, .int j] => Q (.int (if j > i then j else i)) false
  | .all, [d] => ∃ (xs : List D) (bs : List Bool), asL c d = some xs ∧ xs = bs.map D.bl ∧ Q (.bl (bs.all id)) false
  | .any, [d] => ∃ (xs : List D) (bs : List Bool), asL c d = some xs ∧ xs = bs.map D.bl ∧ Q (.bl (bs.any id)) false
  | .sum, [d] => ∃ (xs : List D) (ns : List Int), asL c d = some xs ∧ xs = ns.map D.int ∧ Q (.int ns.sum) false
  | _, _ => False

/-- the type of a value, as its name -/
def tyD (c : Cl) : D → Option String
  | .non => some "NoneType"
  | .bl _ => some "bool"
  | .int _ => some "int"
  | .str _ => some "str"
  | .tup _ => some "tuple"
  | .lst _ | .scr _ => some "list"
  | .cell n => match c[n]? with
    | some (.lst _) => some "list"
    | _ => none
def isTy (t T : String) : Bool := t == T || (t == "bool" && T == "int") || T == "object"

/-! ### methods: of values that stay (pure), of what a slot owns or a cell holds -/
inductive Mt where
  | upper | join | append | extend | pop | clear | index
  deriving DecidableEq
def Mt.name : Mt → Str
  | .upper => "upper" | .join => "join" | .append => "append" | .extend => "extend" | .pop => "pop" | .clear => "clear" | .index => "index"
def strOf : D → Option Str
  | .str s => some s
  | _ => none
def recvOk (m : Mt) (x : D) : Prop :=
  match m, x with
  | .upper, .str _ | .join, .str _ => True
  | _, _ => False
def methW (m : Mt) (c : Cl) (x : D) (ds : List D) (Q : Q1) : Prop :=
  match m, x, ds with
  | .upper, .str a, [] => a.length ≤ 5592405 ∧ Q (.str (Txt.upper a)) false
  | .join, .str a, [d] => ∃ (xs : List D) (ys : List Str), asS c d = some xs ∧ xs = ys.map D.str ∧ (ys.map (·.length)).sum + ys.length * a.length ≤ 16777216 ∧ Q (.str (Txt.join a ys)) false
  | _, _, _ => False
/-- what a method does with a list that may change: its value, the list behind -/
def mutW (m : Mt) (c : Cl) (xs : List D) (ds : List D) (Q : D → List D → Prop) : Prop :=
  match m, ds with
  | .append, [d] => xs.length < sizeLine ∧ Q .non (xs ++ [d])
  | .extend, [d] => ∃ ys, asL c d = some ys ∧ xs.length + ys.length ≤ sizeLine ∧ Q .non (xs ++ ys)
  | .pop, [] => ∃ y, xs[xs.length - 1]? = some y ∧ Q y xs.dropLast
  | .pop, [.int i] => ∃ k y, i.natAbs < 2 ^ 62 ∧ seqIndex? i xs.length = some k ∧ xs[k]? = some y ∧ Q y (xs.eraseIdx k)
  | .clear, [] => Q .non []
  | _, _ => False

/-! ### the language -/
mutual
inductive Tg where
  | nm (i : Nat)
  | tp (l : TgL)
inductive TgL where
  | nil
  | cons (t : Tg) (l : TgL)
end
mutual
inductive IE where
  | var (i : Nat)
  | con (d : D)
  | glob (i : Nat)
  | bin (op : Operator) (a b : IE)
  | un (op : UnaryOp) (a : IE)
  | cmp (op : CmpOp) (a b : IE)
  | chain (op op' : CmpOp) (a b c : IE)
  | bool (isAnd : Bool) (l : IL)
  | not (a : IE)
  | ite (c a b : IE)
  | tup (l : IL)
  | lst (l : IL)
  | idx (a b : IE)
  | slc (a : IE) (lo hi : IO)
  | call (f : Nat) (l : IL)
  | kcall (f n : Nat) (l : IL) (ks : List Nat) (kl : IL)
  | prim (p : Prim) (l : IL)
  | isi (a : IE) (T : String)
  | meth (m : Mt) (o : IE) (l : IL)
  | methv (m : Mt) (i : Nat) (l : IL)
  | comp (own : List Nat) (t : Tg) (src : IT) (ifs : IL) (elt : IE)
inductive IL where
  | nil
  | cons (a : IE) (l : IL)
inductive IO where
  | no
  | so (a : IE)
inductive IT where
  | val (e : IE)
  | range1 (a : IE)
  | range2 (a b : IE)
  | enum (e : IE)
  | zip (a b : IE)
end

structure Ctx where
  fn : Nat → List D → Cl → (D → Bool → Cl → Prop) → (Ex → Cl → Prop) → Prop
  hasF : Nat → Bool
  gl : Nat → D
  hasG : Nat → Bool
  hasP : Prim → Bool
  hasK : Nat → Nat → List Nat → Bool := fun _ _ _ => false
/-- keywords' values in the parameters' order: ks, the places of the keywords as they are written -/
def arr {α : Type} (ks : List Nat) (ws : List α) : List α := (List.range ks.length).filterMap fun j => ws[ks.idxOf j]?

abbrev QK := D → Bool → List Sl → Cl → Prop
abbrev EK := Ex → List Sl → Cl → Prop
abbrev EK0 : EK := fun _ _ _ => False
def Qt (t : Bool) (Q : QK) : QK := match t with
  | true => fun d _ s c => ∃ k, Tru c d = some k ∧ Q (.bl k) false s c
  | false => Q

mutual
def bindT : Tg → D → List Sl → Option (List Sl)
  | .nm i, d, s => some (s.set i (.sh d))
  | .tp l, .tup ds, s => bindTs l ds s
  | .tp _, _, _ => none
def bindTs : TgL → List D → List Sl → Option (List Sl)
  | .nil, [], s => some s
  | .cons t l, d :: ds, s => match bindT t d s with
    | some s1 => bindTs l ds s1
    | none => none
  | _, _, _ => none
end
def wipeS (s : List Sl) : List Nat → List Sl
  | [] => s
  | v :: vs => (wipeS s vs).set v .no
/-- the slots at own as they were at s0 -/
def backS (s0 s : List Sl) : List Nat → List Sl
  | [] => s
  | v :: vs => (backS s0 s vs).set v (s0[v]?.getD .no)

/-- what is walked: its items, what must stay while they are walked -/
def itemsW (c : Cl) (d : D) (k : List D → (Cl → Prop) → Prop) : Prop :=
  match d with
  | .str z => k (signs z) (fun _ => True)
  | .tup xs => k xs (fun _ => True)
  | .lst xs => k xs (fun _ => True)
  | .scr xs => k xs (fun _ => True)
  | .cell n => ∃ xs, c[n]? = some (.lst xs) ∧ k xs (fun c' => c'[n]? = some (.lst xs))
  | _ => False
def enumD (i : Nat) : List D → List D
  | [] => []
  | x :: xs => .tup [.int (i : Nat), x] :: enumD (i + 1) xs
def zipD : List D → List D → List D
  | x :: xs, y :: ys => .tup [x, y] :: zipD xs ys
  | _, _ => []
def rangeD (lo : Int) (n : Nat) : List D := (List.range n).map fun i => .int (lo + (i : Nat))
def inRange (j : Int) : Prop := -(2 ^ 62) ≤ j ∧ j < 2 ^ 62

/-- a comprehension's loop; g: what must stay -/
def loopC (g : Cl → Prop) (body : D → List Sl → Cl → (Option D → List Sl → Cl → Prop) → Prop) : List D → List D → List Sl → Cl → (List D → List Sl → Cl → Prop) → Prop
  | [], acc, s, c, k => g c ∧ k acc s c
  | x :: xs, acc, s, c, k => g c ∧ body x s c fun r s1 c1 => match r with
    | some d => acc.length < sizeLine ∧ loopC g body xs (acc ++ [d]) s1 c1 k
    | none => loopC g body xs acc s1 c1 k

/-- a slot that holds a list that may change -/
def slotL (c : Cl) : Option Sl → Prop
  | some (.ow (.lst _)) => True
  | some (.sh (.cell n)) => ∃ xs, c[n]? = some (.lst xs)
  | _ => False
/-- the list in a slot, and what the slots and cells become with another one -/
def slotW (s : List Sl) (c : Cl) (i : Nat) (k : List D → (List D → List Sl × Cl) → Prop) : Prop :=
  match s[i]? with
  | some (.ow (.lst xs)) => k xs fun ys => (s.set i (.ow (.lst ys)), c)
  | some (.sh (.cell n)) => ∃ xs, c[n]? = some (.lst xs) ∧ k xs fun ys => (s, c.set n (.lst ys))
  | _ => False
mutual
def wpE (C : Ctx) (t : Bool) : IE → List Sl → Cl → QK → EK → Prop
  | .var i, s, c, Q, _ => (match s[i]? with
    | some (.sh d) => Qt t Q d false s c
    | some (.ow d) => Qt t Q d false (s.set i (.sh d)) c
    | _ => False)
  | .con d, s, c, Q, _ => Qt t Q d false s c
  | .glob i, s, c, Q, _ => C.hasG i = true ∧ Qt t Q (C.gl i) false s c
  | .bin op a b, s, c, Q, E => wpE C false a s c (fun x _ s1 c1 => wpE C false b s1 c1 (fun y _ s2 c2 => binW op c2 x y fun d o => Qt t Q d o s2 c2) E) E
  | .un op a, s, c, Q, E => wpE C false a s c (fun x _ s1 c1 => unW op x fun d o => Qt t Q d o s1 c1) E
  | .cmp op a b, s, c, Q, E => wpE C false a s c (fun x _ s1 c1 => wpE C false b s1 c1 (fun y _ s2 c2 => cmpW op c2 x y fun k => Q (.bl k) false s2 c2) E) E
  | .chain op op' a b e, s, c, Q, E => wpE C false a s c (fun x _ s1 c1 => wpE C false b s1 c1 (fun y _ s2 c2 => cmpW op c2 x y fun k =>
      match k with
      | true => wpE C false e s2 c2 (fun z _ s3 c3 => cmpW op' c3 y z fun k' => Q (.bl k') false s3 c3) E
      | false => Q (.bl false) false s2 c2) E) E
  | .bool a l, s, c, Q, E => wpB C t a l s c Q E
  | .not a, s, c, Q, E => wpE C t a s c (fun d _ s1 c1 => ∃ k, Tru c1 d = some k ∧ Q (.bl (!k)) false s1 c1) E
  | .ite a b e, s, c, Q, E => wpE C true a s c (fun d _ s1 c1 => ∃ k, d = .bl k ∧ (match k with
      | true => wpE C false b s1 c1 (Qt t Q) E
      | false => wpE C false e s1 c1 (Qt t Q) E)) E
  | .tup l, s, c, Q, E => wpL C l s c (fun ds s1 c1 => ds.length ≤ sizeLine ∧ Qt t Q (.tup ds) false s1 c1) E
  | .lst l, s, c, Q, E => wpL C l s c (fun ds s1 c1 => ds.length ≤ sizeLine ∧ Qt t Q (.lst ds) true s1 c1) E
  | .idx a b, s, c, Q, E => wpE C false a s c (fun x _ s1 c1 => wpE C false b s1 c1 (fun y _ s2 c2 => idxW c2 x y fun d o => Qt t Q d o s2 c2) E) E
  | .slc a lo hi, s, c, Q, E => wpE C false a s c (fun x _ s1 c1 => wpO C lo s1 c1 (fun l s2 c2 => wpO C hi s2 c2 (fun h s3 c3 => slcW c3 x l h fun d o => Qt t Q d o s3 c3) E) E) E
  | .call f l, s, c, Q, E => C.hasF f = true ∧ wpL C l s c (fun ds s1 c1 => C.fn f ds c1 (fun d o c2 => Qt t Q d o s1 c2) (fun ex c2 => E ex s1 c2)) E
  | .kcall f n l ks kl, s, c, Q, E => C.hasF f = true ∧ C.hasK f n ks = true ∧ wpL C l s c (fun ds s1 c1 => wpL C kl s1 c1 (fun es s2 c2 => ds.length = n ∧ es.length = ks.length ∧ C.fn f (ds ++ arr ks es) c2 (fun d o c3 => Qt t Q d o s2 c3) (fun ex c3 => E ex s2 c3)) E) E
  | .prim p l, s, c, Q, E => C.hasP p = true ∧ wpL C l s c (fun ds s1 c1 => primW p c1 ds fun d o => Qt t Q d o s1 c1) E
  | .isi a T, s, c, Q, E => wpE C false a s c (fun x _ s1 c1 => ∃ u, tyD c1 x = some u ∧ Qt t Q (.bl (isTy u T)) false s1 c1) E
  | .meth m o l, s, c, Q, E => wpE C false o s c (fun x _ s1 c1 => recvOk m x ∧ wpL C l s1 c1 (fun ds s2 c2 => methW m c2 x ds fun d o => Qt t Q d o s2 c2) E) E
  | .methv m i l, s, c, Q, E => slotL c (s[i]?) ∧ wpL C l s c (fun ds s1 c1 => slotW s1 c1 i fun xs g => mutW m c1 xs ds fun r ys => Qt t Q r false (g ys).1 (g ys).2) E
  | .comp own tg src ifs elt, s, c, Q, E => wpI C src s c (fun items g s1 c1 => loopC g (fun x s2 c2 k =>
      match bindT tg x (wipeS s2 own) with
      | none => False
      | some s3 => wpIf C ifs s3 c2 (fun b s4 c4 => match b with
        | true => wpE C false elt s4 c4 (fun d _ s5 c5 => k (some d) s5 c5) EK0
        | false => k none s4 c4)) items [] s1 c1 fun acc s6 c6 => Qt t Q (.lst acc) true (backS s1 s6 own) c6) E
def wpB (C : Ctx) (t : Bool) (a : Bool) : IL → List Sl → Cl → QK → EK → Prop
  | .nil, _, _, _, _ => False
  | .cons e .nil, s, c, Q, E => wpE C t e s c Q E
  | .cons e (.cons e' l), s, c, Q, E => wpE C t e s c (fun d _ s1 c1 => ∃ k, Tru c1 d = some k ∧ (match k == a with
      | true => wpB C t a (.cons e' l) s1 c1 Q E
      | false => Q d false s1 c1)) E
def wpL (C : Ctx) : IL → List Sl → Cl → (List D → List Sl → Cl → Prop) → EK → Prop
  | .nil, s, c, Q, _ => Q [] s c
  | .cons e l, s, c, Q, E => wpE C false e s c (fun d _ s1 c1 => wpL C l s1 c1 (fun ds s2 c2 => Q (d :: ds) s2 c2) E) E
def wpO (C : Ctx) : IO → List Sl → Cl → (Option Int → List Sl → Cl → Prop) → EK → Prop
  | .no, s, c, Q, _ => Q none s c
  | .so e, s, c, Q, E => wpE C false e s c (fun d _ s1 c1 => ∃ i, d = .int i ∧ Q (some i) s1 c1) E
def wpIf (C : Ctx) : IL → List Sl → Cl → (Bool → List Sl → Cl → Prop) → Prop
  | .nil, s, c, Q => Q true s c
  | .cons e .nil, s, c, Q => wpE C true e s c (fun d _ s1 c1 => ∃ k, d = .bl k ∧ Q k s1 c1) EK0
  | .cons _ (.cons _ _), _, _, _ => False
def wpI (C : Ctx) : IT → List Sl → Cl → (List D → (Cl → Prop) → List Sl → Cl → Prop) → EK → Prop
  | .val e, s, c, k, E => wpE C false e s c (fun d _ s1 c1 => itemsW c1 d fun xs g => k xs g s1 c1) E
  | .range1 a, s, c, k, E => wpE C false a s c (fun x _ s1 c1 => ∃ j, x = .int j ∧ inRange j ∧ k (rangeD 0 j.toNat) (fun _ => True) s1 c1) E
  | .range2 a b, s, c, k, E => wpE C false a s c (fun x _ s1 c1 => wpE C false b s1 c1 (fun y _ s2 c2 => ∃ i j, x = .int i ∧ y = .int j ∧ inRange i ∧ inRange j ∧ k (rangeD i (j - i).toNat) (fun _ => True) s2 c2) E) E
  | .enum e, s, c, k, E => wpE C false e s c (fun d _ s1 c1 => itemsW c1 d fun xs g => k (enumD 0 xs) g s1 c1) E
  | .zip a b, s, c, k, E => wpE C false a s c (fun x _ s1 c1 => wpE C false b s1 c1 (fun y _ s2 c2 => itemsW c2 x fun xs g => itemsW c2 y fun ys g' => k (zipD xs ys) (fun c' => g c' ∧ g' c') s2 c2) E) E
end

/-! ### statements -/
mutual
inductive IS where
  | asg (i : Nat) (e : IE)
  | asgT (t : TgL) (e : IE)
  | par (is : List Nat) (l : IL)
  | seti (o : Nat) (i e : IE)
  | aug (i : Nat) (op : Operator) (e : IE)
  | expr (e : IE)
  | ret (e : IE)
  | retv (i : Nat)
  | retN
  | ifs (c : IE) (a b : ISs)
  | for_ (t : Tg) (src : IT) (b : ISs)
  | while_ (c : IE) (b : ISs)
  | pass | brk | cont
  | cellify (i : Nat) (e : IE)
inductive ISs where
  | nil
  | cons (a : IS) (l : ISs)
end
structure En where
  nx : List Sl → Cl → Prop
  rt : QK
  bk : List Sl → Cl → Prop
  ct : List Sl → Cl → Prop
def slOf (d : D) : Bool → Sl
  | true => .ow d
  | false => .sh d
def setAll (s : List Sl) : List Nat → List D → List Sl
  | i :: is, d :: ds => setAll (s.set i (.sh d)) is ds
  | _, _ => s
def loopF (g : Cl → Prop) (step : D → List Sl → Cl → (List Sl → Cl → Prop) → Prop) : List D → List Sl → Cl → (List Sl → Cl → Prop) → Prop
  | [], s, c, k => g c ∧ k s c
  | x :: xs, s, c, k => g c ∧ step x s c fun s1 c1 => loopF g step xs s1 c1 k
def loopW (step : List Sl → Cl → (List Sl → Cl → Prop) → Prop) : Nat → List Sl → Cl → Prop
  | 0, _, _ => False
  | n + 1, s, c => step s c (loopW step n)
def setiW (xs : List D) (i v : D) (Q : List D → Prop) : Prop :=
  match i with
  | .int k => ∃ j, ixN xs.length k = some j ∧ Q (xs.set j v)
  | _ => False
mutual
def wpS (C : Ctx) : IS → List Sl → Cl → En → EK → Prop
  | .asg i e, s, c, N, E => wpE C false e s c (fun d o s1 c1 => N.nx (s1.set i (slOf d o)) c1) E
  | .cellify i e, s, c, N, E => wpE C false e s c (fun d o s1 c1 => o = true ∧ N.nx (s1.set i (.sh (.cell c1.length))) (c1 ++ [d])) E
  | .asgT t e, s, c, N, E => wpE C false e s c (fun d _ s1 c1 => match bindT (.tp t) d s1 with
    | some s2 => N.nx s2 c1
    | none => False) E
  | .par is l, s, c, N, E => wpL C l s c (fun ds s1 c1 => ds.length = is.length ∧ N.nx (setAll s1 is ds) c1) E
  | .seti o i e, s, c, N, E => wpE C false e s c (fun v _ s1 c1 => slotL c1 (s1[o]?) ∧ wpE C false i s1 c1 (fun x _ s2 c2 => slotW s2 c2 o fun xs g => setiW xs x v fun ys => N.nx (g ys).1 (g ys).2) E) E
  | .aug i op e, s, c, N, E => (match s[i]? with
      | some (.sh (.int x)) => wpE C false e s c (fun y _ s1 c1 => binW op c1 (.int x) y fun d o => N.nx (s1.set i (slOf d o)) c1) E
      | some (.sh (.str x)) => op = .Add ∧ wpE C false e s c (fun y _ s1 c1 => binW .Add c1 (.str x) y fun d o => N.nx (s1.set i (slOf d o)) c1) E
      | _ => False)
  | .expr e, s, c, N, E => wpE C false e s c (fun _ _ s1 c1 => N.nx s1 c1) E
  | .ret e, s, c, N, E => wpE C false e s c N.rt E
  | .retv i, s, c, N, _ => (match s[i]? with
      | some (.sh d) => N.rt d false s c
      | some (.ow d) => N.rt d true (s.set i .no) c
      | _ => False)
  | .retN, s, c, N, _ => N.rt .non false s c
  | .ifs e a b, s, c, N, E => wpE C true e s c (fun d _ s1 c1 => ∃ k, d = .bl k ∧ (match k with
      | true => wpSs C a s1 c1 N E
      | false => wpSs C b s1 c1 N E)) E
  | .for_ t src b, s, c, N, E => wpI C src s c (fun items g s1 c1 => loopF g (fun x s2 c2 nxt => match bindT t x s2 with
      | none => False
      | some s3 => wpSs C b s3 c2 { nx := nxt, ct := nxt, bk := N.nx, rt := N.rt } E) items s1 c1 N.nx) E
  | .while_ e b, s, c, N, E => ∃ n, loopW (fun s1 c1 nxt => wpE C true e s1 c1 (fun d _ s2 c2 => ∃ k, d = .bl k ∧ (match k with
      | true => wpSs C b s2 c2 { nx := nxt, ct := nxt, bk := N.nx, rt := N.rt } E
      | false => N.nx s2 c2)) E) n s c
  | .pass, s, c, N, _ => N.nx s c
  | .brk, s, c, N, _ => N.bk s c
  | .cont, s, c, N, _ => N.ct s c
def wpSs (C : Ctx) : ISs → List Sl → Cl → En → EK → Prop
  | .nil, s, c, N, _ => N.nx s c
  | .cons a l, s, c, N, E => wpS C a s c { N with nx := fun s1 c1 => wpSs C l s1 c1 N E } E
end
/-- a def of n parameters, of so many slots -/
def wpDef (C : Ctx) (n slots : Nat) (b : ISs) (ds : List D) (c : Cl) (Q : D → Bool → Cl → Prop) (E : Ex → Cl → Prop) : Prop :=
  ds.length = n ∧ wpSs C b (ds.map Sl.sh ++ List.replicate (slots - n) Sl.no) c { nx := fun _ c1 => Q .non false c1, rt := fun d o _ c1 => Q d o c1, bk := fun _ _ => False, ct := fun _ _ => False } (fun ex _ c1 => E ex c1)
end Vm

/-! Vm: each primitive over what represents its values -/
namespace Vm
open PySem PySem.Spec L2
open PyProof.Rows hiding St

section
variable {K : PySem.W.Frag} {H0 H H1 H' : Hp} {F F1 F' : Fz} {rh rh1 rh' : List Addr} {sh : L2.St} {s s1 : List Sl} {c c1 : Cl} {v : V} {d : D} {o : Bool}

/-- what a primitive hands back: a value that stands, a new list, a new tuple -/
inductive Out (K : PySem.W.Frag) (H : Hp) (F : Fz) (rh : List Addr) : V → Hp → D → Bool → Prop where
  | old {x : V} {y : D} : Rep K H F rh x y → Out K H F rh x H y false
  | new {p : Addr} {ho : HO} {y : D} : H p = none → ObjD K H F rh ho y → Out K H F rh (.ref p) (upd H p ho) y true
  | tup {p : Addr} {vs : List V} {ds : List D} : H p = none → RepL K H F rh vs ds → Out K H F rh (.ref p) (upd H p (.tup vs)) (.tup ds) false

def OkQ (K : PySem.W.Frag) (H0 : Hp) (sh : L2.St) (H : Hp) (F : Fz) (rh : List Addr) (s : List Sl) (Qm : QK) (Q : VK) : Prop :=
  ∀ d o s' c' v H' F' rh', Qm d o s' c' → Rl K H0 H' F' rh' sh s' c' → Ev H F rh (Owned sh s) H' F' rh' (Owned sh s') → Res K H H' F' rh' (Owned sh s') v d o → Q v H'
theorem Res.back' {O O' O'' : Addr → Prop} (r : Res K H1 H' F' rh' O'' v d o) (e : Ev H F rh O H1 F1 rh1 O') : Res K H H' F' rh' O'' v d o := by
  cases o with
  | false => exact r
  | true =>
    obtain ⟨a, ob, h1, h2, h3⟩ := r
    exact ⟨a, ob, h1, e.fresh h2, h3⟩
theorem OkQ.step {Qm : QK} {Q : VK} (ok : OkQ K H0 sh H F rh s Qm Q) (e : Ev H F rh (Owned sh s) H1 F1 rh1 (Owned sh s1)) : OkQ K H0 sh H1 F1 rh1 s1 Qm Q :=
  fun d o s' c' v H' F' rh' hq rl e' r => ok d o s' c' v H' F' rh' hq rl (e.trans e') (r.back' e)
theorem OkQ.shr {Qm : QK} {Q : VK} (ok : OkQ K H0 sh H F rh s Qm Q) (R : Rl K H0 H F rh sh s c) (r : Rep K H F rh v d) (q : Qm d false s c) : Q v H :=
  ok d false s c v H F rh q R Ev.refl r
theorem OkQ.out {Qm : QK} {Q : VK} (ok : OkQ K H0 sh H F rh s Qm Q) (R : Rl K H0 H F rh sh s c) (u : Out K H F rh v H' d o) (q : Qm d o s c) : Q v H' := by
  cases u with
  | old r => exact ok.shr R r q
  | @new p ho _ hp ob =>
    have g := R.free hp
    exact ok d true s c (.ref p) _ F rh q (R.laid hp) (ev_new hp R.ft) ⟨p, ho, rfl, hp, upd_same, ob.ext (ext_new hp R.ft), g.1, g.2.1, g.2.2⟩
  | @tup p vs ds hp r =>
    have g := R.free hp
    have R1 : Rl K H0 (upd H p (.tup vs)) F rh sh s c := R.laid hp
    have R2 : Rl K H0 (upd H p (.tup vs)) (addF F p) rh sh s c := R1.freeze upd_same g.2.1 g.2.2
    have e1 : Ev H F rh (Owned sh s) (upd H p (.tup vs)) F rh (Owned sh s) := ev_new hp R.ft
    refine ok (.tup ds) false s c (.ref p) _ (addF F p) rh q R2 ⟨e1.toExt.trans ext_addF, e1.mono, fun a u g1 g2 g3 g4 => ?_⟩ (.tup (.inl ⟨.inr rfl, SqT.of upd_same⟩) (r.ext (e1.toExt.trans ext_addF)))
    obtain ⟨k1, k2, k3, k4⟩ := e1.priv a u g1 g2 g3 g4
    refine ⟨k1, fun z => ?_, k3, k4⟩
    rcases z with z | z
    · exact k2 z
    · subst z; rw [hp] at g1; cases g1
/-- go on with a shared value -/
theorem OkQ.mk {Qm : QK} {Q : VK} (k : ∀ d o s' c' v H' F' rh', Qm d o s' c' → Rl K H0 H' F' rh' sh s' c' → Ev H F rh (Owned sh s) H' F' rh' (Owned sh s') → Rep K H' F' rh' v d → Q v H') : OkQ K H0 sh H F rh s Qm Q :=
  fun d o s' c' v H' F' rh' hq rl e r => by
    obtain ⟨F2, rl2, e2, r2⟩ := Res.share rl e r
    exact k d o s' c' v H' F2 rh' hq rl2 e2 r2

/-! ### reading shapes off a representation -/
theorem Rep.int_of {i : Int} (r : Rep K H F rh v (.int i)) : v = .int i := by cases r; rfl
theorem Rep.str_of {z : Str} (r : Rep K H F rh v (.str z)) : v = .str z := by cases r; rfl
theorem Rep.bl_of {b : Bool} (r : Rep K H F rh v (.bl b)) : v = .bl b := by cases r; rfl
theorem Rep.tup_of {ds : List D} (r : Rep K H F rh v (.tup ds)) : ∃ a vs, v = .ref a ∧ FT K H F a vs ∧ RepL K H F rh vs ds := by
  cases r with
  | tup h r => exact ⟨_, _, rfl, h, r⟩
theorem asL_of (C : Ce K H F rh c) (r : Rep K H F rh v d) {xs : List D} (h : asL c d = some xs) : ∃ a vs, v = .ref a ∧ H a = some (.lst vs) ∧ RepL K H F rh vs xs := by
  cases r with
  | lst hf r =>
    cases h
    exact ⟨_, _, rfl, hf.2, r⟩
  | @cell n a e =>
    have h' : (match c[n]? with | some (.lst xs) => some xs | _ => none) = some xs := h
    cases q : c[n]? with
    | none => rw [q] at h'; cases h'
    | some x =>
      rw [q] at h'
      cases x with
      | lst ys =>
        cases h'
        obtain ⟨ob, g1, vs, g2, g3⟩ := C.ob n a _ e q
        subst g2
        exact ⟨a, vs, rfl, g1, g3⟩
      | _ => cases h'
  | _ => cases h
theorem asS_of (C : Ce K H F rh c) (r : Rep K H F rh v d) {xs : List D} (h : asS c d = some xs) : ∃ a vs, v = .ref a ∧ (SqL K H a vs ∨ SqT K H a vs) ∧ RepL K H F rh vs xs := by
  cases d with
  | tup ds =>
    cases h
    obtain ⟨a, vs, e, hf, r⟩ := r.tup_of
    exact ⟨a, vs, e, .inr hf.sq, r⟩
  | lst ds =>
    obtain ⟨a, vs, e, hl, r⟩ := asL_of C r (show asL c (.lst ds) = some xs from h)
    exact ⟨a, vs, e, .inl (SqL.of hl), r⟩
  | scr ds =>
    cases h
    cases r with
    | scr hf r => exact ⟨_, _, rfl, .inl hf.sq, r⟩
  | cell n =>
    obtain ⟨a, vs, e, hl, r⟩ := asL_of C r (show asL c (.cell n) = some xs from h)
    exact ⟨a, vs, e, .inl (SqL.of hl), r⟩
  | _ => cases h

theorem RepL.strs : ∀ {vs : List V} {ys : List Str}, RepL K H F rh vs (ys.map D.str) → vs = ys.map V.str
  | _, [], .nil => rfl
  | _, y :: ys, .cons r t => by cases r; rw [RepL.strs t]; rfl
theorem RepL.ints : ∀ {vs : List V} {ys : List Int}, RepL K H F rh vs (ys.map D.int) → vs = ys.map V.int
  | _, [], .nil => rfl
  | _, y :: ys, .cons r t => by cases r; rw [RepL.ints t]; rfl
theorem RepL.bls : ∀ {vs : List V} {ys : List Bool}, RepL K H F rh vs (ys.map D.bl) → vs = ys.map V.bl
  | _, [], .nil => rfl
  | _, y :: ys, .cons r t => by cases r; rw [RepL.bls t]; rfl
end
end Vm

/-! Vm: defs whose callers tell that no guard stands (repr of nested data asks it) -/
namespace Vm
open PySem PySem.Spec L2
open PyProof.Rows hiding St
/-- as FnOk, where no guard stands around -/
structure FnG (P : Program) (w : World) (K : PySem.W.Frag) (mg : Str → Option Value) (base : Heap) (k : Nat) (f : Addr) (fd : FuncData) (ps : List Str) (sp : Sp) : Prop where
  arity : ∀ vs H Q E, sp vs H Q E → vs.length = ps.length
  go : ∀ (A : Around) (outer : List Env) (s : Shared) (H : Hp) (args : Args) (us : List Value) (vs : List V) (Q : VK) (E : XK), Room k A → A.guards = some [] →
    Env0 P w K mg base A outer s H → BindsTo s fd args (ps.zip us) → Vals vs us → sp vs H Q E →
      codeAny (model P w) A (.call (.ref f) args) (CR (L2.CX P w) outer P w H s Q E) s
theorem FnG.mono {P : Program} {w : World} {K : PySem.W.Frag} {mg : Str → Option Value} {base : Heap} {j k : Nat} {f : Addr} {fd : FuncData} {ps : List Str} {sp : Sp} (G : FnG P w K mg base j f fd ps sp) (h : j ≤ k) : FnG P w K mg base k f fd ps sp :=
  ⟨G.arity, fun A o s H a us vs Q E hr => G.go A o s H a us vs Q E (hr.mono h)⟩
theorem guards_deeper (A : Around) (env : Env) : (A.deeper env).guards = A.guards := rfl

/-- a def by its body -/
theorem fnG_of {P : Program} {w : World} {K : PySem.W.Frag} {mg : Str → Option Value} {base : Heap} {x qual : Str} {params : Arguments} {body : List Stmt} {scope : Scope} {f : Addr} {oc : Value} {od : Option Addr} {dV kV doc pm : Value} {an : Option Addr} {cdv ct : Value} {osl : Array (Option Value)} {N ps : List Str} {k : Nat} {sp : Sp}
    (lk : K.lookup f = some ⟨oc, od, .func (PySem.W.fnOf x qual params body scope dV kV doc pm an cdv ct), osl⟩) (hcd : PySem.W.codeIn K cdv qual = true)
    (S : FnScope N ps scope) (ar : ∀ vs H Q E, sp vs H Q E → vs.length = ps.length)
    (bd : ∀ (A : Around) (outer : List Env) (s : Shared) (H : Hp) (vs : List V) (Q : VK) (E : XK), Room k (A.deeper (envOfC qual scope s.heap.objs.size f cdv)) → A.guards = some [] → sp vs H Q E →
      ∃ t, PSs (cxOf (L2.CX P w) P w K mg base N qual scope f cdv A outer s H E) body t ∧ t { nx := fun _ H' => Q .non H', rt := Q } (start N vs) H) : FnG P w K mg base (k + 1) f (PySem.W.fnOf x qual params body scope dV kV doc pm an cdv ct) ps sp := by
  refine ⟨ar, fun A outer s H args us vs Q E hr hg e0 hb r hsp => ?_⟩
  have al := ar _ _ _ _ hsp
  have KS : K.In s.heap := e0.mod.kin.keeps fun b ob e => (e0.bs b ob e).1
  have NL : s.heap.NoLimit := e0.mod.nolimit.keeps fun b ob e => (e0.bs b ob e).1
  have kinds : ∀ y ∈ ps.zip us, scope.names.lookup y.1 = some .local ∨ (scope.names.lookup y.1 = some .cell ∧ ((cellsFrom (s.heap.objs.size + 1) scope.names []).lookup y.1).isSome = true) := by
    rintro ⟨n, v⟩ hy
    rcases S.par n (List.of_mem_zip hy).1 with z | z
    · exact Or.inl z
    · exact Or.inr ⟨z, PySem.W.cellsFrom_some _ _ _ (Or.inl z)⟩
  refine codeAny_call_function hr.depth (KS _ _ lk) rfl S.co S.gen rfl (PySem.W.codeRec_of KS hcd) (hb _ _ _ _ ?_)
  refine wpAny_newFunctionEnv_cells S.kind kinds fun env he s1 x => ?_
  cases he
  refine ⟨NL.keeps x.toInCall.keep, codeAny_func ?_⟩
  obtain ⟨t, ht, hq⟩ := bd A outer s H vs Q E (hr.deeper _) hg hsp
  refine wpAny_mono (ht.run [] s1 (start N vs) H _ (inv_start S hr.hd e0 al r x) hq) (fun fl s' hs => ?_) fun e s' hs => hs
  cases fl with
  | ret u =>
    obtain ⟨v, sg, H', J, rv, q⟩ := hs
    exact ⟨v, H', J.os, J.bare, J.base, J.hok, rv, q⟩
  | next =>
    obtain ⟨sg, H', J, q⟩ := hs
    exact ⟨V.non, H', J.os, J.bare, J.base, J.hok, (show RelV V.non Value.none from rfl), q⟩
  | brk =>
    obtain ⟨_, _, _, q⟩ := hs
    exact q.elim
  | cont =>
    obtain ⟨_, _, _, q⟩ := hs
    exact q.elim

section
variable {X : Cx} {k : Nat} {f : Addr} {fd : FuncData} {ps : List Str} {sp : Sp} {dvs : List V} {ds : List Value} {E : L2.St → XK} {x : Str} {p pos : Pos} {e : Expr} {es : List Expr} {t : TA}
theorem goG {pins : List (Addr × Obj)} {sg : L2.St} {H : Hp} {s : Shared} {Q : VK} {us : List Value} {vs : List V} (G : FnG X.prog X.w X.K X.mg X.base k f fd ps sp) (hr : Room k X.A) (hg : X.A.guards = some []) (hb : Binds X.K fd ps ds) (hd : Vals dvs ds)
    (hx : PassesAt (L2.CX X.prog X.w) X sg (E sg)) (I : Inv X pins sg H s) (r : Vals vs us) (h : sp (vs ++ dvs) H Q (E sg)) : wpAny (model X.prog X.w) X.A (call (.ref f) us) (EP X pins sg Q) X.xe s := by
  have rr : Vals (vs ++ dvs) (us ++ ds) := r.append hd
  have nl : (us ++ ds).length = ps.length := by rw [← rr.length]; exact G.arity _ _ _ _ h
  refine wpAny_call (codeAny_mono (G.go X.A X.stack s H ⟨us, []⟩ (us ++ ds) (vs ++ dvs) Q (E sg) hr hg I.env0 (hb s us I.kIn nl) rr h) fun r s' hq => ?_)
  match r, hq with
  | .error e, hq => exact hx pins H s e s' I hq
  | .ok (.ret u), hq => exact I.after hq
  | .ok .next, hq => exact hq.elim
  | .ok .brk, hq => exact hq.elim
  | .ok .cont, hq => exact hq.elim
theorem pe_callG (G : FnG X.prog X.w X.K X.mg X.base k f fd ps sp) (hr : Room k X.A) (hgd : X.A.guards = some []) (hg : Gl X x) (hm : X.mg x = some (.ref f)) (hk : PySem.W.keepIn X.K (.ref f) = true) (hb : Binds X.K fd ps ds) (hd : Vals dvs ds)
    (hx : ∀ sg, PassesAt (L2.CX X.prog X.w) X sg (E sg)) (ha : PA X (e :: es) t) (hdb : (x == ("__debug__" : Str)) = false) (he : starEach (e :: es) X.env = (false, eval e X.env) :: starEach es X.env)
    (hpl : (backTo pos (starEach es X.env)).any (·.1) = false) : PE X (.Call (.Name x p) (e :: es) [] pos) (tCallSD sp dvs E t) := by
  refine ⟨fun pins s sg H Q I h => wpAny_Call_Name_kw (ld_glob I hg hm ?_ hdb)⟩
  refine PySem.W.callWith_K (h₀ := X.base) I.ok.mod.kin hk (thn (ha.run pos pins s sg H _ I h) fun us s1 ⟨vs, H1, I1, r, q⟩ => ⟨I1.kIn, ?_⟩) he hpl
  exact goG G hr hgd hb hd (hx sg) I1 r q
theorem pe_callG0 (G : FnG X.prog X.w X.K X.mg X.base k f fd ps sp) (hr : Room k X.A) (hgd : X.A.guards = some []) (hg : Gl X x) (hm : X.mg x = some (.ref f)) (hk : PySem.W.keepIn X.K (.ref f) = true) (hb : Binds X.K fd ps ds) (hd : Vals dvs ds)
    (hx : ∀ sg, PassesAt (L2.CX X.prog X.w) X sg (E sg)) (hdb : (x == ("__debug__" : Str)) = false) : PE X (.Call (.Name x p) [] [] pos) (tCallSD sp dvs E tNil) := by
  refine ⟨fun pins s sg H Q I h => wpAny_Call_Name_kw (ld_glob I hg hm ?_ hdb)⟩
  exact PySem.W.callWith_K0 I.kIn hk (goG (us := []) G hr hgd hb hd (hx sg) I .nil h)
end

/-! ### the law's end -/
/-- the heap that is tracked at the law's entry: the script alone, if it is no object of the text -/
theorem law_start {P : Program} {w : World} {K : PySem.W.Frag} {mg mb : Str → Option Value} {a : Addr} {s1 : Shared} {vs : List Value} {ns : List Int} (KX : K.In s1.heap) (hns : s1.heap.Ns mainGlobals mg) (hb : s1.heap.Ns builtinsNs mb)
    (hbb : ∀ x : Str, x ≠ "__name__" → mb x = bootBuiltins x) (hlim : s1.heap.NoLimit) (hg : s1.gens = #[]) (ha : s1.heap.get? a = some { cls := .type "list", data := .seq vs.toArray }) (hi : IntsAre vs ns) (hl : ns.length ≤ sizeLine) :
    ∃ H base, FS K H (fun b => b = a ∧ H a ≠ none) a (ns.map V.int) ∧ (∀ b, H b = none ∨ ∃ o, H b = some (.frz o (.lst (ns.map V.int))) ∧ b = a) ∧ K.In base ∧ base.Ns mainGlobals mg ∧ Env0 P w K mg base callerA [] s1 H := by
  have rv := vals_ints hi
  have main : ∀ H : Hp, HOk P w H s1.heap → (∀ b, H b ≠ none → b = a ∧ K.lookup a = none) → K.In (hidT s1.heap H) ∧ (hidT s1.heap H).Ns mainGlobals mg ∧ Env0 P w K mg (hidT s1.heap H) callerA [] s1 H := by
    intro H hok hA
    have dicts : ∀ {b : Addr} {o : Obj} {es : Array DictEntry} {ep : Nat}, s1.heap.get? b = some o → o.data = .dict es ep → H b = none := by
      intro b o es ep e d
      cases q : H b with
      | none => rfl
      | some u =>
        obtain ⟨e1, _⟩ := hA b (by rw [q]; exact fun z => nomatch z)
        rw [e1, ha] at e
        cases e
        exact nomatch (show Data.seq vs.toArray _ = Data.dict es ep from d)
    have ns' : ∀ {b : Addr} {m : Str → Option Value}, s1.heap.Ns b m → (hidT s1.heap H).Ns b m := fun ⟨o, es, ep, e, d, r⟩ => ⟨o, es, ep, hidT_get e (dicts e d), d, r⟩
    have kin : K.In (hidT s1.heap H) := fun b o e => by
      refine hidT_get (KX b o e) ?_
      cases q : H b with
      | none => rfl
      | some u =>
        obtain ⟨e1, e2⟩ := hA b (by rw [q]; exact fun z => nomatch z)
        rw [e1, e2] at e
        cases e
    have md : Mod K mg (hidT s1.heap H) := ⟨kin, ns' hns, ⟨mb, ns' hb, hbb⟩, by
      obtain ⟨mc, h1, h2⟩ := hlim
      exact ⟨mc, ns' h1, h2⟩⟩
    exact ⟨kin, ns' hns, rfl, md, fun b o e => of_hidT e, Nat.le_of_eq (hidT_size _ _), trivial, fun b hb => (List.not_mem_nil hb).elim, hok, .of_eq hg⟩
  cases hk : K.lookup a with
  | some o =>
    have e := KX a o hk
    rw [ha] at e
    cases e
    obtain ⟨g1, g2, g3⟩ := main (fun _ => none) (fun b u z => nomatch z) (fun b z => (z rfl).elim)
    exact ⟨fun _ => none, _, .inr (.inr ⟨_, vs.toArray, _, hk, rfl, rfl, rfl, by rw [List.size_toArray, hi.length]; exact hl, by simpa using rv⟩), fun _ => .inl rfl, g1, g2, g3⟩
  | none =>
    generalize hH : (fun b => if b = a then some (HO.frz { cls := .type "list", data := .seq vs.toArray } (.lst (ns.map V.int))) else none : Hp) = H
    have at_ : H a = some (.frz { cls := .type "list", data := .seq vs.toArray } (.lst (ns.map V.int))) := by rw [← hH]; exact if_pos rfl
    have no : ∀ b, b ≠ a → H b = none := fun b hb => by rw [← hH]; exact if_neg hb
    have ok : HOk P w H s1.heap := fun b u z => by
      by_cases hb : b = a
      · rw [hb, at_] at z
        cases z
        rw [hb]
        exact ⟨ha, by rw [List.length_map]; exact hl, vs, _, rv, ha⟩
      · rw [no b hb] at z
        cases z
    obtain ⟨g1, g2, g3⟩ := main H ok (fun b z => by
      by_cases hb : b = a
      · exact ⟨hb, hk⟩
      · exact (z (no b hb)).elim)
    refine ⟨H, _, .inl ⟨⟨rfl, by rw [at_]; exact fun z => nomatch z⟩, _, at_⟩, fun b => ?_, g1, g2, g3⟩
    by_cases hb : b = a
    · exact .inr ⟨_, by rw [hb]; exact at_, hb⟩
    · exact .inl (no b hb)
end Vm

/-! Vm: the operators -/
namespace Vm
open PySem PySem.Spec L2
open PyProof.Rows hiding St
section
variable {X : Cx} {H : Hp} {F : Fz} {rh : List Addr} {c : Cl}
/-- the reading of a binary primitive -/
def r2 (K : PySem.W.Frag) (W : Cl → D → D → Q1 → Prop) : R2 := fun x y H Q => ∃ F rh c dx dy Qm, Ce K H F rh c ∧ Rep K H F rh x dx ∧ Rep K H F rh y dy ∧ W c dx dy Qm ∧ ∀ d o v H', Qm d o → Out K H F rh v H' d o → Q v H'
def rC (K : PySem.W.Frag) (W : Cl → D → D → (Bool → Prop) → Prop) : R2 := fun x y H Q => ∃ F rh c dx dy Qm, Ce K H F rh c ∧ Rep K H F rh x dx ∧ Rep K H F rh y dy ∧ W c dx dy Qm ∧ ∀ k, Qm k → Q (.bl k) H

theorem cat_str {i j : Str} {v u : V} {Q : VK} {dx dy : D} (h1 : Rep X.K H F rh v (.str i)) (h2 : Rep X.K H F rh u (.str j)) : v = .str i ∧ u = .str j := ⟨h1.str_of, h2.str_of⟩
theorem strMul_eq (x : Str) (n : Int) : (if n < 1 then Str.empty else if (n == 1 || x.length == 0) = true then x else ⟨(List.replicate n.toNat x.cps).foldl (· ++ ·) #[]⟩ : Str) = repS x n.toNat := by
  have fl : ∀ (m : Nat) (b : Array Nat), (List.replicate m x.cps).foldl (· ++ ·) b = (b.toList ++ (List.replicate m x.cps.toList).flatten).toArray := by
    intro m
    induction m with
    | zero => intro b; simp
    | succ m ih => intro b; rw [List.replicate_succ, List.foldl_cons, ih]; simp [List.replicate_succ]
  unfold repS
  split
  · rename_i h
    have e : n.toNat = 0 := by omega
    rw [e]; rfl
  · rename_i h
    split
    · rename_i h2
      simp only [Bool.or_eq_true, beq_iff_eq] at h2
      rcases h2 with h2 | h2
      · subst h2
        simp
      · have e : x.cps.toList = [] := by
          have : x.cps.size = 0 := h2
          simpa using this
        have e2 : (List.replicate n.toNat ([] : List Nat)).flatten = [] := by
          induction n.toNat with
          | zero => rfl
          | succ m ih => rw [List.replicate_succ, List.flatten_cons, ih]; rfl
        rw [e, e2]
        obtain ⟨a⟩ := x
        have : a = #[] := by simpa using e
        rw [this]
    · rw [fl]; simp
theorem bin_ok (op : Operator) : OpR X (binaryOp op) (r2 X.K (binW op)) := by
  intro pins s sg H x y v u Q I rx ry h
  obtain ⟨F, rh, c, dx, dy, Qm, C, hx, hy, w, q⟩ := h
  have catL : ∀ {xs ys : List D}, asL c dx = some xs → asL c dy = some ys → xs.length + ys.length ≤ sizeLine → Qm (.lst (xs ++ ys)) true → wpAny (model X.prog X.w) X.A (binaryOp .Add v u) (EP X pins sg Q) X.xe s := by
    intro xs ys h1 h2 hz hq
    obtain ⟨a, vs, rfl, ha, ra⟩ := asL_of C hx h1
    obtain ⟨b, ws, rfl, hb, rb⟩ := asL_of C hy h2
    refine op_cat pins s sg H _ _ v u Q I rx ry ⟨a, b, vs, ws, rfl, rfl, ha, hb, by rw [ra.len, rb.len]; exact hz, fun p hp => ?_⟩
    exact q _ _ _ _ hq (.new hp ⟨_, rfl, ra.app rb⟩)
  cases op with
  | Add =>
    simp only [binW] at w
    split at w
    · cases hx; cases hy
      exact op_add pins s sg H _ _ v u Q I rx ry ⟨_, _, rfl, rfl, q _ _ _ _ w (.old .int)⟩
    · cases hx; cases hy
      exact op_add_str pins s sg H _ _ v u Q I rx ry ⟨_, _, rfl, rfl, w.1, q _ _ _ _ w.2 (.old .str)⟩
    · rename_i xs ys
      obtain ⟨a, vs, rfl, ha, ra⟩ := hx.tup_of
      obtain ⟨b, ws, rfl, hb, rb⟩ := hy.tup_of
      refine op_catA pins s sg H _ _ v u Q I rx ry ⟨a, b, vs, ws, rfl, rfl, ha.sq, hb.sq, by rw [ra.len, rb.len]; exact w.1, fun e => ?_, fun e1 e2 => ?_, fun e1 e2 p hp => ?_⟩
      · subst e
        cases ra
        exact q _ _ _ _ w.2 (.old (.tup hb rb))
      · subst e2
        cases rb
        rw [List.append_nil] at w
        exact q _ _ _ _ w.2 (.old (.tup ha ra))
      · exact q _ _ _ _ w.2 (.tup hp (ra.app rb))
    · obtain ⟨xs, ys, h1, h2, h3, h4⟩ := w
      exact catL h1 h2 h3 h4
  | Sub =>
    simp only [binW] at w
    split at w
    · cases hx; cases hy
      exact op_sub pins s sg H _ _ v u Q I rx ry ⟨_, _, rfl, rfl, q _ _ _ _ w (.old .int)⟩
    · exact w.elim
  | Mult =>
    simp only [binW] at w
    split at w
    · cases hx; cases hy
      rcases w with ⟨w1 | w1, w2⟩
      · exact op_mul pins s sg H _ _ v u Q I rx ry ⟨_, _, rfl, rfl, w1, q _ _ _ _ w2 (.old .int)⟩
      · exact op_mulW pins s sg H _ _ v u Q I rx ry ⟨_, _, rfl, rfl, w1, q _ _ _ _ w2 (.old .int)⟩
    · rename_i a k
      cases hx; cases hy
      obtain ⟨t, rfl⟩ := (rx : ∃ t, v = Value.str a t)
      obtain ⟨t2, rfl⟩ := (ry : ∃ t, u = Value.int k t)
      have qq := q _ _ _ _ w.2.2 (.old .str)
      have em := strMul_eq a k
      have sl : (sizeLine : Nat) = 16777216 := sizeLine_eq
      have w1 := w.1
      refine PySem.P.mul_str (by have := w.2.1; simp; omega) (fun h1 h2 => ?_) (fun h1 _ => ?_) ?_
      · have hk : 0 < k := by omega
        intro h3
        have h4 : (a.length : Int) * k ≤ 16777216 := by
          have e1 : (k.toNat : Int) = k := Int.toNat_of_nonneg (by omega)
          have e2 : ((a.length * k.toNat : Nat) : Int) = (a.length : Int) * k := by rw [Int.natCast_mul, e1]
          omega
        have h5 : (2 ^ 63 - 1) / k < (a.length : Int) := h3
        have h6 : (2 ^ 63 - 1 : Int) < (a.length : Int) * k := by
          have := Int.lt_mul_of_ediv_lt hk h5
          simpa [Int.mul_comm] using this
        omega
      · unfold Builtin.Str.tooLong
        simp
        omega
      · split at em
        · rename_i h1
          rw [if_pos h1]
          refine ⟨by rw [sl]; decide, ?_⟩
          rw [em]
          exact ⟨V.str _, _, I.tok _, ⟨_, rfl⟩, qq⟩
        · rename_i h1
          rw [if_neg h1]
          split at em
          · rename_i h2
            rw [if_pos h2]
            show EP X pins sg Q _ _
            rw [em]
            exact ⟨V.str _, _, I, ⟨_, rfl⟩, qq⟩
          · rename_i h2
            rw [if_neg h2]
            refine ⟨?_, ?_⟩
            · rw [em]
              unfold repS Str.length
              simp
              have : a.cps.size = a.length := rfl
              rw [this, Nat.mul_comm]; exact w1
            · rw [em]
              exact ⟨V.str _, _, I.tok _, ⟨_, rfl⟩, qq⟩
    · rename_i k _ _
      obtain ⟨xs, h1, h2, h3, h4⟩ := w
      cases hy
      obtain ⟨a, vs, rfl, ha, ra⟩ := asL_of C hx h1
      refine op_rep pins s sg H _ _ v u Q I rx ry ⟨a, k, vs, rfl, rfl, ha, by omega, by omega, by rw [ra.len]; exact h2, fun p hp => ?_⟩
      refine q _ _ _ _ h4 (.new hp ⟨_, rfl, ?_⟩)
      induction k.toNat with
      | zero => exact .nil
      | succ m ih => rw [List.replicate_succ, List.replicate_succ, List.flatten_cons, List.flatten_cons]; exact ra.app ih
    · exact w.elim
  | FloorDiv =>
    simp only [binW] at w
    split at w
    · rename_i i j
      cases hx; cases hy
      rcases w with ⟨w1 | w1, w2⟩
      · exact op_fdivN pins s sg H _ _ v u Q I rx ry ⟨_, _, rfl, rfl, w1, q _ _ _ _ w2 (.old .int)⟩
      · refine op_fdivW pins s sg H _ _ v u Q I rx ry ⟨_, _, rfl, rfl, w1, ?_⟩
        have e : i.fdiv j = i / j := Int.fdiv_eq_ediv_of_nonneg _ (Int.le_of_lt w1.1)
        rw [e] at w2
        exact q _ _ _ _ w2 (.old .int)
    · exact w.elim
  | Mod =>
    simp only [binW] at w
    split at w
    · cases hx; cases hy
      exact op_modN pins s sg H _ _ v u Q I rx ry ⟨_, _, rfl, rfl, w.1, q _ _ _ _ w.2 (.old .int)⟩
    · exact w.elim
  | Pow =>
    simp only [binW] at w
    split at w
    · cases hx; cases hy
      exact op_pow pins s sg H _ _ v u Q I rx ry ⟨_, _, rfl, rfl, w.1, q _ _ _ _ w.2 (.old .int)⟩
    · exact w.elim
  | _ => exact w.elim
def r1 (K : PySem.W.Frag) (W : D → Q1 → Prop) : V → Hp → VK → Prop := fun x H Q => ∃ F rh dx Qm, Rep K H F rh x dx ∧ W dx Qm ∧ ∀ d v, Qm d false → Rep K H F rh v d → Q v H
theorem un_ok (op : UnaryOp) : UnR X (unaryOp op) (r1 X.K (unW op)) := by
  intro pins s sg H x v Q I rx h
  obtain ⟨F, rh, dx, Qm, hx, w, q⟩ := h
  unfold unW at w
  split at w
  · cases hx
    exact un_neg pins s sg H _ v Q I rx ⟨_, rfl, q _ _ w .int⟩
  · exact w.elim
end
end Vm

/-! Vm: comparisons, subscripts -/
namespace Vm
open PySem PySem.Spec L2
open PyProof.Rows hiding St
section
variable {K : PySem.W.Frag} {H : Hp} {F : Fz} {rh : List Addr} {c : Cl}
mutual
theorem dp_of : ∀ {v : V} {d : D} {p : PyData}, Rep K H F rh v d → pyD d = some p → Dp K H v p
  | _, _, _, .non, e => by cases e; exact .non
  | _, _, _, .bl, e => by cases e; exact .bl _
  | _, _, _, .int, e => by cases e; exact .int _
  | _, _, _, .str, e => by cases e; exact .str _
  | _, .tup ds, p, .tup h r, e => by
    have e' : (pyL ds).map PyData.tuple = some p := e
    cases q : pyL ds with
    | none => rw [q] at e'; cases e'
    | some ps =>
      rw [q] at e'
      cases e'
      exact .tup h.sq (dps_of r q)
  | _, .lst ds, p, .lst h r, e => by
    have e' : (pyL ds).map PyData.list = some p := e
    cases q : pyL ds with
    | none => rw [q] at e'; cases e'
    | some ps =>
      rw [q] at e'
      cases e'
      exact .lst h.sq (dps_of r q)
  | _, _, _, .cell _, e => nomatch e
  | _, _, _, .scr _ _, e => nomatch e
theorem dps_of : ∀ {vs : List V} {ds : List D} {ps : List PyData}, RepL K H F rh vs ds → pyL ds = some ps → DpAll K H vs ps
  | _, _, _, .nil, e => by cases e; exact .nil
  | _, d :: ds, _, .cons h r, e => by
    have e' : (match pyD d, pyL ds with | some p, some ps => some (p :: ps) | _, _ => none) = some _ := e
    cases q : pyD d with
    | none => rw [q] at e'; cases e'
    | some p =>
      cases q2 : pyL ds with
      | none => rw [q, q2] at e'; cases e'
      | some ps =>
        rw [q, q2] at e'
        cases e'
        exact .cons (dp_of h q) (dps_of r q2)
end
theorem dpC_of (C : Ce K H F rh c) {v : V} {d : D} {p : PyData} (h : Rep K H F rh v d) (e : pyC c d = some p) : Dp K H v p := by
  cases d with
  | cell n =>
    have e' : (match c[n]? with | some (.lst xs) => (pyL xs).map PyData.list | _ => none) = some p := e
    cases q : c[n]? with
    | none => rw [q] at e'; cases e'
    | some x =>
      rw [q] at e'
      cases x with
      | lst xs =>
        cases q2 : pyL xs with
        | none => simp only [q2] at e'; cases e'
        | some ps =>
          simp only [q2] at e'
          cases e'
          obtain ⟨a, vs, rfl, ha, ra⟩ := asL_of C h (xs := xs) (by show (match c[n]? with | some (.lst xs) => some xs | _ => none) = some xs; rw [q])
          exact .lst (SqL.of ha) (dps_of ra q2)
      | _ => cases e'
  | _ => exact dp_of h e
end
section
variable {X : Cx}
theorem inS_ok (hu : X.A.units + 65 < cLine) {pins : List (Addr × Obj)} {s : Shared} {sg : L2.St} {H : Hp} {x y : V} {v u : Value} {Q : VK} (I : Inv X pins sg H s) (rx : RelV x v) (ry : RelV y u) {a : Addr} {vs : List V} {p : PyData} {ps : List PyData}
    (e : y = .ref a) (hs : SqL X.K H a vs ∨ SqT X.K H a vs) (hd : Dp X.K H x p) (ha : DpAll X.K H vs ps) (sp : SeqAt.shaped p = true) (sl : SeqAt.shaped (.list ps) = true) :
    (Q (.bl (ps.any fun z => PyData.eqv z p)) H → wpAny (model X.prog X.w) X.A (compareOp .In v u) (EP X pins sg Q) X.xe s) ∧ (Q (.bl (!ps.any fun z => PyData.eqv z p)) H → wpAny (model X.prog X.w) X.A (compareOp .NotIn v u) (EP X pins sg Q) X.xe s) := by
  subst e
  obtain ⟨as, r1⟩ := Dp.reads I p x v hd rx
  have cl : PyData.canLayAll0 ps = true := SeqAt.canLay_of_shaped sl
  have cp := SeqAt.canLay_of_shaped sp
  have rm := room_in_shaped (xs := ps) sp hu
  rcases hs with hs | hs
  · obtain ⟨bs, r2⟩ := Dp.reads I (.list ps) _ u (.lst hs ha) ry
    exact ⟨fun q => SeqAt.in_list_reads r2 r1 cl cp rm ⟨V.bl _, H, I, rfl, q⟩, fun q => SeqAt.notIn_list_reads r2 r1 cl cp rm ⟨V.bl _, H, I, rfl, q⟩⟩
  · obtain ⟨bs, r2⟩ := Dp.reads I (.tuple ps) _ u (.tup hs ha) ry
    exact ⟨fun q => SeqAt.in_tuple_reads r2 r1 cl cp rm ⟨V.bl _, H, I, rfl, q⟩, fun q => SeqAt.notIn_tuple_reads r2 r1 cl cp rm ⟨V.bl _, H, I, rfl, q⟩⟩

theorem none_of {K : PySem.W.Frag} {H : Hp} {F : Fz} {rh : List Addr} {v : V} {d : D} (r : Rep K H F rh v d) : decide (v = .non) = isNon d := by
  cases r <;> rfl
theorem cmp_ok (hu : X.A.units + 65 < cLine) (op : CmpOp) : OpR X (compareOp op) (rC X.K (cmpW op)) := by
  intro pins s sg H x y v u Q I rx ry h
  obtain ⟨F, rh, c, dx, dy, Qm, C, hx, hy, w, q⟩ := h
  have hu' : X.A.units + 64 < cLine := by omega
  cases op with
  | Eq =>
    obtain ⟨p, r, h1, h2, h3, h4, h5⟩ := w
    exact op_eqD hu' pins s sg H x y v u Q I rx ry ⟨p, r, dpC_of C hx h1, dpC_of C hy h2, h3, h4, q _ h5⟩
  | NotEq =>
    obtain ⟨p, r, h1, h2, h3, h4, h5⟩ := w
    exact op_neD hu' pins s sg H x y v u Q I rx ry ⟨p, r, dpC_of C hx h1, dpC_of C hy h2, h3, h4, q _ h5⟩
  | Lt =>
    simp only [cmpW] at w
    split at w
    · cases hx; cases hy; exact op_lt pins s sg H _ _ v u Q I rx ry ⟨_, _, rfl, rfl, q _ w⟩
    · cases hx; cases hy; exact op_lt_str pins s sg H _ _ v u Q I rx ry ⟨_, _, rfl, rfl, q _ w⟩
    · exact w.elim
  | LtE =>
    simp only [cmpW] at w
    split at w
    · cases hx; cases hy; exact op_le pins s sg H _ _ v u Q I rx ry ⟨_, _, rfl, rfl, q _ w⟩
    · cases hx; cases hy; exact op_le_str pins s sg H _ _ v u Q I rx ry ⟨_, _, rfl, rfl, q _ w⟩
    · exact w.elim
  | Gt =>
    simp only [cmpW] at w
    split at w
    · cases hx; cases hy; exact op_gt pins s sg H _ _ v u Q I rx ry ⟨_, _, rfl, rfl, q _ w⟩
    · cases hx; cases hy; exact op_gt_str pins s sg H _ _ v u Q I rx ry ⟨_, _, rfl, rfl, q _ w⟩
    · exact w.elim
  | GtE =>
    simp only [cmpW] at w
    split at w
    · cases hx; cases hy; exact op_ge pins s sg H _ _ v u Q I rx ry ⟨_, _, rfl, rfl, q _ w⟩
    · cases hx; cases hy; exact op_ge_str pins s sg H _ _ v u Q I rx ry ⟨_, _, rfl, rfl, q _ w⟩
    · exact w.elim
  | Is =>
    simp only [cmpW] at w
    split at w
    · cases hy
      refine op_isN pins s sg H _ _ v u Q I rx ry ⟨rfl, ?_⟩
      rw [none_of hx]; exact q _ w
    · exact w.elim
  | IsNot =>
    simp only [cmpW] at w
    split at w
    · cases hy
      refine op_notN pins s sg H _ _ v u Q I rx ry ⟨rfl, ?_⟩
      rw [none_of hx]; exact q _ w
    · exact w.elim
  | In =>
    simp only [cmpW] at w
    split at w
    · cases hx; cases hy
      rcases w with ⟨ch, rfl, w⟩ | w
      · exact op_in_sign pins s sg H _ _ v u Q I rx ry ⟨ch, _, rfl, rfl, q _ w⟩
      · exact op_in_str pins s sg H _ _ v u Q I rx ry ⟨_, _, rfl, rfl, q _ w⟩
    · obtain ⟨p, ys, ps, h1, h2, h3, h4, h5, h6⟩ := w
      obtain ⟨a, vs, e, hs, r⟩ := asS_of C hy h2
      exact (inS_ok hu I rx ry e hs (dpC_of C hx h1) (dps_of r h3) h4 h5).1 (q _ h6)
  | NotIn =>
    simp only [cmpW] at w
    split at w
    · cases hx; cases hy
      rcases w with ⟨ch, rfl, w⟩ | w
      · exact op_notIn_sign pins s sg H _ _ v u Q I rx ry ⟨ch, _, rfl, rfl, q _ w⟩
      · exact op_notIn_str pins s sg H _ _ v u Q I rx ry ⟨_, _, rfl, rfl, q _ w⟩
    · obtain ⟨p, ys, ps, h1, h2, h3, h4, h5, h6⟩ := w
      obtain ⟨a, vs, e, hs, r⟩ := asS_of C hy h2
      exact (inS_ok hu I rx ry e hs (dpC_of C hx h1) (dps_of r h3) h4 h5).2 (q _ h6)

theorem atI_rep {K : PySem.W.Frag} {H : Hp} {F : Fz} {rh : List Addr} {vs : List V} {ds : List D} {i : Int} {d : D} (r : RepL K H F rh vs ds) (h : atI ds i = some d) : ∃ v, atI vs i = some v ∧ Rep K H F rh v d := by
  unfold atI at h ⊢
  rw [r.len]
  cases q : ixN ds.length i with
  | none => rw [q] at h; cases h
  | some j =>
    rw [q] at h
    exact r.at h
theorem idx_ok : IxR X (r2 X.K idxW) := by
  intro value slice pins s sg H x y v u Q I rx ry h hs
  obtain ⟨F, rh, c, dx, dy, Qm, C, hx, hy, w, q⟩ := h
  unfold idxW at w
  split at w
  · cases hx; cases hy
    obtain ⟨w1, ch, w2, w3⟩ := w
    exact ix_str value slice pins s sg H _ _ v u Q I rx ry ⟨_, _, ch, rfl, rfl, w1, w2, q _ _ _ _ w3 (.old .str)⟩ hs
  · obtain ⟨xs, z, h1, h2, h3⟩ := w
    cases hy
    obtain ⟨a, vs, rfl, hsq, r⟩ := asS_of C hx h1
    obtain ⟨vz, g1, g2⟩ := atI_rep r h2
    rcases hsq with hsq | hsq
    · exact ix_list value slice pins s sg H _ _ v u Q I rx ry ⟨a, vs, _, vz, rfl, rfl, hsq, g1, q _ _ _ _ h3 (.old g2)⟩ hs
    · exact ix_tup value slice pins s sg H _ _ v u Q I rx ry ⟨a, vs, _, vz, rfl, rfl, hsq, g1, q _ _ _ _ h3 (.old g2)⟩ hs
  · exact w.elim
def rS (K : PySem.W.Frag) : V → Option Int → Option Int → Hp → VK → Prop := fun x lo hi H Q => ∃ F rh c dx Qm, Ce K H F rh c ∧ Rep K H F rh x dx ∧ slcW c dx lo hi Qm ∧ ∀ d o v H', Qm d o → Out K H F rh v H' d o → Q v H'
theorem cut_rep {K : PySem.W.Frag} {H : Hp} {F : Fz} {rh : List Addr} {vs : List V} {ds : List D} {lo hi : Option Int} (r : RepL K H F rh vs ds) : RepL K H F rh (cutV vs lo hi) (cutD ds lo hi) := by
  unfold cutV cutD
  rw [r.len]
  exact (r.drop _).take _
theorem slc_ok : SlR X (rS X.K) := by
  intro pins s sg H x v vl vu lo hi sl Q I rx hs pl pu h
  obtain ⟨F, rh, c, dx, Qm, C, hx, w, q⟩ := h
  have lists : ∀ {a : Addr} {vs : List V} {xs : List D}, x = .ref a → SqL X.K H a vs → RepL X.K H F rh vs xs → Qm (.lst (cutD xs lo hi)) true → ∃ T id, typeLookup (.type T) "__getitem__" = pure (some (.builtin id)) ∧ s.TypeIs v T ∧ wpAny (model X.prog X.w) X.A (getItem v (.ref sl)) (EP X pins sg Q) X.xe s := by
    intro a vs xs e hl r hq
    subst e
    exact sl_list pins s sg H _ v vl vu lo hi sl Q I rx hs pl pu ⟨a, vs, rfl, hl, fun p hp => q _ _ _ _ hq (.new hp ⟨_, rfl, cut_rep r⟩)⟩
  cases dx with
  | str z =>
    cases hx
    exact sl_str pins s sg H _ v vl vu lo hi sl Q I rx hs pl pu ⟨z, rfl, w.1, q _ _ _ _ w.2 (.old .str)⟩
  | tup xs =>
    obtain ⟨a, vs, rfl, ha, r⟩ := hx.tup_of
    refine sl_tupA pins s sg H _ v vl vu lo hi sl Q I rx hs pl pu ⟨a, vs, rfl, ha.sq, fun e => ?_, fun _ p hp => q _ _ _ _ w (.tup hp (cut_rep r))⟩
    have e' : cutD xs lo hi = xs := by
      unfold cutD
      rw [r.len] at e
      rw [e.1, e.2, List.drop_zero, Nat.sub_zero, List.take_length]
    have w' : Qm (.tup (cutD xs lo hi)) false := w
    rw [e'] at w'
    exact q _ _ _ _ w' (.old (.tup ha r))
  | scr xs =>
    obtain ⟨ys, w1, w2⟩ := w
    cases hx with
    | scr hf r =>
      rcases w1 with w1 | w1
      · cases w1
      · cases w1
        exact lists rfl hf.sq r w2
  | _ =>
    obtain ⟨ys, w1, w2⟩ := w
    rcases w1 with w1 | w1
    · obtain ⟨a, vs, e, ha, r⟩ := asL_of C hx w1
      exact lists e (SqL.of ha) r w2
    · cases w1
end
end Vm

/-! Vm: built-in functions, methods -/
namespace Vm
open PySem PySem.Spec L2
open PyProof.Rows hiding St
section
variable {X : Cx}
def rP (K : PySem.W.Frag) (W : Cl → List D → Q1 → Prop) : List V → Hp → VK → Prop := fun vs H Q => ∃ F rh c ds Qm, Ce K H F rh c ∧ RepL K H F rh vs ds ∧ W c ds Qm ∧ ∀ d o v H', Qm d o → Out K H F rh v H' d o → Q v H'

theorem noDict_of : ∀ {d : D} {p : PyData}, pyD d = some p → p.hasDict = false := by
  have h : (∀ d : D, ∀ p, pyD d = some p → p.hasDict = false) ∧ (∀ ds : List D, ∀ ps, pyL ds = some ps → PyData.hasDictAll ps = false) := by
    refine ⟨fun d => ?_, fun ds => ?_⟩
    · exact D.rec (motive_1 := fun d => ∀ p, pyD d = some p → p.hasDict = false) (motive_2 := fun ds => ∀ ps, pyL ds = some ps → PyData.hasDictAll ps = false)
        (fun p e => by cases e; rfl) (fun b p e => by cases e; rfl) (fun i p e => by cases e; rfl) (fun x p e => by cases e; rfl)
        (fun xs ih p e => by
          have e' : (pyL xs).map PyData.tuple = some p := e
          cases q : pyL xs with
          | none => rw [q] at e'; cases e'
          | some ps => rw [q] at e'; cases e'; exact ih ps q)
        (fun xs ih p e => by
          have e' : (pyL xs).map PyData.list = some p := e
          cases q : pyL xs with
          | none => rw [q] at e'; cases e'
          | some ps => rw [q] at e'; cases e'; exact ih ps q)
        (fun n p e => nomatch e) (fun xs _ p e => nomatch e)
        (fun ps e => by cases e; rfl)
        (fun x xs ih1 ih2 ps e => by
          have e' : (match pyD x, pyL xs with | some p, some ps => some (p :: ps) | _, _ => none) = some ps := e
          cases q : pyD x with
          | none => rw [q] at e'; cases e'
          | some p =>
            cases q2 : pyL xs with
            | none => rw [q, q2] at e'; cases e'
            | some qs =>
              rw [q, q2] at e'; cases e'
              show (p.hasDict || PyData.hasDictAll qs) = false
              rw [ih1 p q, ih2 qs q2]; rfl) d
    · exact D.rec_1 (motive_1 := fun d => ∀ p, pyD d = some p → p.hasDict = false) (motive_2 := fun ds => ∀ ps, pyL ds = some ps → PyData.hasDictAll ps = false)
        (fun p e => by cases e; rfl) (fun b p e => by cases e; rfl) (fun i p e => by cases e; rfl) (fun x p e => by cases e; rfl)
        (fun xs ih p e => by
          have e' : (pyL xs).map PyData.tuple = some p := e
          cases q : pyL xs with
          | none => rw [q] at e'; cases e'
          | some ps => rw [q] at e'; cases e'; exact ih ps q)
        (fun xs ih p e => by
          have e' : (pyL xs).map PyData.list = some p := e
          cases q : pyL xs with
          | none => rw [q] at e'; cases e'
          | some ps => rw [q] at e'; cases e'; exact ih ps q)
        (fun n p e => nomatch e) (fun xs _ p e => nomatch e)
        (fun ps e => by cases e; rfl)
        (fun x xs ih1 ih2 ps e => by
          have e' : (match pyD x, pyL xs with | some p, some ps => some (p :: ps) | _, _ => none) = some ps := e
          cases q : pyD x with
          | none => rw [q] at e'; cases e'
          | some p =>
            cases q2 : pyL xs with
            | none => rw [q, q2] at e'; cases e'
            | some qs =>
              rw [q, q2] at e'; cases e'
              show (p.hasDict || PyData.hasDictAll qs) = false
              rw [ih1 p q, ih2 qs q2]; rfl) ds
  exact fun {d p} e => h.1 d p e
theorem noDictL_of : ∀ {ds : List D} {ps : List PyData}, pyL ds = some ps → PyData.hasDictAll ps = false := fun {ds ps} e => by
  have h := @noDict_of (.lst ds) (.list ps) (by show (pyL ds).map PyData.list = _; rw [e]; rfl)
  exact h
theorem noDictC_of {c : Cl} {d : D} {p : PyData} (e : pyC c d = some p) : p.hasDict = false := by
  cases d with
  | cell n =>
    have e' : (match c[n]? with | some (.lst xs) => (pyL xs).map PyData.list | _ => none) = some p := e
    cases q : c[n]? with
    | none => rw [q] at e'; cases e'
    | some x =>
      rw [q] at e'
      cases x with
      | lst xs =>
        cases q2 : pyL xs with
        | none => simp only [q2] at e'; cases e'
        | some ps =>
          simp only [q2] at e'
          cases e'
          exact noDictL_of q2
      | _ => cases e'
  | _ => exact noDict_of e
theorem repr_ok {k : Nat} (hr : Room k X.A) (hg : X.A.guards = some []) : CallR X (.builtin "repr") (rP X.K (primW .repr)) := by
  intro pins s sg H xs us Q I r h
  obtain ⟨F, rh, c, ds, Qm, C, R, w, q⟩ := h
  match ds, R, w with
  | [d], .cons (v := v) hv .nil, w =>
    obtain ⟨p, h1, h2, h3, h4, h5⟩ := w
    obtain ⟨u, rfl, ru⟩ := vals1 r
    have dp := dpC_of C hv h1
    have fin : Q (.str p.shown) H := q _ _ _ _ h5 (.old .str)
    have un := hr.units
    obtain ⟨as, rd⟩ := Dp.reads I p v u dp ru
    cases v with
    | ref a =>
      cases (show u = Value.ref a from ru)
      refine repr_of_reads' rd h2 (fun z => ?_) hg (by omega) (fun _ _ e => e) (fun h' tk tk' kk => ?_) h4
      · rw [noDictC_of h1] at z; cases z
      · exact ⟨V.str _, H, I.kept (t' := tk') kk, ⟨_, rfl⟩, fin⟩
    | non =>
      cases dp
      cases (show u = Value.none from ru)
      exact PySem.P.repr_of_none ⟨V.str _, H, I.tok _, ⟨_, rfl⟩, fin⟩
    | bl b =>
      cases dp
      cases (show u = Value.bool b from ru)
      exact PySem.P.repr_of_bool ⟨V.str _, H, I.tok _, ⟨_, rfl⟩, fin⟩
    | int i =>
      cases dp
      obtain ⟨t, rfl⟩ := (show ∃ t, u = Value.int i t from ru)
      exact PySem.P.repr_of_int (of_decide_eq_true h2) ⟨V.str _, H, I.tok _, ⟨_, rfl⟩, fin⟩
    | str z =>
      cases dp
      obtain ⟨t, rfl⟩ := (show ∃ t, u = Value.str z t from ru)
      exact PySem.P.repr_of_str ⟨V.str _, H, I.tok _, ⟨_, rfl⟩, fin⟩ h4
    | byt _ => cases dp
    | flt _ => cases dp
    | ty _ => cases dp
theorem prim_ok {k : Nat} (hc : X.calm = true) (hr : Room k X.A) (hg : X.A.guards = some []) (p : Prim) : CallR X p.val (rP X.K (primW p)) := by
  cases p with
  | repr => exact repr_ok hr hg
  | len =>
    intro pins s sg H xs us Q I r h
    obtain ⟨F, rh, c, ds, Qm, C, R, w, q⟩ := h
    match ds, R, w with
    | [d], .cons (v := v) hv .nil, w =>
      obtain ⟨n, h1, h2⟩ := w
      refine call_len pins s sg H _ us Q I r ⟨v, n, rfl, ?_, q _ _ _ _ h2 (.old .int)⟩
      have other : lenD c d = (asS c d).map List.length → LenV X.K v H n := fun e => by
        rw [e] at h1
        cases q2 : asS c d with
        | none => rw [q2] at h1; cases h1
        | some ys =>
          rw [q2] at h1
          cases h1
          obtain ⟨a, vs, rfl, hs, r'⟩ := asS_of C hv q2
          rcases hs with hs | hs
          · exact .inl ⟨vs, hs, r'.len.symm⟩
          · exact .inr ⟨vs, hs, r'.len.symm⟩
      cases d with
      | str z =>
        cases hv
        have h1' : (if z.length ≤ sizeLine then some z.length else none) = some n := h1
        split at h1'
        · rename_i hz
          cases h1'
          exact ⟨hz, rfl⟩
        · cases h1'
      | _ => exact other rfl
  | abs =>
    intro pins s sg H xs us Q I r h
    obtain ⟨F, rh, c, ds, Qm, C, R, w, q⟩ := h
    match ds, R, w with
    | [.int i], .cons hv .nil, w => cases hv; exact call_abs pins s sg H _ us Q I r ⟨_, rfl, q _ _ _ _ w (.old .int)⟩
  | int =>
    intro pins s sg H xs us Q I r h
    obtain ⟨F, rh, c, ds, Qm, C, R, w, q⟩ := h
    match ds, R, w with
    | [.int i], .cons hv .nil, w => cases hv; exact call_int1 pins s sg H _ us Q I r (.inl ⟨_, rfl, q _ _ _ _ w (.old .int)⟩)
    | [.bl b], .cons hv .nil, w => cases hv; exact call_int1 pins s sg H _ us Q I r (.inr ⟨_, rfl, q _ _ _ _ w (.old .int)⟩)
  | bool =>
    intro pins s sg H xs us Q I r h
    obtain ⟨F, rh, c, ds, Qm, C, R, w, q⟩ := h
    match ds, R, w with
    | [.int i], .cons hv .nil, w => cases hv; exact call_bool1 pins s sg H _ us Q I r (.inl ⟨_, rfl, q _ _ _ _ w (.old .bl)⟩)
    | [.bl b], .cons hv .nil, w => cases hv; exact call_bool1 pins s sg H _ us Q I r (.inr ⟨_, rfl, q _ _ _ _ w (.old .bl)⟩)
  | str =>
    intro pins s sg H xs us Q I r h
    obtain ⟨F, rh, c, ds, Qm, C, R, w, q⟩ := h
    match ds, R, w with
    | [.int i], .cons hv .nil, w => cases hv; exact call_str_int pins s sg H _ us Q I r ⟨_, rfl, w.1, q _ _ _ _ w.2 (.old .str)⟩
  | min =>
    intro pins s sg H xs us Q I r h
    obtain ⟨F, rh, c, ds, Qm, C, R, w, q⟩ := h
    match ds, R, w with
    | [.int i, .int j], .cons hv (.cons hv2 .nil), w => cases hv; cases hv2; exact call_min2 hc pins s sg H _ us Q I r ⟨_, _, rfl, q _ _ _ _ w (.old .int)⟩
  | max =>
    intro pins s sg H xs us Q I r h
    obtain ⟨F, rh, c, ds, Qm, C, R, w, q⟩ := h
    match ds, R, w with
    | [.int i, .int j], .cons hv (.cons hv2 .nil), w => cases hv; cases hv2; exact call_max2 hc pins s sg H _ us Q I r ⟨_, _, rfl, q _ _ _ _ w (.old .int)⟩
  | all =>
    intro pins s sg H xs us Q I r h
    obtain ⟨F, rh, c, ds, Qm, C, R, w, q⟩ := h
    match ds, R, w with
    | [d], .cons hv .nil, w =>
      obtain ⟨xs, bs, h1, rfl, h3⟩ := w
      obtain ⟨a, vs, rfl, ha, r'⟩ := asL_of C hv h1
      rw [r'.bls] at ha
      exact cr_all hc pins s sg H _ us Q I r ⟨a, bs, rfl, SqL.of ha, q _ _ _ _ h3 (.old .bl)⟩
  | any =>
    intro pins s sg H xs us Q I r h
    obtain ⟨F, rh, c, ds, Qm, C, R, w, q⟩ := h
    match ds, R, w with
    | [d], .cons hv .nil, w =>
      obtain ⟨xs, bs, h1, rfl, h3⟩ := w
      obtain ⟨a, vs, rfl, ha, r'⟩ := asL_of C hv h1
      rw [r'.bls] at ha
      exact cr_any hc pins s sg H _ us Q I r ⟨a, bs, rfl, SqL.of ha, q _ _ _ _ h3 (.old .bl)⟩
  | sum =>
    intro pins s sg H xs us Q I r h
    obtain ⟨F, rh, c, ds, Qm, C, R, w, q⟩ := h
    match ds, R, w with
    | [d], .cons hv .nil, w =>
      obtain ⟨xs, ns, h1, rfl, h3⟩ := w
      obtain ⟨a, vs, rfl, ha, r'⟩ := asL_of C hv h1
      rw [r'.ints] at ha
      exact cr_sum hc pins s sg H _ us Q I r ⟨a, ns, rfl, SqL.of ha, q _ _ _ _ h3 (.old .int)⟩
end
end Vm

/-! Vm: the language is sound: judgements over what the weakest preconditions say -/
namespace Vm
open PySem PySem.Spec L2
open PyProof.Rows hiding St
structure Sta where
  ct : Nat → Value
  an : Nat → Str
structure Nm where
  fn : Nat → Str
  gl : Nat → Str
  ps : Nat → List Str := fun _ => []
/-- the keywords' names -/
def kwN (ps : List Str) (n : Nat) (ks : List Nat) : List Str := ks.map fun j => (ps[n + j]?).getD ""
structure Sx where
  S : Sta
  H0 : Hp
  C : Ctx
  W : WX
def ExR (S : Sta) (K : PySem.W.Frag) (H : Hp) (F : Fz) (rh : List Addr) (cls : Value) (da : Option Addr) (ex : Ex) : Prop :=
  cls = S.ct ex.cls ∧ (ex.fs = [] ∨ ∃ a fs, da = some a ∧ F a ∧ H a = some (.xd fs) ∧ ∀ n d, ex.fs.lookup n = some d → ∃ v, fs.lookup (S.an n) = some v ∧ Rep K H F rh v d)
theorem ExR.ext {S : Sta} {K : PySem.W.Frag} {H H' : Hp} {F F' : Fz} {rh rh' : List Addr} {cls : Value} {da : Option Addr} {ex : Ex} (e : Ext H F rh H' F' rh') (h : ExR S K H F rh cls da ex) : ExR S K H' F' rh' cls da ex := by
  refine ⟨h.1, h.2.imp id fun ⟨a, fs, h1, h2, h3, h4⟩ => ⟨a, fs, h1, e.frz a h2, e.stab a _ h2 h3, fun n d q => ?_⟩⟩
  obtain ⟨v, g1, g2⟩ := h4 n d q
  exact ⟨v, g1, g2.ext e⟩

/-- a def's promise -/
def spF (S : Sta) (K : PySem.W.Frag) (T : List D → Cl → (D → Bool → Cl → Prop) → (Ex → Cl → Prop) → Prop) : Sp := fun vs H Q E => ∃ ds c F rh Qm Em, RepL K H F rh vs ds ∧ Ce K H F rh c ∧ T ds c Qm Em ∧
  (∀ d o c' v H' F' rh', Qm d o c' → Ce K H' F' rh' c' → Ev H F rh O0 H' F' rh' O0 → Res K H H' F' rh' O0 v d o → Q v H') ∧
  (∀ ex c' cls da H' F' rh', Em ex c' → Ce K H' F' rh' c' → Ev H F rh O0 H' F' rh' O0 → ExR S K H' F' rh' cls da ex → E cls da H')

section
variable {K : PySem.W.Frag} {H0 H H1 H' : Hp} {F F1 F' : Fz} {rh rh1 rh' : List Addr} {sh : L2.St} {s s1 : List Sl} {c c1 c' : Cl} {v : V} {d : D} {o : Bool}
/-- behind a call: what this frame's slots own stands -/
theorem Rl.after (R : Rl K H0 H F rh sh s c) (C : Ce K H' F' rh' c') (E : Ev H F rh O0 H' F' rh' O0) : Rl K H0 H' F' rh' sh s c' ∧ Ev H F rh (Owned sh s) H' F' rh' (Owned sh s) := by
  have ow : ∀ a o, H a = some o → ¬ F a → a ∉ rh → H' a = some o ∧ ¬ F' a ∧ a ∉ rh' := fun a o h1 h2 h3 => by
    obtain ⟨g1, g2, g3, _⟩ := E.priv a o h1 h2 h3 (fun z => z)
    exact ⟨g1, g2, g3⟩
  refine ⟨⟨C, fun i x h => ?_, fun i x h => ?_, R.uq, R.ln, R.fr, fun a z => R.mn a (E.fresh z)⟩, E.toExt, E.mono, fun a o h1 h2 h3 h4 => ?_⟩
  · obtain ⟨w, g1, g2⟩ := R.shr i x h
    exact ⟨w, g1, g2.ext E.toExt⟩
  · obtain ⟨a, o, g1, g2, g3, g4, g5⟩ := R.own i x h
    obtain ⟨k1, k2, k3⟩ := ow a o g2 g4 g5
    exact ⟨a, o, g1, k1, g3.ext E.toExt, k2, k3⟩
  · obtain ⟨k1, k2, k3⟩ := ow a o h1 h2 h3
    exact ⟨k1, k2, k3, h4⟩
theorem Res.ofCall (R : Rl K H0 H F rh sh s c) (r : Res K H H' F' rh' O0 v d o) : Res K H H' F' rh' (Owned sh s) v d o := by
  cases o with
  | false => exact r
  | true =>
    obtain ⟨a, ob, h1, h2, h3, h4, h5, h6, _⟩ := r
    refine ⟨a, ob, h1, h2, h3, h4, h5, h6, fun ⟨i, x, g1, g2⟩ => ?_⟩
    obtain ⟨b, o', k1, k2, _⟩ := R.own i x g1
    rw [g2] at k1; cases k1
    rw [h2] at k2; cases k2
theorem owned_set {i : Nat} {x : Sl} (hx : ∀ d, x ≠ .ow d) {a : Addr} (h : Owned sh (s.set i x) a) : Owned sh s a := by
  obtain ⟨j, d, h1, h2⟩ := h
  by_cases e : i = j
  · subst e
    by_cases hl : i < s.length
    · rw [List.getElem?_set_self hl] at h1
      exact absurd (Option.some.inj h1) (hx d)
    · rw [List.getElem?_eq_none (by simpa using hl)] at h1; cases h1
  · rw [List.getElem?_set_ne e] at h1
    exact ⟨j, d, h1, h2⟩
/-- what a slot owns is shared -/
theorem Rl.shareSlot (R : Rl K H0 H F rh sh s c) {i : Nat} (hi : s[i]? = some (.ow d)) :
    ∃ a F2, sh[i]? = some (some (.ref a)) ∧ Rl K H0 H F2 rh sh (s.set i (.sh d)) c ∧ Ev H F rh (Owned sh s) H F2 rh (Owned sh (s.set i (.sh d))) ∧ Rep K H F2 rh (.ref a) d := by
  obtain ⟨a, o, h1, h2, h3, h4, h5⟩ := R.own i d hi
  have hil : i < s.length := (List.getElem?_eq_some_iff.mp hi).1
  have e : Ext H F rh H (addF F a) rh := ext_addF
  have rep : Rep K H (addF F a) rh (.ref a) d := (h3.ext e).rep h2 (.inr rfl)
  have sub : ∀ {b : Addr}, Owned sh (s.set i (.sh d)) b → Owned sh s b := fun h => owned_set (fun _ z => by cases z) h
  have noA : ¬ Owned sh (s.set i (.sh d)) a := fun ⟨j, x, g1, g2⟩ => by
    by_cases q : i = j
    · subst q; rw [List.getElem?_set_self hil] at g1; cases g1
    · rw [List.getElem?_set_ne q] at g1
      exact q (R.uq i j _ _ a hi g1 h1 g2)
  refine ⟨a, addF F a, h1, ⟨⟨R.len, R.nd, fun n b x g1 g2 => ?_, fun b hb z => ?_, fun b z => ?_⟩, fun j x g => ?_, fun j x g => ?_, fun j k x y b g1 g2 g3 g4 => ?_, by rw [List.length_set]; exact R.ln, fun j x b g1 g2 => ?_, R.mn⟩, ⟨e, fun _ h => h, fun b ob g1 g2 g3 g4 => ⟨g1, fun z => ?_, g3, fun z => g4 (sub z)⟩⟩, rep⟩
  · obtain ⟨o', k1, k2⟩ := R.ob n b x g1 g2
    exact ⟨o', k1, k2.ext e⟩
  · rcases z with z | z
    · exact R.nf b hb z
    · subst z; exact h5 hb
  · rcases z with z | z
    · exact R.ft b z
    · subst z; rw [h2]; exact fun q => nomatch q
  · by_cases q : i = j
    · subst q
      rw [List.getElem?_set_self hil] at g
      cases g
      exact ⟨_, h1, rep⟩
    · rw [List.getElem?_set_ne q] at g
      obtain ⟨w, k1, k2⟩ := R.shr j x g
      exact ⟨w, k1, k2.ext e⟩
  · have g' : s[j]? = some (.ow x) := by
      by_cases q : i = j
      · subst q; rw [List.getElem?_set_self hil] at g; cases g
      · rw [List.getElem?_set_ne q] at g; exact g
    obtain ⟨b, o', k1, k2, k3, k4, k5⟩ := R.own j x g'
    refine ⟨b, o', k1, k2, k3.ext e, fun z => ?_, k5⟩
    rcases z with z | z
    · exact k4 z
    · subst z; exact noA ⟨j, x, g, k1⟩
  · have lift : ∀ {j : Nat} {x : D}, (s.set i (.sh d))[j]? = some (.ow x) → s[j]? = some (.ow x) := fun {j x} g => by
      by_cases q : i = j
      · subst q; rw [List.getElem?_set_self hil] at g; cases g
      · rw [List.getElem?_set_ne q] at g; exact g
    exact R.uq j k x y b (lift g1) (lift g2) g3 g4
  · have g' : s[j]? = some (.ow x) := by
      by_cases q : i = j
      · subst q; rw [List.getElem?_set_self hil] at g1; cases g1
      · rw [List.getElem?_set_ne q] at g1; exact g1
    exact R.fr j x b g' g2
  · rcases z with z | z
    · exact g2 z
    · subst z; exact g4 ⟨i, d, hi, h1⟩
end

/-! ### judgements over the language -/
def OkX (Z : Sx) (K : PySem.W.Frag) (sh : L2.St) (H : Hp) (F : Fz) (rh : List Addr) (s : List Sl) (Em : EK) : Prop :=
  ∀ ex s' c' cls da H' F' rh', Em ex s' c' → Rl K Z.H0 H' F' rh' sh s' c' → Ev H F rh (Owned sh s) H' F' rh' (Owned sh s') → ExR Z.S K H' F' rh' cls da ex → Z.W cls da sh H'
def tW (Z : Sx) (K : PySem.W.Frag) (t : Bool) (e : IE) : TE := fun sh H Q => ∃ s c F rh Qm Em, Rl K Z.H0 H F rh sh s c ∧ wpE Z.C t e s c Qm Em ∧ OkQ K Z.H0 sh H F rh s Qm Q ∧ OkX Z K sh H F rh s Em
def tWT (Z : Sx) (K : PySem.W.Frag) (e : IE) : TT := fun sh H Q => tW Z K true e sh H fun v H' => ∃ k, v = .bl k ∧ Q k H'
def OkL (K : PySem.W.Frag) (H0 : Hp) (sh : L2.St) (H : Hp) (F : Fz) (rh : List Addr) (s : List Sl) (Qm : List D → List Sl → Cl → Prop) (Q : List V → Hp → Prop) : Prop :=
  ∀ ds s' c' vs H' F' rh', Qm ds s' c' → Rl K H0 H' F' rh' sh s' c' → Ev H F rh (Owned sh s) H' F' rh' (Owned sh s') → RepL K H' F' rh' vs ds → Q vs H'
def tWL (Z : Sx) (K : PySem.W.Frag) (l : IL) : TA := fun sh H Q => ∃ s c F rh Qm Em, Rl K Z.H0 H F rh sh s c ∧ wpL Z.C l s c Qm Em ∧ OkL K Z.H0 sh H F rh s Qm Q ∧ OkX Z K sh H F rh s Em

def tyNames : List String := ["str", "int", "bool", "tuple", "list", "dict", "object"]
structure FnAt (X : Cx) (M : Nm) (Z : Sx) (f : Nat) : Prop where
  ex : ∃ a fd k, X.mg (M.fn f) = some (.ref a) ∧ PySem.W.keepIn X.K (.ref a) = true ∧ Binds X.K fd (M.ps f) [] ∧ FnG X.prog X.w X.K X.mg X.base k a fd (M.ps f) (spF Z.S X.K (Z.C.fn f)) ∧ Room k X.A ∧
    ∀ n ks, Z.C.hasK f n ks = true → KBn X.K fd (M.ps f) n (kwN (M.ps f) n ks) (fun us ws => us ++ arr ks ws) (fun vs zs => vs ++ arr ks zs)
structure GOk (X : Cx) (M : Nm) (Z : Sx) : Prop where
  calm : X.calm = true
  gd : X.A.guards = some []
  rm : ∃ k, Room k X.A
  nd : X.N.Nodup
  tk : Takes X Z.W
  fn : ∀ f, Z.C.hasF f = true → FnAt X M Z f
  gl : ∀ i, Z.C.hasG i = true → ∃ u v, X.mg (M.gl i) = some u ∧ L2.RelV v u ∧ ∀ H F rh, Rep X.K H F rh v (Z.C.gl i)
  prim : ∀ p, Z.C.hasP p = true → X.mg p.name = none
  rng : X.mg "range" = none
  enm : X.mg "enumerate" = none
  zp : X.mg "zip" = none
  isi : X.mg "isinstance" = none
  ty : ∀ T ∈ tyNames, X.mg (Str.ofString T) = none
theorem GOk.hu {X : Cx} {M : Nm} {Z : Sx} (G : GOk X M Z) : X.A.units + 65 < cLine := by
  obtain ⟨k, r⟩ := G.rm
  have := r.un
  omega

section
variable {X : Cx} {M : Nm} {Z : Sx} {H H1 : Hp} {F F1 : Fz} {rh rh1 : List Addr} {sh : L2.St} {s s1 : List Sl} {c c1 : Cl} {a b e : Expr} {ia ib ie : IE} {t : Bool} {pos : Pos}
theorem OkX.step {K : PySem.W.Frag} {Em : EK} (ok : OkX Z K sh H F rh s Em) (e : Ev H F rh (Owned sh s) H1 F1 rh1 (Owned sh s1)) : OkX Z K sh H1 F1 rh1 s1 Em :=
  fun ex s' c' cls da H' F' rh' q rl e' r => ok ex s' c' cls da H' F' rh' q rl (e.trans e') r
theorem OkL.step {K : PySem.W.Frag} {H0 : Hp} {Qm : List D → List Sl → Cl → Prop} {Q : List V → Hp → Prop} (ok : OkL K H0 sh H F rh s Qm Q) (e : Ev H F rh (Owned sh s) H1 F1 rh1 (Owned sh s1)) : OkL K H0 sh H1 F1 rh1 s1 Qm Q :=
  fun ds s' c' vs H' F' rh' q rl e' r => ok ds s' c' vs H' F' rh' q rl (e.trans e') r
theorem PE.imp {e : Expr} {t t' : TE} (h : PE X e t) (i : ∀ sg H Q, t' sg H Q → t sg H Q) : PE X e t' := ⟨fun p s sg H Q I w => h.run p s sg H Q I (i sg H Q w)⟩
theorem PT.imp {e : Expr} {t t' : TT} (h : PT X e t) (i : ∀ sg H Q, t' sg H Q → t sg H Q) : PT X e t' := ⟨fun p s sg H Q I w => h.run p s sg H Q I (i sg H Q w)⟩
theorem PA.imp {es : List Expr} {t t' : TA} (h : PA X es t) (i : ∀ sg H Q, t' sg H Q → t sg H Q) : PA X es t' := ⟨fun q p s sg H Q I w => h.run q p s sg H Q I (i sg H Q w)⟩
/-- evaluate a part, go on with a shared value -/
theorem tW.mk {K : PySem.W.Frag} {Qm : QK} {Em : EK} {Q : VK} (R : Rl K Z.H0 H F rh sh s c) (w : wpE Z.C t ie s c Qm Em) (x : OkX Z K sh H F rh s Em)
    (k : ∀ d o s' c' v H' F' rh', Qm d o s' c' → Rl K Z.H0 H' F' rh' sh s' c' → Ev H F rh (Owned sh s) H' F' rh' (Owned sh s') → OkX Z K sh H' F' rh' s' Em → Rep K H' F' rh' v d → Q v H') : tW Z K t ie sh H Q :=
  ⟨s, c, F, rh, Qm, Em, R, w, OkQ.mk fun d o s' c' v H' F' rh' q rl e r => k d o s' c' v H' F' rh' q rl e (x.step e) r, x⟩
theorem tWL.mk {K : PySem.W.Frag} {l : IL} {Qm : List D → List Sl → Cl → Prop} {Em : EK} {Q : List V → Hp → Prop} (R : Rl K Z.H0 H F rh sh s c) (w : wpL Z.C l s c Qm Em) (x : OkX Z K sh H F rh s Em)
    (k : ∀ ds s' c' vs H' F' rh', Qm ds s' c' → Rl K Z.H0 H' F' rh' sh s' c' → Ev H F rh (Owned sh s) H' F' rh' (Owned sh s') → OkX Z K sh H' F' rh' s' Em → RepL K H' F' rh' vs ds → Q vs H') : tWL Z K l sh H Q :=
  ⟨s, c, F, rh, Qm, Em, R, w, fun ds s' c' vs H' F' rh' q rl e r => k ds s' c' vs H' F' rh' q rl e (x.step e) r, x⟩

/-! a test of a plain expression -/
theorem tru_rep {K : PySem.W.Frag} (C : Ce K H F rh c) {v : V} {d : D} {k : Bool} (r : Rep K H F rh v d) (h : Tru c d = some k) : TruV K v H k := by
  cases r with
  | non => cases h; rfl
  | bl => cases h; rfl
  | int => cases h; rfl
  | @str z =>
    have h' : (if z.length ≤ sizeLine then some ((z.length : Int) != 0) else none) = some k := h
    split at h'
    · rename_i hz
      cases h'
      exact ⟨hz, rfl⟩
    · cases h'
  | tup hf r =>
    cases h
    refine .inr (.inl ⟨_, hf.sq, ?_⟩)
    cases r <;> rfl
  | lst hf r =>
    cases h
    refine .inl ⟨_, hf.sq, ?_⟩
    cases r <;> rfl
  | scr hf r =>
    cases h
    refine .inl ⟨_, hf.sq, ?_⟩
    cases r <;> rfl
  | @cell n a e =>
    have h' : (match c[n]? with | some (.lst xs) => some (!xs.isEmpty) | _ => none) = some k := h
    cases q : c[n]? with
    | none => rw [q] at h'; cases h'
    | some x =>
      rw [q] at h'
      cases x with
      | lst xs =>
        cases h'
        obtain ⟨ob, g1, vs, g2, g3⟩ := C.ob n a _ e q
        subst g2
        refine .inl ⟨vs, SqL.of g1, ?_⟩
        cases g3 <;> rfl
      | _ => cases h'
theorem snd_test (hq : ∀ s c Q E, wpE Z.C true ie s c Q E → wpE Z.C false ie s c (Qt true Q) E) (h : PE X e (tW Z X.K false ie))
    (he : ∀ whole, isTrue e X.env whole = (do let v ← whole; standAt e.pos; holding [v] (truthy v))) : PT X e (tWT Z X.K ie) := by
  refine PT.imp (pt_truth h he) fun sg H Q ⟨s, c, F, rh, Qm, Em, R, w, ok, x⟩ => ?_
  refine tW.mk R (hq _ _ _ _ w) x fun d o s' c' v H' F' rh' q rl ev x' r => ?_
  obtain ⟨k, h1, h2⟩ := q
  obtain ⟨k', e, hk⟩ := (ok.step ev).shr rl .bl h2
  cases e
  exact ⟨k, tru_rep rl.toCe r h1, hk⟩

theorem snd_var {i : Nat} {x : Str} (hN : X.N[i]? = some x) (hv : Vis X.env.scope x) (h1 : (x == ("__debug__" : Str)) = false) (h2 : (x == ("__classdict__" : Str)) = false) : PE X (.Name x pos) (tW Z X.K false (.var i)) := by
  refine PE.imp (pe_var hN hv h1 h2) fun sg H Q ⟨s, c, F, rh, Qm, Em, R, w, ok, x⟩ => ?_
  unfold wpE at w
  split at w
  · rename_i d hs
    obtain ⟨v, g1, g2⟩ := R.shr i d hs
    exact ⟨v, g1, ok.shr R g2 w⟩
  · rename_i d hs
    obtain ⟨a, F2, g1, R2, ev, g2⟩ := R.shareSlot hs
    exact ⟨_, g1, (ok.step ev).shr R2 g2 w⟩
  · exact w.elim
theorem snd_con {d : D} {k : Const} {j : Nat} (h : PE X (.Constant k j pos) (tC (match d with | .bl b => .bl b | .int i => .int i | .str z => .str z | _ => .non))) (hd : match d with | .non | .bl _ | .int _ | .str _ => True | _ => False) :
    PE X (.Constant k j pos) (tW Z X.K false (.con d)) := by
  refine PE.imp h fun sg H Q ⟨s, c, F, rh, Qm, Em, R, w, ok, x⟩ => ?_
  unfold wpE at w
  cases d with
  | non => exact ok.shr R .non w
  | bl b => exact ok.shr R .bl w
  | int i => exact ok.shr R .int w
  | str z => exact ok.shr R .str w
  | _ => exact hd.elim
theorem snd_glob {i : Nat} {x : Str} (G : GOk X M Z) (hg : Gl X x) (hx : M.gl i = x) (h1 : (x == ("__debug__" : Str)) = false) : PE X (.Name x pos) (tW Z X.K false (.glob i)) := by
  refine ⟨fun pins st sg H Q I ⟨s, c, F, rh, Qm, Em, R, w, ok, xk⟩ => ?_⟩
  unfold wpE at w
  obtain ⟨u, v, g1, g2, g3⟩ := G.gl i w.1
  rw [hx] at g1
  exact (pe_glob hg g1 g2 h1).run pins st sg H Q I (ok.shr R (g3 _ _ _) w.2)
theorem snd_bin {op : Operator} (ha : PE X a (tW Z X.K false ia)) (hb : PE X b (tW Z X.K false ib)) : PE X (.BinOp a op b pos) (tW Z X.K false (.bin op ia ib)) := by
  refine PE.imp (pe_op (bin_ok op) ha hb) fun sg H Q ⟨s, c, F, rh, Qm, Em, R, w, ok, x⟩ => ?_
  unfold wpE at w
  refine tW.mk R w x fun d o s1 c1 v H1 F1 rh1 q1 R1 e1 x1 r1 => ?_
  refine tW.mk R1 q1 x1 fun d2 o2 s2 c2 v2 H2 F2 rh2 q2 R2 e2 x2 r2 => ?_
  exact ⟨F2, rh2, c2, d, d2, _, R2.toCe, r1.ext e2.toExt, r2, q2, fun dd oo vv HH h u => ((ok.step e1).step e2).out R2 u h⟩
theorem snd_un {op : UnaryOp} (ha : PE X a (tW Z X.K false ia)) : PE X (.UnaryOp op a pos) (tW Z X.K false (.un op ia)) := by
  refine PE.imp (pe_un (un_ok op) ha) fun sg H Q ⟨s, c, F, rh, Qm, Em, R, w, ok, x⟩ => ?_
  unfold wpE at w
  refine tW.mk R w x fun d o s1 c1 v H1 F1 rh1 q1 R1 e1 x1 r1 => ?_
  exact ⟨F1, rh1, d, _, r1, q1, fun dd vv h u => (ok.step e1).shr R1 u h⟩
theorem cmp_use {op : CmpOp} {ia ib : IE} {sg : L2.St} {H : Hp} {s : List Sl} {c : Cl} {F : Fz} {rh : List Addr} {Em : EK} {Qk : Bool → List Sl → Cl → Prop} {Q : VK} (R : Rl X.K Z.H0 H F rh sg s c) (x : OkX Z X.K sg H F rh s Em)
    (w : wpE Z.C false ia s c (fun x _ s1 c1 => wpE Z.C false ib s1 c1 (fun y _ s2 c2 => cmpW op c2 x y fun k => Qk k s2 c2) Em) Em)
    (fin : ∀ k s2 c2 H2 F2 rh2, Qk k s2 c2 → Rl X.K Z.H0 H2 F2 rh2 sg s2 c2 → Ev H F rh (Owned sg s) H2 F2 rh2 (Owned sg s2) → Q (.bl k) H2) : tOp (rC X.K (cmpW op)) (tW Z X.K false ia) (tW Z X.K false ib) sg H Q := by
  refine tW.mk R w x fun d o s1 c1 v H1 F1 rh1 q1 R1 e1 x1 r1 => ?_
  refine tW.mk R1 q1 x1 fun d2 o2 s2 c2 v2 H2 F2 rh2 q2 R2 e2 x2 r2 => ?_
  exact ⟨F2, rh2, c2, d, d2, _, R2.toCe, r1.ext e2.toExt, r2, q2, fun k h => fin k s2 c2 H2 F2 rh2 h R2 (e1.trans e2)⟩
theorem snd_cmp {op : CmpOp} (G : GOk X M Z) (ha : PE X a (tW Z X.K false ia)) (hb : PE X b (tW Z X.K false ib)) (hm : behindInMarks op b = false) :
    PE X (.Compare a [op] [b] pos) (tW Z X.K false (.cmp op ia ib)) ∧ PT X (.Compare a [op] [b] pos) (tWT Z X.K (.cmp op ia ib)) := by
  refine ⟨PE.imp (pe_cmpR (cmp_ok G.hu op) ha hb hm) fun sg H Q ⟨s, c, F, rh, Qm, Em, R, w, ok, x⟩ => ?_, PT.imp (pt_cmpR (cmp_ok G.hu op) ha hb hm) fun sg H Q ⟨s, c, F, rh, Qm, Em, R, w, ok, x⟩ => ?_⟩
  · unfold wpE at w
    exact cmp_use R x w fun k s2 c2 H2 F2 rh2 h R2 e => (ok.step e).shr R2 .bl h
  · unfold wpE at w
    exact cmp_use R x w fun k s2 c2 H2 F2 rh2 h R2 e => (ok.step e).shr R2 .bl h
end
end Vm

/-! Vm: soundness of the further expressions -/
namespace Vm
open PySem PySem.Spec L2
open PyProof.Rows hiding St
def tyAll : List String := ["NoneType", "bool", "int", "str", "tuple", "list"]
theorem kit_all : (tyAll.all fun t => tyNames.all fun T => decide (kitB t T = some (isTy t T))) = true := by decide +kernel
theorem boot_ty : (tyNames.all fun T => decide (bootBuiltins (Str.ofString T) = some (.type T) ∧ Str.ofString T ≠ "__name__" ∧ (Str.ofString T == ("__debug__" : Str)) = false)) = true := by decide +kernel
theorem boot_prim (p : Prim) : bootBuiltins p.name = some p.val ∧ p.name ≠ "__name__" ∧ (p.name == ("__debug__" : Str)) = false := by
  cases p <;> decide +kernel
def notStar : Expr → Bool
  | .Starred _ _ => false
  | _ => true
section
variable {X : Cx} {M : Nm} {Z : Sx} {H H1 : Hp} {F F1 : Fz} {rh rh1 : List Addr} {sh : L2.St} {s s1 : List Sl} {c c1 : Cl} {a b e : Expr} {es : List Expr} {ia ib ic ie : IE} {il : IL} {t : Bool} {pos p : Pos}
theorem star_one (h : notStar e = true) : starEach (e :: es) X.env = (false, eval e X.env) :: starEach es X.env := by
  cases e <;> first | rfl | cases h
theorem star_plain {pos : Pos} : ∀ {es : List Expr}, (es.all notStar) = true → (backTo pos (starEach es X.env)).any (·.1) = false
  | [], _ => rfl
  | e :: es, h => by
    have h' : (notStar e && es.all notStar) = true := h
    rw [Bool.and_eq_true] at h'
    rw [star_one h'.1]
    show (false || (backTo pos (starEach es X.env)).any (·.1)) = false
    rw [star_plain h'.2]; rfl
theorem sndL_nil : PA X [] (tWL Z X.K .nil) := PA.imp pa_nil fun sg H Q ⟨s, c, F, rh, Qm, Em, R, w, ok, x⟩ => by
  unfold wpL at w
  exact ok [] s c [] H F rh w R Ev.refl .nil
theorem sndL_cons (ha : PE X e (tW Z X.K false ia)) (hl : PA X es (tWL Z X.K il)) (hs : notStar e = true) : PA X (e :: es) (tWL Z X.K (.cons ia il)) := by
  refine PA.imp (pa_cons ha hl (star_one hs)) fun sg H Q ⟨s, c, F, rh, Qm, Em, R, w, ok, x⟩ => ?_
  unfold wpL at w
  refine tW.mk R w x fun d o s1 c1 v H1 F1 rh1 q1 R1 e1 x1 r1 => ?_
  refine tWL.mk R1 q1 x1 fun ds s2 c2 vs H2 F2 rh2 q2 R2 e2 x2 r2 => ?_
  exact ok (d :: ds) s2 c2 (v :: vs) H2 F2 rh2 q2 R2 (e1.trans e2) (.cons (r1.ext e2.toExt) r2)
theorem chain_use {op op' : CmpOp} {sg : L2.St} {H : Hp} {s : List Sl} {c : Cl} {F : Fz} {rh : List Addr} {Em : EK} {Qk : Bool → List Sl → Cl → Prop} {Q : VK} (R : Rl X.K Z.H0 H F rh sg s c) (x : OkX Z X.K sg H F rh s Em)
    (w : wpE Z.C false ia s c (fun x _ s1 c1 => wpE Z.C false ib s1 c1 (fun y _ s2 c2 => cmpW op c2 x y fun k =>
      match k with
      | true => wpE Z.C false ic s2 c2 (fun z _ s3 c3 => cmpW op' c3 y z fun k' => Qk k' s3 c3) Em
      | false => Qk false s2 c2) Em) Em)
    (fin : ∀ k s2 c2 H2 F2 rh2, Qk k s2 c2 → Rl X.K Z.H0 H2 F2 rh2 sg s2 c2 → Ev H F rh (Owned sg s) H2 F2 rh2 (Owned sg s2) → Q (.bl k) H2) :
    tChain (rC X.K (cmpW op)) (rC X.K (cmpW op')) (tW Z X.K false ia) (tW Z X.K false ib) (tW Z X.K false ic) sg H Q := by
  refine tW.mk R w x fun d o s1 c1 v H1 F1 rh1 q1 R1 e1 x1 r1 => ?_
  refine tW.mk R1 q1 x1 fun d2 o2 s2 c2 v2 H2 F2 rh2 q2 R2 e2 x2 r2 => ?_
  refine ⟨F2, rh2, c2, d, d2, _, R2.toCe, r1.ext e2.toExt, r2, q2, fun k h => ⟨k, rfl, ?_⟩⟩
  cases k with
  | false =>
    rw [if_neg Bool.false_ne_true]
    exact fin false s2 c2 H2 F2 rh2 h R2 (e1.trans e2)
  | true =>
    rw [if_pos rfl]
    refine tW.mk R2 h x2 fun d3 o3 s3 c3 v3 H3 F3 rh3 q3 R3 e3 x3 r3 => ?_
    exact ⟨F3, rh3, c3, d2, d3, _, R3.toCe, r2.ext e3.toExt, r3, q3, fun k' h' => fin k' s3 c3 H3 F3 rh3 h' R3 ((e1.trans e2).trans e3)⟩
theorem snd_chain {op op' : CmpOp} {cc : Expr} (G : GOk X M Z) (ha : PE X a (tW Z X.K false ia)) (hb : PE X b (tW Z X.K false ib)) (hc : PE X cc (tW Z X.K false ic)) (hm : lastMarks [op, op'] [b, cc] = false) :
    PE X (.Compare a [op, op'] [b, cc] pos) (tW Z X.K false (.chain op op' ia ib ic)) ∧ PT X (.Compare a [op, op'] [b, cc] pos) (tWT Z X.K (.chain op op' ia ib ic)) := by
  refine ⟨PE.imp (pe_chain (cmp_ok G.hu op) (cmp_ok G.hu op') ha hb hc hm) fun sg H Q ⟨s, c, F, rh, Qm, Em, R, w, ok, x⟩ => ?_, PT.imp (pt_chain (cmp_ok G.hu op) (cmp_ok G.hu op') ha hb hc hm) fun sg H Q ⟨s, c, F, rh, Qm, Em, R, w, ok, x⟩ => ?_⟩
  · unfold wpE at w
    exact chain_use R x w fun k s2 c2 H2 F2 rh2 h R2 e => (ok.step e).shr R2 .bl h
  · unfold wpE at w
    exact chain_use R x w fun k s2 c2 H2 F2 rh2 h R2 e => (ok.step e).shr R2 .bl h

/-! and, or, not -/
def tWB (Z : Sx) (K : PySem.W.Frag) (t isAnd : Bool) (l : IL) : TE := fun sh H Q => ∃ s c F rh Qm Em, Rl K Z.H0 H F rh sh s c ∧ wpB Z.C t isAnd l s c Qm Em ∧ OkQ K Z.H0 sh H F rh s Qm Q ∧ OkX Z K sh H F rh s Em
def boolOpOf : Bool → BoolOp
  | true => .And
  | false => .Or
theorem sndB_one {isAnd : Bool} (ha : PE X e (tW Z X.K false ia)) : PE X (.BoolOp (boolOpOf isAnd) [e] pos) (tWB Z X.K false isAnd (.cons ia .nil)) := by
  refine PE.imp (pe_one ha) fun sg H Q ⟨s, c, F, rh, Qm, Em, R, w, ok, x⟩ => ⟨s, c, F, rh, Qm, Em, R, ?_, ok, x⟩
  unfold wpB at w
  exact w
theorem sndB_cons {isAnd : Bool} {e' : Expr} {ie' : IE} (ha : PE X e (tW Z X.K false ia)) (hl : PE X (.BoolOp (boolOpOf isAnd) (e' :: es) pos) (tWB Z X.K false isAnd (.cons ie' il))) : PE X (.BoolOp (boolOpOf isAnd) (e :: e' :: es) pos) (tWB Z X.K false isAnd (.cons ia (.cons ie' il))) := by
  cases isAnd with
  | true =>
    refine PE.imp (pe_andT ha hl) fun sg H Q ⟨s, c, F, rh, Qm, Em, R, w, ok, x⟩ => ?_
    unfold wpB at w
    refine tW.mk R w x fun d o s1 c1 v H1 F1 rh1 ⟨k, q1, q2⟩ R1 e1 x1 r1 => ⟨k, tru_rep R1.toCe r1 q1, ?_⟩
    cases k with
    | true => rw [if_pos rfl]; exact ⟨s1, c1, F1, rh1, Qm, Em, R1, q2, ok.step e1, x1⟩
    | false => rw [if_neg Bool.false_ne_true]; exact (ok.step e1).shr R1 r1 q2
  | false =>
    refine PE.imp (pe_orT ha hl) fun sg H Q ⟨s, c, F, rh, Qm, Em, R, w, ok, x⟩ => ?_
    unfold wpB at w
    refine tW.mk R w x fun d o s1 c1 v H1 F1 rh1 ⟨k, q1, q2⟩ R1 e1 x1 r1 => ⟨k, tru_rep R1.toCe r1 q1, ?_⟩
    cases k with
    | true => rw [if_pos rfl]; exact (ok.step e1).shr R1 r1 q2
    | false => rw [if_neg Bool.false_ne_true]; exact ⟨s1, c1, F1, rh1, Qm, Em, R1, q2, ok.step e1, x1⟩
def tWBT (Z : Sx) (K : PySem.W.Frag) (isAnd : Bool) (l : IL) : TT := fun sh H Q => tWB Z K true isAnd l sh H fun v H' => ∃ k, v = .bl k ∧ Q k H'
theorem PW.imp {e : Expr} {t t' : TT} (h : PW X e t) (i : ∀ sg H Q, t' sg H Q → t sg H Q) : PW X e t' := ⟨fun wh p s sg H Q I w => h.run wh p s sg H Q I (i sg H Q w)⟩
theorem sndBT_one {isAnd : Bool} (ha : PT X e (tWT Z X.K ia)) : PW X (.BoolOp (boolOpOf isAnd) [e] pos) (tWBT Z X.K isAnd (.cons ia .nil)) := by
  have i : ∀ sg H Q, tWBT Z X.K isAnd (.cons ia .nil) sg H Q → tWT Z X.K ia sg H Q := fun sg H Q ⟨s, c, F, rh, Qm, Em, R, w, ok, x⟩ => ⟨s, c, F, rh, Qm, Em, R, by unfold wpB at w; exact w, ok, x⟩
  cases isAnd with
  | true => exact PW.imp (pw_and1 ha) i
  | false => exact PW.imp (pw_or1 ha) i
theorem test_mk {Qm : QK} {Em : EK} {Q : Bool → Hp → Prop} {sg : L2.St} (R : Rl X.K Z.H0 H F rh sg s c) (w : wpE Z.C true ie s c Qm Em) (x : OkX Z X.K sg H F rh s Em)
    (k : ∀ d o s' c' k H' F' rh', Qm d o s' c' → d = .bl k → Rl X.K Z.H0 H' F' rh' sg s' c' → Ev H F rh (Owned sg s) H' F' rh' (Owned sg s') → OkX Z X.K sg H' F' rh' s' Em → Q k H')
    (bl : ∀ d o s' c', Qm d o s' c' → ∃ k, d = .bl k) : tWT Z X.K ie sg H Q :=
  tW.mk R w x fun d o s' c' v H' F' rh' q rl e x' r => by
    obtain ⟨k', rfl⟩ := bl d o s' c' q
    cases r
    exact ⟨k', rfl, k _ o s' c' k' H' F' rh' q rfl rl e x'⟩
/-- in a test every value is a truth value -/
theorem sndBT_cons {isAnd : Bool} {e' : Expr} {ie' : IE} (ha : PT X e (tWT Z X.K ia)) (hl : PW X (.BoolOp (boolOpOf isAnd) (e' :: es) pos) (tWBT Z X.K isAnd (.cons ie' il)))
    (hb : ∀ s c Q E, wpE Z.C true ia s c Q E → wpE Z.C true ia s c (fun d o s1 c1 => (∃ k, d = .bl k) ∧ Q d o s1 c1) E) : PW X (.BoolOp (boolOpOf isAnd) (e :: e' :: es) pos) (tWBT Z X.K isAnd (.cons ia (.cons ie' il))) := by
  cases isAnd with
  | true =>
    refine PW.imp (pw_and ha hl) fun sg H Q ⟨s, c, F, rh, Qm, Em, R, w, ok, x⟩ => ?_
    unfold wpB at w
    refine test_mk R (hb _ _ _ _ w) x (fun d o s1 c1 k H1 F1 rh1 q e R1 e1 x1 => ?_) fun d o s1 c1 q => q.1
    subst e
    obtain ⟨_, k', q1, q2⟩ := q
    cases q1
    cases k with
    | true => rw [if_pos rfl]; exact ⟨s1, c1, F1, rh1, Qm, Em, R1, q2, ok.step e1, x1⟩
    | false =>
      rw [if_neg Bool.false_ne_true]
      obtain ⟨k2, z1, z2⟩ := (ok.step e1).shr R1 .bl q2
      cases z1
      exact z2
  | false =>
    refine PW.imp (pw_or ha hl) fun sg H Q ⟨s, c, F, rh, Qm, Em, R, w, ok, x⟩ => ?_
    unfold wpB at w
    refine test_mk R (hb _ _ _ _ w) x (fun d o s1 c1 k H1 F1 rh1 q e R1 e1 x1 => ?_) fun d o s1 c1 q => q.1
    subst e
    obtain ⟨_, k', q1, q2⟩ := q
    cases q1
    cases k with
    | true =>
      rw [if_pos rfl]
      obtain ⟨k2, z1, z2⟩ := (ok.step e1).shr R1 .bl q2
      cases z1
      exact z2
    | false => rw [if_neg Bool.false_ne_true]; exact ⟨s1, c1, F1, rh1, Qm, Em, R1, q2, ok.step e1, x1⟩
theorem snd_not (ha : PE X a (tW Z X.K false ia)) : PE X (.UnaryOp .Not a pos) (tW Z X.K false (.not ia)) := by
  refine PE.imp (pe_notT ha) fun sg H Q ⟨s, c, F, rh, Qm, Em, R, w, ok, x⟩ => ?_
  unfold wpE at w
  refine tW.mk R w x fun d o s1 c1 v H1 F1 rh1 ⟨k, q1, q2⟩ R1 e1 x1 r1 => ⟨k, tru_rep R1.toCe r1 q1, (ok.step e1).shr R1 .bl q2⟩
theorem snd_notT (ha : PT X a (tWT Z X.K ia)) (hb : ∀ s c Q E, wpE Z.C true ia s c Q E → wpE Z.C true ia s c (fun d o s1 c1 => (∃ k, d = .bl k) ∧ Q d o s1 c1) E) : PT X (.UnaryOp .Not a pos) (tWT Z X.K (.not ia)) := by
  refine PT.imp (pt_not ha) fun sg H Q ⟨s, c, F, rh, Qm, Em, R, w, ok, x⟩ => ?_
  unfold wpE at w
  refine test_mk R (hb _ _ _ _ w) x (fun d o s1 c1 k H1 F1 rh1 q e R1 e1 x1 => ?_) fun d o s1 c1 q => q.1
  subst e
  obtain ⟨_, k', q1, q2⟩ := q
  cases q1
  obtain ⟨k2, z1, z2⟩ := (ok.step e1).shr R1 .bl q2
  cases z1
  exact z2
theorem snd_ite {cc : Expr} (hc : PT X cc (tWT Z X.K ic)) (ha : PE X a (tW Z X.K false ia)) (hb : PE X b (tW Z X.K false ib)) : PE X (.IfExp cc a b pos) (tW Z X.K false (.ite ic ia ib)) := by
  refine PE.imp (pe_ifExp hc ha hb) fun sg H Q ⟨s, c, F, rh, Qm, Em, R, w, ok, x⟩ => ?_
  unfold wpE at w
  refine test_mk R w x (fun d o s1 c1 k H1 F1 rh1 ⟨k', q1, q2⟩ e R1 e1 x1 => ?_) fun d o s1 c1 ⟨k, q, _⟩ => ⟨k, q⟩
  subst e
  cases q1
  cases k with
  | true => rw [if_pos rfl]; exact ⟨s1, c1, F1, rh1, _, Em, R1, q2, ok.step e1, x1⟩
  | false => rw [if_neg Bool.false_ne_true]; exact ⟨s1, c1, F1, rh1, _, Em, R1, q2, ok.step e1, x1⟩

/-! displays, subscripts -/
theorem snd_tup {k : Nat} (hl : PA X es (tWL Z X.K il)) : PE X (.Tuple es k pos) (tW Z X.K false (.tup il)) := by
  refine PE.imp (pe_tup hl) fun sg H Q ⟨s, c, F, rh, Qm, Em, R, w, ok, x⟩ => ?_
  unfold wpE at w
  refine tWL.mk R w x fun ds s1 c1 vs H1 F1 rh1 ⟨q0, q1⟩ R1 e1 x1 r1 => ⟨by rw [r1.len]; exact q0, fun p hp => (ok.step e1).out R1 (.tup hp r1) q1⟩
theorem snd_lst (hl : PA X es (tWL Z X.K il)) : PE X (.List es pos) (tW Z X.K false (.lst il)) := by
  refine PE.imp (pe_lst hl) fun sg H Q ⟨s, c, F, rh, Qm, Em, R, w, ok, x⟩ => ?_
  unfold wpE at w
  refine tWL.mk R w x fun ds s1 c1 vs H1 F1 rh1 ⟨q0, q1⟩ R1 e1 x1 r1 => ⟨by rw [r1.len]; exact q0, fun p hp => (ok.step e1).out R1 (.new (y := .lst ds) hp ⟨vs, rfl, r1⟩) q1⟩
theorem snd_idx (ha : PE X a (tW Z X.K false ia)) (hb : PE X b (tW Z X.K false ib)) (hs : PlainIx b) : PE X (.Subscript a b pos) (tW Z X.K false (.idx ia ib)) := by
  refine PE.imp (pe_ix idx_ok ha hb hs) fun sg H Q ⟨s, c, F, rh, Qm, Em, R, w, ok, x⟩ => ?_
  unfold wpE at w
  refine tW.mk R w x fun d o s1 c1 v H1 F1 rh1 q1 R1 e1 x1 r1 => ?_
  refine tW.mk R1 q1 x1 fun d2 o2 s2 c2 v2 H2 F2 rh2 q2 R2 e2 x2 r2 => ?_
  exact ⟨F2, rh2, c2, d, d2, _, R2.toCe, r1.ext e2.toExt, r2, q2, fun dd oo vv HH h u => ((ok.step e1).step e2).out R2 u h⟩
/-- a part of a slice -/
def tWO (Z : Sx) (K : PySem.W.Frag) (e : IO) : TO := fun sh H Q => ∃ s c F rh Qm Em, Rl K Z.H0 H F rh sh s c ∧ wpO Z.C e s c Qm Em ∧ (∀ l s' c' H' F' rh', Qm l s' c' → Rl K Z.H0 H' F' rh' sh s' c' → Ev H F rh (Owned sh s) H' F' rh' (Owned sh s') → OkX Z K sh H' F' rh' s' Em → Q l H') ∧ OkX Z K sh H F rh s Em
theorem PO.imp {e : Option Expr} {t t' : TO} (h : PO X e t) (i : ∀ sg H Q, t' sg H Q → t sg H Q) : PO X e t' := ⟨fun p s sg H Q I w => h.run p s sg H Q I (i sg H Q w)⟩
theorem sndO_no : PO X none (tWO Z X.K .no) := PO.imp po_none fun sg H Q ⟨s, c, F, rh, Qm, Em, R, w, ok, x⟩ => by
  unfold wpO at w
  exact ok none s c H F rh w R Ev.refl x
theorem sndO_so (ha : PE X a (tW Z X.K false ia)) : PO X (some a) (tWO Z X.K (.so ia)) := PO.imp (po_some ha) fun sg H Q ⟨s, c, F, rh, Qm, Em, R, w, ok, x⟩ => by
  unfold wpO at w
  refine tW.mk R w x fun d o s1 c1 v H1 F1 rh1 ⟨i, q1, q2⟩ R1 e1 x1 r1 => ?_
  subst q1
  cases r1
  exact ⟨i, rfl, ok (some i) s1 c1 H1 F1 rh1 q2 R1 e1 x1⟩
theorem snd_slc {lo hi : Option Expr} {il ih : IO} {p2 : Pos} (ha : PE X a (tW Z X.K false ia)) (hl : PO X lo (tWO Z X.K il)) (hh : PO X hi (tWO Z X.K ih)) : PE X (.Subscript a (.Slice lo hi none p2) pos) (tW Z X.K false (.slc ia il ih)) := by
  refine PE.imp (pe_slice slc_ok ha hl hh) fun sg H Q ⟨s, c, F, rh, Qm, Em, R, w, ok, x⟩ => ?_
  unfold wpE at w
  refine tW.mk R w x fun d o s1 c1 v H1 F1 rh1 q1 R1 e1 x1 r1 => ?_
  refine ⟨s1, c1, F1, rh1, _, Em, R1, q1, fun l s2 c2 H2 F2 rh2 q2 R2 e2 x2 => ?_, x1⟩
  refine ⟨s2, c2, F2, rh2, _, Em, R2, q2, fun h s3 c3 H3 F3 rh3 q3 R3 e3 x3 => ?_, x2⟩
  exact ⟨F3, rh3, c3, d, _, R3.toCe, (r1.ext e2.toExt).ext e3.toExt, q3, fun dd oo vv HH h u => (((ok.step e1).step e2).step e3).out R3 u h⟩

/-! calls -/
theorem call_use {f : Nat} {sg : L2.St} {Qm : QK} {Em : EK} {Q : VK} {ds : List D} {vs : List V} (R : Rl X.K Z.H0 H F rh sg s c) (r : RepL X.K H F rh vs ds) (w : Z.C.fn f ds c (fun d o c2 => Qm d o s c2) (fun ex c2 => Em ex s c2)) (ok : OkQ X.K Z.H0 sg H F rh s Qm Q) (x : OkX Z X.K sg H F rh s Em) :
    spF Z.S X.K (Z.C.fn f) vs H Q (WE Z.W sg) :=
  ⟨ds, c, F, rh, _, _, r, R.toCe, w, fun d o c' v H' F' rh' q C e rs => by
    obtain ⟨R2, e2⟩ := R.after C e
    exact ok d o s c' v H' F' rh' q R2 e2 (rs.ofCall R), fun ex c' cls da H' F' rh' q C e er => by
    obtain ⟨R2, e2⟩ := R.after C e
    exact x ex s c' cls da H' F' rh' q R2 e2 er⟩
theorem snd_call0 {f : Nat} {fx : Str} (G : GOk X M Z) (hg : Gl X fx) (hx : M.fn f = fx) (h1 : (fx == ("__debug__" : Str)) = false) : PE X (.Call (.Name fx p) [] [] pos) (tW Z X.K false (.call f .nil)) := by
  refine ⟨fun pins st sg H Q I ⟨s, c, F, rh, Qm, Em, R, w, ok, x⟩ => ?_⟩
  unfold wpE at w
  obtain ⟨a, fd, k, g1, g2, g3, g4, g5, _⟩ := (G.fn f w.1).ex
  rw [hx] at g1
  have w2 := w.2
  unfold wpL at w2
  exact (pe_callG0 (E := WE Z.W) g4 g5 G.gd hg g1 g2 g3 .nil (fun sg => passAt G.tk sg) h1).run pins st sg H Q I (call_use R .nil w2 ok x)
theorem snd_call {f : Nat} {fx : Str} (G : GOk X M Z) (hl : PA X (e :: es) (tWL Z X.K il)) (hg : Gl X fx) (hx : M.fn f = fx) (h1 : (fx == ("__debug__" : Str)) = false) (hs : notStar e = true) (hs2 : es.all notStar = true) :
    PE X (.Call (.Name fx p) (e :: es) [] pos) (tW Z X.K false (.call f il)) := by
  refine ⟨fun pins st sg H Q I ⟨s, c, F, rh, Qm, Em, R, w, ok, x⟩ => ?_⟩
  unfold wpE at w
  obtain ⟨a, fd, k, g1, g2, g3, g4, g5, _⟩ := (G.fn f w.1).ex
  rw [hx] at g1
  refine (pe_callG (E := WE Z.W) g4 g5 G.gd hg g1 g2 g3 .nil (fun sg => passAt G.tk sg) hl h1 (star_one hs) (star_plain hs2)).run pins st sg H Q I ?_
  refine tWL.mk R w.2 x fun ds s1 c1 vs H1 F1 rh1 q1 R1 e1 x1 r1 => ?_
  show spF Z.S X.K (Z.C.fn f) (vs ++ []) H1 Q (WE Z.W sg)
  rw [List.append_nil]
  exact call_use R1 r1 q1 (ok.step e1) x1
theorem snd_prim {pr : Prim} (G : GOk X M Z) (hl : PA X (e :: es) (tWL Z X.K il)) (hg : Gl X pr.name) (hs : notStar e = true) (hs2 : es.all notStar = true) : PE X (.Call (.Name pr.name p) (e :: es) [] pos) (tW Z X.K false (.prim pr il)) := by
  refine ⟨fun pins st sg H Q I ⟨s, c, F, rh, Qm, Em, R, w, ok, x⟩ => ?_⟩
  unfold wpE at w
  obtain ⟨k, hr⟩ := G.rm
  obtain ⟨b1, b2, b3⟩ := boot_prim pr
  have hp := G.prim pr w.1
  have main : tCB (rP X.K (primW pr)) (tWL Z X.K il) sg H Q := by
    refine tWL.mk R w.2 x fun ds s1 c1 vs H1 F1 rh1 q1 R1 e1 x1 r1 => ?_
    exact ⟨F1, rh1, c1, ds, _, R1.toCe, r1, q1, fun dd oo vv HH h u => (ok.step e1).out R1 u h⟩
  have cr := prim_ok G.calm hr G.gd pr
  have st1 := star_one (X := X) (es := es) hs
  have st2 : (backTo pos (starEach es X.env)).any (·.1) = false := star_plain hs2
  generalize pr.name = nm at *
  cases hv : pr.val with
  | builtin id => rw [hv] at cr b1; exact (pe_callB cr hg hp b1 hl b2 b3 st1 st2).run pins st sg H Q I main
  | type T => rw [hv] at cr b1; exact (pe_callTy cr hg hp b1 hl b2 b3 st1 st2).run pins st sg H Q I main
  | _ => cases pr <;> cases hv
theorem ty_rep {K : PySem.W.Frag} (C : Ce K H F rh c) {v : V} {d : D} {u : String} (r : Rep K H F rh v d) (h : tyD c d = some u) : TyX K H v (.type u) ∧ u ∈ tyAll := by
  have seqT : ∀ {a vs}, SqT K H a vs → TyX K H (.ref a) (.type "tuple") := fun {a vs} h => by
    rcases h with (h | ⟨o, h⟩) | ⟨o, _, _, h1, h2, _⟩
    · exact .base (.tup h)
    · exact .fTuple h
    · exact .kTuple h1 h2
  have seqL : ∀ {a vs}, SqL K H a vs → TyX K H (.ref a) (.type "list") := fun {a vs} h => by
    rcases h with (h | ⟨o, h⟩) | ⟨o, _, _, h1, h2, _⟩
    · exact .base (.lst h)
    · exact .base (.frz h)
    · exact .kList h1 h2
  cases r with
  | non => cases h; exact ⟨.base .non, by decide⟩
  | bl => cases h; exact ⟨.base (.bl _), by decide⟩
  | int => cases h; exact ⟨.base (.int _), by decide⟩
  | str => cases h; exact ⟨.base (.str _), by decide⟩
  | tup hf _ => cases h; exact ⟨seqT hf.sq, by decide⟩
  | lst hf _ => cases h; exact ⟨seqL hf.sq, by decide⟩
  | scr hf _ => cases h; exact ⟨seqL hf.sq, by decide⟩
  | @cell n a e =>
    have h' : (match c[n]? with | some (.lst _) => some "list" | _ => none) = some u := h
    cases q : c[n]? with
    | none => rw [q] at h'; cases h'
    | some x =>
      rw [q] at h'
      cases x with
      | lst xs =>
        cases h'
        obtain ⟨ob, g1, vs, g2, g3⟩ := C.ob n a _ e q
        subst g2
        exact ⟨seqL (SqL.of g1), by decide⟩
      | _ => cases h'
theorem snd_isi {T : String} {p2 p3 : Pos} (G : GOk X M Z) (ha : PE X a (tW Z X.K false ia)) (hT : T ∈ tyNames) (hm : X.mg (Str.ofString T) = none) (hg : Gl X "isinstance") (hgT : Gl X (Str.ofString T)) (hs : notStar a = true) :
    PE X (.Call (.Name "isinstance" p) [a, .Name (Str.ofString T) p2] [] pos) (tW Z X.K false (.isi ia T)) := by
  have bt := boot_ty
  rw [List.all_eq_true] at bt
  obtain ⟨b1, b2, b3⟩ := of_decide_eq_true (bt T hT)
  have hl : PA X [a, .Name (Str.ofString T) p2] (tCons (tW Z X.K false ia) (tCons (tC (.ty T)) tNil)) := pa_cons ha (pa_cons (pe_bltn hgT hm b1 (show L2.RelV (.ty T) (.type T) from rfl) b2 b3) pa_nil rfl) (star_one hs)
  refine PE.imp (pe_callB call_isi hg G.isi (by decide +kernel) hl (by decide) (by decide) (star_one hs) (by rfl)) fun sg H Q ⟨s, c, F, rh, Qm, Em, R, w, ok, x⟩ => ?_
  unfold wpE at w
  refine tW.mk R w x fun d o s1 c1 v H1 F1 rh1 ⟨u, q1, q2⟩ R1 e1 x1 r1 => ?_
  obtain ⟨t1, t2⟩ := ty_rep R1.toCe r1 q1
  have ka := kit_all
  rw [List.all_eq_true] at ka
  have k2 := ka u t2
  rw [List.all_eq_true] at k2
  exact ⟨v, .ty T, _, _, _, rfl, .ty T, t1, kit_ty (of_decide_eq_true (k2 T hT)), (ok.step e1).shr R1 .bl q2⟩
end
end Vm

/-! Vm: soundness of methods of built-in types -/
namespace Vm
open PySem PySem.Spec L2
open PyProof.Rows hiding St
section
variable {X : Cx} {K : PySem.W.Frag} {H0 H : Hp} {F : Fz} {rh : List Addr} {sh : L2.St} {s : List Sl} {c : Cl}
theorem ext_mut {a : Addr} {o : HO} (h : ¬ F a) : Ext H F rh (upd H a o) F rh :=
  ⟨fun _ h => h, fun b u f e => by
    have nb : b ≠ a := fun z => by subst z; exact h f
    rw [upd_ne nb]; exact e, fun _ _ h => h⟩
theorem mono_upd {a : Addr} {o : HO} : ∀ b, H b ≠ none → upd H a o b ≠ none := fun b h => by
  by_cases e : b = a
  · subst e; rw [upd_same]; exact fun z => nomatch z
  · rw [upd_ne e]; exact h
/-- what a slot owns is changed -/
theorem Rl.mutOwn (R : Rl K H0 H F rh sh s c) {i : Nat} {d d' : D} {a : Addr} {o' : HO} (hi : s[i]? = some (.ow d)) (ha : sh[i]? = some (some (.ref a))) (ob : ObjD K H F rh o' d') :
    Rl K H0 (upd H a o') F rh sh (s.set i (.ow d')) c ∧ Ev H F rh (Owned sh s) (upd H a o') F rh (Owned sh (s.set i (.ow d'))) := by
  obtain ⟨b, o, h1, h2, h3, h4, h5⟩ := R.own i d hi
  rw [ha] at h1
  cases h1
  have hil : i < s.length := (List.getElem?_eq_some_iff.mp hi).1
  have e : Ext H F rh (upd H a o') F rh := ext_mut h4
  have back : ∀ {j : Nat} {x : D}, (s.set i (.ow d'))[j]? = some (.ow x) → ∃ y, s[j]? = some (.ow y) := fun {j x} g => by
    by_cases q : i = j
    · subst q; exact ⟨d, hi⟩
    · rw [List.getElem?_set_ne q] at g; exact ⟨x, g⟩
  refine ⟨⟨⟨R.len, R.nd, fun n b x g1 g2 => ?_, R.nf, fun b z => mono_upd b (R.ft b z)⟩, fun j x g => ?_, fun j x g => ?_, fun j k x y b g1 g2 g3 g4 => ?_, by rw [List.length_set]; exact R.ln, fun j x b g1 g2 => ?_, fun b z => ?_⟩, e, mono_upd, fun b u g1 g2 g3 g4 => ⟨?_, g2, g3, fun z => g4 ?_⟩⟩
  · obtain ⟨o2, k1, k2⟩ := R.ob n b x g1 g2
    have nb : b ≠ a := fun z => h5 (z ▸ List.mem_of_getElem? g1)
    exact ⟨o2, by rw [upd_ne nb]; exact k1, k2.ext e⟩
  · by_cases q : i = j
    · subst q; rw [List.getElem?_set_self hil] at g; cases g
    · rw [List.getElem?_set_ne q] at g
      obtain ⟨w, k1, k2⟩ := R.shr j x g
      exact ⟨w, k1, k2.ext e⟩
  · by_cases q : i = j
    · subst q
      rw [List.getElem?_set_self hil] at g
      cases g
      exact ⟨a, o', ha, upd_same, ob.ext e, h4, h5⟩
    · rw [List.getElem?_set_ne q] at g
      obtain ⟨b, o2, k1, k2, k3, k4, k5⟩ := R.own j x g
      have nb : b ≠ a := fun z => by subst z; exact q (R.uq i j _ _ b hi g ha k1)
      exact ⟨b, o2, k1, by rw [upd_ne nb]; exact k2, k3.ext e, k4, k5⟩
  · obtain ⟨x', y1⟩ := back g1
    obtain ⟨y', y2⟩ := back g2
    exact R.uq j k x' y' b y1 y2 g3 g4
  · obtain ⟨x', y1⟩ := back g1
    exact R.fr j x' b y1 g2
  · have nb : b ≠ a := fun q => by subst q; rw [upd_same] at z; cases z
    rw [upd_ne nb] at z
    exact R.mn b z
  · have nb : b ≠ a := fun q => by subst q; exact g4 ⟨i, d, hi, ha⟩
    rw [upd_ne nb]; exact g1
  · obtain ⟨j, x, z1, z2⟩ := z
    obtain ⟨y, y1⟩ := back z1
    exact ⟨j, y, y1, z2⟩
/-- a cell is changed -/
theorem Rl.mutCell (R : Rl K H0 H F rh sh s c) {n : Nat} {d d' : D} {a : Addr} {o' : HO} (ha : rh[n]? = some a) (hc : c[n]? = some d) (ob : ObjD K H F rh o' d') :
    Rl K H0 (upd H a o') F rh sh s (c.set n d') ∧ Ev H F rh (Owned sh s) (upd H a o') F rh (Owned sh s) := by
  have mem : a ∈ rh := List.mem_of_getElem? ha
  have nF : ¬ F a := R.nf a mem
  have hcl : n < c.length := (List.getElem?_eq_some_iff.mp hc).1
  have hrl : n < rh.length := (List.getElem?_eq_some_iff.mp ha).1
  have e : Ext H F rh (upd H a o') F rh := ext_mut nF
  refine ⟨⟨⟨by rw [List.length_set]; exact R.len, R.nd, fun m b x g1 g2 => ?_, R.nf, fun b z => mono_upd b (R.ft b z)⟩, fun j x g => ?_, fun j x g => ?_, R.uq, R.ln, R.fr, fun b z => ?_⟩, e, mono_upd, fun b u g1 g2 g3 g4 => ⟨?_, g2, g3, g4⟩⟩
  · by_cases q : n = m
    · subst q
      rw [List.getElem?_set_self hcl] at g2
      rw [ha] at g1
      cases g1; cases g2
      exact ⟨o', upd_same, ob.ext e⟩
    · rw [List.getElem?_set_ne q] at g2
      obtain ⟨o2, k1, k2⟩ := R.ob m b x g1 g2
      have nb : b ≠ a := fun z => by
        subst z
        obtain ⟨l1, e1⟩ := List.getElem?_eq_some_iff.mp ha
        obtain ⟨l2, e2⟩ := List.getElem?_eq_some_iff.mp g1
        exact q ((List.getElem_inj R.nd).mp (e1.trans e2.symm))
      exact ⟨o2, by rw [upd_ne nb]; exact k1, k2.ext e⟩
  · obtain ⟨w, k1, k2⟩ := R.shr j x g
    exact ⟨w, k1, k2.ext e⟩
  · obtain ⟨b, o2, k1, k2, k3, k4, k5⟩ := R.own j x g
    have nb : b ≠ a := fun z => k5 (z ▸ mem)
    exact ⟨b, o2, k1, by rw [upd_ne nb]; exact k2, k3.ext e, k4, k5⟩
  · have nb : b ≠ a := fun q => by subst q; rw [upd_same] at z; cases z
    rw [upd_ne nb] at z
    exact R.mn b z
  · have nb : b ≠ a := fun q => g3 (q ▸ mem)
    rw [upd_ne nb]; exact g1

/-! methods whose type is known when they run -/
/-- which method of a value is meant: its type, its own rule -/
def MOf (X : Cx) (name : Str) (x : V) (H : Hp) (r : List V → Hp → VK → Prop) : Prop :=
  ∃ T id rr, PlainAttrs T ∧ Slot T name id ∧ typeOf (.builtin id) = pure (.type "method_descriptor") ∧ MtR X id rr ∧ tyV X.K T x H ∧ ∀ vs H' Q, r vs H' Q → rr x vs H' Q
variable {o e : Expr} {es : List Expr} {to : TE} {t : TA} {name : Str} {apos cpos : Pos}
theorem pe_dyn0 (ho : PE X o to) (hb : attributeBase o name X.env (eval o X.env) = eval o X.env) (hl : (apos.endLine == cpos.line) = true) :
    PE X (.Call (.Attribute o name apos) [] [] cpos) (fun sg H Q => to sg H fun x H1 => ∃ r, MOf X name x H1 r ∧ r [] H1 Q) := by
  refine ⟨fun pins st sg H Q I h => wpAny_Call_method0_late hb hl (thn (ho.run pins st sg H _ I h) fun v s1 ⟨x, H1, I1, r1, r, ⟨T, id, rr, m1, m2, m3, m4, m5, m6⟩, q⟩ => ?_)⟩
  obtain ⟨t1, t2⟩ := tyV_is I1 r1 m5
  exact ⟨T, id, m1, m2, m3, t1, t2, Calls.callWith_builtin rfl (PySem.evalArgs_none (m4 pins s1 sg H1 x [] v [] Q I1 r1 .nil (m6 _ _ _ q)))⟩
theorem few_ok (pos : Pos) (hs : (es.all notStar) = true) (hn : es.length < 30) : ((backTo pos (starEach es X.env)).all (fun x => !x.1) && (backToKw pos (keywordEach [] X.env)).all (fun x => x.1.isSome)
      && decide (es.length + ([] : List Keyword).length + (if ([] : List Keyword).isEmpty then 0 else 1) < 30)) = true := by
  have h1 : (backTo pos (starEach es X.env)).all (fun x => !x.1) = true := by
    clear hn
    induction es with
    | nil => rfl
    | cons e r ih =>
      have h' : (notStar e && r.all notStar) = true := hs
      rw [Bool.and_eq_true] at h'
      rw [star_one h'.1]
      show (true && (backTo pos (starEach r X.env)).all (fun x => !x.1)) = true
      rw [ih h'.2]; rfl
  rw [h1]
  show (true && true && decide (es.length + 0 + 0 < 30)) = true
  rw [decide_eq_true (by omega)]; rfl
theorem pe_dyn (ho : PE X o to) (ha : PA X (e :: es) t) (hb : attributeBase o name X.env (eval o X.env) = eval o X.env) (hl : (apos.endLine == cpos.line) = true) (hs : notStar e = true) (hs2 : es.all notStar = true) (hn : es.length < 29) :
    PE X (.Call (.Attribute o name apos) (e :: es) [] cpos) (fun sg H Q => to sg H fun x H1 => ∃ r, MOf X name x H1 r ∧ t sg H1 fun vs H2 => r vs H2 Q) := by
  have fw := few_ok (X := X) (es := e :: es) cpos (by show (notStar e && es.all notStar) = true; rw [hs, hs2]; rfl) (by rw [List.length_cons]; omega)
  have pl : (backTo cpos (starEach (e :: es) X.env)).any (·.1) = false := star_plain (by show (notStar e && es.all notStar) = true; rw [hs, hs2]; rfl)
  refine ⟨fun pins st sg H Q I h => wpAny_Call_method_late hb fw hl rfl (thn (ho.run pins st sg H _ I h) fun v s1 ⟨x, H1, I1, r1, r, ⟨T, id, rr, m1, m2, m3, m4, m5, m6⟩, q⟩ => ?_)⟩
  obtain ⟨t1, t2⟩ := tyV_is I1 r1 m5
  refine ⟨T, id, m1, m2, m3, t1, t2, ?_⟩
  have hA := ha.run cpos pins s1 sg H1 _ I1 q
  rw [star_one hs] at hA pl ⊢
  refine Calls.callWith_builtin pl (Calls.evalArgs_plain ?_)
  exact thn hA fun us s2 ⟨vs, H2, I2, r2, q2⟩ => m4 pins s2 sg H2 x vs v us Q I2 r1 r2 (m6 _ _ _ q2)
end
section
variable {X : Cx} {M : Nm} {Z : Sx} {H : Hp} {F : Fz} {rh : List Addr} {sh : L2.St} {s : List Sl} {c : Cl} {o e : Expr} {es : List Expr} {io : IE} {il : IL} {apos cpos p : Pos}
/-- a pure method: the rule that serves it, ahead of its arguments -/
theorem meth_of (m : Mt) {v : V} {d : D} (r : Rep X.K H F rh v d) (hk : recvOk m d) :
    MOf X m.name v H (fun vs H' Q => ∃ F' rh' c' ds Qm, Ce X.K H' F' rh' c' ∧ RepL X.K H' F' rh' vs ds ∧ methW m c' d ds Qm ∧ ∀ dd o vv HH, Qm dd o → Out X.K H' F' rh' vv HH dd o → Q vv HH) := by
  obtain ⟨a, rfl⟩ : ∃ a, d = .str a := by cases m <;> cases d <;> first | exact ⟨_, rfl⟩ | exact hk.elim
  have hm : m = .upper ∨ m = .join := by cases m <;> first | exact .inl rfl | exact .inr rfl | exact hk.elim
  cases r
  rcases hm with rfl | rfl
  · refine ⟨"str", "str.upper", _, PySem.F.plainAttrs_str, PySem.F.slot_str_upper, PySem.F.type_str_upper, mt_upper, rfl, fun vs H' Q ⟨F', rh', c', ds, Qm, C, R, w, q⟩ => ?_⟩
    match ds, R, w with
    | [], .nil, w => exact ⟨a, rfl, rfl, w.1, q _ _ _ _ w.2 (.old .str)⟩
  · refine ⟨"str", "str.join", _, PySem.F.plainAttrs_str, PySem.F.slot_str_join, PySem.F.type_str_join, mt_join, rfl, fun vs H' Q ⟨F', rh', c', ds, Qm, C, R, w, q⟩ => ?_⟩
    match ds, R, w with
    | [d], .cons hv .nil, w =>
      obtain ⟨xs, ys, h1, rfl, h3, h4⟩ := w
      obtain ⟨b, ws, rfl, hs, r'⟩ := asS_of C hv h1
      rw [r'.strs] at hs
      exact ⟨a, b, ys, rfl, rfl, hs, h3, q _ _ _ _ h4 (.old .str)⟩
theorem snd_meth0 {m : Mt} {nm : Str} (ho : PE X o (tW Z X.K false io)) (hn : nm = m.name) (hb : attributeBase o nm X.env (eval o X.env) = eval o X.env) (hl : (apos.endLine == cpos.line) = true) :
    PE X (.Call (.Attribute o nm apos) [] [] cpos) (tW Z X.K false (.meth m io .nil)) := by
  refine PE.imp (pe_dyn0 ho hb hl) fun sg H Q ⟨s, c, F, rh, Qm, Em, R, w, ok, x⟩ => ?_
  unfold wpE at w
  refine tW.mk R w x fun d o s1 c1 v H1 F1 rh1 ⟨q0, q1⟩ R1 e1 x1 r1 => ?_
  unfold wpL at q1
  subst hn
  exact ⟨_, meth_of m r1 q0, F1, rh1, c1, [], _, R1.toCe, .nil, q1, fun dd oo vv HH h u => (ok.step e1).out R1 u h⟩
theorem snd_meth {m : Mt} {nm : Str} (ho : PE X o (tW Z X.K false io)) (hl' : PA X (e :: es) (tWL Z X.K il)) (hn : nm = m.name) (hb : attributeBase o nm X.env (eval o X.env) = eval o X.env) (hl : (apos.endLine == cpos.line) = true)
    (hs : notStar e = true) (hs2 : es.all notStar = true) (hf : es.length < 29) :
    PE X (.Call (.Attribute o nm apos) (e :: es) [] cpos) (tW Z X.K false (.meth m io il)) := by
  refine PE.imp (pe_dyn ho hl' hb hl hs hs2 hf) fun sg H Q ⟨s, c, F, rh, Qm, Em, R, w, ok, x⟩ => ?_
  unfold wpE at w
  refine tW.mk R w x fun d o s1 c1 v H1 F1 rh1 ⟨q0, q1⟩ R1 e1 x1 r1 => ?_
  subst hn
  refine ⟨_, meth_of m r1 q0, ?_⟩
  refine tWL.mk R1 q1 x1 fun ds s2 c2 vs H2 F2 rh2 q2 R2 e2 x2 r2 => ?_
  exact ⟨F2, rh2, c2, ds, _, R2.toCe, r2, q2, fun dd oo vv HH h u => ((ok.step e1).step e2).out R2 u h⟩

/-! methods of a list that a slot owns or a cell holds -/
theorem slotL_at (R : Rl X.K Z.H0 H F rh sh s c) {i : Nat} (h : slotL c (s[i]?)) : ∃ a vs, sh[i]? = some (some (.ref a)) ∧ H a = some (.lst vs) := by
  cases q : s[i]? with
  | none => rw [q] at h; exact h.elim
  | some x =>
    rw [q] at h
    cases x with
    | no => exact h.elim
    | ow d =>
      cases d with
      | lst xs =>
        obtain ⟨a, o, g1, g2, ⟨vs, g3, _⟩, _⟩ := R.own i _ q
        subst g3
        exact ⟨a, vs, g1, g2⟩
      | _ => exact h.elim
    | sh d =>
      cases d with
      | cell n =>
        obtain ⟨xs, hc⟩ := h
        obtain ⟨v, g1, g2⟩ := R.shr i _ q
        cases g2 with
        | cell e =>
          obtain ⟨o, k1, vs, k2, _⟩ := R.ob n _ _ e hc
          subst k2
          exact ⟨_, vs, g1, k1⟩
      | _ => exact h.elim
theorem slot_use (R : Rl X.K Z.H0 H F rh sh s c) {i : Nat} {k : List D → (List D → List Sl × Cl) → Prop} (h : slotW s c i k) :
    ∃ a vs xs g, sh[i]? = some (some (.ref a)) ∧ H a = some (.lst vs) ∧ RepL X.K H F rh vs xs ∧ k xs g ∧ ¬ F a ∧
      ∀ ys ws, RepL X.K H F rh ws ys → Rl X.K Z.H0 (upd H a (.lst ws)) F rh sh (g ys).1 (g ys).2 ∧ Ev H F rh (Owned sh s) (upd H a (.lst ws)) F rh (Owned sh (g ys).1) := by
  unfold slotW at h
  split at h
  · rename_i xs q
    obtain ⟨a, o, g1, g2, ⟨vs, g3, g4⟩, g5, g6⟩ := R.own i _ q
    subst g3
    exact ⟨a, vs, xs, _, g1, g2, g4, h, g5, fun ys ws r => R.mutOwn (d' := .lst ys) q g1 ⟨ws, rfl, r⟩⟩
  · rename_i n q
    obtain ⟨xs, hc, hk⟩ := h
    obtain ⟨v, g1, g2⟩ := R.shr i _ q
    cases g2 with
    | cell e =>
      obtain ⟨o, k1, vs, k2, k3⟩ := R.ob n _ _ e hc
      subst k2
      exact ⟨_, vs, xs, _, g1, k1, k3, hk, R.nf _ (List.mem_of_getElem? e), fun ys ws r => R.mutCell (d' := .lst ys) e hc ⟨ws, rfl, r⟩⟩
  · exact h.elim
theorem drop_last {K : PySem.W.Frag} {vs : List V} {ds : List D} (r : RepL K H F rh vs ds) : RepL K H F rh vs.dropLast ds.dropLast := by
  rw [List.dropLast_eq_take, List.dropLast_eq_take, r.len]
  exact r.take _
/-- the mutating methods, by what stands at the receiver behind the arguments -/
theorem mut_of (m : Mt) {a : Addr} {vs0 : List V} (h0 : H a = some (.lst vs0)) :
    MOf X m.name (.ref a) H (fun vs H' Q => ∃ F' rh' c' ds ws xs Qm, Ce X.K H' F' rh' c' ∧ RepL X.K H' F' rh' vs ds ∧ H' a = some (.lst ws) ∧ RepL X.K H' F' rh' ws xs ∧ mutW m c' xs ds Qm ∧ ∀ r ys z zs, Qm r ys → Rep X.K H' F' rh' z r → RepL X.K H' F' rh' zs ys → Q z (upd H' a (.lst zs))) ∨ ∀ c xs ds Q, ¬ mutW m c xs ds Q := by
  have ty : tyV X.K "list" (.ref a) H := .inl ⟨rfl, vs0, SqL.of h0⟩
  cases m with
  | append =>
    refine .inl ⟨"list", "list.append", _, PySem.F.plainAttrs_list, PySem.F.slot_list_append, PySem.F.type_list_append, mt_append, ty, fun vs H' Q ⟨F', rh', c', ds, ws, xs, Qm, C, R, h1, h2, w, q⟩ => ?_⟩
    match ds, R, w with
    | [d], .cons (v := v) hv .nil, w => exact ⟨a, ws, v, rfl, rfl, h1, by rw [h2.len]; exact w.1, q _ _ _ _ w.2 .non (h2.app (.cons hv .nil))⟩
  | extend =>
    refine .inl ⟨"list", "list.extend", _, PySem.F.plainAttrs_list, PySem.F.slot_list_extend, PySem.F.type_list_extend, mt_extend, ty, fun vs H' Q ⟨F', rh', c', ds, ws, xs, Qm, C, R, h1, h2, w, q⟩ => ?_⟩
    match ds, R, w with
    | [d], .cons (v := v) hv .nil, w =>
      obtain ⟨ys, g1, g2, g3⟩ := w
      obtain ⟨b, zs, rfl, hb, rb⟩ := asL_of C hv g1
      exact ⟨a, b, ws, zs, rfl, rfl, h1, hb, by rw [h2.len, rb.len]; exact g2, q _ _ _ _ g3 .non (h2.app rb)⟩
  | pop =>
    refine .inl ⟨"list", "list.pop", _, PySem.F.plainAttrs_list, PySem.F.slot_list_pop, PySem.F.type_list_pop, MtR.or mt_pop mt_popAt, ty, fun vs H' Q ⟨F', rh', c', ds, ws, xs, Qm, C, R, h1, h2, w, q⟩ => ?_⟩
    match ds, R, w with
    | [], .nil, w =>
      obtain ⟨y, g1, g2⟩ := w
      rw [← h2.len] at g1
      obtain ⟨z, k1, k2⟩ := h2.at g1
      exact .inl ⟨a, ws, z, rfl, rfl, h1, k1, q _ _ _ _ g2 k2 (drop_last h2)⟩
    | [.int i], .cons (v := v) hv .nil, w =>
      obtain ⟨k, y, g0, g1, g2, g3⟩ := w
      cases hv
      obtain ⟨z, k1, k2⟩ := h2.at g2
      exact .inr ⟨a, ws, i, k, z, rfl, rfl, h1, by omega, by omega, by rw [h2.len]; exact g1, k1, q _ _ _ _ g3 k2 (h2.erase k)⟩
  | clear =>
    refine .inl ⟨"list", "list.clear", _, PySem.F.plainAttrs_list, PySem.F.slot_list_clear, PySem.F.type_list_clear, mt_clear, ty, fun vs H' Q ⟨F', rh', c', ds, ws, xs, Qm, C, R, h1, h2, w, q⟩ => ?_⟩
    match ds, R, w with
    | [], .nil, w => exact ⟨a, ws, rfl, rfl, h1, q _ _ _ _ w .non .nil⟩
  | upper => exact .inr fun c xs ds Q h => h
  | join => exact .inr fun c xs ds Q h => h
  | index => exact .inr fun c xs ds Q h => h
theorem snd_methv_core {m : Mt} {i : Nat} {sg : L2.St} {Q : VK} {Qm : QK} {a : Addr} {ds : List D} {vs : List V} {r : List V → Hp → VK → Prop} (R : Rl X.K Z.H0 H F rh sg s c) (ok : OkQ X.K Z.H0 sg H F rh s Qm Q) (ra : RepL X.K H F rh vs ds)
    (w : slotW s c i (fun xs g => mutW m c xs ds fun r ys => Qm r false (g ys).1 (g ys).2)) (hv : sg[i]? = some (some (.ref a)))
    (hr : r = (fun vs H' Q => ∃ F' rh' c' ds ws xs Qm, Ce X.K H' F' rh' c' ∧ RepL X.K H' F' rh' vs ds ∧ H' a = some (.lst ws) ∧ RepL X.K H' F' rh' ws xs ∧ mutW m c' xs ds Qm ∧ ∀ r ys z zs, Qm r ys → Rep X.K H' F' rh' z r → RepL X.K H' F' rh' zs ys → Q z (upd H' a (.lst zs)))) : r vs H Q := by
  subst hr
  obtain ⟨b, ws, xs, g, g1, g2, g3, g4, g5, g6⟩ := slot_use R w
  rw [hv] at g1
  cases g1
  refine ⟨F, rh, c, ds, ws, xs, _, R.toCe, ra, g2, g3, g4, fun rr ys z zs q1 q2 q3 => ?_⟩
  obtain ⟨R2, e2⟩ := g6 ys zs q3
  exact (ok.step e2).shr R2 (q2.ext e2.toExt) q1
theorem snd_methv0 {m : Mt} {i : Nat} {x nm : Str} (hn : nm = m.name) (hN : X.N[i]? = some x) (hv : Vis X.env.scope x) (h1 : (x == ("__debug__" : Str)) = false) (h2 : (x == ("__classdict__" : Str)) = false) (hl : (apos.endLine == cpos.line) = true) :
    PE X (.Call (.Attribute (.Name x p) nm apos) [] [] cpos) (tW Z X.K false (.methv m i .nil)) := by
  refine PE.imp (pe_dyn0 (pe_var hN hv h1 h2) rfl hl) fun sg H Q ⟨s, c, F, rh, Qm, Em, R, w, ok, xk⟩ => ?_
  unfold wpE wpL at w
  obtain ⟨w0, w⟩ := w
  obtain ⟨a, vs0, g1, g2⟩ := slotL_at R w0
  subst hn
  refine ⟨_, g1, ?_⟩
  rcases mut_of (X := X) m g2 with mo | no
  · exact ⟨_, mo, snd_methv_core R ok .nil w g1 rfl⟩
  · obtain ⟨b, ws, xs, g, _, _, _, g4, _⟩ := slot_use R w
    exact (no _ _ _ _ g4).elim
theorem snd_methv {m : Mt} {i : Nat} {x nm : Str} (hl' : PA X (e :: es) (tWL Z X.K il)) (hn : nm = m.name) (hN : X.N[i]? = some x) (hv : Vis X.env.scope x) (h1 : (x == ("__debug__" : Str)) = false) (h2 : (x == ("__classdict__" : Str)) = false) (hl : (apos.endLine == cpos.line) = true)
    (hs : notStar e = true) (hs2 : es.all notStar = true) (hf : es.length < 29) (hm : m = .append ∨ m = .extend ∨ m = .pop ∨ m = .clear) : PE X (.Call (.Attribute (.Name x p) nm apos) (e :: es) [] cpos) (tW Z X.K false (.methv m i il)) := by
  refine PE.imp (pe_dyn (pe_var hN hv h1 h2) hl' rfl hl hs hs2 hf) fun sg H Q ⟨s, c, F, rh, Qm, Em, R, w, ok, xk⟩ => ?_
  unfold wpE at w
  obtain ⟨w0, w⟩ := w
  obtain ⟨a, vs0, g1, g2⟩ := slotL_at R w0
  subst hn
  refine ⟨_, g1, ?_⟩
  have mo := (mut_of (X := X) m g2).resolve_right fun no => by
    rcases hm with rfl | rfl | rfl | rfl
    · exact no c [] [.non] (fun _ _ => True) ⟨by decide, trivial⟩
    · exact no c [] [.lst []] (fun _ _ => True) ⟨[], rfl, by decide, trivial⟩
    · exact no c [.non] [] (fun _ _ => True) ⟨.non, rfl, trivial⟩
    · exact no c [] [] (fun _ _ => True) trivial
  refine ⟨_, mo, ?_⟩
  refine tWL.mk R w xk fun ds s1 c1 vs H1 F1 rh1 q1 R1 e1 x1 r1 => ?_
  exact snd_methv_core R1 (ok.step e1) r1 q1 g1 rfl
end
end Vm

/-! Vm: calls by keywords -/
namespace Vm
open PySem PySem.Spec L2
open PyProof.Rows hiding St
section
variable {X : Cx} {M : Nm} {Z : Sx} {H H1 : Hp} {F F1 : Fz} {rh rh1 : List Addr} {s s1 : List Sl} {c c1 : Cl} {e : Expr} {es : List Expr} {kws : List Keyword} {ia : IE} {il kl : IL} {p pos kpos : Pos} {nm : Option Str} {k : Nat} {f : Addr} {fd : FuncData} {ps ks : List Str} {sp : Sp} {t tk : TA} {E : L2.St → XK} {x : Str} {n : Nat} {g : List Value → List Value → List Value} {gV : List V → List V → List V}
theorem PK.imp {t t' : TA} (h : PK X kws t) (i : ∀ sg H Q, t' sg H Q → t sg H Q) : PK X kws t' := ⟨fun q p s sg H Q I w => h.run q p s sg H Q I (i sg H Q w)⟩
theorem sndK_nil : PK X [] (tWL Z X.K .nil) := PK.imp pk_nil fun sg H Q ⟨s, c, F, rh, Qm, Em, R, w, ok, x⟩ => by
  unfold wpL at w
  exact ok [] s c [] H F rh w R Ev.refl .nil
theorem sndK_cons (ha : PE X e (tW Z X.K false ia)) (hl : PK X kws (tWL Z X.K il)) : PK X (⟨nm, e, kpos⟩ :: kws) (tWL Z X.K (.cons ia il)) := by
  refine PK.imp (pk_cons ha hl) fun sg H Q ⟨s, c, F, rh, Qm, Em, R, w, ok, x⟩ => ?_
  unfold wpL at w
  refine tW.mk R w x fun d o s1 c1 v H1 F1 rh1 q1 R1 e1 x1 r1 => ?_
  exact tWL.mk R1 q1 x1 fun ds s2 c2 vs H2 F2 rh2 q2 R2 e2 x2 r2 => ok (d :: ds) s2 c2 (v :: vs) H2 F2 rh2 q2 R2 (e1.trans e2) (.cons (r1.ext e2.toExt) r2)
theorem runG_kw {pins : List (Addr × Obj)} {sg : L2.St} {H : Hp} {s : Shared} {Q : VK} {us ws : List Value} {vs zs : List V} (G : FnG X.prog X.w X.K X.mg X.base k f fd ps sp) (hr : Room k X.A) (hg : X.A.guards = some []) (hb : KBn X.K fd ps n ks g gV)
    (hx : PassesAt (L2.CX X.prog X.w) X sg (E sg)) (I : Inv X pins sg H s) (r : Vals vs us) (rz : Vals zs ws) (l1 : vs.length = n) (l2 : zs.length = ks.length) (h : sp (gV vs zs) H Q (E sg)) : wpAny (model X.prog X.w) X.A (call (.ref f) us (ks.zip ws)) (EP X pins sg Q) X.xe s := by
  have r2 := hb.rel r rz
  refine wpAny_call (codeAny_mono (G.go X.A X.stack s H ⟨us, ks.zip ws⟩ (g us ws) (gV vs zs) Q (E sg) hr hg I.env0 (hb.to s us ws I.kIn (r.length.symm.trans l1) (rz.length.symm.trans l2)) r2 h) fun r s' hq => ?_)
  match r, hq with
  | .error e, hq => exact hx pins H s e s' I hq
  | .ok (.ret u), hq => exact I.after hq
  | .ok .next, hq => exact hq.elim
  | .ok .brk, hq => exact hq.elim
  | .ok .cont, hq => exact hq.elim
theorem kw_all {pos : Pos} : ∀ {kws : List Keyword} {ks : List Str}, kws.map (·.arg) = ks.map some → (backToKw pos (keywordEach kws X.env)).all (·.1.isSome) = true ∧ (backToKw pos (keywordEach kws X.env)).filterMap (·.1) = ks ∧ (backToKw pos (keywordEach kws X.env)).any (·.1.isNone) = false
  | [], [], _ => ⟨rfl, rfl, rfl⟩
  | [], _ :: _, h => by cases h
  | _ :: _, [], h => by cases h
  | ⟨a, v, q⟩ :: kws, k :: ks, h => by
    have h1 : a = some k := by injection h
    have h2 : kws.map (·.arg) = ks.map some := by injection h
    subst h1
    obtain ⟨g1, g2, g3⟩ := kw_all (pos := pos) h2
    refine ⟨?_, ?_, ?_⟩
    · show (true && (backToKw pos (keywordEach kws X.env)).all (·.1.isSome)) = true
      rw [g1]; rfl
    · show k :: (backToKw pos (keywordEach kws X.env)).filterMap (·.1) = k :: ks
      rw [g2]
    · show (false || (backToKw pos (keywordEach kws X.env)).any (·.1.isNone)) = false
      rw [g3]; rfl
theorem pe_kwG (G : FnG X.prog X.w X.K X.mg X.base k f fd ps sp) (hr : Room k X.A) (hgd : X.A.guards = some []) (hg : Gl X x) (hm : X.mg x = some (.ref f)) (hk : PySem.W.keepIn X.K (.ref f) = true) (hb : KBn X.K fd ps n ks g gV)
    (hx : ∀ sg, PassesAt (L2.CX X.prog X.w) X sg (E sg)) (ha : PA X (e :: es) t) (hkw : PK X kws tk) (hn : kws.map (·.arg) = ks.map some) (hdb : (x == ("__debug__" : Str)) = false) (hs : (e :: es).all notStar = true) :
    PE X (.Call (.Name x p) (e :: es) kws pos) (fun sg H Q => t sg H fun vs H1 => tk sg H1 fun zs H2 => vs.length = n ∧ zs.length = ks.length ∧ sp (gV vs zs) H2 Q (E sg)) := by
  obtain ⟨k1, k2, k3⟩ := kw_all (X := X) (pos := pos) hn
  have pl : (backTo pos (starEach (e :: es) X.env)).any (·.1) = false := star_plain hs
  refine ⟨fun pins s sg H Q I h => wpAny_Call_Name_kw (ld_glob I hg hm ?_ hdb)⟩
  rw [List.all_cons, Bool.and_eq_true] at hs
  refine PySem.W.callWith_KW (h₀ := X.base) I.ok.mod.kin hk k1 (thn (ha.run pos pins s sg H _ I h) fun us s1 ⟨vs, H1, I1, r, q⟩ => ?_) (by rw [pl, k3]; rfl) (star_one hs.1)
  refine thn (hkw.run pos pins s1 sg H1 _ I1 q) fun ws s2 ⟨zs, H2, I2, rz, l1, l2, q2⟩ => ⟨I2.kIn, ?_⟩
  rw [k2]
  exact runG_kw G hr hgd hb (hx sg) I2 r rz l1 l2 q2
theorem pe_kwG0 (G : FnG X.prog X.w X.K X.mg X.base k f fd ps sp) (hr : Room k X.A) (hgd : X.A.guards = some []) (hg : Gl X x) (hm : X.mg x = some (.ref f)) (hk : PySem.W.keepIn X.K (.ref f) = true) (hb : KBn X.K fd ps n ks g gV)
    (hx : ∀ sg, PassesAt (L2.CX X.prog X.w) X sg (E sg)) (hkw : PK X kws tk) (hn : kws.map (·.arg) = ks.map some) (hdb : (x == ("__debug__" : Str)) = false) :
    PE X (.Call (.Name x p) [] kws pos) (fun sg H Q => tk sg H fun zs H2 => ([] : List V).length = n ∧ zs.length = ks.length ∧ sp (gV [] zs) H2 Q (E sg)) := by
  obtain ⟨k1, k2, k3⟩ := kw_all (X := X) (pos := pos) hn
  refine ⟨fun pins s sg H Q I h => wpAny_Call_Name_kw (ld_glob I hg hm ?_ hdb)⟩
  refine PySem.W.callWith_KW0 (h₀ := X.base) I.ok.mod.kin hk k1 ?_ (by rw [k3]; rfl)
  refine thn (hkw.run pos pins s sg H _ I h) fun ws s2 ⟨zs, H2, I2, rz, l1, l2, q2⟩ => ⟨I2.kIn, ?_⟩
  rw [k2]
  exact runG_kw G hr hgd hb (hx sg) I2 .nil rz l1 l2 q2
theorem repL_arr {K : PySem.W.Frag} (ks : List Nat) {vs : List V} {ds : List D} (r : RepL K H F rh vs ds) : RepL K H F rh (arr ks vs) (arr ks ds) := by
  unfold arr
  generalize List.range ks.length = l
  induction l with
  | nil => exact .nil
  | cons j l ih =>
    cases q : ds[ks.idxOf j]? with
    | none =>
      have q2 : vs[ks.idxOf j]? = none := by
        rw [List.getElem?_eq_none_iff] at q ⊢
        rw [r.len]; exact q
      simp only [List.filterMap_cons, q, q2]; exact ih
    | some d =>
      obtain ⟨v, g1, g2⟩ := r.at q
      simp only [List.filterMap_cons, q, g1]; exact .cons g2 ih
theorem snd_kcall {f : Nat} {ks : List Nat} {fx : Str} (G : GOk X M Z) (hl : PA X es (tWL Z X.K il)) (hk : PK X kws (tWL Z X.K kl)) (hs : es.all notStar = true) (hg : Gl X fx) (hx : M.fn f = fx) (h1 : (fx == ("__debug__" : Str)) = false) (hn : kws.map (·.arg) = (kwN (M.ps f) n ks).map some) (h0 : es = [] → il = .nil) :
    PE X (.Call (.Name fx p) es kws pos) (tW Z X.K false (.kcall f n il ks kl)) := by
  refine ⟨fun pins st sg H Q I ⟨s, c, F, rh, Qm, Em, R, w, ok, x⟩ => ?_⟩
  unfold wpE at w
  obtain ⟨a, fd, k, g1, g2, g3, g4, g5, g6⟩ := (G.fn f w.1).ex
  rw [hx] at g1
  have hb := g6 n ks w.2.1
  have lk : (kwN (M.ps f) n ks).length = ks.length := by unfold kwN; rw [List.length_map]
  have w := w.2.2
  cases es with
  | nil =>
    have e0 := h0 rfl
    subst e0
    unfold wpL at w
    refine (pe_kwG0 (E := WE Z.W) g4 g5 G.gd hg g1 g2 hb (fun sg => passAt G.tk sg) hk hn h1).run pins st sg H Q I ?_
    refine tWL.mk R w x fun ds s1 c1 vs H1 F1 rh1 q1 R1 e1 x1 r1 => ?_
    refine ⟨q1.1, by rw [r1.len, lk]; exact q1.2.1, ?_⟩
    exact call_use R1 (RepL.app .nil (repL_arr ks r1)) q1.2.2 (ok.step e1) x1
  | cons e es =>
    refine (pe_kwG (E := WE Z.W) g4 g5 G.gd hg g1 g2 hb (fun sg => passAt G.tk sg) hl hk hn h1 hs).run pins st sg H Q I ?_
    refine tWL.mk R w x fun ds s1 c1 vs H1 F1 rh1 q1 R1 e1 x1 r1 => ?_
    refine tWL.mk R1 q1 x1 fun ds2 s2 c2 vs2 H2 F2 rh2 q2 R2 e2 x2 r2 => ?_
    refine ⟨by rw [r1.len]; exact q2.1, by rw [r2.len, lk]; exact q2.2.1, ?_⟩
    exact call_use R2 ((r1.ext e2.toExt).app (repL_arr ks r2)) q2.2.2 ((ok.step e1).step e2) x2
end
end Vm

/-! Vm: what loops and comprehensions walk -/
namespace Vm
open PySem PySem.Spec L2
open PyProof.Rows hiding St
/-- the pairs (i, sign) of a text -/
def ItEs (z : Str) : It := ⟨fun i _ => i < z.cps.size, fun i H v H' => ∃ T ch, v = .ref T ∧ H T = none ∧ H' = upd H T (.tup [.int (i : Nat), .str ⟨#[ch]⟩]) ∧ z.cps[i]? = some ch, fun i _ => i = z.cps.size⟩
section
variable {X : Cx} {pins : List (Addr × Obj)} {sg : L2.St} {H : Hp} {s : Shared}
/-- iterators' own cells have turned -/
theorem _root_.L2.Inv.steps {h' : Heap} {tk : Nat} {ch : List Addr} (I : Inv X pins sg H s) (hf : ∀ b ∈ ch, FpOk X pins H b) (kk' : ∀ b o, b ∉ ch → s.heap.get? b = some o → h'.get? b = some o) : Inv X pins sg H { s with heap := h', toks := tk } :=
  I.step (g' := s.gens) (d' := s.drawn) (ch := ch) (fun b hb => ⟨(hf b hb).2.2.2.1, (hf b hb).2.1, (hf b hb).2.2.2.2.1, (hf b hb).2.2.2.2.2⟩) (fun b o _ _ hc e' _ => kk' b o hc e') (fun b o _ _ hc e' _ => ⟨o.slots, kk' b o hc e'⟩) (fun _ _ _ _ n => n)
    (fun b o hc e' => ⟨o, kk' b o hc e'⟩) (fun _ _ q => q) (fun _ _ _ q => q) (fun b ps q => ⟨#[], by rw [q]; simp⟩) (fun m hm => (by
      obtain ⟨o, es, ep, ho, r⟩ := hm
      exact ⟨o, es, ep, kk' _ o (fun z => (hf _ z).2.1 rfl) ho, r⟩)) (fun b u q => (I.hok b u q).stay (fun cc v hc q2 => kk' cc v (fun z => by
        have n0 := (hf cc z).1
        rcases hc with r | r
        · subst r; rw [n0] at q; cases q
        · rw [n0] at r; cases r) q2) (fun _ q => q) fun _ _ q => q) I.bare
theorem goesN_item {elts : List Expr} {kk : Nat} {tpos : Pos} {I0 : Addr} {fp wr : List Addr} {n i : Nat} {PA PB : Nat → Value → Prop} {St : Nat → Heap → Prop} {E : Value → Shared → Prop} {G : V → V → Prop}
    (W : GoesN X.prog X.w X.A (.Tuple elts kk tpos) I0 fp wr n (fun i h0 v h => ∃ T a b, v = .ref T ∧ h0.objs.size ≤ T ∧ PA i a ∧ PB i b ∧ h.IsTuple T #[a, b]) St) (I : Inv X pins sg H s) (hf : ∀ b ∈ wr, FpOk X pins H b) (st : St i s.heap) (hi : i < n)
    (rel : ∀ a b, PA i a → PB i b → ∃ x y, L2.RelV x a ∧ L2.RelV y b ∧ G x y) :
    wpAny (model X.prog X.w) X.A (pyNext (.ref I0)) (fun r s1 => ∃ u, r = some u ∧ wpAny (model X.prog X.w) X.A (letOwnedTupleGo (.Tuple elts kk tpos) (.ref I0) u)
      (fun _ s2 => ∃ T x y, Inv X pins sg (upd H T (.tup [x, y])) s2 ∧ u = .ref T ∧ s.heap.objs.size ≤ T ∧ G x y ∧ St (i + 1) s2.heap) E s1) E s := by
  refine W.goes i s (fun v s2 => ∃ T x y, Inv X pins sg (upd H T (.tup [x, y])) s2 ∧ v = .ref T ∧ s.heap.objs.size ≤ T ∧ G x y ∧ St (i + 1) s2.heap) E hi st ?_
  rintro v h' tk ⟨T, a, b, rfl, hT, pa, pb, o, ho, hc, nn, hd⟩ st' hk htk
  obtain ⟨x, y, rx, ry, g⟩ := rel a b pa pb
  refine ⟨T, x, y, I.turnedNew (ch := wr) (fun c ob hc' q => hk c ob hc' q) hf hT ?_, rfl, hT, g, st'⟩
  exact ⟨by show 2 ≤ sizeLine; decide, [a, b], .cons rx (.cons ry .nil), ⟨o, ho, hc, nn, by simpa using hd⟩⟩
theorem turn_es {P : Program} {w : World} {K : PySem.W.Frag} {elts : List Expr} {kk : Nat} {tpos : Pos} (z : Str) (t : Tok) (e it : Addr) :
    Turn P w K (.Tuple elts kk tpos) (ItEs z) [e, it] e (fun i h => (∃ old, IsEnum h e it ((i : Nat) : Int) old) ∧ h.IsStrIter it (strIterType z) z t i ∧ e ≠ it) where
  mem := List.mem_cons_self
  obj := fun i h ⟨⟨old, h1⟩, ⟨o, g1, g2, g3⟩, _⟩ b hb => by
    rcases List.mem_cons.mp hb with r | r
    · subst r; exact ⟨_, h1, fun v q => nomatch q⟩
    · have r' : b = it := by simpa using r
      subst r'; exact ⟨o, g1, fun v q => by rw [g3] at q; cases q⟩
  keep := fun i h h' ⟨⟨old, h1⟩, ⟨o, g1, g2⟩, ne⟩ k => ⟨⟨old, k e List.mem_cons_self _ h1⟩, ⟨o, k it (List.mem_cons_of_mem _ List.mem_cons_self) _ g1, g2⟩, ne⟩
  item := by
    intro X hP hw hK hc i pins s sg H E I hf st hg
    subst hP hw hK
    obtain ⟨⟨old, h1⟩, h2, ne⟩ := st
    have D : Draws X.prog X.w X.A.in1 it [it] z.cps.size (fun i v => ∃ c u, z.cps[i]? = some c ∧ v = .str ⟨#[c]⟩ u) (fun i h => h.IsStrIter it (strIterType z) z t i) := Draws.text (A := X.A.in1) (show X.A.in1.handled = none from I.ok.hd hc) it z t
    have W := (GoesN.enumFrom (prog := X.prog) (w := X.w) (A := X.A) (elts := elts) (x1 := kk) (pos := tpos) 0 D e ne (by simpa using ne) List.mem_cons_self).mono
      (Y' := fun i h0 v h => ∃ T a b, v = .ref T ∧ h0.objs.size ≤ T ∧ (∃ t, a = .int ((i : Nat) : Int) t) ∧ (∃ c u, z.cps[i]? = some c ∧ b = .str ⟨#[c]⟩ u) ∧ h.IsTuple T #[a, b])
      (fun i h0 v h _ ⟨T, tt, x, q1, q2, q3, q4⟩ => ⟨T, .int (0 + (i : Int)) tt, x, q1, q2, ⟨tt, by rw [Int.zero_add]⟩, q3, q4⟩)
    have le : e < s.heap.objs.size := Heap.lt_size h1
    have li : it < s.heap.objs.size := by obtain ⟨_, q, _⟩ := h2; exact Heap.lt_size q
    refine thn (goesN_item (G := fun x y => x = .int (i : Nat) ∧ ∃ c, z.cps[i]? = some c ∧ y = .str ⟨#[c]⟩) W I hf ⟨⟨old, by rw [Int.zero_add]; exact h1⟩, h2⟩ hg ?_) fun r s1 ⟨u, hu, q⟩ => ⟨u, hu, thn q fun _ s2 ⟨T, x, y, I2, e1, hT, ⟨ex, c, ec, ey⟩, ⟨old', k1⟩, k2⟩ => ?_⟩
    · rintro a b ⟨t', rfl⟩ ⟨c, u, hc', rfl⟩
      exact ⟨.int (i : Nat), .str ⟨#[c]⟩, ⟨t', rfl⟩, ⟨u, rfl⟩, rfl, c, hc', rfl⟩
    · subst ex; subst ey
      refine ⟨.ref T, _, I2, by rw [e1]; rfl, ⟨T, c, rfl, I.hok.fresh hT, rfl, ec⟩, ⟨⟨old', by rw [Int.zero_add] at k1; exact k1⟩, k2, ne⟩, fun b hb => ?_⟩
      have lb : b < s.heap.objs.size := by
        rcases List.mem_cons.mp hb with r | r
        · subst r; exact le
        · have r' : b = it := by simpa using r
          subst r'; exact li
      rw [upd_ne (Nat.ne_of_lt (Nat.lt_of_lt_of_le lb hT))]
      exact (hf b hb).1
  done := by
    intro X hP hw hK hc i pins s sg H E I hf st hg
    subst hP hw hK
    obtain ⟨⟨old, h1⟩, h2, ne⟩ := st
    have D : Draws X.prog X.w X.A.in1 it [it] z.cps.size (fun i v => ∃ c u, z.cps[i]? = some c ∧ v = .str ⟨#[c]⟩ u) (fun i h => h.IsStrIter it (strIterType z) z t i) := Draws.text (A := X.A.in1) (show X.A.in1.handled = none from I.ok.hd hc) it z t
    have W := GoesN.enumFrom (prog := X.prog) (w := X.w) (A := X.A) (elts := elts) (x1 := kk) (pos := tpos) 0 D e ne (by simpa using ne) List.mem_cons_self
    have hn : i = z.cps.size := hg
    subst hn
    refine W.stops s (fun s1 => Inv X pins sg H s1) E ⟨⟨old, by rw [Int.zero_add]; exact h1⟩, h2⟩ fun h' tk hk _ => ?_
    exact I.steps (ch := [e, it]) hf hk
  self := fun A i s Q E ⟨⟨_, h1⟩, _⟩ h => wpAny_pyIter_enum h1 h
/-- enumerate(v), v anything whose iteration begins: its two new cells -/
theorem meets_enum1 {v : Value} {ob : Obj} {G : Heap → Prop} (B : Begins v ob G) :
    Meets (Builtin.«enumerate.__new__» ⟨[.type "enumerate", v], []⟩) (fun _ R st => G st.heap ∧
      R (.ok (.ret (.ref (st.heap.push ob).objs.size))) { st with heap := (st.heap.push ob).push { cls := .type "enumerate", data := .fields #[.none, .bool false, .ref st.heap.objs.size, rawInt 0, .none, .none] } }) :=
  .of_wp fun prog w A R st hh => by
    obtain ⟨hp, gs, dr, tk, os⟩ := st
    obtain ⟨hG, hh⟩ := hh
    have hsub := sub_enumerate
    have it1 : ∀ {A2 : Around} {E2 : Value → Shared → Prop} {Q2 : Value → Shared → Prop}, Q2 (.ref hp.objs.size) ⟨hp.push ob, gs, dr, tk, os⟩ → wpAny (model prog w) A2 (pyIter v) Q2 E2 ⟨hp, gs, dr, tk, os⟩ :=
      fun z => B.iter prog w _ _ ⟨hp, gs, dr, tk, os⟩ _ hG z
    wp_walk using it1
    refine wpAny_stack_any fun stk => wpAny_pure ?_
    split
    · rename_i cc _ _ _ _ _
      cases (cc == Value.type "enumerate") <;> (wp_walk using it1; exact ⟨_, rfl, hh⟩)
    · wp_walk using it1
      exact ⟨_, rfl, hh⟩
theorem call_enum1 {prog : Program} {w : World} {A : Around} {E : Value → Shared → Prop} {st : Shared} {v : Value} {ob : Obj} {G : Heap → Prop} {Q : Value → Shared → Prop} (B : Begins v ob G) (hG : G st.heap)
    (h : ∀ h', IsEnum h' (st.heap.objs.size + 1) st.heap.objs.size 0 .none → h'.get? st.heap.objs.size = some ob → (∀ b o, st.heap.get? b = some o → h'.get? b = some o) → Q (.ref (st.heap.objs.size + 1)) { st with heap := h' }) :
    wpAny (model prog w) A (call (.type "enumerate") [v]) Q E st := by
  refine callType_new PySem.F.called_enumerate (by decide) (PySem.F.typeCall_enumerate_1 _) (PySem.F.newCall_enumerate_1 _) (fun obj => PySem.F.args_object_init_2 obj _) PySem.F.entry_enumerate_new (meets_enum1 B) ⟨hG, ?_⟩
  have e1 : (st.heap.push ob).objs.size = st.heap.objs.size + 1 := Heap.size_push ..
  show _ ∧ _
  rw [e1]
  have g : IsEnum ((st.heap.push ob).push { cls := .type "enumerate", data := .fields #[.none, .bool false, .ref st.heap.objs.size, rawInt 0, .none, .none] }) (st.heap.objs.size + 1) st.heap.objs.size 0 .none := by
    have g2 := Heap.get?_push_size (st.heap.push ob) (o := { cls := .type "enumerate", data := .fields #[.none, .bool false, .ref st.heap.objs.size, rawInt 0, .none, .none] }) rfl
    rw [e1] at g2
    exact g2
  exact ⟨⟨_, g, rfl⟩, h _ g (Heap.get?_push_of_some _ (Heap.get?_push_size _ B.free)) fun b o z => Heap.get?_push_of_some _ (Heap.get?_push_of_some _ z)⟩
/-- the pairs (i, item) of a tuple -/
def ItEt (K : PySem.W.Frag) (a : Addr) : It := ⟨fun i H => ∃ vs x, SqT K H a vs ∧ vs[i]? = some x, fun i H v H' => ∃ T x, v = .ref T ∧ H T = none ∧ H' = upd H T (.tup [.int (i : Nat), x]) ∧ ∀ vs, SqT K H a vs → vs[i]? = some x, fun i H => ∃ vs, SqT K H a vs ∧ i = vs.length⟩
theorem turn_et {P : Program} {w : World} {K : PySem.W.Frag} {elts : List Expr} {kk : Nat} {tpos : Pos} (a e it : Addr) (hai : a ≠ it) (hae : a ≠ e) :
    Turn P w K (.Tuple elts kk tpos) (ItEt K a) [e, it] e (fun i h => (∃ old, IsEnum h e it ((i : Nat) : Int) old) ∧ h.IsTupleIter it a i ∧ e ≠ it) where
  mem := List.mem_cons_self
  obj := fun i h ⟨⟨old, h1⟩, ⟨o, g1, g2, g3⟩, _⟩ b hb => by
    rcases List.mem_cons.mp hb with r | r
    · subst r; exact ⟨_, h1, fun v q => nomatch q⟩
    · have r' : b = it := by simpa using r
      subst r'; exact ⟨o, g1, fun v q => by rw [g3] at q; cases q⟩
  keep := fun i h h' ⟨⟨old, h1⟩, h2, ne⟩ k => ⟨⟨old, k e List.mem_cons_self _ h1⟩, h2.at fun o z => k it (List.mem_cons_of_mem _ List.mem_cons_self) o z, ne⟩
  item := by
    intro X hP hw hK hc i pins s sg H E I hf st hg
    subst hP hw hK
    obtain ⟨⟨old, h1⟩, h2, ne⟩ := st
    obtain ⟨vs, x0, hq, hx⟩ := hg
    obtain ⟨its, rv, pt, _⟩ := I.tuple hq
    have hT : s.heap.IsTuple a its.toArray := pt
    obtain ⟨u0, hu0, ru0⟩ := rv.get hx
    have D := Draws.tuple (prog := X.prog) (w := X.w) (A := X.A.in1) (show X.A.in1.handled = none from I.ok.hd hc) it a hai its.toArray
    have W := (GoesN.enumFrom (prog := X.prog) (w := X.w) (A := X.A) (elts := elts) (x1 := kk) (pos := tpos) 0 D e ne (by simp; exact ⟨ne, fun z => hae z.symm⟩) List.mem_cons_self).mono
      (Y' := fun i h0 v h => ∃ T a b, v = .ref T ∧ h0.objs.size ≤ T ∧ (∃ t, a = .int ((i : Nat) : Int) t) ∧ its.toArray[i]? = some b ∧ h.IsTuple T #[a, b])
      (fun i h0 v h _ ⟨T, tt, x, q1, q2, q3, q4⟩ => ⟨T, .int (0 + (i : Int)) tt, x, q1, q2, ⟨tt, by rw [Int.zero_add]⟩, q3, q4⟩)
    have le : e < s.heap.objs.size := Heap.lt_size h1
    have li : it < s.heap.objs.size := by obtain ⟨_, q, _⟩ := h2; exact Heap.lt_size q
    have hi : i < its.toArray.size := by
      obtain ⟨z, _⟩ := List.getElem?_eq_some_iff.mp hu0
      simpa using z
    refine thn (goesN_item (G := fun x y => x = .int (i : Nat) ∧ y = x0) W I hf ⟨⟨old, by rw [Int.zero_add]; exact h1⟩, h2, hT⟩ hi ?_) fun r s1 ⟨u, hu, q⟩ => ⟨u, hu, thn q fun _ s2 ⟨T, x, y, I2, e1, hT', ⟨ex, ey⟩, ⟨old', k1⟩, k2, k3⟩ => ?_⟩
    · rintro a' b ⟨t', rfl⟩ hb
      have hb' : its[i]? = some b := by simpa using hb
      rw [hu0] at hb'
      cases hb'
      exact ⟨.int (i : Nat), x0, ⟨t', rfl⟩, ru0, rfl, rfl⟩
    · subst ex; subst ey
      refine ⟨.ref T, _, I2, by rw [e1]; rfl, ⟨T, y, rfl, I.hok.fresh hT', rfl, fun ws hw => by rw [I.tuple_inj hw hq]; exact hx⟩, ⟨⟨old', by rw [Int.zero_add] at k1; exact k1⟩, k2, ne⟩, fun b hb => ?_⟩
      have lb : b < s.heap.objs.size := by
        rcases List.mem_cons.mp hb with r | r
        · subst r; exact le
        · have r' : b = it := by simpa using r
          subst r'; exact li
      rw [upd_ne (Nat.ne_of_lt (Nat.lt_of_lt_of_le lb hT'))]
      exact (hf b hb).1
  done := by
    intro X hP hw hK hc i pins s sg H E I hf st hg
    subst hP hw hK
    obtain ⟨⟨old, h1⟩, h2, ne⟩ := st
    obtain ⟨vs, hq, hn⟩ := hg
    obtain ⟨its, rv, pt, _⟩ := I.tuple hq
    have hT : s.heap.IsTuple a its.toArray := pt
    have D := Draws.tuple (prog := X.prog) (w := X.w) (A := X.A.in1) (show X.A.in1.handled = none from I.ok.hd hc) it a hai its.toArray
    have W := GoesN.enumFrom (prog := X.prog) (w := X.w) (A := X.A) (elts := elts) (x1 := kk) (pos := tpos) 0 D e ne (by simp; exact ⟨ne, fun z => hae z.symm⟩) List.mem_cons_self
    have hn' : i = its.toArray.size := by rw [hn, rv.length]; simp
    subst hn'
    refine W.stops s (fun s1 => Inv X pins sg H s1) E ⟨⟨old, by rw [Int.zero_add]; exact h1⟩, h2, hT⟩ fun h' tk hk _ => ?_
    exact I.steps (ch := [e, it]) hf hk
  self := fun A i s Q E ⟨⟨_, h1⟩, _⟩ h => wpAny_pyIter_enum h1 h
end
end Vm

/-! Vm: sources of loops, soundness -/
namespace Vm
open PySem PySem.Spec L2
open PyProof.Rows hiding St
structure WalkD (K : PySem.W.Frag) (J : It) (xs : List D) (g : Cl → Prop) (Hs : Hp) (Fs : Fz) (rs : List Addr) : Prop where
  go : ∀ i H F rh c, i < xs.length → Ext Hs Fs rs H F rh → Ce K H F rh c → g c → J.go i H
  stop : ∀ H F rh c, Ext Hs Fs rs H F rh → Ce K H F rh c → g c → J.stop xs.length H
  yld : ∀ i H F rh c x H', i < xs.length → Ext Hs Fs rs H F rh → Ce K H F rh c → g c → J.yld i H x H' → ∃ d, xs[i]? = some d ∧ Out K H F rh x H' d false
/-- where a list, a tuple or a text is read while its guard holds -/
inductive Src (K : PySem.W.Frag) (H : Hp) (F : Fz) (rh : List Addr) : V → List D → (Cl → Prop) → Prop where
  | lst {a : Addr} {xs : List D} {g : Cl → Prop} : (∀ H' F' rh' c, Ext H F rh H' F' rh' → Ce K H' F' rh' c → g c → ∃ vs, SqL K H' a vs ∧ RepL K H' F' rh' vs xs) → Src K H F rh (.ref a) xs g
  | tup {a : Addr} {xs : List D} {g : Cl → Prop} : (∀ H' F' rh' c, Ext H F rh H' F' rh' → Ce K H' F' rh' c → g c → ∃ vs, SqT K H' a vs ∧ RepL K H' F' rh' vs xs) → Src K H F rh (.ref a) xs g
  | str {z : Str} {g : Cl → Prop} : Src K H F rh (.str z) (signs z) g
theorem signs_at {z : Str} {i : Nat} {ch : Nat} (h : z.cps[i]? = some ch) : (signs z)[i]? = some (D.str ⟨#[ch]⟩) := by
  unfold signs
  rw [List.getElem?_map, Array.getElem?_toList, h]; rfl
theorem signs_len (z : Str) : (signs z).length = z.cps.size := by unfold signs; simp
theorem src_of {K : PySem.W.Frag} {H : Hp} {F : Fz} {rh : List Addr} {c : Cl} {v : V} {d : D} {k : List D → (Cl → Prop) → Prop} (C : Ce K H F rh c) (r : Rep K H F rh v d) (w : itemsW c d k) : ∃ xs g, k xs g ∧ g c ∧ Src K H F rh v xs g := by
  cases r with
  | str => exact ⟨_, _, w, trivial, .str⟩
  | tup hf r => exact ⟨_, _, w, trivial, .tup fun H' F' rh' c' e _ _ => ⟨_, (hf.ext e).sq, r.ext e⟩⟩
  | lst hf r => exact ⟨_, _, w, trivial, .lst fun H' F' rh' c' e _ _ => ⟨_, (hf.ext e).sq, r.ext e⟩⟩
  | scr hf r => exact ⟨_, _, w, trivial, .lst fun H' F' rh' c' e _ _ => ⟨_, (hf.ext e).sq, r.ext e⟩⟩
  | @cell n a e =>
    obtain ⟨xs, h1, h2⟩ := w
    refine ⟨xs, _, h2, h1, .lst fun H' F' rh' c' ex C' g => ?_⟩
    obtain ⟨o, k1, vs, k2, k3⟩ := C'.ob n a _ (ex.cel n a e) g
    subst k2
    exact ⟨vs, SqL.of k1, k3⟩
  | _ => exact w.elim
theorem list_det {K : PySem.W.Frag} {H : Hp} {a : Addr} {vs ws : List V} {i : Nat} {x : V} (h : SqL K H a vs) (q : ∀ xs, SqL K H a xs → xs[i]? = some x) : vs[i]? = some x := q vs h
/-- a for (or a comprehension) over the value itself -/
theorem walk_val {K : PySem.W.Frag} {H : Hp} {F : Fz} {rh : List Addr} {xs : List D} {g : Cl → Prop} :
    (∀ {a}, Src K H F rh (.ref a) xs g → (WalkD K (Itl K a) xs g H F rh ∧ ∀ c, Ce K H F rh c → g c → ∃ vs, SqL K H a vs) ∨ (WalkD K (Itt K a) xs g H F rh ∧ ∀ c, Ce K H F rh c → g c → ∃ vs, SqT K H a vs)) ∧ ∀ {z}, Src K H F rh (.str z) xs g → WalkD K (Its z) xs g H F rh := by
  constructor
  · intro a s
    cases s with
    | lst f =>
      refine .inl ⟨⟨fun i H' F' rh' c hi e C h => ?_, fun H' F' rh' c e C h => ?_, fun i H' F' rh' c x H2 hi e C h y => ?_⟩, fun c C h => ?_⟩
      · obtain ⟨vs, k1, k2⟩ := f H' F' rh' c e C h
        have hl : i < vs.length := by rw [k2.len]; exact hi
        exact walk_list.goes i H' hl k1
      · obtain ⟨vs, k1, k2⟩ := f H' F' rh' c e C h
        rw [← k2.len]
        exact walk_list.stops H' k1
      · obtain ⟨vs, k1, k2⟩ := f H' F' rh' c e C h
        have hl : i < vs.length := by rw [k2.len]; exact hi
        obtain ⟨y1, y2⟩ := walk_list.yields i H' x H2 hl k1 y
        subst y1
        obtain ⟨d, d1, d2⟩ := k2.atV y2
        exact ⟨d, d1, .old d2⟩
      · obtain ⟨vs, k1, _⟩ := f H F rh c Ext.refl C h
        exact ⟨vs, k1⟩
    | tup f =>
      refine .inr ⟨⟨fun i H' F' rh' c hi e C h => ?_, fun H' F' rh' c e C h => ?_, fun i H' F' rh' c x H2 hi e C h y => ?_⟩, fun c C h => ?_⟩
      · obtain ⟨vs, k1, k2⟩ := f H' F' rh' c e C h
        have hl : i < vs.length := by rw [k2.len]; exact hi
        exact walk_tup.goes i H' hl k1
      · obtain ⟨vs, k1, k2⟩ := f H' F' rh' c e C h
        rw [← k2.len]
        exact walk_tup.stops H' k1
      · obtain ⟨vs, k1, k2⟩ := f H' F' rh' c e C h
        have hl : i < vs.length := by rw [k2.len]; exact hi
        obtain ⟨y1, y2⟩ := walk_tup.yields i H' x H2 hl k1 y
        subst y1
        obtain ⟨d, d1, d2⟩ := k2.atV y2
        exact ⟨d, d1, .old d2⟩
      · obtain ⟨vs, k1, _⟩ := f H F rh c Ext.refl C h
        exact ⟨vs, k1⟩
  · intro z s
    cases s
    refine ⟨fun i H' F' rh' c hi e C h => ?_, fun H' F' rh' c e C h => ?_, fun i H' F' rh' c x H2 hi e C h y => ?_⟩
    · rw [signs_len] at hi; exact walk_str.goes i H' hi trivial
    · rw [signs_len]; exact walk_str.stops H' trivial
    · rw [signs_len] at hi
      obtain ⟨y1, ch, y2, y3⟩ := walk_str.yields i H' x H2 hi trivial y
      subst y1; subst y3
      exact ⟨_, signs_at y2, .old .str⟩
def tWI (Z : Sx) (K : PySem.W.Frag) (src : IT) : TI := fun sh H R => ∃ s c F rh km Em, Rl K Z.H0 H F rh sh s c ∧ wpI Z.C src s c km Em ∧
  (∀ xs g s' c' J H' F' rh', km xs g s' c' → g c' → Rl K Z.H0 H' F' rh' sh s' c' → Ev H F rh (Owned sh s) H' F' rh' (Owned sh s') → OkX Z K sh H' F' rh' s' Em → WalkD K J xs g H' F' rh' → R J H') ∧ OkX Z K sh H F rh s Em
theorem PI.imp {X : Cx} {tg it : Expr} {t t' : TI} (h : PI X tg it t) (i : ∀ sg H Q, t' sg H Q → t sg H Q) : PI X tg it t' := ⟨fun p s sg H Q I w => h.run p s sg H Q I (i sg H Q w)⟩
section
variable {X : Cx} {M : Nm} {Z : Sx} {tg e e2 : Expr} {es : List Expr} {ie ib : IE} {il : IL} {p pos tpos : Pos} {elts : List Expr} {kk : Nat}
/-- iter(value), whatever kind of sequence -/
theorem pi_dyn {te : TE} (he : PE X e te) : PI X tg e (fun sg H R => te sg H fun x H1 => (∃ a, x = .ref a ∧ (∃ vs, SqL X.K H1 a vs) ∧ R (Itl X.K a) H1) ∨ (∃ a, x = .ref a ∧ (∃ vs, SqT X.K H1 a vs) ∧ R (Itt X.K a) H1) ∨ ∃ z, x = .str z ∧ R (Its z) H1) := by
  refine ⟨fun pins s sg H R I h => thn (he.run pins s sg H _ I h) fun v s1 ⟨x, H1, I1, r1, q⟩ => ?_⟩
  rcases q with ⟨a, ex, ⟨vs, hq⟩, q⟩ | ⟨a, ex, ⟨vs, hq⟩, q⟩ | ⟨z, ex, q⟩
  · subst ex
    cases (show v = Value.ref a from r1)
    obtain ⟨its, _, pl, _⟩ := I1.list hq
    exact wpAny_pyIter_list pl.isList (pi_one (tk := s1.toks) I1 _ (turn_list a _) ⟨_, Heap.get?_push_size _ rfl, rfl, rfl⟩ q)
  · subst ex
    cases (show v = Value.ref a from r1)
    obtain ⟨its, _, pt, _⟩ := I1.tuple hq
    exact wpAny_pyIter_tuple (show s1.heap.IsTuple a its.toArray from pt) (pi_one (tk := s1.toks) I1 _ (turn_tuple a _) ⟨_, Heap.get?_push_size _ rfl, rfl, rfl⟩ q)
  · subst ex
    obtain ⟨t, rfl⟩ := (show ∃ t, v = Value.str z t from r1)
    cases ha : z.cps.all (· < 128) with
    | false => exact wpAny_pyIter_wide ha (pi_one (tk := s1.toks) I1 _ (turn_str _ z t "str_iterator" (.inr rfl)) ⟨_, Heap.get?_push_size _ rfl, rfl, rfl⟩ q)
    | true => exact wpAny_pyIter_ascii ha (pi_one (tk := s1.toks) I1 _ (turn_str _ z t "str_ascii_iterator" (.inl rfl)) ⟨_, Heap.get?_push_size _ rfl, rfl, rfl⟩ q)
theorem sndI_val (he : PE X e (tW Z X.K false ie)) : PI X tg e (tWI Z X.K (.val ie)) := by
  refine PI.imp (pi_dyn he) fun sg H R ⟨s, c, F, rh, km, Em, Rr, w, ok, x⟩ => ?_
  unfold wpI at w
  refine tW.mk Rr w x fun d o s1 c1 v H1 F1 rh1 q1 R1 e1 x1 r1 => ?_
  obtain ⟨xs, g, k1, k2, sr⟩ := src_of R1.toCe r1 q1
  cases v with
  | ref a =>
    rcases walk_val.1 sr with ⟨wd, t⟩ | ⟨wd, t⟩
    · exact .inl ⟨a, rfl, t c1 R1.toCe k2, ok xs g s1 c1 _ H1 F1 rh1 k1 k2 R1 e1 x1 wd⟩
    · exact .inr (.inl ⟨a, rfl, t c1 R1.toCe k2, ok xs g s1 c1 _ H1 F1 rh1 k1 k2 R1 e1 x1 wd⟩)
  | str z => exact .inr (.inr ⟨z, rfl, ok xs g s1 c1 _ H1 F1 rh1 k1 k2 R1 e1 x1 (walk_val.2 sr)⟩)
  | _ => cases sr
theorem walk_rangeD {K : PySem.W.Frag} {H : Hp} {F : Fz} {rh : List Addr} {lo : Int} {n : Nat} : WalkD K (Itr lo n) (rangeD lo n) (fun _ => True) H F rh := by
  have hl : (rangeD lo n).length = n := by unfold rangeD; simp
  refine ⟨fun i H' F' rh' c hi e C h => ?_, fun H' F' rh' c e C h => ?_, fun i H' F' rh' c x H2 hi e C h y => ?_⟩
  · rw [hl] at hi; exact hi
  · rw [hl]; exact Nat.le_refl n
  · rw [hl] at hi
    obtain ⟨y1, y2⟩ := y
    subst y1; subst y2
    exact ⟨.int (lo + (i : Nat)), by unfold rangeD; rw [List.getElem?_map, List.getElem?_range hi]; rfl, .old .int⟩
theorem sndI_range1 (G : GOk X M Z) (he : PE X e (tW Z X.K false ie)) (hg : Gl X "range") (hs : notStar e = true) : PI X tg (.Call (.Name "range" p) [e] [] pos) (tWI Z X.K (.range1 ie)) := by
  refine PI.imp (pi_range1 hg G.rng (pa_cons he pa_nil (star_one hs)) (star_one hs)) fun sg H R ⟨s, c, F, rh, km, Em, Rr, w, ok, x⟩ => ?_
  unfold wpI at w
  refine tW.mk Rr w x fun d o s1 c1 v H1 F1 rh1 ⟨j, q0, q1, q2⟩ R1 e1 x1 r1 => ?_
  subst q0
  cases r1
  exact ⟨j, rfl, q1.1, q1.2, ok _ _ s1 c1 _ H1 F1 rh1 q2 trivial R1 e1 x1 walk_rangeD⟩
theorem sndI_range2 (G : GOk X M Z) (he : PE X e (tW Z X.K false ie)) (he2 : PE X e2 (tW Z X.K false ib)) (hg : Gl X "range") (hs : notStar e = true) (hs2 : notStar e2 = true) : PI X tg (.Call (.Name "range" p) [e, e2] [] pos) (tWI Z X.K (.range2 ie ib)) := by
  refine PI.imp (pi_range2 hg G.rng (pa_cons he (pa_cons he2 pa_nil (star_one hs2)) (star_one hs)) (by rw [star_one hs, star_one hs2]; rfl) (star_one hs2)) fun sg H R ⟨s, c, F, rh, km, Em, Rr, w, ok, x⟩ => ?_
  unfold wpI at w
  refine tW.mk Rr w x fun d o s1 c1 v H1 F1 rh1 q1 R1 e1 x1 r1 => ?_
  refine tW.mk R1 q1 x1 fun d2 o2 s2 c2 v2 H2 F2 rh2 ⟨i, j, g1, g2, g3, g4, q2⟩ R2 e2 x2 r2 => ?_
  subst g1; subst g2
  cases r1; cases r2
  exact ⟨i, j, rfl, ⟨g3.1, g3.2, g4.1, g4.2⟩, ok _ _ s2 c2 _ H2 F2 rh2 q2 trivial R2 (e1.trans e2) x2 walk_rangeD⟩
theorem enumD_at : ∀ {xs : List D} {k i : Nat} {d : D}, xs[i]? = some d → (enumD k xs)[i]? = some (.tup [.int ((k + i : Nat)), d])
  | [], _, _, _, h => by simp at h
  | x :: xs, k, 0, d, h => by simp at h; subst h; rfl
  | x :: xs, k, i + 1, d, h => by
    have h' : xs[i]? = some d := by simpa using h
    have e : k + (i + 1) = k + 1 + i := by omega
    rw [e]
    exact enumD_at (k := k + 1) h'
theorem enumD_len : ∀ (k : Nat) (xs : List D), (enumD k xs).length = xs.length
  | _, [] => rfl
  | k, x :: xs => by show (enumD (k + 1) xs).length + 1 = _; rw [enumD_len (k + 1) xs]; rfl
/-- enumerate(a list or a text) -/
theorem pi_enumD {te : TE} (he : PE X e te) (hg : Gl X "enumerate") (hm : X.mg "enumerate" = none) (hs : notStar e = true) :
    PI X (.Tuple elts kk tpos) (.Call (.Name "enumerate" p) [e] [] pos) (fun sg H R => te sg H fun x H1 => (∃ a, x = .ref a ∧ (∃ vs, SqL X.K H1 a vs) ∧ R (Ite X.K a) H1) ∨ (∃ a, x = .ref a ∧ (∃ vs, SqT X.K H1 a vs) ∧ R (ItEt X.K a) H1) ∨ ∃ z, x = .str z ∧ R (ItEs z) H1) := by
  have ha : PA X [e] (tCons te tNil) := pa_cons he pa_nil (star_one hs)
  refine ⟨fun pins s sg H R I h => Call_ (ld_blt I hg hm boot_enumerate (PyProof.Rows.callWith_type1 (thn (ha.run pos pins s sg H (fun vs H1 => match vs with
    | [x] => (∃ a, x = V.ref a ∧ (∃ vs, SqL X.K H1 a vs) ∧ R (Ite X.K a) H1) ∨ (∃ a, x = V.ref a ∧ (∃ vs, SqT X.K H1 a vs) ∧ R (ItEt X.K a) H1) ∨ ∃ z, x = V.str z ∧ R (ItEs z) H1
    | _ => False) I h) fun us s1 ⟨vs, H1, I1, r1, q1⟩ => ?_) (star_one hs) rfl))⟩
  match vs, r1, q1 with
  | [x], .cons (b := u) r .nil, q1 =>
    have fpk : ∀ b, b = s1.heap.objs.size + 1 ∨ b = s1.heap.objs.size → FpOk X pins H1 b := fun b hb => by
      have le : s1.heap.objs.size ≤ b := by
        rcases hb with z | z
        · rw [z]; exact Nat.le_add_right _ _
        · rw [z]; exact Nat.le_refl _
      exact I1.fpOk le (I1.hok.fresh le)
    rcases q1 with ⟨a, ex, ⟨ws, hq⟩, q⟩ | ⟨a, ex, ⟨ws, hq⟩, q⟩ | ⟨z, ex, q⟩
    rotate_left
    · subst ex
      cases (show u = Value.ref a from r)
      obtain ⟨its, _, pt, _⟩ := I1.tuple hq
      have hal : a < s1.heap.objs.size := pt.lt
      refine call_enum1 (begins_tuple a its.toArray) pt fun h' k1 k2 k4 => wpAny_pyIter_enum k1 ?_
      exact ⟨s1.heap.objs.size + 1, [s1.heap.objs.size + 1, s1.heap.objs.size], _, _, H1, rfl, I1.kept (t' := s1.toks) k4, turn_et a _ _ (Nat.ne_of_lt hal) (Nat.ne_of_lt (Nat.lt_succ_of_lt hal)), ⟨⟨.none, k1⟩, ⟨_, k2, rfl, rfl⟩, Nat.succ_ne_self _⟩, fun b hb => fpk b (by simpa using hb), q⟩
    rotate_left
    · subst ex
      cases (show u = Value.ref a from r)
      obtain ⟨its, _, pl, _⟩ := I1.list hq
      refine call_enumerate_list pl.isList fun h' k1 k2 _ k4 => wpAny_pyIter_enum k1 ?_
      exact ⟨s1.heap.objs.size + 1, [s1.heap.objs.size + 1, s1.heap.objs.size], _, _, H1, rfl, I1.kept (t' := s1.toks) k4, turn_enum a _ _, ⟨⟨.none, k1⟩, k2, Nat.succ_ne_self _⟩, fun b hb => fpk b (by simpa using hb), q⟩
    · subst ex
      obtain ⟨t, rfl⟩ := (show ∃ t, u = Value.str z t from r)
      refine call_enumerate_str fun h' k1 k2 _ k4 => wpAny_pyIter_enum k1 ?_
      exact ⟨s1.heap.objs.size + 1, [s1.heap.objs.size + 1, s1.heap.objs.size], _, _, H1, rfl, I1.kept (t' := s1.toks) k4, turn_es z t _ _, ⟨⟨.none, k1⟩, k2, Nat.succ_ne_self _⟩, fun b hb => fpk b (by simpa using hb), q⟩
theorem walk_enumL {K : PySem.W.Frag} {H : Hp} {F : Fz} {rh : List Addr} {xs : List D} {g : Cl → Prop} {a : Addr} (f : ∀ H' F' rh' c, Ext H F rh H' F' rh' → Ce K H' F' rh' c → g c → ∃ vs, SqL K H' a vs ∧ RepL K H' F' rh' vs xs) : WalkD K (Ite K a) (enumD 0 xs) g H F rh := by
  refine ⟨fun i H' F' rh' c hi e C h => ?_, fun H' F' rh' c e C h => ?_, fun i H' F' rh' c x H2 hi e C h y => ?_⟩
  · rw [enumD_len] at hi
    obtain ⟨vs, k1, k2⟩ := f H' F' rh' c e C h
    have hl : i < vs.length := by rw [k2.len]; exact hi
    exact walk_enum.goes i H' hl k1
  · rw [enumD_len]
    obtain ⟨vs, k1, k2⟩ := f H' F' rh' c e C h
    rw [← k2.len]
    exact walk_enum.stops H' k1
  · rw [enumD_len] at hi
    obtain ⟨vs, k1, k2⟩ := f H' F' rh' c e C h
    have hl : i < vs.length := by rw [k2.len]; exact hi
    obtain ⟨T, v1, v2, y1, y2, y3, y4, y5⟩ := walk_enum.yields i H' x H2 hl k1 y
    subst y1; subst y3
    cases y4
    obtain ⟨d, d1, d2⟩ := k2.atV y5
    have en := enumD_at (k := 0) d1
    rw [Nat.zero_add] at en
    exact ⟨_, en, .tup y2 (.cons .int (.cons d2 .nil))⟩
theorem walk_enumS {K : PySem.W.Frag} {H : Hp} {F : Fz} {rh : List Addr} {z : Str} {g : Cl → Prop} : WalkD K (ItEs z) (enumD 0 (signs z)) g H F rh := by
  refine ⟨fun i H' F' rh' c hi e C h => ?_, fun H' F' rh' c e C h => ?_, fun i H' F' rh' c x H2 hi e C h y => ?_⟩
  · rw [enumD_len, signs_len] at hi; exact hi
  · rw [enumD_len, signs_len]; rfl
  · obtain ⟨T, ch, y1, y2, y3, y4⟩ := y
    subst y1; subst y3
    have en := enumD_at (k := 0) (signs_at y4)
    rw [Nat.zero_add] at en
    exact ⟨_, en, .tup y2 (.cons .int (.cons .str .nil))⟩
theorem walk_enumT {K : PySem.W.Frag} {H : Hp} {F : Fz} {rh : List Addr} {xs : List D} {g : Cl → Prop} {a : Addr} (f : ∀ H' F' rh' c, Ext H F rh H' F' rh' → Ce K H' F' rh' c → g c → ∃ vs, SqT K H' a vs ∧ RepL K H' F' rh' vs xs) : WalkD K (ItEt K a) (enumD 0 xs) g H F rh := by
  refine ⟨fun i H' F' rh' c hi e C h => ?_, fun H' F' rh' c e C h => ?_, fun i H' F' rh' c x H2 hi e C h y => ?_⟩
  · rw [enumD_len] at hi
    obtain ⟨vs, k1, k2⟩ := f H' F' rh' c e C h
    have hl : i < vs.length := by rw [k2.len]; exact hi
    exact ⟨vs, vs[i], k1, List.getElem?_eq_getElem hl⟩
  · rw [enumD_len]
    obtain ⟨vs, k1, k2⟩ := f H' F' rh' c e C h
    exact ⟨vs, k1, k2.len.symm⟩
  · obtain ⟨vs, k1, k2⟩ := f H' F' rh' c e C h
    obtain ⟨T, x', y1, y2, y3, y4⟩ := y
    subst y1; subst y3
    obtain ⟨d, d1, d2⟩ := k2.atV (y4 vs k1)
    have en := enumD_at (k := 0) d1
    rw [Nat.zero_add] at en
    exact ⟨_, en, .tup y2 (.cons .int (.cons d2 .nil))⟩
theorem sndI_enum (G : GOk X M Z) (he : PE X e (tW Z X.K false ie)) (hg : Gl X "enumerate") (hs : notStar e = true) : PI X (.Tuple elts kk tpos) (.Call (.Name "enumerate" p) [e] [] pos) (tWI Z X.K (.enum ie)) := by
  refine PI.imp (pi_enumD he hg G.enm hs) fun sg H R ⟨s, c, F, rh, km, Em, Rr, w, ok, x⟩ => ?_
  unfold wpI at w
  refine tW.mk Rr w x fun d o s1 c1 v H1 F1 rh1 q1 R1 e1 x1 r1 => ?_
  obtain ⟨xs, g, k1, k2, sr⟩ := src_of R1.toCe r1 q1
  cases sr with
  | lst f =>
    obtain ⟨vs, g1, _⟩ := f H1 F1 rh1 c1 Ext.refl R1.toCe k2
    exact .inl ⟨_, rfl, ⟨vs, g1⟩, ok _ g s1 c1 _ H1 F1 rh1 k1 k2 R1 e1 x1 (walk_enumL f)⟩
  | tup f =>
    obtain ⟨vs, g1, _⟩ := f H1 F1 rh1 c1 Ext.refl R1.toCe k2
    exact .inr (.inl ⟨_, rfl, ⟨vs, g1⟩, ok _ g s1 c1 _ H1 F1 rh1 k1 k2 R1 e1 x1 (walk_enumT f)⟩)
  | str => exact .inr (.inr ⟨_, rfl, ok _ g s1 c1 _ H1 F1 rh1 k1 k2 R1 e1 x1 walk_enumS⟩)
end
end Vm

/-! Vm: targets, comprehensions -/
namespace Vm
open PySem PySem.Spec L2
open PyProof.Rows hiding St
theorem wipe_get (sg : L2.St) (i : Nat) : ∀ own : List Nat, (wipe sg own)[i]? = if i ∈ own then sg[i]?.map (fun _ => none) else sg[i]?
  | [] => by simp [wipe]
  | v :: vs => by
    unfold wipe
    have ih := wipe_get sg i vs
    have hl := wipe_length sg vs
    by_cases e : v = i
    · subst e
      rw [if_pos List.mem_cons_self]
      cases q : sg[v]? with
      | none =>
        have : sg.length ≤ v := List.getElem?_eq_none_iff.mp q
        rw [List.getElem?_eq_none (by rw [List.length_set, hl]; exact this)]; rfl
      | some x =>
        obtain ⟨lt, _⟩ := List.getElem?_eq_some_iff.mp q
        rw [List.getElem?_set_self (by rw [hl]; exact lt)]; rfl
    · rw [List.getElem?_set_ne e, ih]
      have : (i ∈ v :: vs) ↔ i ∈ vs := by simp; intro z; exact absurd z.symm e
      simp only [this]
theorem wipeS_len (s : List Sl) : ∀ own : List Nat, (wipeS s own).length = s.length
  | [] => rfl
  | v :: vs => by unfold wipeS; rw [List.length_set, wipeS_len s vs]
theorem wipeS_get (s : List Sl) (i : Nat) : ∀ own : List Nat, (wipeS s own)[i]? = if i ∈ own then s[i]?.map (fun _ => .no) else s[i]?
  | [] => by simp [wipeS]
  | v :: vs => by
    unfold wipeS
    have ih := wipeS_get s i vs
    have hl := wipeS_len s vs
    by_cases e : v = i
    · subst e
      rw [if_pos List.mem_cons_self]
      cases q : s[v]? with
      | none =>
        have : s.length ≤ v := List.getElem?_eq_none_iff.mp q
        rw [List.getElem?_eq_none (by rw [List.length_set, hl]; exact this)]; rfl
      | some x =>
        obtain ⟨lt, _⟩ := List.getElem?_eq_some_iff.mp q
        rw [List.getElem?_set_self (by rw [hl]; exact lt)]; rfl
    · rw [List.getElem?_set_ne e, ih]
      have : (i ∈ v :: vs) ↔ i ∈ vs := by simp; intro z; exact absurd z.symm e
      simp only [this]
theorem backS_len (s0 s : List Sl) : ∀ own : List Nat, (backS s0 s own).length = s.length
  | [] => rfl
  | v :: vs => by unfold backS; rw [List.length_set, backS_len s0 s vs]
theorem backS_get (s0 s : List Sl) (hl : s0.length = s.length) (i : Nat) : ∀ own : List Nat, (backS s0 s own)[i]? = if i ∈ own then s0[i]? else s[i]?
  | [] => by simp [backS]
  | v :: vs => by
    unfold backS
    have ih := backS_get s0 s hl i vs
    have h2 := backS_len s0 s vs
    by_cases e : v = i
    · subst e
      rw [if_pos List.mem_cons_self]
      cases q : s0[v]? with
      | none =>
        have : s0.length ≤ v := List.getElem?_eq_none_iff.mp q
        rw [List.getElem?_eq_none (by rw [List.length_set, h2]; omega)]
      | some x =>
        obtain ⟨lt, _⟩ := List.getElem?_eq_some_iff.mp q
        rw [List.getElem?_set_self (by rw [h2]; omega)]; rfl
    · rw [List.getElem?_set_ne e, ih]
      have : (i ∈ v :: vs) ↔ i ∈ vs := by simp; intro z; exact absurd z.symm e
      simp only [this]
theorem wipe_set {sg : L2.St} {own : List Nat} {i : Nat} {x : Option V} (hi : i ∈ own) : wipe (sg.set i x) own = wipe sg own := by
  refine List.ext_getElem? fun j => ?_
  rw [wipe_get, wipe_get]
  by_cases hj : j ∈ own
  · rw [if_pos hj, if_pos hj]
    by_cases e : i = j
    · subst e
      by_cases hl : i < sg.length
      · rw [List.getElem?_set_self hl, List.getElem?_eq_getElem hl]; rfl
      · rw [List.getElem?_eq_none (by simpa using hl), List.getElem?_eq_none (by simpa using hl)]
    · rw [List.getElem?_set_ne e]
  · rw [if_neg hj, if_neg hj, List.getElem?_set_ne (fun e => by subst e; exact hj hi)]
theorem wipe_wipe (sg : L2.St) (own : List Nat) : wipe (wipe sg own) own = wipe sg own := by
  refine List.ext_getElem? fun j => ?_
  rw [wipe_get, wipe_get]
  by_cases hj : j ∈ own
  · rw [if_pos hj, if_pos hj]; cases sg[j]? <;> rfl
  · rw [if_neg hj, if_neg hj]

section
variable {K : PySem.W.Frag} {H0 H H1 H' : Hp} {F F1 F' : Fz} {rh rh1 rh' : List Addr} {sh sh2 : L2.St} {s s1 : List Sl} {c c1 c' : Cl} {v : V} {d : D} {own : List Nat} {O O' O2 : Addr → Prop}
theorem Ev.less (e : Ev H F rh O2 H' F' rh' O') (h : ∀ a, O2 a → O a) : Ev H F rh O H' F' rh' O' := ⟨e.toExt, e.mono, fun a o h1 h2 h3 h4 => e.priv a o h1 h2 h3 fun z => h4 (h a z)⟩
theorem Ev.lessR (e : Ev H F rh O H' F' rh' O') (h : ∀ a, O2 a → O' a) : Ev H F rh O H' F' rh' O2 := ⟨e.toExt, e.mono, fun a o h1 h2 h3 h4 => by
  obtain ⟨g1, g2, g3, g4⟩ := e.priv a o h1 h2 h3 h4
  exact ⟨g1, g2, g3, fun z => g4 (h a z)⟩⟩
/-- a fresh object is written again -/
theorem Ev.upd {p : Addr} {o : HO} (e : Ev H F rh O H' F' rh' O') (hp : H p = none) (hf : ∀ a, F a → H a ≠ none) : Ev H F rh O (upd H' p o) F' rh' O' := by
  have ne : ∀ a u, H a = some u → a ≠ p := fun a u h z => by subst z; rw [hp] at h; cases h
  refine ⟨⟨e.frz, fun a u f h => ?_, e.cel⟩, fun a h => ?_, fun a u g1 g2 g3 g4 => ?_⟩
  · rw [upd_ne (ne a u h)]; exact e.stab a u f h
  · exact mono_upd a (e.mono a h)
  · obtain ⟨k1, k2, k3, k4⟩ := e.priv a u g1 g2 g3 g4
    exact ⟨by rw [upd_ne (ne a u g1)]; exact k1, k2, k3, k4⟩
/-- a private object is written: what is represented stands -/
theorem Rl.privUpd (R : Rl K H0 H F rh sh s c) {p : Addr} {o o' : HO} (hp : H p = some o) (h1 : ¬ F p) (h2 : p ∉ rh) (h3 : ¬ Owned sh s p) : Rl K H0 (L2.upd H p o') F rh sh s c ∧ Ext H F rh (L2.upd H p o') F rh := by
  have e : Ext H F rh (L2.upd H p o') F rh := ext_mut h1
  refine ⟨⟨⟨R.len, R.nd, fun n b x g1 g2 => ?_, R.nf, fun b z => mono_upd b (R.ft b z)⟩, fun i x h => ?_, fun i x h => ?_, R.uq, R.ln, R.fr, fun b z => ?_⟩, e⟩
  · obtain ⟨o2, k1, k2⟩ := R.ob n b x g1 g2
    have nb : b ≠ p := fun z => h2 (z ▸ List.mem_of_getElem? g1)
    exact ⟨o2, by rw [upd_ne nb]; exact k1, k2.ext e⟩
  · obtain ⟨w, k1, k2⟩ := R.shr i x h
    exact ⟨w, k1, k2.ext e⟩
  · obtain ⟨b, o2, k1, k2, k3, k4, k5⟩ := R.own i x h
    have nb : b ≠ p := fun z => h3 (z ▸ ⟨i, x, h, k1⟩)
    exact ⟨b, o2, k1, by rw [upd_ne nb]; exact k2, k3.ext e, k4, k5⟩
  · have nb : b ≠ p := fun q => by subst q; rw [upd_same] at z; cases z
    rw [upd_ne nb] at z
    exact R.mn b z
/-- a slot is set to a shared value -/
theorem Rl.setSh (R : Rl K H0 H F rh sh s c) {i : Nat} (r : Rep K H F rh v d) : Rl K H0 H F rh (sh.set i (some v)) (s.set i (.sh d)) c ∧ ∀ a, Owned (sh.set i (some v)) (s.set i (.sh d)) a → Owned sh s a := by
  have low : ∀ {j : Nat} {x : D}, (s.set i (.sh d))[j]? = some (.ow x) → j ≠ i ∧ s[j]? = some (.ow x) := fun {j x} g => by
    by_cases q : i = j
    · subst q
      by_cases hl : i < s.length
      · rw [List.getElem?_set_self hl] at g; cases g
      · rw [List.getElem?_eq_none (by simpa using hl)] at g; cases g
    · rw [List.getElem?_set_ne q] at g; exact ⟨fun z => q z.symm, g⟩
  refine ⟨⟨R.toCe, fun j x g => ?_, fun j x g => ?_, fun j k x y b g1 g2 g3 g4 => ?_, by rw [List.length_set, List.length_set]; exact R.ln, fun j x b g1 g2 => ?_, R.mn⟩, fun a ⟨j, x, g1, g2⟩ => ?_⟩
  · by_cases q : i = j
    · subst q
      by_cases hl : i < s.length
      · rw [List.getElem?_set_self hl] at g
        cases g
        exact ⟨v, List.getElem?_set_self (by rw [← R.ln]; exact hl), r⟩
      · rw [List.getElem?_eq_none (by simpa using hl)] at g; cases g
    · rw [List.getElem?_set_ne q] at g
      rw [List.getElem?_set_ne q]
      exact R.shr j x g
  · obtain ⟨q, g'⟩ := low g
    obtain ⟨b, o, k1, k2⟩ := R.own j x g'
    exact ⟨b, o, by rw [List.getElem?_set_ne (fun z => q z.symm)]; exact k1, k2⟩
  · obtain ⟨q1, y1⟩ := low g1
    obtain ⟨q2, y2⟩ := low g2
    rw [List.getElem?_set_ne (fun z => q1 z.symm)] at g3
    rw [List.getElem?_set_ne (fun z => q2 z.symm)] at g4
    exact R.uq j k x y b y1 y2 g3 g4
  · obtain ⟨q, y⟩ := low g1
    rw [List.getElem?_set_ne (fun z => q z.symm)] at g2
    exact R.fr j x b y g2
  · obtain ⟨q, y⟩ := low g1
    rw [List.getElem?_set_ne (fun z => q z.symm)] at g2
    exact ⟨j, x, y, g2⟩
/-- the block's own slots forgotten -/
theorem Rl.wipe (R : Rl K H0 H F rh sh s c) (own : List Nat) : Rl K H0 H F rh (L2.wipe sh own) (wipeS s own) c ∧ ∀ a, Owned (L2.wipe sh own) (wipeS s own) a → Owned sh s a := by
  have low : ∀ {j : Nat} {x : Sl}, (wipeS s own)[j]? = some x → x ≠ .no → j ∉ own ∧ s[j]? = some x := fun {j x} g hx => by
    rw [wipeS_get] at g
    by_cases q : j ∈ own
    · rw [if_pos q] at g
      cases z : s[j]? with
      | none => rw [z] at g; cases g
      | some y => rw [z] at g; exact absurd (Option.some.inj g).symm hx
    · rw [if_neg q] at g; exact ⟨q, g⟩
  have at_ : ∀ {j : Nat}, j ∉ own → (L2.wipe sh own)[j]? = sh[j]? := fun {j} q => by rw [wipe_get, if_neg q]
  refine ⟨⟨R.toCe, fun j x g => ?_, fun j x g => ?_, fun j k x y b g1 g2 g3 g4 => ?_, by rw [wipeS_len, wipe_length]; exact R.ln, fun j x b g1 g2 => ?_, R.mn⟩, fun a ⟨j, x, g1, g2⟩ => ?_⟩
  · obtain ⟨q, y⟩ := low g (fun z => by cases z)
    rw [at_ q]; exact R.shr j x y
  · obtain ⟨q, y⟩ := low g (fun z => by cases z)
    rw [at_ q]; exact R.own j x y
  · obtain ⟨q1, y1⟩ := low g1 (fun z => by cases z)
    obtain ⟨q2, y2⟩ := low g2 (fun z => by cases z)
    rw [at_ q1] at g3
    rw [at_ q2] at g4
    exact R.uq j k x y b y1 y2 g3 g4
  · obtain ⟨q, y⟩ := low g1 (fun z => by cases z)
    rw [at_ q] at g2
    exact R.fr j x b y g2
  · obtain ⟨q, y⟩ := low g1 (fun z => by cases z)
    rw [at_ q] at g2
    exact ⟨j, x, y, g2⟩
/-- behind the block: its own slots as they were -/
theorem Rl.back (R1 : Rl K H0 H1 F1 rh1 sh s1 c1) (R : Rl K H0 H F rh (L2.wipe sh own) (wipeS s own) c) (E : Ev H1 F1 rh1 (Owned (L2.wipe sh own) (wipeS s1 own)) H F rh (Owned (L2.wipe sh own) (wipeS s own))) (hl : s1.length = s.length) :
    Rl K H0 H F rh sh (backS s1 s own) c ∧ Ev H1 F1 rh1 (Owned sh s1) H F rh (Owned sh (backS s1 s own)) ∧ ∀ a, Owned sh (backS s1 s own) a → H1 a ≠ none ∨ Owned (L2.wipe sh own) (wipeS s own) a := by
  have get := fun j => backS_get s1 s hl j own
  have wg := fun j => wipeS_get s j own
  have ag := fun j => wipe_get sh j own
  -- an own slot outside, of the block's names
  have outer : ∀ (j : Nat) (x : D) a o, j ∈ own → s1[j]? = some (.ow x) → sh[j]? = some (some (.ref a)) → H1 a = some o → ¬ F1 a → a ∉ rh1 → H a = some o ∧ ¬ F a ∧ a ∉ rh ∧ ¬ Owned (L2.wipe sh own) (wipeS s own) a := fun j x a o hj h1 h2 h3 h4 h5 =>
    E.priv a o h3 h4 h5 fun ⟨k, y, g1, g2⟩ => by
      rw [wipeS_get] at g1
      by_cases q : k ∈ own
      · rw [if_pos q] at g1
        cases z : s1[k]? with
        | none => rw [z] at g1; cases g1
        | some w => rw [z] at g1; cases g1
      · rw [if_neg q] at g1
        rw [wipe_get, if_neg q] at g2
        have := R1.uq j k x y a h1 g1 h2 g2
        subst this
        exact q hj
  have inner : ∀ {j : Nat} {x : Sl}, j ∉ own → (backS s1 s own)[j]? = some x → (wipeS s own)[j]? = some x ∧ (L2.wipe sh own)[j]? = sh[j]? := fun {j x} q g => by
    rw [get, if_neg q] at g
    exact ⟨by rw [wg, if_neg q]; exact g, by rw [ag, if_neg q]⟩
  have sub : ∀ a, Owned sh (backS s1 s own) a → (∃ j x, j ∈ own ∧ s1[j]? = some (.ow x) ∧ sh[j]? = some (some (.ref a))) ∨ Owned (L2.wipe sh own) (wipeS s own) a := fun a ⟨j, x, g1, g2⟩ => by
    by_cases q : j ∈ own
    · rw [get, if_pos q] at g1
      exact .inl ⟨j, x, q, g1, g2⟩
    · obtain ⟨k1, k2⟩ := inner q g1
      exact .inr ⟨j, x, k1, by rw [k2]; exact g2⟩
  refine ⟨⟨R.toCe, fun j x g => ?_, fun j x g => ?_, fun j k x y b g1 g2 g3 g4 => ?_, by rw [backS_len, ← hl]; exact R1.ln, fun j x b g1 g2 => ?_, R.mn⟩, ⟨E.toExt, E.mono, fun a o h1 h2 h3 h4 => ?_⟩, fun a z => ?_⟩
  rotate_left 5
  · rcases sub a z with ⟨j, x, _, z1, z2⟩ | z
    · obtain ⟨b, o, k1, k2, _⟩ := R1.own j x z1
      rw [z2] at k1; cases k1
      exact .inl (by rw [k2]; exact fun q => nomatch q)
    · exact .inr z
  · by_cases q : j ∈ own
    · rw [get, if_pos q] at g
      obtain ⟨w, k1, k2⟩ := R1.shr j x g
      exact ⟨w, k1, k2.ext E.toExt⟩
    · obtain ⟨k1, k2⟩ := inner q g
      obtain ⟨w, k3, k4⟩ := R.shr j x k1
      exact ⟨w, by rw [← k2]; exact k3, k4⟩
  · by_cases q : j ∈ own
    · rw [get, if_pos q] at g
      obtain ⟨a, o, k1, k2, k3, k4, k5⟩ := R1.own j x g
      obtain ⟨m1, m2, m3, _⟩ := outer j x a o q g k1 k2 k4 k5
      exact ⟨a, o, k1, m1, k3.ext E.toExt, m2, m3⟩
    · obtain ⟨k1, k2⟩ := inner q g
      obtain ⟨a, o, k3, k4⟩ := R.own j x k1
      exact ⟨a, o, by rw [← k2]; exact k3, k4⟩
  · by_cases q1 : j ∈ own
    · rw [get, if_pos q1] at g1
      by_cases q2 : k ∈ own
      · rw [get, if_pos q2] at g2
        exact R1.uq j k x y b g1 g2 g3 g4
      · exfalso
        obtain ⟨k1, k2⟩ := inner q2 g2
        obtain ⟨a, o, m1, m2, m3, m4, m5⟩ := R1.own j x g1
        rw [m1] at g3; cases g3
        exact (outer j x _ o q1 g1 m1 m2 m4 m5).2.2.2 ⟨k, y, k1, by rw [k2]; exact g4⟩
    · obtain ⟨k1, k2⟩ := inner q1 g1
      by_cases q2 : k ∈ own
      · exfalso
        rw [get, if_pos q2] at g2
        obtain ⟨a, o, m1, m2, m3, m4, m5⟩ := R1.own k y g2
        rw [m1] at g4; cases g4
        exact (outer k y _ o q2 g2 m1 m2 m4 m5).2.2.2 ⟨j, x, k1, by rw [k2]; exact g3⟩
      · obtain ⟨k3, k4⟩ := inner q2 g2
        exact R.uq j k x y b k1 k3 (by rw [k2]; exact g3) (by rw [k4]; exact g4)
  · by_cases q : j ∈ own
    · rw [get, if_pos q] at g1
      exact R1.fr j x b g1 g2
    · obtain ⟨k1, k2⟩ := inner q g1
      exact R.fr j x b k1 (by rw [k2]; exact g2)
  · have hO : ¬ Owned (L2.wipe sh own) (wipeS s1 own) a := fun z => h4 ((R1.wipe own).2 a z)
    obtain ⟨k1, k2, k3, k4⟩ := E.priv a o h1 h2 h3 hO
    refine ⟨k1, k2, k3, fun z => ?_⟩
    rcases sub a z with ⟨j, x, _, z1, z2⟩ | z
    · exact h4 ⟨j, x, z1, z2⟩
    · exact k4 z
end
end Vm

/-! Vm: comprehensions are sound -/
namespace Vm
open PySem PySem.Spec L2
open PyProof.Rows hiding St
def lenT : TgL → Nat
  | .nil => 0
  | .cons _ l => lenT l + 1
mutual
def gOf (K : PySem.W.Frag) : Tg → TG
  | .nm i => gName i
  | .tp l => gTup K (lenT l) (gsOf K l)
def gsOf (K : PySem.W.Frag) : TgL → TGs
  | .nil => gNil
  | .cons t l => gCons (gOf K t) (gsOf K l)
end
mutual
def tgIn (own : List Nat) : Tg → Bool
  | .nm i => decide (i ∈ own)
  | .tp l => tgsIn own l
def tgsIn (own : List Nat) : TgL → Bool
  | .nil => true
  | .cons t l => tgIn own t && tgsIn own l
end
section
variable {K : PySem.W.Frag} {H0 H H1 H' : Hp} {F F1 F' : Fz} {rh rh1 rh' : List Addr} {c c1 c' : Cl} {own : List Nat}
mutual
theorem bind_use : ∀ (t : Tg) {d : D} {s s1 : List Sl} {v : V} {sh : L2.St} {Q : L2.St → Hp → Prop}, Rl K H0 H F rh sh s c → Rep K H F rh v d → bindT t d s = some s1 →
    (∀ sh1, Rl K H0 H F rh sh1 s1 c → (∀ a, Owned sh1 s1 a → Owned sh s a) → (tgIn own t = true → wipe sh1 own = wipe sh own) → Q sh1 H) → gOf K t v sh H Q
  | .nm i, d, s, s1, v, sh, Q, R, r, e, k => by
    have e' : some (s.set i (.sh d)) = some s1 := e
    cases e'
    obtain ⟨R2, ow⟩ := R.setSh (i := i) r
    exact k _ R2 ow fun z => wipe_set (of_decide_eq_true z)
  | .tp l, d, s, s1, v, sh, Q, R, r, e, k => by
    cases d with
    | tup ds =>
      obtain ⟨a, vs, rfl, hf, rl⟩ := r.tup_of
      have e' : bindTs l ds s = some s1 := e
      exact ⟨a, vs, rfl, hf.sq, by rw [rl.len]; exact binds_len l e', binds_use l R rl e' k⟩
    | _ => cases e
theorem binds_use : ∀ (l : TgL) {ds : List D} {s s1 : List Sl} {vs : List V} {sh : L2.St} {Q : L2.St → Hp → Prop}, Rl K H0 H F rh sh s c → RepL K H F rh vs ds → bindTs l ds s = some s1 →
    (∀ sh1, Rl K H0 H F rh sh1 s1 c → (∀ a, Owned sh1 s1 a → Owned sh s a) → (tgsIn own l = true → wipe sh1 own = wipe sh own) → Q sh1 H) → gsOf K l vs sh H Q
  | .nil, ds, s, s1, vs, sh, Q, R, r, e, k => by
    cases r with
    | nil =>
      have e' : some s = some s1 := e
      cases e'
      exact ⟨rfl, k sh R (fun _ h => h) fun _ => rfl⟩
    | cons _ _ => cases e
  | .cons t l, ds, s, s1, vs, sh, Q, R, r, e, k => by
    cases r with
    | nil => cases e
    | @cons v d vs ds h r =>
      have e' : (match bindT t d s with | some s2 => bindTs l ds s2 | none => none) = some s1 := e
      cases q : bindT t d s with
      | none => rw [q] at e'; cases e'
      | some s2 =>
        rw [q] at e'
        refine ⟨v, vs, rfl, bind_use t R h q fun sh2 R2 ow2 w2 => binds_use l R2 r e' fun sh3 R3 ow3 w3 => k sh3 R3 (fun a z => ow2 a (ow3 a z)) fun z => ?_⟩
        have z' : (tgIn own t && tgsIn own l) = true := z
        rw [Bool.and_eq_true] at z'
        rw [w3 z'.2, w2 z'.1]
theorem binds_len : ∀ (l : TgL) {ds : List D} {s s1 : List Sl}, bindTs l ds s = some s1 → ds.length = lenT l
  | .nil, [], _, _, _ => rfl
  | .nil, _ :: _, _, _, e => by cases e
  | .cons _ _, [], _, _, e => by cases e
  | .cons t l, d :: ds, s, s1, e => by
    have e' : (match bindT t d s with | some s2 => bindTs l ds s2 | none => none) = some s1 := e
    cases q : bindT t d s with
    | none => rw [q] at e'; cases e'
    | some s2 =>
      rw [q] at e'
      show ds.length + 1 = lenT l + 1
      rw [binds_len l e']
end
/-- a value that was handed out is taken in -/
theorem Out.enter {sh : L2.St} {s : List Sl} {v : V} {d : D} (u : Out K H F rh v H' d false) (R : Rl K H0 H F rh sh s c) : ∃ F2, Rl K H0 H' F2 rh sh s c ∧ Ev H F rh (Owned sh s) H' F2 rh (Owned sh s) ∧ Rep K H' F2 rh v d := by
  cases u with
  | old r => exact ⟨F, R, Ev.refl, r⟩
  | @tup p vs ds hp r =>
    have g := R.free hp
    have R1 : Rl K H0 (upd H p (.tup vs)) F rh sh s c := R.laid hp
    have e1 : Ev H F rh (Owned sh s) (upd H p (.tup vs)) F rh (Owned sh s) := ev_new hp R.ft
    refine ⟨addF F p, R1.freeze upd_same g.2.1 g.2.2, ⟨e1.toExt.trans ext_addF, e1.mono, fun a u g1 g2 g3 g4 => ?_⟩, .tup (.inl ⟨.inr rfl, SqT.of upd_same⟩) (r.ext (e1.toExt.trans ext_addF))⟩
    obtain ⟨k1, k2, k3, k4⟩ := e1.priv a u g1 g2 g3 g4
    refine ⟨k1, fun z => ?_, k3, k4⟩
    rcases z with z | z
    · exact k2 z
    · subst z; rw [hp] at g1; cases g1
end
def cB (C : Ctx) (own : List Nat) (t : Tg) (ifs : IL) (ie : IE) : D → List Sl → Cl → (Option D → List Sl → Cl → Prop) → Prop := fun x s2 c2 k => match bindT t x (wipeS s2 own) with
  | none => False
  | some s3 => wpIf C ifs s3 c2 (fun b s4 c4 => match b with
    | true => wpE C false ie s4 c4 (fun d _ s5 c5 => k (some d) s5 c5) EK0
    | false => k none s4 c4)
def tWIf (Z : Sx) (K : PySem.W.Frag) (l : IL) : TT := fun sh H Q => ∃ s c F rh Qm, Rl K Z.H0 H F rh sh s c ∧ wpIf Z.C l s c Qm ∧ ∀ b s' c' H' F' rh', Qm b s' c' → Rl K Z.H0 H' F' rh' sh s' c' → Ev H F rh (Owned sh s) H' F' rh' (Owned sh s') → Q b H'
abbrev Sx.mute (Z : Sx) : Sx := { Z with W := fun _ _ _ _ => False }
section
variable {X : Cx} {M : Nm} {Z : Sx} {e : Expr} {ie : IE}
theorem PTs.imp {es : List Expr} {t t' : TT} (h : PTs X es t) (i : ∀ sg H Q, t' sg H Q → t sg H Q) : PTs X es t' := ⟨fun p s sg H Q I w => h.run p s sg H Q I (i sg H Q w)⟩
theorem sndIf_nil : PTs X [] (tWIf Z X.K .nil) := PTs.imp pts_nil fun sg H Q ⟨s, c, F, rh, Qm, R, w, ok⟩ => by
  unfold wpIf at w
  exact ok true s c H F rh w R Ev.refl
theorem sndIf_one (h : PT X e (tWT Z X.K ie)) : PTs X [e] (tWIf Z X.K (.cons ie .nil)) := PTs.imp (pts_one h) fun sg H Q ⟨s, c, F, rh, Qm, R, w, ok⟩ => by
  unfold wpIf at w
  exact test_mk R w (fun ex s' c' cls da H' F' rh' z => z.elim) (fun d o s1 c1 k H1 F1 rh1 ⟨k', q1, q2⟩ ed R1 e1 x1 => by
    subst ed
    cases q1
    exact ok k s1 c1 H1 F1 rh1 q2 R1 e1) fun d o s1 c1 ⟨k, q, _⟩ => ⟨k, q⟩
/-- what a comprehension asks, from its weakest precondition -/
theorem comp_use {own : List Nat} {t : Tg} {src : IT} {ifs : IL} (ti : tgIn own t = true) {sg : L2.St} {H : Hp} {Q : VK} (h : tW Z X.K false (.comp own t src ifs ie) sg H Q) :
    tLc (tWI Z X.K src) (gOf X.K t) (tWIf Z.mute X.K ifs) (tW Z.mute X.K false ie) own sg H Q := by
  obtain ⟨s0, c0, F0, rh0, Qm, Em, R0, w, ok, x0⟩ := h
  unfold wpE at w
  refine ⟨s0, c0, F0, rh0, _, Em, R0, w, fun xs g s1 c1 J H1 F1 rh1 lp gc R1 e1 x1 wd Dl hD => ?_, x0⟩
  have ok1 := ok.step e1
  obtain ⟨Rw, Ow⟩ := R1.wipe own
  have fD := R1.free hD
  refine ⟨fun i m H => m = xs.length - i ∧ i ≤ xs.length ∧ ∃ s c F rh acc av, s.length = s1.length ∧ Rl X.K Z.H0 H F rh (wipe sg own) (wipeS s own) c ∧
    Ev H1 F1 rh1 (Owned (wipe sg own) (wipeS s1 own)) H F rh (Owned (wipe sg own) (wipeS s own)) ∧ H Dl = some (.lst av) ∧ ¬ F Dl ∧ Dl ∉ rh ∧ ¬ Owned (wipe sg own) (wipeS s own) Dl ∧ RepL X.K H F rh av acc ∧
    loopC g (cB Z.C own t ifs ie) (xs.drop i) acc s c (fun acc s6 c6 => Qt false Qm (.lst acc) true (backS s1 s6 own) c6), ⟨xs.length, by rw [Nat.sub_zero], Nat.zero_le _, s1, c1, F1, rh1, [], [], rfl, Rw.laid hD, ev_new hD R1.ft, upd_same, fD.1, fD.2.1, fun z => fD.2.2 (Ow _ z), .nil, lp⟩, ?_⟩
  rintro i m H ⟨rfl, hi, s, c, F, rh, acc, av, hl, R, E, h1, h2, h3, h4, ra, lp⟩
  by_cases hlt : i < xs.length
  · have dr : xs.drop i = xs[i] :: xs.drop (i + 1) := List.drop_eq_getElem_cons hlt
    rw [dr] at lp
    unfold loopC at lp
    obtain ⟨gc', lp⟩ := lp
    unfold cB at lp
    refine .inr ⟨wd.go i H F rh c hlt E.toExt R.toCe gc', fun H' => ∃ m', m' < xs.length - i ∧ _, fun H' z => z, fun xv H2 y => ?_⟩
    obtain ⟨d, hd, u⟩ := wd.yld i H F rh c xv H2 hlt E.toExt R.toCe gc' y
    rw [List.getElem?_eq_getElem hlt] at hd
    cases hd
    obtain ⟨F2, R2, E2, r2⟩ := u.enter R
    cases hb : bindT t xs[i] (wipeS s own) with
    | none => rw [hb] at lp; exact lp.elim
    | some s3 =>
      rw [hb] at lp
      refine bind_use (own := own) t R2 r2 hb fun sh3 R3 o3 w3 => ⟨by rw [w3 ti, wipe_wipe], ?_⟩
      have wsh : wipe sh3 own = wipe sg own := by rw [w3 ti, wipe_wipe]
      obtain ⟨d1, d2, d3, d4⟩ := E2.priv Dl _ h1 h2 h3 h4
      have len : ∀ {F : Fz} {rh : List Addr} {s : List Sl} {c : Cl} {H : Hp}, Rl X.K Z.H0 H F rh sh3 s c → s.length = s1.length := fun {F rh s c H} R => by
        have l1 := R.ln
        have l2 := congrArg List.length wsh
        rw [wipe_length, wipe_length] at l2
        have l3 := R1.ln
        omega
      -- the invariant of the next turn
      have next : ∀ {H5 : Hp} {F5 : Fz} {rh5 : List Addr} {s5 : List Sl} {c5 : Cl} {acc5 : List D} {av5 : List V}, Rl X.K Z.H0 H5 F5 rh5 sh3 s5 c5 → Ev H2 F2 rh (Owned sh3 s3) H5 F5 rh5 (Owned sh3 s5) → H5 Dl = some (.lst av) → ¬ F5 Dl → Dl ∉ rh5 → ¬ Owned sh3 s5 Dl → RepL X.K H5 F5 rh5 av5 acc5 →
          loopC g (cB Z.C own t ifs ie) (xs.drop (i + 1)) acc5 s5 c5 (fun acc s6 c6 => Qt false Qm (.lst acc) true (backS s1 s6 own) c6) → ∃ m', m' < xs.length - i ∧ (fun i m H => m = xs.length - i ∧ i ≤ xs.length ∧ ∃ s c F rh acc av, s.length = s1.length ∧ Rl X.K Z.H0 H F rh (wipe sg own) (wipeS s own) c ∧
    Ev H1 F1 rh1 (Owned (wipe sg own) (wipeS s1 own)) H F rh (Owned (wipe sg own) (wipeS s own)) ∧ H Dl = some (.lst av) ∧ ¬ F Dl ∧ Dl ∉ rh ∧ ¬ Owned (wipe sg own) (wipeS s own) Dl ∧ RepL X.K H F rh av acc ∧
    loopC g (cB Z.C own t ifs ie) (xs.drop i) acc s c (fun acc s6 c6 => Qt false Qm (.lst acc) true (backS s1 s6 own) c6)) (i + 1) m' (upd H5 Dl (.lst av5)) := by
        intro H5 F5 rh5 s5 c5 acc5 av5 R5 E5 p1 p2 p3 p4 ra5 lp5
        obtain ⟨Rp, ep⟩ := R5.privUpd (o' := .lst av5) p1 p2 p3 p4
        obtain ⟨Rq, Oq⟩ := Rp.wipe own
        rw [wsh] at Rq Oq
        have E5' : Ev H2 F2 rh (Owned (wipe sg own) (wipeS s own)) H5 F5 rh5 (Owned (wipe sg own) (wipeS s5 own)) := (E5.less fun a z => o3 a z).lessR fun a z => Oq a z
        refine ⟨xs.length - (i + 1), by omega, rfl, hlt, s5, c5, F5, rh5, acc5, av5, len R5, Rq, ((E.trans E2).trans E5').upd hD R1.ft, upd_same, p2, p3, fun z => p4 (Oq _ z), ra5.ext ep, lp5⟩
      refine ⟨s3, c, F2, rh, _, R3, lp, fun b s4 c4 H4 F4 rh4 q4 R4 E4 => ?_⟩
      obtain ⟨t1, t2, t3, t4⟩ := E4.priv Dl _ d1 d2 d3 fun z => d4 (o3 _ z)
      cases b with
      | false =>
        rw [if_neg Bool.false_ne_true]
        -- nothing is put in: the list as it stands
        have same : upd H4 Dl (.lst av) = H4 := by
          funext b
          by_cases q : b = Dl
          · subst q; rw [upd_same, t1]
          · rw [upd_ne q]
        have z := next R4 E4 t1 t2 t3 t4 (ra.ext (E2.toExt.trans E4.toExt)) q4
        rw [same] at z
        exact z
      | true =>
        rw [if_pos rfl]
        refine tW.mk (Z := Z.mute) R4 q4 (fun ex s' c' cls da H' F' rh' z => z.elim) fun d' o' s5 c5 v5 H5 F5 rh5 ⟨q5, q6⟩ R5 E5 x5 r5 => ?_
        obtain ⟨u1, u2, u3, u4⟩ := E5.priv Dl _ t1 t2 t3 t4
        refine ⟨av, u1, by rw [ra.len]; exact q5, ?_⟩
        exact next R5 (E4.trans E5) u1 u2 u3 u4 ((ra.ext ((E2.toExt.trans E4.toExt).trans E5.toExt)).app (.cons r5 .nil)) q6
  · have e : i = xs.length := by omega
    subst e
    rw [List.drop_length] at lp
    unfold loopC at lp
    obtain ⟨gc', kf⟩ := lp
    refine .inl ⟨wd.stop H F rh c E.toExt R.toCe gc', ?_⟩
    obtain ⟨Rb, Eb, Ob⟩ := R1.back R E hl.symm
    refine ok1 (.lst acc) true (backS s1 s own) c (.ref Dl) H F rh kf Rb Eb ⟨Dl, .lst av, rfl, hD, h1, ⟨av, rfl, ra⟩, h2, h3, fun z => ?_⟩
    rcases Ob Dl z with z | z
    · exact z hD
    · exact h4 z
theorem snd_comp {elt tgE iter : Expr} {ifsE : List Expr} {scope : Scope} {ownP : List (Str × Nat)} {own : List Nat} {pos : Pos} {t : Tg} {src : IT} {ifs : IL} (G : GOk X M Z) (hi : PI X tgE iter (tWI Z X.K src)) (bo : BlkOk X.N X.env.scope scope ownP) (ho : ownP.map (·.2) = own)
    (hg : ∀ (s : Shared) (H : Hp) (C : Addr) (cl : List (Str × Addr)) (fp : List Addr), PG (X.blk s H scope (compEnvC scope cl C X.env) fp) tgE (gOf X.K t))
    (ht : ∀ (s : Shared) (H : Hp) (C : Addr) (cl : List (Str × Addr)) (fp : List Addr), PTs (X.blk s H scope (compEnvC scope cl C X.env) fp) ifsE (tWIf Z.mute X.K ifs))
    (he : ∀ (s : Shared) (H : Hp) (C : Addr) (cl : List (Str × Addr)) (fp : List Addr), PE (X.blk s H scope (compEnvC scope cl C X.env) fp) elt (tW Z.mute X.K false ie))
    (hs : ∀ x, foldedSetIterable iter X.env x = pure x) (ti : tgIn own t = true) : PE X (.ListComp elt [⟨tgE, iter, ifsE, 0⟩] scope pos) (tW Z X.K false (.comp own t src ifs ie)) := by
  subst ho
  exact PE.imp (pe_lc G.calm G.nd hi bo hg ht he hs) fun sg H Q h => comp_use ti h
end
end Vm

/-! Vm: statements are sound -/
namespace Vm
open PySem PySem.Spec L2
open PyProof.Rows hiding St
def OkXs (Z : Sx) (K : PySem.W.Frag) (sh : L2.St) (H : Hp) (F : Fz) (rh : List Addr) (s : List Sl) (Em : EK) : Prop :=
  ∀ ex s' c' cls da sh' H' F' rh', Em ex s' c' → Rl K Z.H0 H' F' rh' sh' s' c' → Ev H F rh (Owned sh s) H' F' rh' (Owned sh' s') → ExR Z.S K H' F' rh' cls da ex → Z.W cls da sh' H'
def Jp (K : PySem.W.Frag) (H0 : Hp) (sh : L2.St) (H : Hp) (F : Fz) (rh : List Addr) (s : List Sl) (P : List Sl → Cl → Prop) (q : L2.St → Hp → Prop) : Prop :=
  ∀ s' c' sh' H' F' rh', P s' c' → Rl K H0 H' F' rh' sh' s' c' → Ev H F rh (Owned sh s) H' F' rh' (Owned sh' s') → q sh' H'
structure OkD (K : PySem.W.Frag) (H0 : Hp) (sh : L2.St) (H : Hp) (F : Fz) (rh : List Addr) (s : List Sl) (N : En) (T : Ends) : Prop where
  nx : Jp K H0 sh H F rh s N.nx T.nx
  bk : Jp K H0 sh H F rh s N.bk T.bk
  ct : Jp K H0 sh H F rh s N.ct T.ct
  rt : ∀ d o s' c' v sh' H' F' rh', N.rt d o s' c' → Rl K H0 H' F' rh' sh' s' c' → Ev H F rh (Owned sh s) H' F' rh' (Owned sh' s') → Res K H0 H' F' rh' (Owned sh' s') v d o → T.rt v H'
def tWS (Z : Sx) (K : PySem.W.Frag) (st : IS) : TS := fun T sg H => ∃ s c F rh N Em, Rl K Z.H0 H F rh sg s c ∧ wpS Z.C st s c N Em ∧ OkD K Z.H0 sg H F rh s N T ∧ OkXs Z K sg H F rh s Em
def tWSs (Z : Sx) (K : PySem.W.Frag) (st : ISs) : TS := fun T sg H => ∃ s c F rh N Em, Rl K Z.H0 H F rh sg s c ∧ wpSs Z.C st s c N Em ∧ OkD K Z.H0 sg H F rh s N T ∧ OkXs Z K sg H F rh s Em
section
variable {K : PySem.W.Frag} {Z : Sx} {H0 H H1 H' : Hp} {F F1 F' : Fz} {rh rh1 rh' : List Addr} {sh sh1 : L2.St} {s s1 : List Sl} {c c1 c' : Cl} {v : V} {d : D} {o : Bool} {N : En} {T : Ends} {Em : EK}
theorem Jp.step {P : List Sl → Cl → Prop} {q : L2.St → Hp → Prop} (j : Jp K H0 sh H F rh s P q) (e : Ev H F rh (Owned sh s) H1 F1 rh1 (Owned sh1 s1)) : Jp K H0 sh1 H1 F1 rh1 s1 P q :=
  fun s' c' sh' H' F' rh' p R e' => j s' c' sh' H' F' rh' p R (e.trans e')
theorem OkD.step (k : OkD K H0 sh H F rh s N T) (e : Ev H F rh (Owned sh s) H1 F1 rh1 (Owned sh1 s1)) : OkD K H0 sh1 H1 F1 rh1 s1 N T :=
  ⟨k.nx.step e, k.bk.step e, k.ct.step e, fun d o s' c' v sh' H' F' rh' n R e' r => k.rt d o s' c' v sh' H' F' rh' n R (e.trans e') r⟩
theorem OkXs.step (x : OkXs Z K sh H F rh s Em) (e : Ev H F rh (Owned sh s) H1 F1 rh1 (Owned sh1 s1)) : OkXs Z K sh1 H1 F1 rh1 s1 Em :=
  fun ex s' c' cls da sh' H' F' rh' q R e' r => x ex s' c' cls da sh' H' F' rh' q R (e.trans e') r
theorem OkXs.x (x : OkXs Z K sh H F rh s Em) : OkX Z K sh H F rh s Em := fun ex s' c' cls da H' F' rh' q R e r => x ex s' c' cls da sh H' F' rh' q R e r
/-- a slot takes what is its own from now on -/
theorem Rl.setOw (R : Rl K H0 H F rh sh s c) {i : Nat} {a : Addr} {ob : HO} (h0 : H0 a = none) (h1 : H a = some ob) (h2 : ObjD K H F rh ob d) (h3 : ¬ F a) (h4 : a ∉ rh) (h5 : ¬ Owned sh s a) :
    Rl K H0 H F rh (sh.set i (some (.ref a))) (s.set i (.ow d)) c ∧ ∀ b, Owned (sh.set i (some (.ref a))) (s.set i (.ow d)) b → Owned sh s b ∨ b = a := by
  have ln := R.ln
  have other : ∀ {j : Nat} {e : D}, i ≠ j → (s.set i (.ow d))[j]? = some (.ow e) → s[j]? = some (.ow e) := fun hj g => by rwa [List.getElem?_set_ne hj] at g
  have here : ∀ {j : Nat} {e : D}, i = j → (s.set i (.ow d))[j]? = some (.ow e) → e = d ∧ (sh.set i (some (V.ref a)))[j]? = some (some (.ref a)) := fun {j e} hj g => by
    subst hj
    by_cases hl : i < s.length
    · rw [List.getElem?_set_self hl] at g
      cases g
      exact ⟨rfl, by rw [List.getElem?_set_self (by omega)]⟩
    · rw [List.getElem?_eq_none (by simpa using hl)] at g; cases g
  refine ⟨⟨R.toCe, fun j e g => ?_, fun j e g => ?_, fun j k e e' b g1 g2 g3 g4 => ?_, by rw [List.length_set, List.length_set]; exact ln, fun j e b g1 g2 => ?_, R.mn⟩, fun b ⟨j, e, g1, g2⟩ => ?_⟩
  · by_cases q : i = j
    · subst q
      by_cases hl : i < s.length
      · rw [List.getElem?_set_self hl] at g; cases g
      · rw [List.getElem?_eq_none (by simpa using hl)] at g; cases g
    · rw [List.getElem?_set_ne q] at g
      rw [List.getElem?_set_ne q]
      exact R.shr j e g
  · by_cases q : i = j
    · obtain ⟨rfl, g2⟩ := here q g
      exact ⟨a, ob, g2, h1, h2, h3, h4⟩
    · rw [List.getElem?_set_ne q]
      exact R.own j e (other q g)
  · by_cases q : i = j
    · obtain ⟨rfl, k1⟩ := here q g1
      rw [k1] at g3; cases g3
      by_cases q2 : i = k
      · exact q.symm.trans q2
      · rw [List.getElem?_set_ne q2] at g4
        exact (h5 ⟨k, e', other q2 g2, g4⟩).elim
    · by_cases q2 : i = k
      · obtain ⟨rfl, k1⟩ := here q2 g2
        rw [k1] at g4; cases g4
        rw [List.getElem?_set_ne q] at g3
        exact (h5 ⟨j, e, other q g1, g3⟩).elim
      · rw [List.getElem?_set_ne q] at g3
        rw [List.getElem?_set_ne q2] at g4
        exact R.uq j k e e' b (other q g1) (other q2 g2) g3 g4
  · by_cases q : i = j
    · obtain ⟨rfl, k1⟩ := here q g1
      rw [k1] at g2; cases g2
      exact h0
    · rw [List.getElem?_set_ne q] at g2
      exact R.fr j e b (other q g1) g2
  · by_cases q : i = j
    · obtain ⟨rfl, k1⟩ := here q g1
      rw [k1] at g2; cases g2
      exact .inr rfl
    · rw [List.getElem?_set_ne q] at g2
      exact .inl ⟨j, e, other q g1, g2⟩
/-- what an expression gave is stored -/
theorem Rl.store (R : Rl K H0 H' F' rh' sh s1 c) (E : Ev H F rh (Owned sh s) H' F' rh' (Owned sh s1)) (r : Res K H H' F' rh' (Owned sh s1) v d o) (h0 : ∀ a, H a = none → H0 a = none) (i : Nat) :
    Rl K H0 H' F' rh' (sh.set i (some v)) (s1.set i (slOf d o)) c ∧ Ev H F rh (Owned sh s) H' F' rh' (Owned (sh.set i (some v)) (s1.set i (slOf d o))) := by
  cases o with
  | false =>
    obtain ⟨R2, ow⟩ := R.setSh (i := i) r
    exact ⟨R2, E.lessR ow⟩
  | true =>
    obtain ⟨a, ob, rfl, g0, g1, g2, g3, g4, g5⟩ := r
    obtain ⟨R2, ow⟩ := R.setOw (i := i) (h0 a g0) g1 g2 g3 g4 g5
    refine ⟨R2, ⟨E.toExt, E.mono, fun b o h1 h2 h3 h4 => ?_⟩⟩
    obtain ⟨k1, k2, k3, k4⟩ := E.priv b o h1 h2 h3 h4
    refine ⟨k1, k2, k3, fun z => ?_⟩
    rcases ow b z with z | z
    · exact k4 z
    · subst z; rw [g0] at h1; cases h1
/-- what an expression gave, a new list, becomes a cell -/
theorem Rl.cellify (R : Rl K H0 H' F' rh' sh s1 c) (E : Ev H F rh (Owned sh s) H' F' rh' (Owned sh s1)) (r : Res K H H' F' rh' (Owned sh s1) v d true) (i : Nat) :
    Rl K H0 H' F' (rh' ++ [match v with | .ref a => a | _ => 0]) (sh.set i (some v)) (s1.set i (.sh (.cell c.length))) (c ++ [d]) ∧ Ev H F rh (Owned sh s) H' F' (rh' ++ [match v with | .ref a => a | _ => 0]) (Owned (sh.set i (some v)) (s1.set i (.sh (.cell c.length)))) := by
  obtain ⟨a, ob, rfl, g0, g1, g2, g3, g4, g5⟩ := r
  show Rl K H0 H' F' (rh' ++ [a]) _ _ _ ∧ Ev H F rh _ H' F' (rh' ++ [a]) _
  have ex : Ext H' F' rh' H' F' (rh' ++ [a]) := ⟨fun _ h => h, fun _ _ _ h => h, fun n b h => by
    rw [List.getElem?_append_left (List.getElem?_eq_some_iff.mp h).1]; exact h⟩
  have len := R.len
  have R1 : Rl K H0 H' F' (rh' ++ [a]) sh s1 (c ++ [d]) := by
    refine ⟨⟨by rw [List.length_append, List.length_append, len]; rfl, ?_, fun n b x k1 k2 => ?_, fun b hb => ?_, R.ft⟩, fun j x g => ?_, fun j x g => ?_, R.uq, R.ln, R.fr, R.mn⟩
    · rw [List.nodup_append]
      exact ⟨R.nd, by simp, fun x hx y hy z => by
        simp only [List.mem_singleton] at hy
        subst hy; subst z; exact g4 hx⟩
    · by_cases hl : n < rh'.length
      · rw [List.getElem?_append_left hl] at k1
        rw [List.getElem?_append_left (by omega)] at k2
        obtain ⟨o', q1, q2⟩ := R.ob n b x k1 k2
        exact ⟨o', q1, q2.ext ex⟩
      · rw [List.getElem?_append_right (by omega)] at k1 k2
        rw [← len] at k2
        cases hz : n - rh'.length with
        | zero =>
          rw [hz] at k1 k2
          cases k1; cases k2
          exact ⟨ob, g1, g2.ext ex⟩
        | succ m => rw [hz] at k1; simp at k1
    · rcases List.mem_append.mp hb with z | z
      · exact R.nf b z
      · simp only [List.mem_singleton] at z
        subst z; exact g3
    · obtain ⟨w, q1, q2⟩ := R.shr j x g
      exact ⟨w, q1, q2.ext ex⟩
    · obtain ⟨b, o', q1, q2, q3, q4, q5⟩ := R.own j x g
      refine ⟨b, o', q1, q2, q3.ext ex, q4, fun z => ?_⟩
      rcases List.mem_append.mp z with z | z
      · exact q5 z
      · simp only [List.mem_singleton] at z
        subst z; exact g5 ⟨j, x, g, q1⟩
  obtain ⟨R2, ow⟩ := R1.setSh (i := i) (v := .ref a) (d := .cell c.length) (.cell (by rw [List.getElem?_append_right (by omega), len]; simp))
  refine ⟨R2, ⟨E.toExt.trans ex, E.mono, fun b o h1 h2 h3 h4 => ?_⟩⟩
  obtain ⟨k1, k2, k3, k4⟩ := E.priv b o h1 h2 h3 h4
  refine ⟨k1, k2, fun z => ?_, fun z => k4 (ow b z)⟩
  rcases List.mem_append.mp z with z | z
  · exact k3 z
  · simp only [List.mem_singleton] at z
    subst z; rw [g0] at h1; cases h1
/-- what a slot owns is handed on -/
theorem Rl.take (R : Rl K H0 H F rh sh s c) {i : Nat} (hi : s[i]? = some (.ow d)) : ∃ a, sh[i]? = some (some (.ref a)) ∧ Rl K H0 H F rh sh (s.set i .no) c ∧ (∀ b, Owned sh (s.set i .no) b → Owned sh s b) ∧ Res K H0 H F rh (Owned sh (s.set i .no)) (.ref a) d true := by
  obtain ⟨a, ob, h1, h2, h3, h4, h5⟩ := R.own i d hi
  have hil : i < s.length := (List.getElem?_eq_some_iff.mp hi).1
  have no : ∀ (e : D), Sl.no ≠ .ow e := fun e z => nomatch z
  have lift : ∀ {j : Nat} {x : Sl}, x ≠ .no → (s.set i .no)[j]? = some x → s[j]? = some x := fun {j x} hx g => by
    by_cases q : i = j
    · subst q; rw [List.getElem?_set_self hil] at g; cases g; exact (hx rfl).elim
    · rwa [List.getElem?_set_ne q] at g
  refine ⟨a, h1, ⟨R.toCe, fun j x g => R.shr j x (lift (fun z => nomatch z) g), fun j x g => R.own j x (lift (fun z => nomatch z) g), fun j k x y b g1 g2 => R.uq j k x y b (lift (fun z => nomatch z) g1) (lift (fun z => nomatch z) g2), by rw [List.length_set]; exact R.ln, fun j x b g => R.fr j x b (lift (fun z => nomatch z) g), R.mn⟩,
    fun b h => owned_set no h, a, ob, rfl, R.fr i d a hi h1, h2, h3, h4, h5, fun ⟨j, x, g1, g2⟩ => ?_⟩
  have q := R.uq i j d x a hi (lift (fun z => nomatch z) g1) h1 g2
  subst q
  rw [List.getElem?_set_self hil] at g1; cases g1
theorem RepL.two {vs : List V} {ds : List D} (r : RepL K H F rh vs ds) (h : ds.length = 2) : ∃ x y a b, vs = [x, y] ∧ ds = [a, b] ∧ Rep K H F rh x a ∧ Rep K H F rh y b := by
  cases r with
  | nil => cases h
  | cons p r => cases r with
    | nil => cases h
    | cons q r => cases r with
      | nil => exact ⟨_, _, _, _, rfl, rfl, p, q⟩
      | cons _ _ => simp at h
theorem RepL.three {vs : List V} {ds : List D} (r : RepL K H F rh vs ds) (h : ds.length = 3) : ∃ x y z a b e, vs = [x, y, z] ∧ ds = [a, b, e] ∧ Rep K H F rh x a ∧ Rep K H F rh y b ∧ Rep K H F rh z e := by
  cases r with
  | nil => cases h
  | cons p r => cases r with
    | nil => cases h
    | cons q r => cases r with
      | nil => cases h
      | cons w r => cases r with
        | nil => exact ⟨_, _, _, _, _, _, rfl, rfl, p, q, w⟩
        | cons _ _ => simp at h
theorem Rep.shr_of {i : Nat} (R : Rl K H0 H F rh sh s c) (h : s[i]? = some (.sh d)) : ∃ v, sh[i]? = some (some v) ∧ Rep K H F rh v d := R.shr i d h
end
section
variable {X : Cx} {M : Nm} {Z : Sx} {H H1 : Hp} {F F1 : Fz} {rh rh1 : List Addr} {sh : L2.St} {s s1 : List Sl} {c c1 : Cl} {e : Expr} {ie : IE} {pos : Pos} {st : Stmt} {rest body : List Stmt} {a : IS} {l b : ISs}
theorem PS.imp {t t' : TS} (h : PS X st t) (i : ∀ T sg H, t' T sg H → t T sg H) : PS X st t' := ⟨fun p s sg H T I w => h.run p s sg H T I (i T sg H w)⟩
theorem PSs.imp {t t' : TS} (h : PSs X rest t) (i : ∀ T sg H, t' T sg H → t T sg H) : PSs X rest t' := ⟨fun p s sg H T I w => h.run p s sg H T I (i T sg H w)⟩
theorem sndS_nil : PSs X [] (tWSs Z X.K .nil) := PSs.imp pss_nil fun T sg H ⟨s, c, F, rh, N, Em, R, w, ok, x⟩ => by
  unfold wpSs at w
  exact ok.nx s c sg H F rh w R Ev.refl
theorem sndS_cons (h1 : PS X st (tWS Z X.K a)) (h2 : PSs X rest (tWSs Z X.K l)) : PSs X (st :: rest) (tWSs Z X.K (.cons a l)) := PSs.imp (pss_cons h1 h2) fun T sg H ⟨s, c, F, rh, N, Em, R, w, ok, x⟩ => by
  unfold wpSs at w
  exact ⟨s, c, F, rh, _, Em, R, w, ⟨fun s' c' sh' H' F' rh' q R' e => ⟨s', c', F', rh', N, Em, R', q, ok.step e, x.step e⟩, ok.bk, ok.ct, ok.rt⟩, x⟩
theorem snd_pass : PS X (.Pass pos) (tWS Z X.K .pass) := PS.imp ps_pass fun T sg H ⟨s, c, F, rh, N, Em, R, w, ok, x⟩ => by
  unfold wpS at w
  exact ok.nx s c sg H F rh w R Ev.refl
theorem snd_brk : PS X (.Break pos) (tWS Z X.K .brk) := PS.imp ps_break fun T sg H ⟨s, c, F, rh, N, Em, R, w, ok, x⟩ => by
  unfold wpS at w
  exact ok.bk s c sg H F rh w R Ev.refl
theorem snd_cont : PS X (.Continue pos) (tWS Z X.K .cont) := PS.imp ps_continue fun T sg H ⟨s, c, F, rh, N, Em, R, w, ok, x⟩ => by
  unfold wpS at w
  exact ok.ct s c sg H F rh w R Ev.refl
theorem snd_doc {x : Str} {j : Nat} {pos' : Pos} : PS X (.Expr (.Constant (.str x) j pos) pos') (tWS Z X.K .pass) := PS.imp ps_doc fun T sg H ⟨s, c, F, rh, N, Em, R, w, ok, x⟩ => by
  unfold wpS at w
  exact ok.nx s c sg H F rh w R Ev.refl
theorem asg_use {i : Nat} {T : Ends} (h : tWS Z X.K (.asg i ie) T sh H) : tW Z X.K false ie sh H fun v H1 => T.nx (sh.set i (some v)) H1 := by
  obtain ⟨s, c, F, rh, N, Em, R, w, ok, x⟩ := h
  unfold wpS at w
  refine ⟨s, c, F, rh, _, Em, R, w, fun d o s' c' v H' F' rh' q R' e r => ?_, x.x⟩
  obtain ⟨R2, e2⟩ := R'.store e r R.mn i
  exact ok.nx _ c' _ H' F' rh' q R2 e2
theorem cellify_use {i : Nat} {T : Ends} (h : tWS Z X.K (.cellify i ie) T sh H) : tW Z X.K false ie sh H fun v H1 => T.nx (sh.set i (some v)) H1 := by
  obtain ⟨s, c, F, rh, N, Em, R, w, ok, x⟩ := h
  unfold wpS at w
  refine ⟨s, c, F, rh, _, Em, R, w, fun d o s' c' v H' F' rh' q R' e r => ?_, x.x⟩
  obtain ⟨rfl, q⟩ := q
  obtain ⟨R2, e2⟩ := R'.cellify e r i
  exact ok.nx _ _ _ H' F' _ q R2 e2
theorem snd_asg {i : Nat} {x : Str} {p : Pos} (G : GOk X M Z) (hi : X.N[i]? = some x) (hx : Loc X.env.scope x) (he : PE X e (tW Z X.K false ie)) (hs : swapsWith e (some (.Name x p)) pos.line X.env = pure false) (hf : X.fn x = true ∨ X.env.scope.names.lookup x = some .local) :
    PS X (.Assign [.Name x p] e pos) (tWS Z X.K (.asg i ie)) ∧ PS X (.Assign [.Name x p] e pos) (tWS Z X.K (.cellify i ie)) :=
  ⟨PS.imp (ps_set G.nd hi hx he hs hf) fun T sg H h => asg_use h, PS.imp (ps_set G.nd hi hx he hs hf) fun T sg H h => cellify_use h⟩
theorem snd_expr (he : PE X e (tW Z X.K false ie)) (hs : swapsWith e none pos.line X.env = pure false) : PS X (.Expr e pos) (tWS Z X.K (.expr ie)) := PS.imp (ps_expr he hs) fun T sg H ⟨s, c, F, rh, N, Em, R, w, ok, x⟩ => by
  unfold wpS at w
  exact tW.mk R w x.x fun d o s1 c1 v H1 F1 rh1 q R1 e1 x1 r1 => ok.nx s1 c1 sg H1 F1 rh1 q R1 e1
theorem snd_ret (he : PE X e (tW Z X.K false ie)) : PS X (.Return (some e) pos) (tWS Z X.K (.ret ie)) := PS.imp (ps_ret he) fun T sg H ⟨s, c, F, rh, N, Em, R, w, ok, x⟩ => by
  unfold wpS at w
  refine ⟨s, c, F, rh, _, Em, R, w, fun d o s' c' v H' F' rh' q R' e r => ok.rt d o s' c' v sg H' F' rh' q R' e ?_, x.x⟩
  cases o with
  | false => exact r
  | true =>
    obtain ⟨a, ob, g1, g2, g3⟩ := r
    exact ⟨a, ob, g1, R.mn a g2, g3⟩
theorem snd_retN : PS X (.Return none pos) (tWS Z X.K .retN) := PS.imp ps_retN fun T sg H ⟨s, c, F, rh, N, Em, R, w, ok, x⟩ => by
  unfold wpS at w
  exact ok.rt .non false s c .non sg H F rh w R Ev.refl .non
theorem snd_retv {i : Nat} {x : Str} {p : Pos} (hN : X.N[i]? = some x) (hv : Vis X.env.scope x) (h1 : (x == ("__debug__" : Str)) = false) (h2 : (x == ("__classdict__" : Str)) = false) : PS X (.Return (some (.Name x p)) pos) (tWS Z X.K (.retv i)) :=
  PS.imp (ps_ret (pe_var hN hv h1 h2)) fun T sg H ⟨s, c, F, rh, N, Em, R, w, ok, x⟩ => by
    unfold wpS at w
    split at w
    · rename_i d hs
      obtain ⟨v, g1, g2⟩ := R.shr i d hs
      exact ⟨v, g1, ok.rt d false s c v sg H F rh w R Ev.refl g2⟩
    · rename_i d hs
      obtain ⟨a, g1, R2, ow, r⟩ := R.take hs
      exact ⟨_, g1, ok.rt d true _ c _ sg H F rh w R2 (Ev.refl.lessR ow) r⟩
    · exact w.elim
theorem snd_if {cc : Expr} {p q : List Stmt} {la lb : ISs} (hc : PT X cc (tWT Z X.K ie)) (ha : PSs X p (tWSs Z X.K la)) (hb : PSs X q (tWSs Z X.K lb)) : PS X (.If cc p q pos) (tWS Z X.K (.ifs ie la lb)) :=
  PS.imp (ps_if hc ha hb) fun T sg H ⟨s, c, F, rh, N, Em, R, w, ok, x⟩ => by
    unfold wpS at w
    refine test_mk R w x.x (fun d o s1 c1 k H1 F1 rh1 q ed R1 e1 x1 => ?_) fun d o s1 c1 ⟨k, q, _⟩ => ⟨k, q⟩
    subst ed
    obtain ⟨k', q1, q2⟩ := q
    cases q1
    cases k with
    | true => exact ⟨s1, c1, F1, rh1, N, Em, R1, q2, ok.step e1, x.step e1⟩
    | false => exact ⟨s1, c1, F1, rh1, N, Em, R1, q2, ok.step e1, x.step e1⟩
end
end Vm

/-! Vm: assignments and loops are sound -/
namespace Vm
open PySem PySem.Spec L2
open PyProof.Rows hiding St
section
variable {X : Cx} {M : Nm} {Z : Sx} {H H1 : Hp} {F F1 : Fz} {rh rh1 : List Addr} {sh : L2.St} {s s1 : List Sl} {c c1 : Cl} {e e2 : Expr} {ie ib : IE} {pos : Pos} {st : Stmt} {rest body : List Stmt} {a : IS} {l b : ISs} {il : IL}
theorem snd_setLc {i : Nat} {y : Str} {py spos : Pos} {elt tgE iter : Expr} {ifsE : List Expr} {scope : Scope} {ownP : List (Str × Nat)} {own : List Nat} {t : Tg} {src : IT} {ifs : IL} (G : GOk X M Z) (hy : X.N[i]? = some y) (hyl : X.env.scope.names.lookup y = some .local)
    (hsw : swapsWith (.ListComp elt [⟨tgE, iter, ifsE, 0⟩] scope pos) (some (.Name y py)) spos.line X.env = pure true) (hi : PI X tgE iter (tWI Z X.K src)) (bo : BlkOk X.N X.env.scope scope ownP) (ho : ownP.map (·.2) = own)
    (hg : ∀ (s : Shared) (H : Hp) (C : Addr) (cl : List (Str × Addr)) (fp : List Addr), PG (X.blk s H scope (compEnvC scope cl C X.env) fp) tgE (gOf X.K t))
    (ht : ∀ (s : Shared) (H : Hp) (C : Addr) (cl : List (Str × Addr)) (fp : List Addr), PTs (X.blk s H scope (compEnvC scope cl C X.env) fp) ifsE (tWIf Z.mute X.K ifs))
    (he : ∀ (s : Shared) (H : Hp) (C : Addr) (cl : List (Str × Addr)) (fp : List Addr), PE (X.blk s H scope (compEnvC scope cl C X.env) fp) elt (tW Z.mute X.K false ie))
    (hs : ∀ x, foldedSetIterable iter X.env x = pure x) (ti : tgIn own t = true) :
    PS X (.Assign [.Name y py] (.ListComp elt [⟨tgE, iter, ifsE, 0⟩] scope pos) spos) (tWS Z X.K (.asg i (.comp own t src ifs ie))) ∧ PS X (.Assign [.Name y py] (.ListComp elt [⟨tgE, iter, ifsE, 0⟩] scope pos) spos) (tWS Z X.K (.cellify i (.comp own t src ifs ie))) := by
  subst ho
  have main := ps_setLc G.calm G.nd hy hyl hsw hi bo hg ht he hs
  exact ⟨PS.imp main fun T sg H h => comp_use ti (asg_use h), PS.imp main fun T sg H h => comp_use ti (cellify_use h)⟩
theorem snd_asgT {tgE : Expr} {l : TgL} (he : PE X e (tW Z X.K false ie)) (hg : PG X tgE (gOf X.K (.tp l))) (hs : swapsWithSole [tgE] e pos.line X.env = pure false) (hw : swappedStores [tgE] e X.env = pure none) (h1 : (assignEach [tgE] X.env).map (·.2) = [assign tgE X.env]) :
    PS X (.Assign [tgE] e pos) (tWS Z X.K (.asgT l ie)) := PS.imp (ps_asg he hg hs hw h1) fun T sg H ⟨s, c, F, rh, N, Em, R, w, ok, x⟩ => by
  unfold wpS at w
  refine tW.mk R w x.x fun d o s1 c1 v H1 F1 rh1 q R1 e1 x1 r1 => ?_
  cases hb : bindT (.tp l) d s1 with
  | none => rw [hb] at q; exact q.elim
  | some s2 =>
    rw [hb] at q
    exact bind_use (own := []) (.tp l) R1 r1 hb fun sh2 R2 o2 _ => ok.nx s2 c1 sh2 H1 F1 rh1 q R2 (e1.lessR o2)
theorem par_use {is : List Nat} {T : Ends} {vs : List V} {ds : List D} {N : En} (R : Rl X.K Z.H0 H F rh sh s c) (ok : OkD X.K Z.H0 sh H F rh s N T) : ∀ (is : List Nat) {vs : List V} {ds : List D} {sh1 : L2.St} {s1 : List Sl}, Rl X.K Z.H0 H F rh sh1 s1 c → Ev H F rh (Owned sh s) H F rh (Owned sh1 s1) → RepL X.K H F rh vs ds → ds.length = is.length → N.nx (setAll s1 is ds) c →
    T.nx ((is.zip vs).foldl (fun sg p => sg.set p.1 (some p.2)) sh1) H := by
  intro is
  induction is with
  | nil =>
    intro vs ds sh1 s1 R1 E1 r hl q
    exact ok.nx _ c _ H F rh q R1 E1
  | cons i is ih =>
    intro vs ds sh1 s1 R1 E1 r hl q
    cases r with
    | nil => cases hl
    | cons h r =>
      obtain ⟨R2, ow⟩ := R1.setSh (i := i) h
      exact ih R2 (E1.lessR ow) r (by simpa using hl) q
theorem snd_par2 {i j : Nat} {x y : Str} {p q : Expr} {px py pt : Pos} {kt k2 pt2} (G : GOk X M Z) (hi : X.N[i]? = some x) (hj : X.N[j]? = some y) (hij : i ≠ j) (hx : X.env.scope.names.lookup x = some .local) (hy : X.env.scope.names.lookup y = some .local) (ha : PA X [p, q] (tWL Z X.K il))
    (hw : swappedStores [.Tuple [.Name x px, .Name y py] kt pt] (.Tuple [p, q] k2 pt2) X.env = pure (some [x, y])) (hs : swapsWithSole [.Tuple [.Name x px, .Name y py] kt pt] (.Tuple [p, q] k2 pt2) pos.line X.env = pure false) :
    PS X (.Assign [.Tuple [.Name x px, .Name y py] kt pt] (.Tuple [p, q] k2 pt2) pos) (tWS Z X.K (.par [i, j] il)) := PS.imp (ps_par G.calm G.nd hi hj hij hx hy ha hw hs) fun T sg H ⟨s, c, F, rh, N, Em, R, w, ok, x⟩ => by
  unfold wpS at w
  refine tWL.mk R w x.x fun ds s1 c1 vs H1 F1 rh1 q R1 e1 x1 r1 => ?_
  obtain ⟨u, v, a, b, rfl, rfl, r2, r3⟩ := r1.two q.1
  exact ⟨u, v, rfl, par_use (vs := [u, v]) (ds := []) (is := []) R1 (ok.step e1) [i, j] R1 Ev.refl (.cons r2 (.cons r3 .nil)) rfl q.2⟩
theorem snd_par3 {i j k : Nat} {x y z : Str} {p q r : Expr} {px py pz pt : Pos} {kt k2 pt2} (G : GOk X M Z) (hi : X.N[i]? = some x) (hj : X.N[j]? = some y) (hk : X.N[k]? = some z) (hij : i ≠ j) (hik : i ≠ k) (hjk : j ≠ k) (hx : X.env.scope.names.lookup x = some .local) (hy : X.env.scope.names.lookup y = some .local) (hz : X.env.scope.names.lookup z = some .local) (ha : PA X [p, q, r] (tWL Z X.K il))
    (hw : swappedStores [.Tuple [.Name x px, .Name y py, .Name z pz] kt pt] (.Tuple [p, q, r] k2 pt2) X.env = pure (some [x, y, z])) (hs : swapsWithSole [.Tuple [.Name x px, .Name y py, .Name z pz] kt pt] (.Tuple [p, q, r] k2 pt2) pos.line X.env = pure false) :
    PS X (.Assign [.Tuple [.Name x px, .Name y py, .Name z pz] kt pt] (.Tuple [p, q, r] k2 pt2) pos) (tWS Z X.K (.par [i, j, k] il)) := PS.imp (ps_par3 G.calm G.nd hi hj hk hij hik hjk hx hy hz ha hw hs) fun T sg H ⟨s, c, F, rh, N, Em, R, w, ok, x⟩ => by
  unfold wpS at w
  refine tWL.mk R w x.x fun ds s1 c1 vs H1 F1 rh1 q R1 e1 x1 r1 => ?_
  obtain ⟨u, v, t, a, b, d, rfl, rfl, r2, r3, r4⟩ := r1.three q.1
  exact ⟨u, v, t, rfl, par_use (vs := [u, v, t]) (ds := []) (is := []) R1 (ok.step e1) [i, j, k] R1 Ev.refl (.cons r2 (.cons r3 (.cons r4 .nil))) rfl q.2⟩
/-- name op= value, by values -/
def rA (K : PySem.W.Frag) (op : Operator) : R2 := fun v u H Q => ((∃ i : Int, v = .int i) ∨ (∃ z : Str, v = .str z) ∧ op = .Add) ∧ r2 K (binW op) v u H Q
theorem ip_ok {op : Operator} (ho : op = .Add ∨ op = .Sub ∨ op = .Mult) : PIp X op (rA X.K op) := by
  intro pins s sg H x y v u Q I rx ry ⟨hv, F, rh, c, dx, dy, Qm, C, hx, hy, w, q⟩
  rcases ho with rfl | rfl | rfl
  · simp only [binW] at w
    split at w
    · cases hx; cases hy
      exact ip_add pins s sg H _ _ v u Q I rx ry ⟨_, _, rfl, rfl, q _ _ _ _ w (.old .int)⟩
    · cases hx; cases hy
      exact iop_add_str pins s sg H _ _ v u Q I rx ry ⟨_, _, rfl, rfl, w.1, q _ _ _ _ w.2 (.old .str)⟩
    · obtain ⟨a, vs, rfl, _⟩ := hx.tup_of
      rcases hv with ⟨i, z⟩ | ⟨⟨i, z⟩, _⟩ <;> cases z
    · obtain ⟨xs, ys, h1, h2, h3, h4⟩ := w
      obtain ⟨a, vs, rfl, _⟩ := asL_of C hx h1
      rcases hv with ⟨i, z⟩ | ⟨⟨i, z⟩, _⟩ <;> cases z
  · simp only [binW] at w
    split at w
    · cases hx; cases hy
      exact ip_sub pins s sg H _ _ v u Q I rx ry ⟨_, _, rfl, rfl, q _ _ _ _ w (.old .int)⟩
    · exact w.elim
  · rcases hv with ⟨k, rfl⟩ | ⟨_, z⟩
    · cases hx
      cases dy with
      | int j =>
        cases hy
        have w' : (CMul k j ∨ CMulW k j) ∧ Qm (.int (k * j)) false := w
        obtain ⟨t, rfl⟩ := (rx : ∃ t, v = Value.int k t)
        obtain ⟨t2, rfl⟩ := (ry : ∃ t, u = Value.int j t)
        have kk := q _ _ _ _ w'.2 (.old .int)
        refine imul_int ⟨.int _, H, I.tok _, ⟨_, rfl⟩, kk⟩ ?_
        rcases w'.1 with w1 | w1
        · exact w1.ok
        · exact w1.ok
      | _ => exact (show False from w).elim
    · cases z
theorem snd_aug {i : Nat} {x : Str} {p : Pos} {op : Operator} (G : GOk X M Z) (hi : X.N[i]? = some x) (hx : Loc X.env.scope x) (he : PE X e (tW Z X.K false ie)) (ho : op = .Add ∨ op = .Sub ∨ op = .Mult) (hf : X.fn x = true ∨ X.env.scope.names.lookup x = some .local) :
    PS X (.AugAssign (.Name x p) op e pos) (tWS Z X.K (.aug i op ie)) := PS.imp (ps_aug G.nd hi hx he (ip_ok ho) hf) fun T sg H ⟨s, c, F, rh, N, Em, R, w, ok, x⟩ => by
  have fin : ∀ {d0 : D} {v0 : V}, s[i]? = some (.sh d0) → sg[i]? = some (some v0) → Rep X.K H F rh v0 d0 → (((∃ i : Int, v0 = .int i) ∨ (∃ z : Str, v0 = .str z) ∧ op = .Add)) → wpE Z.C false ie s c (fun y _ s1 c1 => binW op c1 d0 y fun d o => N.nx (s1.set i (slOf d o)) c1) Em → tAug i (tW Z X.K false ie) (rA X.K op) T sg H := by
    intro d0 v0 h1 h2 r0 hv w
    refine ⟨v0, h2, tW.mk R w x.x fun d o s1 c1 v H1 F1 rh1 q R1 e1 x1 r1 => ⟨hv, F1, rh1, c1, d0, d, _, R1.toCe, r0.ext e1.toExt, r1, q, fun d' o' v' H' q' u => ?_⟩⟩
    have okq : OkQ X.K Z.H0 sg H1 F1 rh1 s1 (fun d o s' c' => N.nx (s'.set i (slOf d o)) c') (fun v H2 => T.nx (sg.set i (some v)) H2) := fun d o s' c' v H' F' rh' q R' e r => by
      obtain ⟨R2, e2⟩ := R'.store e r R1.mn i
      exact ok.nx _ c' _ H' F' rh' q R2 (e1.trans e2)
    exact okq.out R1 u q'
  unfold wpS at w
  split at w
  · rename_i k hs
    obtain ⟨v, g1, g2⟩ := R.shr i _ hs
    cases g2
    exact fin hs g1 .int (.inl ⟨k, rfl⟩) w
  · rename_i k hs
    obtain ⟨v, g1, g2⟩ := R.shr i _ hs
    cases g2
    obtain ⟨rfl, w⟩ := w
    exact fin hs g1 .str (.inr ⟨⟨k, rfl⟩, rfl⟩) w
  · exact w.elim
theorem snd_seti {o : Nat} {x : Str} {p tpos : Pos} {ei : Expr} (hN : X.N[o]? = some x) (hv : Vis X.env.scope x) (hd1 : (x == ("__debug__" : Str)) = false) (hd2 : (x == ("__classdict__" : Str)) = false) (hi : PE X ei (tW Z X.K false ib)) (he : PE X e (tW Z X.K false ie))
    (ha : ∀ v, assign (.Subscript (.Name x p) ei tpos) X.env v = (do
      let ov ← holding [v] (eval (.Name x p) X.env)
      let iv ← holding [v, ov] (eval ei X.env)
      standAt tpos
      holding [v, ov, iv] (setItem ov iv v)
      release [v, ov, iv] []))
    (hs : swapsWithSole [.Subscript (.Name x p) ei tpos] e pos.line X.env = pure false) (hw : swappedStores [.Subscript (.Name x p) ei tpos] e X.env = pure none) (h1 : (assignEach [.Subscript (.Name x p) ei tpos] X.env).map (·.2) = [assign (.Subscript (.Name x p) ei tpos) X.env]) :
    PS X (.Assign [.Subscript (.Name x p) ei tpos] e pos) (tWS Z X.K (.seti o ib ie)) := PS.imp (ps_asg he (pg_sub (pe_var hN hv hd1 hd2) hi set_list ha) hs hw h1) fun T sg H ⟨s, c, F, rh, N, Em, R, w, ok, x⟩ => by
  unfold wpS at w
  refine tW.mk R w x.x fun d o1 s1 c1 v H1 F1 rh1 q R1 e1 x1 r1 => ?_
  obtain ⟨q0, q⟩ := q
  obtain ⟨a, vs0, g1, _⟩ := slotL_at R1 q0
  refine ⟨.ref a, g1, tW.mk R1 q x1 fun d2 o2 s2 c2 v2 H2 F2 rh2 q2 R2 e2 x2 r2 => ?_⟩
  obtain ⟨b, ws, xs, g, k1, k2, k3, k4, k5, k6⟩ := slot_use R2 q2
  rw [g1] at k1
  cases k1
  have r1' := r1.ext e2.toExt
  unfold setiW at k4
  split at k4
  · rename_i k
    obtain ⟨j, m1, m2⟩ := k4
    cases r2
    refine ⟨a, ws, k, j, rfl, rfl, k2, by rw [k3.len]; exact m1, ?_⟩
    obtain ⟨R3, e3⟩ := k6 _ _ (k3.set r1' j)
    exact ok.nx _ _ _ _ _ _ m2 R3 ((e1.trans e2).trans e3)
  · exact k4.elim
/-! loops -/
theorem snd_while {cc : Expr} {lb : ISs} (hp : PassesOwn (model X.prog X.w) X.A X.env X.xe) (hc : PT X cc (tWT Z X.K ie)) (hb : PSs X body (tWSs Z X.K lb)) : PS X (.While cc body [] pos) (tWS Z X.K (.while_ ie lb)) := PS.imp (ps_while hp hc hb) fun T sg H ⟨s, c, F, rh, N, Em, R, w, ok, x⟩ => by
  unfold wpS at w
  obtain ⟨n, w⟩ := w
  refine ⟨fun m sg1 H1 => ∃ s1 c1 F1 rh1, Rl X.K Z.H0 H1 F1 rh1 sg1 s1 c1 ∧ Ev H F rh (Owned sg s) H1 F1 rh1 (Owned sg1 s1) ∧ loopW (fun s1 c1 nxt => wpE Z.C true ie s1 c1 (fun d _ s2 c2 => ∃ k, d = .bl k ∧ (match k with
      | true => wpSs Z.C lb s2 c2 { nx := nxt, ct := nxt, bk := N.nx, rt := N.rt } Em
      | false => N.nx s2 c2)) Em) m s1 c1, ⟨n, s, c, F, rh, R, Ev.refl, w⟩, ?_⟩
  rintro m sg1 H1 ⟨s1, c1, F1, rh1, R1, e1, w1⟩
  cases m with
  | zero => exact w1.elim
  | succ m =>
    have w1' := w1
    unfold loopW at w1'
    refine test_mk R1 w1' (x.step e1).x (fun d o s2 c2 k H2 F2 rh2 q ed R2 e2 x2 => ?_) fun d o s2 c2 ⟨k, q, _⟩ => ⟨k, q⟩
    subst ed
    obtain ⟨k', q1, q2⟩ := q
    cases q1
    cases k with
    | false =>
      rw [if_neg Bool.false_ne_true]
      exact ok.nx s2 c2 _ H2 F2 rh2 q2 R2 (e1.trans e2)
    | true =>
      rw [if_pos rfl]
      refine ⟨_, fun sg' H' z => ⟨m, Nat.lt_succ_self m, z⟩, s2, c2, F2, rh2, _, Em, R2, q2, ?_, (x.step e1).step e2⟩
      have e12 := e1.trans e2
      exact ⟨fun s' c' sh' H' F' rh' p R' e' => ⟨s', c', F', rh', R', e12.trans e', p⟩, fun s' c' sh' H' F' rh' p R' e' => ok.nx s' c' sh' H' F' rh' p R' (e12.trans e'), fun s' c' sh' H' F' rh' p R' e' => ⟨s', c', F', rh', R', e12.trans e', p⟩, fun d o s' c' v sh' H' F' rh' n R' e' r => ok.rt d o s' c' v sh' H' F' rh' n R' (e12.trans e') r⟩
theorem snd_for {tgE iter : Expr} {t : Tg} {src : IT} {lb : ISs} (G : GOk X M Z) (hp : PassesOwn (model X.prog X.w) X.A X.env X.xe) (hi : PI X tgE iter (tWI Z X.K src)) (hg : PG X tgE (gOf X.K t)) (hb : PSs X body (tWSs Z X.K lb)) (hs : ∀ x, foldedSetIterable iter X.env x = pure x) :
    PS X (.For tgE iter body [] pos) (tWS Z X.K (.for_ t src lb)) := PS.imp (ps_for hp G.calm hi hg hb hs) fun T sg H ⟨s, c, F, rh, N, Em, R, w, ok, x⟩ => by
  unfold wpS at w
  refine ⟨s, c, F, rh, _, Em, R, w, fun xs g s1 c1 J H1 F1 rh1 lp gc R1 e1 x1 wd => ?_, x.x⟩
  refine ⟨fun i m sg2 H2 => m = xs.length - i ∧ i ≤ xs.length ∧ ∃ s2 c2 F2 rh2, Rl X.K Z.H0 H2 F2 rh2 sg2 s2 c2 ∧ Ev H1 F1 rh1 (Owned sg s1) H2 F2 rh2 (Owned sg2 s2) ∧ loopF g (fun x s2 c2 nxt => match bindT t x s2 with
      | none => False
      | some s3 => wpSs Z.C lb s3 c2 { nx := nxt, ct := nxt, bk := N.nx, rt := N.rt } Em) (xs.drop i) s2 c2 N.nx, ⟨xs.length, by rw [Nat.sub_zero], Nat.zero_le _, s1, c1, F1, rh1, R1, Ev.refl, lp⟩, ?_⟩
  rintro i m sg2 H2 ⟨rfl, hi, s2, c2, F2, rh2, R2, e2, lp⟩
  by_cases hlt : i < xs.length
  · have dr : xs.drop i = xs[i] :: xs.drop (i + 1) := List.drop_eq_getElem_cons hlt
    rw [dr] at lp
    unfold loopF at lp
    obtain ⟨gc', lp⟩ := lp
    refine .inr ⟨wd.go i H2 F2 rh2 c2 hlt e2.toExt R2.toCe gc', fun sg' H' => ∃ m', m' < xs.length - i ∧ _, fun sg' H' z => z, fun xv H3 y => ?_⟩
    obtain ⟨d, hd, u⟩ := wd.yld i H2 F2 rh2 c2 xv H3 hlt e2.toExt R2.toCe gc' y
    rw [List.getElem?_eq_getElem hlt] at hd
    cases hd
    obtain ⟨F3, R3, e3, r3⟩ := u.enter R2
    cases hb : bindT t xs[i] s2 with
    | none => rw [hb] at lp; exact lp.elim
    | some s3 =>
      rw [hb] at lp
      refine bind_use (own := []) t R3 r3 hb fun sg3 R4 o4 _ => ?_
      have e4 : Ev H2 F2 rh2 (Owned sg2 s2) H3 F3 rh2 (Owned sg3 s3) := e3.lessR o4
      have e14 := e2.trans e4
      refine ⟨s3, c2, F3, rh2, _, Em, R4, lp, ?_, (x.step e1).step e14⟩
      exact ⟨fun s' c' sh' H' F' rh' p R' e' => ⟨xs.length - (i + 1), by omega, rfl, hlt, s', c', F', rh', R', e14.trans e', p⟩, fun s' c' sh' H' F' rh' p R' e' => ok.nx s' c' sh' H' F' rh' p R' ((e1.trans e14).trans e'),
        fun s' c' sh' H' F' rh' p R' e' => ⟨xs.length - (i + 1), by omega, rfl, hlt, s', c', F', rh', R', e14.trans e', p⟩, fun d o s' c' v sh' H' F' rh' n R' e' r => ok.rt d o s' c' v sh' H' F' rh' n R' ((e1.trans e14).trans e') r⟩
  · have e : i = xs.length := by omega
    subst e
    rw [List.drop_length] at lp
    unfold loopF at lp
    obtain ⟨gc', kf⟩ := lp
    exact .inl ⟨wd.stop H2 F2 rh2 c2 e2.toExt R2.toCe gc', ok.nx s2 c2 sg2 H2 F2 rh2 kf R2 (e1.trans e2)⟩
end
end Vm

/-! Vm: the check that a term of the language is an expression of the program, and what it gives -/
namespace Vm
open PySem PySem.Spec L2
open PyProof.Rows hiding St
def nmB (N : List Str) (i : Nat) (x : Str) : Bool := decide (N[i]? = some x)
def visB (sc : Scope) (x : Str) : Bool := match sc.names.lookup x with
  | some .local | some .cell | some .free => true
  | _ => false
def locB (sc : Scope) (x : Str) : Bool := match sc.names.lookup x with
  | some .local | some .cell => true
  | _ => false
def ownB (sc : Scope) (x : Str) : Bool := match sc.names.lookup x with
  | some .local => true
  | _ => false
def glB (sc : Scope) (x : Str) : Bool := match sc.names.lookup x with
  | some .globalImplicit => true
  | _ => false
def dbgB (x : Str) : Bool := decide (x ≠ ("__debug__" : Str)) && decide (x ≠ ("__classdict__" : Str))
def ixB : Expr → Bool
  | .Slice _ _ none _ => false
  | _ => true
def notNoArgCall : Expr → Bool
  | .Call (.Name _ _) [] [] _ => false
  | _ => true
def notSetE : Expr → Bool
  | .Set _ _ _ => false
  | _ => true
def conB (d : D) (k : Const) : Bool := match k, d with
  | .none, .non => true
  | .bool b, .bl b' => decide (b = b')
  | .int i, .int j => decide (i = j)
  | .str s, .str z => decide (s = z)
  | _, _ => false
def ownsOf (N : List Str) (own : List Nat) : List (Str × Nat) := own.map fun i => ((N[i]?).getD "", i)
theorem ownsOf_map (N : List Str) (own : List Nat) : (ownsOf N own).map (·.2) = own := by
  unfold ownsOf
  rw [List.map_map]
  induction own with
  | nil => rfl
  | cons i own ih => rw [List.map_cons, ih]; rfl
def mutB (m : Mt) : Bool := match m with
  | .append | .extend | .pop | .clear => true
  | _ => false
mutual
def okT : IE → Bool
  | .ite _ _ _ => false
  | .bool _ l => okTL l
  | .not a => okT a
  | _ => true
def okTL : IL → Bool
  | .nil => true
  | .cons a l => okT a && okTL l
end
mutual
def ckT (cl : Bool) (N : List Str) (sc : Scope) : Tg → Expr → Bool
  | .nm i, e => (match e with
    | .Name x _ => nmB N i x && (ownB sc x || (cl && locB sc x))
    | _ => false)
  | .tp l, e => (match e with
    | .Tuple es _ _ => ckTs cl N sc l es
    | _ => false)
def ckTs (cl : Bool) (N : List Str) (sc : Scope) : TgL → List Expr → Bool
  | .nil, es => es.isEmpty
  | .cons t l, es => (match es with
    | e :: es => notStar e && ckT cl N sc t e && ckTs cl N sc l es
    | [] => false)
end
mutual
def ckE (N : List Str) (M : Nm) (sc : Scope) : IE → Expr → Bool
  | .var i, e => (match e with
    | .Name x _ => nmB N i x && visB sc x && dbgB x
    | _ => false)
  | .con d, e => (match e with
    | .Constant k _ _ => conB d k
    | _ => false)
  | .glob i, e => (match e with
    | .Name x _ => glB sc x && decide (M.gl i = x) && dbgB x
    | _ => false)
  | .bin op a b, e => (match e with
    | .BinOp ea op' eb _ => decide (op = op') && ckE N M sc a ea && ckE N M sc b eb
    | _ => false)
  | .un op a, e => (match e with
    | .UnaryOp op' ea _ => decide (op = op') && decide (op ≠ .Not) && ckE N M sc a ea
    | _ => false)
  | .cmp op a b, e => (match e with
    | .Compare ea [op'] [eb] _ => decide (op = op') && ckE N M sc a ea && ckE N M sc b eb && !behindInMarks op eb
    | _ => false)
  | .chain op op2 a b c, e => (match e with
    | .Compare ea [op', op2'] [eb, ec] _ => decide (op = op') && decide (op2 = op2') && ckE N M sc a ea && ckE N M sc b eb && ckE N M sc c ec && !lastMarks [op, op2] [eb, ec]
    | _ => false)
  | .bool a l, e => (match e with
    | .BoolOp o es _ => decide (o = boolOpOf a) && !es.isEmpty && ckL N M sc l es
    | _ => false)
  | .not a, e => (match e with
    | .UnaryOp op' ea _ => decide (op' = .Not) && ckE N M sc a ea && okT a
    | _ => false)
  | .ite a b c, e => (match e with
    | .IfExp ea eb ec _ => ckE N M sc a ea && okT a && ckE N M sc b eb && ckE N M sc c ec
    | _ => false)
  | .tup l, e => (match e with
    | .Tuple es _ _ => ckL N M sc l es
    | _ => false)
  | .lst l, e => (match e with
    | .List es _ => ckL N M sc l es
    | _ => false)
  | .idx a b, e => (match e with
    | .Subscript ea eb _ => ckE N M sc a ea && ckE N M sc b eb && ixB eb
    | _ => false)
  | .slc a lo hi, e => (match e with
    | .Subscript ea (.Slice el eh none _) _ => ckE N M sc a ea && ckO N M sc lo el && ckO N M sc hi eh
    | _ => false)
  | .call f l, e => (match e with
    | .Call (.Name x _) es [] _ => decide (M.fn f = x) && glB sc x && dbgB x && ckL N M sc l es
    | _ => false)
  | .kcall f n l ks kl, e => (match e with
    | .Call (.Name x _) es kws _ => decide (M.fn f = x) && glB sc x && dbgB x && !kws.isEmpty && decide (kws.map (·.arg) = (kwN (M.ps f) n ks).map some) && ckL N M sc l es && ckL N M sc kl (kws.map (·.value))
    | _ => false)
  | .prim p l, e => (match e with
    | .Call (.Name x _) es [] _ => decide (x = p.name) && glB sc x && !es.isEmpty && ckL N M sc l es
    | _ => false)
  | .isi a T, e => (match e with
    | .Call (.Name x _) [ea, .Name y _] [] _ => decide (x = ("isinstance" : Str)) && decide (y = Str.ofString T) && decide (T ∈ tyNames) && glB sc x && glB sc y && notStar ea && ckE N M sc a ea
    | _ => false)
  | .meth m o l, e => (match e with
    | .Call (.Attribute eo nm ap) es [] cp => decide (nm = m.name) && notNoArgCall eo && (ap.endLine == cp.line) && decide (es.length < 29) && ckE N M sc o eo && ckL N M sc l es
    | _ => false)
  | .methv m i l, e => (match e with
    | .Call (.Attribute (.Name x _) nm ap) es [] cp => decide (nm = m.name) && nmB N i x && visB sc x && dbgB x && (ap.endLine == cp.line) && decide (es.length < 29) && mutB m && ckL N M sc l es
    | _ => false)
  | .comp own t src ifs elt, e => (match e with
    | .ListComp ee [⟨tg, iter, ies, a⟩] scope _ => decide (a = 0) && blkC N sc scope (ownsOf N own) && tgIn own t && notSetE iter && ckI N M sc src tg iter && ckT false N (relS scope sc) t tg && decide (ies.length < 2) && okTL ifs && ckL N M (relS scope sc) ifs ies && ckE N M (relS scope sc) elt ee
    | _ => false)
def ckL (N : List Str) (M : Nm) (sc : Scope) : IL → List Expr → Bool
  | .nil, es => es.isEmpty
  | .cons a l, es => (match es with
    | e :: es => notStar e && ckE N M sc a e && ckL N M sc l es
    | [] => false)
def ckO (N : List Str) (M : Nm) (sc : Scope) : IO → Option Expr → Bool
  | .no, e => e.isNone
  | .so a, e => (match e with
    | some e => ckE N M sc a e
    | none => false)
def ckI (N : List Str) (M : Nm) (sc : Scope) : IT → Expr → Expr → Bool
  | .val a, _, e => ckE N M sc a e
  | .range1 a, _, e => (match e with
    | .Call (.Name x _) [ea] [] _ => decide (x = ("range" : Str)) && glB sc x && notStar ea && ckE N M sc a ea
    | _ => false)
  | .range2 a b, _, e => (match e with
    | .Call (.Name x _) [ea, eb] [] _ => decide (x = ("range" : Str)) && glB sc x && notStar ea && notStar eb && ckE N M sc a ea && ckE N M sc b eb
    | _ => false)
  | .enum a, t, e => (match e with
    | .Call (.Name x _) [ea] [] _ => decide (x = ("enumerate" : Str)) && glB sc x && notStar ea && (match t with | .Tuple _ _ _ => true | _ => false) && ckE N M sc a ea
    | _ => false)
  | .zip _ _, _, _ => false
end
/-! what the small checks say -/
section
variable {X : Cx} {x : Str} {sc : Scope} {N : List Str} {i : Nat}
theorem visB_ok (h : visB sc x = true) : Vis sc x := by
  unfold visB at h
  split at h
  · rename_i e; exact .inl e
  · rename_i e; exact .inr (.inl e)
  · rename_i e; exact .inr (.inr e)
  · cases h
theorem locB_ok (h : locB sc x = true) : Loc sc x := by
  unfold locB at h
  split at h
  · rename_i e; exact .inl e
  · rename_i e; exact .inr e
  · cases h
theorem ownB_ok (h : ownB sc x = true) : sc.names.lookup x = some .local := by
  unfold ownB at h
  split at h
  · assumption
  · cases h
theorem glB_ok (h : glB X.env.scope x = true) : Gl X x := by
  unfold glB at h
  split at h
  · rename_i e; exact e
  · cases h
theorem dbgB_ok (h : dbgB x = true) : (x == ("__debug__" : Str)) = false ∧ (x == ("__classdict__" : Str)) = false := by
  unfold dbgB at h
  simp only [Bool.and_eq_true, decide_eq_true_eq] at h
  exact ⟨beq_eq_false_iff_ne.mpr h.1, beq_eq_false_iff_ne.mpr h.2⟩
theorem ixB_ok {e : Expr} (h : ixB e = true) : PlainIx e := by
  intro o i
  cases e with
  | Slice a b cc p => cases cc with
    | none => cases h
    | some cc => rfl
  | _ => rfl
theorem base_ok {e : Expr} {nm : Str} {env : Env} (h : notNoArgCall e = true) : attributeBase e nm env (eval e env) = eval e env := by
  unfold attributeBase
  split
  · rename_i id p pos
    cases h
  · rfl
theorem set_ok {e : Expr} {env : Env} (h : notSetE e = true) : ∀ x, foldedSetIterable e env x = pure x := by
  intro x
  unfold foldedSetIterable
  split
  · cases h
  · rfl
theorem con_ok {d : D} {k : Const} {j : Nat} {pos : Pos} {M : Nm} {Z : Sx} (h : conB d k = true) : PE X (.Constant k j pos) (tW Z X.K false (.con d)) := by
  unfold conB at h
  split at h
  · exact snd_con pe_non trivial
  · exact snd_con (by rw [of_decide_eq_true h]; exact pe_bl) trivial
  · exact snd_con (by rw [of_decide_eq_true h]; exact pe_int) trivial
  · exact snd_con (by rw [of_decide_eq_true h]; exact pe_str) trivial
  · cases h
theorem star_of {es : List Expr} {M : Nm} : ∀ {l : IL}, ckL N M sc l es = true → es.all notStar = true := by
  intro l
  induction es generalizing l with
  | nil => intro _; rfl
  | cons e es ih =>
    intro h
    cases l with
    | nil => unfold ckL at h; cases h
    | cons a l =>
      unfold ckL at h
      simp only [Bool.and_eq_true] at h
      rw [List.all_cons, h.1.1, ih h.2]; rfl
theorem takesN {X : Cx} : Takes X (fun _ _ _ _ => False) := fun _ _ x => by
  obtain ⟨a, B, sI, pins, σ, H, cls, d, e, I, nb, up, sky, na, os, ag, w⟩ := x
  exact w.elim
theorem GOk.blk {M : Nm} {Z : Sx} (G : GOk X M Z) (s : Shared) (H : Hp) (scope : Scope) (cenv : Env) (fp : List Addr) : GOk (X.blk s H scope cenv fp) M Z.mute :=
  ⟨G.calm, G.gd, G.rm, G.nd, takesN, fun f h => ⟨(G.fn f h).ex⟩, G.gl, G.prim, G.rng, G.enm, G.zp, G.isi, G.ty⟩
end
/-! in a test every value is a truth value -/
section
variable {C : Ctx}
theorem Qt_bl (Q : QK) : Qt true (fun d o s c => (∃ k, d = .bl k) ∧ Q d o s c) = Qt true Q := by
  funext d o s c
  exact propext ⟨fun ⟨k, h, _, q⟩ => ⟨k, h, q⟩, fun ⟨k, h, q⟩ => ⟨k, h, ⟨k, rfl⟩, q⟩⟩
theorem bl_and (Q : QK) (k : Bool) (o : Bool) (s : List Sl) (c : Cl) : ((∃ k', D.bl k = .bl k') ∧ Q (.bl k) o s c) = Q (.bl k) o s c := propext ⟨fun h => h.2, fun h => ⟨⟨k, rfl⟩, h⟩⟩
mutual
theorem test_bl : ∀ (e : IE) (s : List Sl) (c : Cl) (Q : QK) (E : EK), okT e = true → wpE C true e s c (fun d o s c => (∃ k, d = .bl k) ∧ Q d o s c) E = wpE C true e s c Q E
  | .var i, s, c, Q, E, _ => by unfold wpE; rw [Qt_bl]
  | .con d, s, c, Q, E, _ => by unfold wpE; rw [Qt_bl]
  | .glob i, s, c, Q, E, _ => by unfold wpE; rw [Qt_bl]
  | .bin op a b, s, c, Q, E, _ => by unfold wpE; rw [Qt_bl]
  | .un op a, s, c, Q, E, _ => by unfold wpE; rw [Qt_bl]
  | .cmp op a b, s, c, Q, E, _ => by unfold wpE; simp only [bl_and]
  | .chain op op' a b e, s, c, Q, E, _ => by unfold wpE; simp only [bl_and]
  | .bool a l, s, c, Q, E, h => by unfold wpE; unfold okT at h; exact testB_bl a l s c Q E h
  | .not a, s, c, Q, E, h => by unfold wpE; simp only [bl_and]
  | .ite a b e, s, c, Q, E, h => by unfold okT at h; cases h
  | .tup l, s, c, Q, E, _ => by unfold wpE; rw [Qt_bl]
  | .lst l, s, c, Q, E, _ => by unfold wpE; rw [Qt_bl]
  | .idx a b, s, c, Q, E, _ => by unfold wpE; rw [Qt_bl]
  | .slc a l h, s, c, Q, E, _ => by unfold wpE; rw [Qt_bl]
  | .call f l, s, c, Q, E, _ => by unfold wpE; rw [Qt_bl]
  | .kcall f n l ks kl, s, c, Q, E, _ => by unfold wpE; rw [Qt_bl]
  | .prim f l, s, c, Q, E, _ => by unfold wpE; rw [Qt_bl]
  | .isi a T, s, c, Q, E, _ => by unfold wpE; rw [Qt_bl]
  | .meth m o l, s, c, Q, E, _ => by unfold wpE; rw [Qt_bl]
  | .methv m o l, s, c, Q, E, _ => by unfold wpE; rw [Qt_bl]
  | .comp own t src ifs elt, s, c, Q, E, _ => by unfold wpE; rw [Qt_bl]
theorem testB_bl : ∀ (a : Bool) (l : IL) (s : List Sl) (c : Cl) (Q : QK) (E : EK), okTL l = true → wpB C true a l s c (fun d o s c => (∃ k, d = .bl k) ∧ Q d o s c) E = wpB C true a l s c Q E
  | a, .nil, s, c, Q, E, _ => by unfold wpB; rfl
  | a, .cons e .nil, s, c, Q, E, h => by
    unfold okTL at h
    simp only [Bool.and_eq_true] at h
    unfold wpB
    exact test_bl e s c Q E h.1
  | a, .cons e (.cons e' l), s, c, Q, E, h => by
    unfold okTL at h
    simp only [Bool.and_eq_true] at h
    unfold wpB
    rw [← test_bl e s c _ E h.1]
    refine Eq.trans ?_ (test_bl e s c _ E h.1)
    congr 1
    funext d o s1 c1
    refine propext ⟨fun ⟨⟨k, e1⟩, k2, e2, q⟩ => ?_, fun ⟨⟨k, e1⟩, k2, e2, q⟩ => ?_⟩
    · subst e1
      refine ⟨⟨k, rfl⟩, k2, e2, ?_⟩
      cases hk : (k2 == a) with
      | true =>
        rw [hk] at q
        have q' : wpB C true a (.cons e' l) s1 c1 _ E := q
        rw [testB_bl a (.cons e' l) s1 c1 Q E h.2] at q'
        exact q'
      | false =>
        rw [hk] at q
        exact q.2
    · subst e1
      refine ⟨⟨k, rfl⟩, k2, e2, ?_⟩
      cases hk : (k2 == a) with
      | true =>
        rw [hk] at q
        have q' : wpB C true a (.cons e' l) s1 c1 Q E := q
        rw [← testB_bl a (.cons e' l) s1 c1 Q E h.2] at q'
        exact q'
      | false =>
        rw [hk] at q
        exact ⟨⟨k, rfl⟩, q⟩
end
end
end Vm

/-! Vm: a checked expression is served -/
namespace Vm
open PySem PySem.Spec L2
open PyProof.Rows hiding St
section
variable {M : Nm}
theorem ckT_ok (cl : Bool) : ∀ (t : Tg) {X : Cx} {e : Expr}, X.calm = true → X.N.Nodup → (cl = true → ∀ x, X.fn x = true) → ckT cl X.N X.env.scope t e = true → PG X e (gOf X.K t) := by
  intro t
  refine Tg.rec (motive_1 := fun t => ∀ {X : Cx} {e : Expr}, X.calm = true → X.N.Nodup → (cl = true → ∀ x, X.fn x = true) → ckT cl X.N X.env.scope t e = true → PG X e (gOf X.K t))
    (motive_2 := fun l => ∀ {X : Cx} {es : List Expr}, X.calm = true → X.N.Nodup → (cl = true → ∀ x, X.fn x = true) → ckTs cl X.N X.env.scope l es = true → PGs X es (gsOf X.K l) ∧ (assignEach es X.env).length = lenT l ∧ (assignEach es X.env).findIdx? (·.1) = none) ?_ ?_ ?_ ?_ t
  · intro i X e hc hN hf h
    unfold ckT at h
    split at h
    · rename_i x p
      simp only [Bool.and_eq_true, Bool.or_eq_true] at h
      rcases h.2 with h2 | ⟨h2, h3⟩
      · exact pg_name hN (of_decide_eq_true h.1) (.inl (ownB_ok h2)) (.inr (ownB_ok h2))
      · exact pg_name hN (of_decide_eq_true h.1) (locB_ok h3) (.inl (hf h2 x))
    · cases h
  · intro l ih X e hc hN hf h
    unfold ckT at h
    split at h
    · obtain ⟨h1, h2, h3⟩ := ih hc hN hf h
      exact pg_tup hc h1 h2 h3
    · cases h
  · intro X es hc hN hf h
    unfold ckTs at h
    cases es with
    | nil => exact ⟨pgs_nil, rfl, rfl⟩
    | cons _ _ => cases h
  · intro t l ih1 ih2 X es hc hN hf h
    unfold ckTs at h
    cases es with
    | nil => cases h
    | cons e es =>
      simp only [Bool.and_eq_true] at h
      obtain ⟨⟨h1, h2⟩, h3⟩ := h
      obtain ⟨g1, g2, g3⟩ := ih2 hc hN hf h3
      have ea : assignEach (e :: es) X.env = (false, assign e X.env) :: assignEach es X.env := by
        cases e <;> first | rfl | cases h1
      refine ⟨pgs_cons (ih1 hc hN hf h2) g1 (by rw [ea]; rfl), by rw [ea, List.length_cons, g2]; rfl, ?_⟩
      rw [ea, List.findIdx?_cons, g3]; rfl
/-- an expression that is tested by its value -/
def plainT : Expr → Bool
  | .UnaryOp .Not _ _ => false
  | .BoolOp _ _ _ => false
  | .IfExp _ _ _ _ => false
  | .Compare _ _ _ _ => false
  | _ => true
theorem plain_ok {e : Expr} {env : Env} (h : plainT e = true) : ∀ whole, isTrue e env whole = (do let v ← whole; standAt e.pos; holding [v] (truthy v)) := by
  intro whole
  cases e with
  | UnaryOp op a p => cases op <;> first | rfl | cases h
  | BoolOp _ _ _ => cases h
  | IfExp _ _ _ _ => cases h
  | Compare _ _ _ _ => cases h
  | _ => rfl
theorem both {X : Cx} {Z : Sx} {ie : IE} {e : Expr} (hp : plainT e = true) (hq : ∀ s c Q E, wpE Z.C true ie s c Q E → wpE Z.C false ie s c (Qt true Q) E) (h : PE X e (tW Z X.K false ie)) :
    PE X e (tW Z X.K false ie) ∧ (okT ie = true → PT X e (tWT Z X.K ie)) := ⟨h, fun _ => snd_test hq h (plain_ok hp)⟩
theorem attr_ok {X : Cx} {b : Bool} (x : Str) (p : Pos) (nm : Str) : attributeBase (.Name x p) nm X.env (eval (.Name x p) X.env) = eval (.Name x p) X.env := base_ok rfl
mutual
theorem sndE : ∀ (ie : IE) {X : Cx} {Z : Sx} {e : Expr}, GOk X M Z → ckE X.N M X.env.scope ie e = true → PE X e (tW Z X.K false ie) ∧ (okT ie = true → PT X e (tWT Z X.K ie))
  | .var i, X, Z, e, G, h => by
    unfold ckE at h
    split at h
    · rename_i x p
      simp only [Bool.and_eq_true] at h
      obtain ⟨d1, d2⟩ := dbgB_ok h.2
      exact both rfl (fun s c Q E w => by unfold wpE at w ⊢; exact w) (snd_var (of_decide_eq_true h.1.1) (visB_ok h.1.2) d1 d2)
    · cases h
  | .con d, X, Z, e, G, h => by
    unfold ckE at h
    split at h
    · exact both rfl (fun s c Q E w => by unfold wpE at w ⊢; exact w) (con_ok (M := M) h)
    · cases h
  | .glob i, X, Z, e, G, h => by
    unfold ckE at h
    split at h
    · simp only [Bool.and_eq_true] at h
      obtain ⟨d1, d2⟩ := dbgB_ok h.2
      exact both rfl (fun s c Q E w => by unfold wpE at w ⊢; exact w) (snd_glob G (glB_ok h.1.1) (of_decide_eq_true h.1.2) d1)
    · cases h
  | .bin op a b, X, Z, e, G, h => by
    unfold ckE at h
    split at h
    · simp only [Bool.and_eq_true] at h
      cases of_decide_eq_true h.1.1
      exact both rfl (fun s c Q E w => by unfold wpE at w ⊢; exact w) (snd_bin (sndE a G h.1.2).1 (sndE b G h.2).1)
    · cases h
  | .un op a, X, Z, e, G, h => by
    unfold ckE at h
    split at h
    · simp only [Bool.and_eq_true] at h
      cases of_decide_eq_true h.1.1
      have hn := of_decide_eq_true h.1.2
      exact both (by cases op <;> first | rfl | exact absurd rfl hn) (fun s c Q E w => by unfold wpE at w ⊢; exact w) (snd_un (sndE a G h.2).1)
    · cases h
  | .cmp op a b, X, Z, e, G, h => by
    unfold ckE at h
    split at h
    · simp only [Bool.and_eq_true, Bool.not_eq_true'] at h
      cases of_decide_eq_true h.1.1.1
      have z := snd_cmp (pos := by assumption) (op := op) G (sndE a G h.1.1.2).1 (sndE b G h.1.2).1 h.2
      exact ⟨z.1, fun _ => z.2⟩
    · cases h
  | .chain op op2 a b c, X, Z, e, G, h => by
    unfold ckE at h
    split at h
    · simp only [Bool.and_eq_true, Bool.not_eq_true'] at h
      obtain ⟨⟨⟨⟨⟨h1, h2⟩, h3⟩, h4⟩, h5⟩, h6⟩ := h
      cases of_decide_eq_true h1
      cases of_decide_eq_true h2
      have z := snd_chain (pos := by assumption) (op := op) (op' := op2) G (sndE a G h3).1 (sndE b G h4).1 (sndE c G h5).1 h6
      exact ⟨z.1, fun _ => z.2⟩
    · cases h
  | .bool a l, X, Z, e, G, h => by
    unfold ckE at h
    split at h
    · simp only [Bool.and_eq_true] at h
      cases of_decide_eq_true h.1.1
      have z := sndB (by assumption) a l G h.2 (by
        intro q
        rw [q] at h
        exact absurd h.1.2 (by decide))
      refine ⟨PE.imp z.1 fun sg H Q ⟨s, c, F, rh, Qm, Em, R, w, ok, x⟩ => ⟨s, c, F, rh, Qm, Em, R, by unfold wpE at w; exact w, ok, x⟩, fun k => PT.imp (z.2 (by unfold okT at k; exact k)).pt fun sg H Q ⟨s, c, F, rh, Qm, Em, R, w, ok, x⟩ => ⟨s, c, F, rh, Qm, Em, R, by unfold wpE at w; exact w, ok, x⟩⟩
    · cases h
  | .not a, X, Z, e, G, h => by
    unfold ckE at h
    split at h
    · simp only [Bool.and_eq_true] at h
      cases of_decide_eq_true h.1.1
      have z := sndE a G h.1.2
      exact ⟨snd_not z.1, fun _ => snd_notT (z.2 h.2) fun s c Q E w => by rw [test_bl a s c Q E h.2]; exact w⟩
    · cases h
  | .ite a b c, X, Z, e, G, h => by
    unfold ckE at h
    split at h
    · simp only [Bool.and_eq_true] at h
      exact ⟨snd_ite ((sndE a G h.1.1.1).2 h.1.1.2) (sndE b G h.1.2).1 (sndE c G h.2).1, fun k => by unfold okT at k; cases k⟩
    · cases h
  | .tup l, X, Z, e, G, h => by
    unfold ckE at h
    split at h
    · exact both rfl (fun s c Q E w => by unfold wpE at w ⊢; exact w) (snd_tup (sndLl l G h))
    · cases h
  | .lst l, X, Z, e, G, h => by
    unfold ckE at h
    split at h
    · exact both rfl (fun s c Q E w => by unfold wpE at w ⊢; exact w) (snd_lst (sndLl l G h))
    · cases h
  | .idx a b, X, Z, e, G, h => by
    unfold ckE at h
    split at h
    · simp only [Bool.and_eq_true] at h
      exact both rfl (fun s c Q E w => by unfold wpE at w ⊢; exact w) (snd_idx (sndE a G h.1.1).1 (sndE b G h.1.2).1 (ixB_ok h.2))
    · cases h
  | .slc a lo hi, X, Z, e, G, h => by
    unfold ckE at h
    split at h
    · simp only [Bool.and_eq_true] at h
      exact both rfl (fun s c Q E w => by unfold wpE at w ⊢; exact w) (snd_slc (sndE a G h.1.1).1 (sndOo lo G h.1.2) (sndOo hi G h.2))
    · cases h
  | .call f l, X, Z, e, G, h => by
    unfold ckE at h
    split at h
    · rename_i x p es pos
      simp only [Bool.and_eq_true] at h
      obtain ⟨⟨⟨h1, h2⟩, h3⟩, h4⟩ := h
      obtain ⟨d1, d2⟩ := dbgB_ok h3
      refine both rfl (fun s c Q E w => by unfold wpE at w ⊢; exact w) ?_
      have hl := sndLl (Z := Z) l G h4
      have st := star_of h4
      cases es with
      | nil =>
        cases l with
        | nil => exact snd_call0 G (glB_ok h2) (of_decide_eq_true h1) d1
        | cons _ _ => unfold ckL at h4; cases h4
      | cons e es =>
        rw [List.all_cons, Bool.and_eq_true] at st
        exact snd_call G hl (glB_ok h2) (of_decide_eq_true h1) d1 st.1 st.2
    · cases h
  | .kcall f n l ks kl, X, Z, e, G, h => by
    unfold ckE at h
    split at h
    · rename_i x p es kws pos
      simp only [Bool.and_eq_true] at h
      obtain ⟨⟨⟨⟨⟨⟨h1, h2⟩, h3⟩, h4⟩, h5⟩, h6⟩, h7⟩ := h
      obtain ⟨d1, d2⟩ := dbgB_ok h3
      exact both rfl (fun s c Q E w => by unfold wpE at w ⊢; exact w) (snd_kcall G (sndLl (Z := Z) l G h6) (sndKk (Z := Z) kl G h7) (star_of h6) (glB_ok h2) (of_decide_eq_true h1) d1 (of_decide_eq_true h5) fun e0 => by
        subst e0
        cases l with
        | nil => rfl
        | cons _ _ => unfold ckL at h6; cases h6)
    · cases h
  | .prim pr l, X, Z, e, G, h => by
    unfold ckE at h
    split at h
    · rename_i x p es pos
      simp only [Bool.and_eq_true] at h
      obtain ⟨⟨⟨h1, h2⟩, h3⟩, h4⟩ := h
      refine both rfl (fun s c Q E w => by unfold wpE at w ⊢; exact w) ?_
      have hl := sndLl (Z := Z) l G h4
      have st := star_of h4
      have e1 := of_decide_eq_true h1
      subst e1
      cases es with
      | nil => exact absurd h3 (by decide)
      | cons e es =>
        rw [List.all_cons, Bool.and_eq_true] at st
        exact snd_prim G hl (glB_ok h2) st.1 st.2
    · cases h
  | .isi a T, X, Z, e, G, h => by
    unfold ckE at h
    split at h
    · rename_i x p ea y p2 pos
      simp only [Bool.and_eq_true] at h
      obtain ⟨⟨⟨⟨⟨⟨h1, h2⟩, h3⟩, h4⟩, h5⟩, h6⟩, h7⟩ := h
      have e1 := of_decide_eq_true h1
      have e2 := of_decide_eq_true h2
      have e3 := of_decide_eq_true h3
      subst e1 e2
      exact both rfl (fun s c Q E w => by unfold wpE at w ⊢; exact w) (snd_isi (p3 := p) G (sndE a G h7).1 e3 (G.ty T e3) (glB_ok h4) (glB_ok h5) h6)
    · cases h
  | .meth m o l, X, Z, e, G, h => by
    unfold ckE at h
    split at h
    · rename_i eo nm ap es cp
      simp only [Bool.and_eq_true] at h
      obtain ⟨⟨⟨⟨⟨h1, h2⟩, h3⟩, h4⟩, h5⟩, h6⟩ := h
      refine both rfl (fun s c Q E w => by unfold wpE at w ⊢; exact w) ?_
      have hl := sndLl (Z := Z) l G h6
      have st := star_of h6
      have hlen := of_decide_eq_true h4
      cases es with
      | nil =>
        cases l with
        | nil => exact snd_meth0 (sndE o G h5).1 (of_decide_eq_true h1) (base_ok h2) h3
        | cons _ _ => unfold ckL at h6; cases h6
      | cons e es =>
        rw [List.all_cons, Bool.and_eq_true] at st
        exact snd_meth (sndE o G h5).1 hl (of_decide_eq_true h1) (base_ok h2) h3 st.1 st.2 (by simp at hlen; omega)
    · cases h
  | .methv m i l, X, Z, e, G, h => by
    unfold ckE at h
    split at h
    · rename_i x p nm ap es cp
      simp only [Bool.and_eq_true] at h
      obtain ⟨⟨⟨⟨⟨⟨⟨h1, h2⟩, h3⟩, h4⟩, h5⟩, h6⟩, h7⟩, h8⟩ := h
      obtain ⟨d1, d2⟩ := dbgB_ok h4
      refine both rfl (fun s c Q E w => by unfold wpE at w ⊢; exact w) ?_
      have hl := sndLl (Z := Z) l G h8
      have st := star_of h8
      have hlen := of_decide_eq_true h6
      have hm : m = .append ∨ m = .extend ∨ m = .pop ∨ m = .clear := by
        cases m <;> first | exact .inl rfl | exact .inr (.inl rfl) | exact .inr (.inr (.inl rfl)) | exact .inr (.inr (.inr rfl)) | cases h7
      cases es with
      | nil =>
        cases l with
        | nil => exact snd_methv0 (of_decide_eq_true h1) (of_decide_eq_true h2) (visB_ok h3) d1 d2 h5
        | cons _ _ => unfold ckL at h8; cases h8
      | cons e es =>
        rw [List.all_cons, Bool.and_eq_true] at st
        exact snd_methv hl (of_decide_eq_true h1) (of_decide_eq_true h2) (visB_ok h3) d1 d2 h5 st.1 st.2 (by simp at hlen; omega) hm
    · cases h
  | .comp own t src ifs elt, X, Z, e, G, h => by
    unfold ckE at h
    split at h
    · rename_i ee tg iter ies a scope pos
      simp only [Bool.and_eq_true] at h
      obtain ⟨⟨⟨⟨⟨⟨⟨⟨⟨h0, h1⟩, h2⟩, h3⟩, h4⟩, h5⟩, h6⟩, h7⟩, h8⟩, h9⟩ := h
      cases of_decide_eq_true h0
      refine both rfl (fun s c Q E w => by unfold wpE at w ⊢; exact w) ?_
      exact snd_comp G (sndIi src G h4) (blkOk_by h1) (ownsOf_map _ _) (fun s H C cl fp => ckT_ok false t (X := X.blk s H scope (compEnvC scope cl C X.env) fp) G.calm G.nd (fun z => nomatch z) h5)
        (fun s H C cl fp => sndIf ifs (X := X.blk s H scope (compEnvC scope cl C X.env) fp) (G.blk s H scope _ fp) (of_decide_eq_true h6) h7 h8)
        (fun s H C cl fp => (sndE elt (X := X.blk s H scope (compEnvC scope cl C X.env) fp) (G.blk s H scope _ fp) h9).1) (set_ok h3) h2
    · cases h
theorem sndLl : ∀ (l : IL) {X : Cx} {Z : Sx} {es : List Expr}, GOk X M Z → ckL X.N M X.env.scope l es = true → PA X es (tWL Z X.K l)
  | .nil, X, Z, es, G, h => by
    cases es with
    | nil => exact sndL_nil
    | cons _ _ => unfold ckL at h; cases h
  | .cons a l, X, Z, es, G, h => by
    cases es with
    | nil => unfold ckL at h; cases h
    | cons e es =>
      unfold ckL at h
      simp only [Bool.and_eq_true] at h
      exact sndL_cons (sndE a G h.1.2).1 (sndLl l G h.2) h.1.1
theorem sndKk : ∀ (l : IL) {X : Cx} {Z : Sx} {kws : List Keyword}, GOk X M Z → ckL X.N M X.env.scope l (kws.map (·.value)) = true → PK X kws (tWL Z X.K l)
  | .nil, X, Z, es, G, h => by
    cases es with
    | nil => exact sndK_nil
    | cons _ _ => unfold ckL at h; cases h
  | .cons a l, X, Z, es, G, h => by
    cases es with
    | nil => unfold ckL at h; cases h
    | cons e es =>
      obtain ⟨nm, e, kp⟩ := e
      unfold ckL at h
      have h' : (notStar e && ckE X.N M X.env.scope a e && ckL X.N M X.env.scope l (es.map (·.value))) = true := h
      simp only [Bool.and_eq_true] at h'
      exact sndK_cons (sndE a G h'.1.2).1 (sndKk l G h'.2)
theorem sndB (pos : Pos) (isAnd : Bool) : ∀ (l : IL) {X : Cx} {Z : Sx} {es : List Expr}, GOk X M Z → ckL X.N M X.env.scope l es = true → es ≠ [] → PE X (.BoolOp (boolOpOf isAnd) es pos) (tWB Z X.K false isAnd l) ∧ (okTL l = true → PW X (.BoolOp (boolOpOf isAnd) es pos) (tWBT Z X.K isAnd l))
  | .nil, X, Z, es, G, h, hn => by
    cases es with
    | nil => exact absurd rfl hn
    | cons _ _ => unfold ckL at h; cases h
  | .cons a .nil, X, Z, es, G, h, hn => by
    cases es with
    | nil => exact absurd rfl hn
    | cons e es =>
      cases es with
      | cons _ _ => unfold ckL at h; unfold ckL at h; simp at h
      | nil =>
        unfold ckL at h
        simp only [Bool.and_eq_true] at h
        have z := sndE a (Z := Z) G h.1.2
        exact ⟨sndB_one z.1, fun k => by
          unfold okTL at k
          simp only [Bool.and_eq_true] at k
          exact sndBT_one (z.2 k.1)⟩
  | .cons a (.cons a' l), X, Z, es, G, h, hn => by
    cases es with
    | nil => exact absurd rfl hn
    | cons e es =>
      cases es with
      | nil => unfold ckL at h; unfold ckL at h; simp at h
      | cons e' es =>
        unfold ckL at h
        simp only [Bool.and_eq_true] at h
        have z := sndE a (Z := Z) G h.1.2
        have zl := sndB pos isAnd (.cons a' l) (Z := Z) G h.2 (by simp)
        refine ⟨sndB_cons z.1 zl.1, fun k => ?_⟩
        unfold okTL at k
        simp only [Bool.and_eq_true] at k
        exact sndBT_cons (z.2 k.1) (zl.2 k.2) fun s c Q E w => by rw [test_bl a s c Q E k.1]; exact w
theorem sndIf : ∀ (l : IL) {X : Cx} {Z : Sx} {es : List Expr}, GOk X M Z → es.length < 2 → okTL l = true → ckL X.N M X.env.scope l es = true → PTs X es (tWIf Z X.K l)
  | .nil, X, Z, es, G, hl, k, h => by
    cases es with
    | nil => exact sndIf_nil
    | cons _ _ => unfold ckL at h; cases h
  | .cons a l, X, Z, es, G, hl, k, h => by
    cases es with
    | nil => unfold ckL at h; cases h
    | cons e es =>
      cases es with
      | cons _ _ => simp only [List.length_cons] at hl; omega
      | nil =>
        unfold ckL at h
        simp only [Bool.and_eq_true] at h
        unfold okTL at k
        simp only [Bool.and_eq_true] at k
        cases l with
        | cons _ _ => unfold ckL at h; exact absurd h.2 (by simp)
        | nil => exact sndIf_one ((sndE a G h.1.2).2 k.1)
theorem sndOo : ∀ (o : IO) {X : Cx} {Z : Sx} {e : Option Expr}, GOk X M Z → ckO X.N M X.env.scope o e = true → PO X e (tWO Z X.K o)
  | .no, X, Z, e, G, h => by
    cases e with
    | none => exact sndO_no
    | some _ => unfold ckO at h; cases h
  | .so a, X, Z, e, G, h => by
    cases e with
    | none => unfold ckO at h; cases h
    | some e => unfold ckO at h; exact sndO_so (sndE a G h).1
theorem sndIi : ∀ (t : IT) {X : Cx} {Z : Sx} {tg e : Expr}, GOk X M Z → ckI X.N M X.env.scope t tg e = true → PI X tg e (tWI Z X.K t)
  | .val a, X, Z, tg, e, G, h => by unfold ckI at h; exact sndI_val (sndE a G h).1
  | .range1 a, X, Z, tg, e, G, h => by
    unfold ckI at h
    split at h
    · simp only [Bool.and_eq_true] at h
      obtain ⟨⟨⟨h1, h2⟩, h3⟩, h4⟩ := h
      have e1 := of_decide_eq_true h1
      subst e1
      exact sndI_range1 G (sndE a G h4).1 (glB_ok h2) h3
    · cases h
  | .range2 a b, X, Z, tg, e, G, h => by
    unfold ckI at h
    split at h
    · simp only [Bool.and_eq_true] at h
      obtain ⟨⟨⟨⟨⟨h1, h2⟩, h3⟩, h4⟩, h5⟩, h6⟩ := h
      have e1 := of_decide_eq_true h1
      subst e1
      exact sndI_range2 G (sndE a G h5).1 (sndE b G h6).1 (glB_ok h2) h3 h4
    · cases h
  | .enum a, X, Z, tg, e, G, h => by
    unfold ckI at h
    split at h
    · simp only [Bool.and_eq_true] at h
      obtain ⟨⟨⟨⟨h1, h2⟩, h3⟩, h4⟩, h5⟩ := h
      have e1 := of_decide_eq_true h1
      subst e1
      split at h4
      · exact sndI_enum G (sndE a G h5).1 (glB_ok h2) h3
      · cases h4
    · cases h
  | .zip a b, X, Z, tg, e, G, h => by unfold ckI at h; cases h
end
end
end Vm

/-! Vm: checked statements, checked defs -/
namespace Vm
open PySem PySem.Spec L2
open PyProof.Rows hiding St
def notComp : Expr → Bool
  | .ListComp _ _ _ _ | .SetComp _ _ _ _ | .DictComp _ _ _ _ _ => false
  | _ => true
def notTup : Expr → Bool
  | .Tuple _ _ _ => false
  | _ => true
/-- whether name = value exchanges stores -/
def swB (sc : Scope) (x : Str) (p : Pos) (v : Expr) : Bool := match v with
  | .ListComp _ _ s q | .SetComp _ _ s q | .DictComp _ _ _ s q => ownB sc x && (p.line == q.line) && !(s.names.any fun (n, k) => n == x && (k == .local || k == .cell))
  | _ => false
def lcB : Expr → Bool
  | .ListComp _ _ _ _ => true
  | _ => false
def fewB (e : Expr) : Bool := notStar e && !foldedForSure 8 e && !constantsAlone 8 e
mutual
def ckS (N : List Str) (M : Nm) (sc : Scope) : IS → Stmt → Bool
  | .asg i e, st => (match st with
    | .Assign [.Name x p] v _ => nmB N i x && locB sc x && (!swB sc x p v || lcB v) && ckE N M sc e v
    | _ => false)
  | .cellify i e, st => (match st with
    | .Assign [.Name x p] v _ => nmB N i x && locB sc x && (!swB sc x p v || lcB v) && ckE N M sc e v
    | _ => false)
  | .asgT l e, st => (match st with
    | .Assign [.Tuple es _ _] v _ => ckTs true N sc l es && notTup v && ckE N M sc e v
    | _ => false)
  | .par is l, st => (match st, is with
    | .Assign [.Tuple [.Name x px, .Name y py] _ _] (.Tuple [p, q] _ _) _, [i, j] => nmB N i x && nmB N j y && decide (i ≠ j) && decide (x ≠ y) && ownB sc x && ownB sc y && (py.line == px.line) && notStar p && notStar q && !([p, q].all (foldedForSure 8)) && !([p, q].all (constantsAlone 8)) && ckL N M sc l [p, q]
    | .Assign [.Tuple [.Name x px, .Name y py, .Name z pz] _ _] (.Tuple [p, q, r] _ _) _, [i, j, k] => nmB N i x && nmB N j y && nmB N k z && decide (i ≠ j) && decide (i ≠ k) && decide (j ≠ k) && decide (x ≠ y) && decide (x ≠ z) && decide (y ≠ z) && ownB sc x && ownB sc y && ownB sc z && (py.line == px.line) && (pz.line == px.line) && notStar p && notStar q && notStar r && !([p, q, r].all (foldedForSure 8)) && !([p, q, r].all (constantsAlone 8)) && ckL N M sc l [p, q, r]
    | _, _ => false)
  | .seti o i e, st => (match st with
    | .Assign [.Subscript (.Name x _) ei _] v _ => nmB N o x && visB sc x && dbgB x && ixB ei && ckE N M sc i ei && ckE N M sc e v
    | _ => false)
  | .aug i op e, st => (match st with
    | .AugAssign (.Name x _) op' v _ => nmB N i x && locB sc x && decide (op' = op) && decide (op = .Add ∨ op = .Sub ∨ op = .Mult) && ckE N M sc e v
    | _ => false)
  | .expr e, st => (match st with
    | .Expr v _ => notComp v && ckE N M sc e v
    | _ => false)
  | .ret e, st => (match st with
    | .Return (some v) _ => ckE N M sc e v
    | _ => false)
  | .retv i, st => (match st with
    | .Return (some (.Name x _)) _ => nmB N i x && visB sc x && dbgB x
    | _ => false)
  | .retN, st => (match st with
    | .Return none _ => true
    | _ => false)
  | .ifs e a b, st => (match st with
    | .If c p q _ => okT e && ckE N M sc e c && ckSs N M sc a p && ckSs N M sc b q
    | _ => false)
  | .for_ t src b, st => (match st with
    | .For tg iter body [] _ => notSetE iter && ckT true N sc t tg && ckI N M sc src tg iter && ckSs N M sc b body
    | _ => false)
  | .while_ e b, st => (match st with
    | .While c body [] _ => okT e && ckE N M sc e c && ckSs N M sc b body
    | _ => false)
  | .pass, st => (match st with
    | .Pass _ => true
    | .Expr (.Constant (.str _) _ _) _ => true
    | _ => false)
  | .brk, st => (match st with
    | .Break _ => true
    | _ => false)
  | .cont, st => (match st with
    | .Continue _ => true
    | _ => false)
def ckSs (N : List Str) (M : Nm) (sc : Scope) : ISs → List Stmt → Bool
  | .nil, l => l.isEmpty
  | .cons a l, b => (match b with
    | st :: rest => ckS N M sc a st && ckSs N M sc l rest
    | [] => false)
end
section
variable {M : Nm} {X : Cx}
theorem sw_ok {x : Str} {p : Pos} {v : Expr} {l : Nat} (hk : X.env.scope.kind = .function) : swapsWith v (some (.Name x p)) l X.env = pure (swB X.env.scope x p v) := by
  have hb : X.env.blockKind = .function := by unfold Env.blockKind; rw [hk]; rfl
  have hy : (X.env.kindOf x == some NameKind.local) = ownB X.env.scope x := by
    unfold ownB
    show (X.env.scope.names.lookup x == some NameKind.local) = _
    cases X.env.scope.names.lookup x with
    | none => rfl
    | some k => cases k <;> rfl
  unfold swapsWith swB
  cases v <;> first | rfl | (simp only [hb, hy, Expr.pos]; rfl)
theorem sw_none {v : Expr} {l : Nat} (h : notComp v = true) : swapsWith v none l X.env = pure false := by
  cases v <;> first | rfl | cases h
theorem sw_tup {es : List Expr} {k : Nat} {p : Pos} {v : Expr} {l : Nat} : swapsWithSole [.Tuple es k p] v l X.env = pure false := by
  cases v <;> rfl
theorem st_tup {es : List Expr} {k : Nat} {p : Pos} {v : Expr} (h : notTup v = true) : swappedStores [.Tuple es k p] v X.env = pure none := by
  cases v <;> first | rfl | cases h
theorem sw_sub {o i : Expr} {p : Pos} {v : Expr} {l : Nat} : swapsWithSole [.Subscript o i p] v l X.env = pure false := by
  cases v <;> rfl
theorem st_sub {o i : Expr} {p : Pos} {v : Expr} : swappedStores [.Subscript o i p] v X.env = pure none := by
  cases v <;> rfl
theorem own_kind {x : Str} (h : X.env.scope.names.lookup x = some .local) : (X.env.kindOf x == some NameKind.local) = true := by
  show (X.env.scope.names.lookup x == some NameKind.local) = true
  rw [h]; rfl
theorem anyS : ∀ (l : List Expr), l.all notStar = true → (l.any fun | .Starred .. => true | _ => false) = false
  | [], _ => rfl
  | e :: l, h => by
    rw [List.all_cons, Bool.and_eq_true] at h
    rw [List.any_cons, anyS l h.2, Bool.or_false]
    have h1 := h.1
    clear h
    cases e <;> first | rfl | cases h1
theorem st_par2 {x y : Str} {px py pt : Pos} {kt k2 pt2} {p q : Expr} (hk : X.env.scope.kind = .function) (hx : X.env.scope.names.lookup x = some .local) (hy : X.env.scope.names.lookup y = some .local) (hne : x ≠ y) (hl : (py.line == px.line) = true) (hp : notStar p = true) (hq : notStar q = true)
    (h1 : [p, q].all (foldedForSure 8) = false) (h2 : [p, q].all (constantsAlone 8) = false) : swappedStores [.Tuple [.Name x px, .Name y py] kt pt] (.Tuple [p, q] k2 pt2) X.env = pure (some [x, y]) := by
  have hb : X.env.blockKind = .function := by unfold Env.blockKind; rw [hk]; rfl
  have e1 := own_kind hx
  have e2 := own_kind hy
  have st := anyS [p, q] (by rw [List.all_cons, List.all_cons, hp, hq]; rfl)
  unfold swappedStores
  simp only [hb, h1, h2, e1, e2, hl, List.filterMap_cons, List.head?_cons, Expr.pos, Option.map_some, Option.getD_some, beq_self_eq_true, Bool.and_self, if_true, List.filterMap_nil]
  have ed : [x, y].eraseDups = [x, y] := by
    have n1 : (y == x) = false := beq_eq_false_iff_ne.mpr (Ne.symm hne)
    rw [List.eraseDups_cons]
    simp [List.filter, n1, List.eraseDups_cons]
  rw [ed]
  exact (if_neg (by simp)).trans ((if_neg fun z => Bool.noConfusion (st.symm.trans z)).trans (if_neg (by simp)))
theorem st_par3 {x y z : Str} {px py pz pt : Pos} {kt k2 pt2} {p q r : Expr} (hk : X.env.scope.kind = .function) (hx : X.env.scope.names.lookup x = some .local) (hy : X.env.scope.names.lookup y = some .local) (hz : X.env.scope.names.lookup z = some .local) (hxy : x ≠ y) (hxz : x ≠ z) (hyz : y ≠ z) (hl : (py.line == px.line) = true) (hl2 : (pz.line == px.line) = true) (hp : notStar p = true) (hq : notStar q = true) (hr : notStar r = true)
    (h1 : [p, q, r].all (foldedForSure 8) = false) (h2 : [p, q, r].all (constantsAlone 8) = false) : swappedStores [.Tuple [.Name x px, .Name y py, .Name z pz] kt pt] (.Tuple [p, q, r] k2 pt2) X.env = pure (some [x, y, z]) := by
  have hb : X.env.blockKind = .function := by unfold Env.blockKind; rw [hk]; rfl
  have e1 := own_kind hx
  have e2 := own_kind hy
  have e3 := own_kind hz
  have st := anyS [p, q, r] (by rw [List.all_cons, List.all_cons, List.all_cons, hp, hq, hr]; rfl)
  unfold swappedStores
  simp only [hb, h1, h2, e1, e2, e3, hl, hl2, List.filterMap_cons, List.head?_cons, Expr.pos, Option.map_some, Option.getD_some, beq_self_eq_true, Bool.and_self, if_true, List.filterMap_nil]
  have ed : [x, y, z].eraseDups = [x, y, z] := by
    have n1 : (y == x) = false := beq_eq_false_iff_ne.mpr (Ne.symm hxy)
    have n2 : (z == x) = false := beq_eq_false_iff_ne.mpr (Ne.symm hxz)
    have n3 : (z == y) = false := beq_eq_false_iff_ne.mpr (Ne.symm hyz)
    rw [List.eraseDups_cons]
    simp [List.filter, n1, n2, n3, List.eraseDups_cons]
  rw [ed]
  exact (if_neg (by simp)).trans ((if_neg fun z => Bool.noConfusion (st.symm.trans z)).trans (if_neg (by simp)))
theorem asgs {Z : Sx} {i : Nat} {ie : IE} {x : Str} {p pos : Pos} {v : Expr} (G : GOk X M Z) (hk : X.env.scope.kind = .function) (hf : ∀ x, X.fn x = true) (h1 : X.N[i]? = some x) (h2 : locB X.env.scope x = true) (h3 : (!swB X.env.scope x p v || lcB v) = true) (h4 : ckE X.N M X.env.scope ie v = true) :
    PS X (.Assign [.Name x p] v pos) (tWS Z X.K (.asg i ie)) ∧ PS X (.Assign [.Name x p] v pos) (tWS Z X.K (.cellify i ie)) := by
  have sw := sw_ok (X := X) (x := x) (p := p) (v := v) (l := pos.line) hk
  cases hs : swB X.env.scope x p v with
  | false =>
    rw [hs] at sw
    exact snd_asg G h1 (locB_ok h2) (sndE ie G h4).1 sw (.inl (hf x))
  | true =>
    rw [hs] at sw h3
    have hl : lcB v = true := h3
    have ow : X.env.scope.names.lookup x = some .local := by
      refine ownB_ok ?_
      cases v with
      | ListComp a b cc d =>
        have hs' : (ownB X.env.scope x && (p.line == d.line) && !(cc.names.any fun (n, k) => n == x && (k == .local || k == .cell))) = true := hs
        rw [Bool.and_eq_true, Bool.and_eq_true] at hs'
        exact hs'.1.1
      | _ => cases hl
    cases ie with
    | comp own t src ifs elt =>
      unfold ckE at h4
      split at h4
      · rename_i ee tg iter ies a scope pos
        simp only [Bool.and_eq_true] at h4
        obtain ⟨⟨⟨⟨⟨⟨⟨⟨⟨h0, g1⟩, g2⟩, g3⟩, g4⟩, g5⟩, g6⟩, g7⟩, g8⟩, g9⟩ := h4
        cases of_decide_eq_true h0
        exact snd_setLc G h1 ow sw (sndIi src G g4) (blkOk_by g1) (ownsOf_map _ _) (fun s H C cl fp => ckT_ok false t (X := X.blk s H scope (compEnvC scope cl C X.env) fp) G.calm G.nd (fun z => nomatch z) g5)
          (fun s H C cl fp => sndIf ifs (X := X.blk s H scope (compEnvC scope cl C X.env) fp) (G.blk s H scope _ fp) (of_decide_eq_true g6) g7 g8)
          (fun s H C cl fp => (sndE elt (X := X.blk s H scope (compEnvC scope cl C X.env) fp) (G.blk s H scope _ fp) g9).1) (set_ok g3) g2
      · cases h4
    | _ =>
      exfalso
      unfold ckE at h4
      cases v <;> first | (cases h4; done) | (cases hl; done)
mutual
theorem sndS : ∀ (i : IS) {Z : Sx} {st : Stmt}, GOk X M Z → X.env.scope.kind = .function → (∀ x, X.fn x = true) → PassesOwn (model X.prog X.w) X.A X.env X.xe → ckS X.N M X.env.scope i st = true → PS X st (tWS Z X.K i)
  | .asg i e, Z, st, G, hk, hf, hp, h => by
    unfold ckS at h
    split at h
    · rename_i x p v pos
      simp only [Bool.and_eq_true] at h
      obtain ⟨⟨⟨h1, h2⟩, h3⟩, h4⟩ := h
      exact (asgs G hk hf (of_decide_eq_true h1) h2 h3 h4).1
    · cases h
  | .cellify i e, Z, st, G, hk, hf, hp, h => by
    unfold ckS at h
    split at h
    · rename_i x p v pos
      simp only [Bool.and_eq_true] at h
      obtain ⟨⟨⟨h1, h2⟩, h3⟩, h4⟩ := h
      exact (asgs G hk hf (of_decide_eq_true h1) h2 h3 h4).2
    · cases h
  | .asgT l e, Z, st, G, hk, hf, hp, h => by
    unfold ckS at h
    split at h
    · simp only [Bool.and_eq_true] at h
      obtain ⟨⟨h1, h2⟩, h3⟩ := h
      exact snd_asgT (sndE e G h3).1 (ckT_ok true (.tp l) G.calm G.nd (fun _ => hf) (by unfold ckT; exact h1)) sw_tup (st_tup h2) rfl
    · cases h
  | .par is l, Z, st, G, hk, hf, hp, h => by
    unfold ckS at h
    split at h
    · simp only [Bool.and_eq_true, Bool.not_eq_true'] at h
      obtain ⟨⟨⟨⟨⟨⟨⟨⟨⟨⟨⟨h1, h2⟩, h3⟩, h4⟩, h5⟩, h6⟩, h7⟩, h8⟩, h9⟩, h10⟩, h11⟩, h12⟩ := h
      exact snd_par2 G (of_decide_eq_true h1) (of_decide_eq_true h2) (of_decide_eq_true h3) (ownB_ok h5) (ownB_ok h6) (sndLl l G h12) (st_par2 hk (ownB_ok h5) (ownB_ok h6) (of_decide_eq_true h4) h7 h8 h9 h10 h11) sw_tup
    · simp only [Bool.and_eq_true, Bool.not_eq_true'] at h
      obtain ⟨⟨⟨⟨⟨⟨⟨⟨⟨⟨⟨⟨⟨⟨⟨⟨⟨⟨⟨h1, h2⟩, h3⟩, h4⟩, h5⟩, h6⟩, h7⟩, h8⟩, h9⟩, h10⟩, h11⟩, h12⟩, h13⟩, h14⟩, h15⟩, h16⟩, h17⟩, h18⟩, h19⟩, h20⟩ := h
      exact snd_par3 G (of_decide_eq_true h1) (of_decide_eq_true h2) (of_decide_eq_true h3) (of_decide_eq_true h4) (of_decide_eq_true h5) (of_decide_eq_true h6) (ownB_ok h10) (ownB_ok h11) (ownB_ok h12) (sndLl l G h20)
        (st_par3 hk (ownB_ok h10) (ownB_ok h11) (ownB_ok h12) (of_decide_eq_true h7) (of_decide_eq_true h8) (of_decide_eq_true h9) h13 h14 h15 h16 h17 h18 h19) sw_tup
    · cases h
  | .seti o i e, Z, st, G, hk, hf, hp, h => by
    unfold ckS at h
    split at h
    · rename_i x p ei pp v pos
      simp only [Bool.and_eq_true] at h
      obtain ⟨⟨⟨⟨⟨h1, h2⟩, h3⟩, h4⟩, h5⟩, h6⟩ := h
      obtain ⟨d1, d2⟩ := dbgB_ok h3
      refine snd_seti (of_decide_eq_true h1) (visB_ok h2) d1 d2 (sndE i G h5).1 (sndE e G h6).1 (fun v => ?_) sw_sub st_sub rfl
      cases ei with
      | Slice a b cc p => cases cc with
        | none => cases h4
        | some cc => rfl
      | _ => rfl
    · cases h
  | .aug i op e, Z, st, G, hk, hf, hp, h => by
    unfold ckS at h
    split at h
    · simp only [Bool.and_eq_true] at h
      obtain ⟨⟨⟨⟨h1, h2⟩, h3⟩, h4⟩, h5⟩ := h
      cases of_decide_eq_true h3
      exact snd_aug G (of_decide_eq_true h1) (locB_ok h2) (sndE e G h5).1 (of_decide_eq_true h4) (.inl (hf _))
    · cases h
  | .expr e, Z, st, G, hk, hf, hp, h => by
    unfold ckS at h
    split at h
    · simp only [Bool.and_eq_true] at h
      exact snd_expr (sndE e G h.2).1 (sw_none h.1)
    · cases h
  | .ret e, Z, st, G, hk, hf, hp, h => by
    unfold ckS at h
    split at h
    · exact snd_ret (sndE e G h).1
    · cases h
  | .retv i, Z, st, G, hk, hf, hp, h => by
    unfold ckS at h
    split at h
    · simp only [Bool.and_eq_true] at h
      obtain ⟨d1, d2⟩ := dbgB_ok h.2
      exact snd_retv (of_decide_eq_true h.1.1) (visB_ok h.1.2) d1 d2
    · cases h
  | .retN, Z, st, G, hk, hf, hp, h => by
    unfold ckS at h
    split at h
    · exact snd_retN
    · cases h
  | .ifs e a b, Z, st, G, hk, hf, hp, h => by
    unfold ckS at h
    split at h
    · simp only [Bool.and_eq_true] at h
      obtain ⟨⟨⟨h1, h2⟩, h3⟩, h4⟩ := h
      exact snd_if ((sndE e G h2).2 h1) (sndSs a G hk hf hp h3) (sndSs b G hk hf hp h4)
    · cases h
  | .for_ t src b, Z, st, G, hk, hf, hp, h => by
    unfold ckS at h
    split at h
    · simp only [Bool.and_eq_true] at h
      obtain ⟨⟨⟨h1, h2⟩, h3⟩, h4⟩ := h
      exact snd_for G hp (sndIi src G h3) (ckT_ok true t G.calm G.nd (fun _ => hf) h2) (sndSs b G hk hf hp h4) (set_ok h1)
    · cases h
  | .while_ e b, Z, st, G, hk, hf, hp, h => by
    unfold ckS at h
    split at h
    · simp only [Bool.and_eq_true] at h
      obtain ⟨⟨h1, h2⟩, h3⟩ := h
      exact snd_while hp ((sndE e G h2).2 h1) (sndSs b G hk hf hp h3)
    · cases h
  | .pass, Z, st, G, hk, hf, hp, h => by
    unfold ckS at h
    split at h
    · exact snd_pass
    · exact snd_doc
    · cases h
  | .brk, Z, st, G, hk, hf, hp, h => by
    unfold ckS at h
    split at h
    · exact snd_brk
    · cases h
  | .cont, Z, st, G, hk, hf, hp, h => by
    unfold ckS at h
    split at h
    · exact snd_cont
    · cases h
theorem sndSs : ∀ (l : ISs) {Z : Sx} {b : List Stmt}, GOk X M Z → X.env.scope.kind = .function → (∀ x, X.fn x = true) → PassesOwn (model X.prog X.w) X.A X.env X.xe → ckSs X.N M X.env.scope l b = true → PSs X b (tWSs Z X.K l)
  | .nil, Z, b, G, hk, hf, hp, h => by
    cases b with
    | nil => exact sndS_nil
    | cons _ _ => unfold ckSs at h; cases h
  | .cons a l, Z, b, G, hk, hf, hp, h => by
    cases b with
    | nil => unfold ckSs at h; cases h
    | cons st rest =>
      unfold ckSs at h
      simp only [Bool.and_eq_true] at h
      exact sndS_cons (sndS a G hk hf hp h.1) (sndSs l G hk hf hp h.2)
end
end
end Vm

/-! Vm: a checked def keeps the promise that its text's weakest precondition is; the law's end -/
namespace Vm
open PySem PySem.Spec L2
open PyProof.Rows hiding St
/-- what a def of the module may lean on -/
structure Wd (P : Program) (w : World) (K : PySem.W.Frag) (mg : Str → Option Value) (base : Heap) (M : Nm) (S : Sta) (C : Ctx) (k : Nat) : Prop where
  fn : ∀ f, C.hasF f = true → ∃ a fd j, mg (M.fn f) = some (.ref a) ∧ PySem.W.keepIn K (.ref a) = true ∧ Binds K fd (M.ps f) [] ∧ FnG P w K mg base j a fd (M.ps f) (spF S K (C.fn f)) ∧ j ≤ k ∧
    ∀ n ks, C.hasK f n ks = true → KBn K fd (M.ps f) n (kwN (M.ps f) n ks) (fun us ws => us ++ arr ks ws) (fun vs zs => vs ++ arr ks zs)
  gl : ∀ i, C.hasG i = true → ∃ u v, mg (M.gl i) = some u ∧ L2.RelV v u ∧ ∀ H F rh, Rep K H F rh v (C.gl i)
  prim : ∀ p, C.hasP p = true → mg p.name = none
  rng : mg "range" = none
  enm : mg "enumerate" = none
  zp : mg "zip" = none
  isi : mg "isinstance" = none
  ty : ∀ T ∈ tyNames, mg (Str.ofString T) = none
theorem spF_imp {S : Sta} {K : PySem.W.Frag} {T T' : List D → Cl → (D → Bool → Cl → Prop) → (Ex → Cl → Prop) → Prop} (h : ∀ ds c Q E, T' ds c Q E → T ds c Q E) {vs : List V} {H : Hp} {Q : VK} {E : XK} (q : spF S K T' vs H Q E) : spF S K T vs H Q E := by
  obtain ⟨ds, c, F, rh, Qm, Em, h1, h2, h3, h4⟩ := q
  exact ⟨ds, c, F, rh, Qm, Em, h1, h2, h _ _ _ _ h3, h4⟩
theorem start_shr {K : PySem.W.Frag} {H : Hp} {F : Fz} {rh : List Addr} : ∀ {vs : List V} {ds : List D} {m n i : Nat} {d : D}, RepL K H F rh vs ds → (ds.map Sl.sh ++ List.replicate m Sl.no)[i]? = some (.sh d) → ∃ v, (vs.map some ++ List.replicate n none)[i]? = some (some v) ∧ Rep K H F rh v d
  | _, _, m, n, i, d, .nil, h => by
    rw [List.map_nil, List.nil_append] at h
    exact nomatch (List.eq_of_mem_replicate (List.mem_of_getElem? h))
  | _, _, m, n, 0, d, .cons r _, h => by
    cases h
    exact ⟨_, rfl, r⟩
  | _, _, m, n, i + 1, d, .cons _ r, h => start_shr (m := m) (n := n) (i := i) r h
theorem start_own {ds : List D} {m i : Nat} {d : D} (h : (ds.map Sl.sh ++ List.replicate m Sl.no)[i]? = some (.ow d)) : False := by
  rcases List.mem_append.mp (List.mem_of_getElem? h) with z | z
  · obtain ⟨_, _, e⟩ := List.mem_map.mp z
    cases e
  · exact nomatch (List.eq_of_mem_replicate z)
section
variable {P : Program} {w : World} {K : PySem.W.Frag} {mg : Str → Option Value} {base : Heap} {M : Nm} {S : Sta} {C : Ctx} {k : Nat}
theorem def_ok {x qual : Str} {params : Arguments} {body : List Stmt} {scope : Scope} {dvs : List V} {kws : List (Str × V)} {f : Addr} {fd : FuncData} {N ps : List Str} {ir : ISs} (Fd : FunD K x qual params body scope dvs kws f fd) (Sc : FnScope N ps scope) (W : Wd P w K mg base M S C k) (hl : ps.length ≤ N.length) (ck : ckSs N M scope ir body = true) :
    FnG P w K mg base (k + 1) f fd ps (spF S K (wpDef C ps.length N.length ir)) := by
  obtain ⟨oc, od, dV, kV, doc, pm, an, cdv, ct, osl, rfl, lk, hcd, _, _⟩ := Fd.ex
  refine fnG_of lk hcd Sc (fun vs H Q E ⟨ds, c, F, rh, Qm, Em, h1, h2, h3, h4⟩ => by rw [h1.len]; exact h3.1) fun A outer s H vs Q E hr hg ⟨ds, c, F, rh, Qm, Em, h1, h2, h3, h4, h5⟩ => ?_
  have G : GOk (cxOf (L2.CX P w) P w K mg base N qual scope f cdv A outer s H E) M ⟨S, H, C, fun cls d _ H' => E cls d H'⟩ :=
    ⟨rfl, hg, ⟨k, hr⟩, Sc.nd, takes_of rfl rfl rfl rfl, fun f hf => ⟨by
      obtain ⟨a, fd, j, g1, g2, g3, g4, g5, g6⟩ := W.fn f hf
      exact ⟨a, fd, j, g1, g2, g3, g4, hr.mono g5, g6⟩⟩, W.gl, W.prim, W.rng, W.enm, W.zp, W.isi, W.ty⟩
  refine ⟨_, sndSs ir G Sc.kind (fun _ => rfl) (passes_of rfl) ck, ?_⟩
  have len : ds.length = ps.length := h3.1
  have vl : vs.length = ps.length := by rw [h1.len, len]
  have noO : ∀ a, ¬ Owned (L2.start N vs) (ds.map Sl.sh ++ List.replicate (N.length - ps.length) Sl.no) a := fun a ⟨i, d, z, _⟩ => start_own z
  refine ⟨_, c, F, rh, _, _, ⟨h2, fun i d z => start_shr h1 z, fun i d z => (start_own z).elim, fun i j d e a z => (start_own z).elim, ?_, fun i d a z => (start_own z).elim, fun a z => z⟩, h3.2, ⟨?_, ?_, ?_, ?_⟩, ?_⟩
  · unfold L2.start
    rw [List.length_append, List.length_append, List.length_map, List.length_map, List.length_replicate, List.length_replicate, len, vl]
  · intro s' c' sh' H' F' rh' q R e
    exact h4 _ _ _ _ _ _ _ q R.toCe ((e.less fun a z => (noO a z).elim).lessR fun a z => z.elim) .non
  · intro s' c' sh' H' F' rh' q R e; exact q.elim
  · intro s' c' sh' H' F' rh' q R e; exact q.elim
  · intro d o s' c' v sh' H' F' rh' q R e r
    refine h4 d o c' v H' F' rh' q R.toCe ((e.less fun a z => (noO a z).elim).lessR fun a z => z.elim) ?_
    cases o with
    | false => exact r
    | true =>
      obtain ⟨a, ob, g1, g2, g3, g4, g5, g6, g7⟩ := r
      exact ⟨a, ob, g1, g2, g3, g4, g5, g6, fun z => z⟩
  · intro ex s' c' cls da sh' H' F' rh' q R e r
    exact h5 ex c' cls da H' F' rh' q R.toCe ((e.less fun a z => (noO a z).elim).lessR fun a z => z.elim) r
theorem FnG.imp {f : Addr} {fd : FuncData} {ps : List Str} {T T' : List D → Cl → (D → Bool → Cl → Prop) → (Ex → Cl → Prop) → Prop} (G : FnG P w K mg base k f fd ps (spF S K T)) (h : ∀ ds c Q E, T' ds c Q E → T ds c Q E) : FnG P w K mg base k f fd ps (spF S K T') :=
  ⟨fun vs H Q E q => G.arity vs H Q E (spF_imp h q), fun A o s H a us vs Q E hr hg e0 hb r q => G.go A o s H a us vs Q E hr hg e0 hb r (spF_imp h q)⟩
end
/-! what a call by keywords binds -/
theorem arr_cons {α : Type} (ks : List Nat) (ws : List α) : arr ks ws = (List.range ks.length).filterMap fun j => ws[ks.idxOf j]? := rfl
theorem vals_at : ∀ {vs : List V} {us : List Value} (i : Nat), Vals vs us → (vs[i]? = none ∧ us[i]? = none) ∨ ∃ v u, vs[i]? = some v ∧ us[i]? = some u ∧ L2.RelV v u
  | _, _, i, .nil => .inl ⟨by simp, by simp⟩
  | _, _, 0, .cons r _ => .inr ⟨_, _, rfl, rfl, r⟩
  | _, _, i + 1, .cons _ r => by
    rcases vals_at i r with ⟨h1, h2⟩ | ⟨v, u, h1, h2, h3⟩
    · exact .inl ⟨by simpa using h1, by simpa using h2⟩
    · exact .inr ⟨v, u, by simpa using h1, by simpa using h2, h3⟩
theorem vals_arr {vs : List V} {us : List Value} (ks : List Nat) (r : Vals vs us) : Vals (arr ks vs) (arr ks us) := by
  unfold arr
  generalize List.range ks.length = l
  induction l with
  | nil => exact .nil
  | cons j l ih =>
    rcases vals_at (ks.idxOf j) r with ⟨h1, h2⟩ | ⟨v, u, h1, h2, h3⟩
    · simp only [List.filterMap_cons, h1, h2]; exact ih
    · simp only [List.filterMap_cons, h1, h2]; exact .cons h3 ih
theorem kb_of {K : PySem.W.Frag} {x qual : Str} {params : Arguments} {body : List Stmt} {scope : Scope} {f : Addr} {fd : FuncData} {ps : List Str} (F : FunD K x qual params body scope [] [] f fd) (n : Nat) (ks : List Nat)
    (h : ∀ (kV doc pm : Value) (an : Option Addr) (cdv ct : Value) (us ws : List Value), us.length = n → ws.length = (kwN ps n ks).length → bindArgs (PySem.W.fnOf x qual params body scope .none kV doc pm an cdv ct) ⟨us, (kwN ps n ks).zip ws⟩ = pure (ps.zip (us ++ arr ks ws))) :
    KBn K fd ps n (kwN ps n ks) (fun us ws => us ++ arr ks ws) (fun vs zs => vs ++ arr ks zs) := by
  obtain ⟨oc, od, dV, kV, doc, pm, an, cdv, ct, osl, rfl, lk, hcd, hD, hK⟩ := F.ex
  rcases hD with ⟨_, rfl⟩ | ⟨e, _⟩
  · exact ⟨fun s us ws _ l1 l2 => .of_eq (h kV doc pm an cdv ct us ws l1 l2), fun r1 r2 => r1.append (vals_arr ks r2)⟩
  · exact absurd rfl e
/-! ### the law's end -/
/-- what a law promises: over every script of at most n ints it gives true -/
def lawSp (n : Nat) : List D → Cl → (D → Bool → Cl → Prop) → (Ex → Cl → Prop) → Prop := fun ds c Q _ => ∃ ns : List Int, ds = [.scr (ns.map D.int)] ∧ ns.length ≤ n ∧ c = [] ∧ ∀ c', Q (.bl true) false c'
theorem repL_ints {K : PySem.W.Frag} {H : Hp} {F : Fz} {rh : List Addr} : ∀ ns : List Int, RepL K H F rh (ns.map V.int) (ns.map D.int)
  | [] => .nil
  | _ :: ns => .cons .int (repL_ints ns)
theorem law_callG {P : Program} {w : World} {K : PySem.W.Frag} {mg mb : Str → Option Value} {S : Sta} {k n : Nat} {fa a : Addr} {fd : FuncData} {x : Str} {s₁ : Shared} {vs : List Value} {ns : List Int}
    (KX : K.In s₁.heap) (hns : s₁.heap.Ns mainGlobals mg) (hb : s₁.heap.Ns builtinsNs mb) (hbb : ∀ x : Str, x ≠ "__name__" → mb x = bootBuiltins x) (hlim : s₁.heap.NoLimit) (hg : s₁.gens = #[])
    (ha : s₁.heap.get? a = some { cls := .type "list", data := .seq vs.toArray }) (hi : IntsAre vs ns) (hl : ns.length ≤ n) (hl2 : n ≤ sizeLine) (hr : Room k callerA)
    (F : ∀ base : Heap, K.In base → base.Ns mainGlobals mg → FnG P w K mg base k fa fd [x] (spF S K (lawSp n))) (hbind : ∀ (s : Shared) (u : Value), BindsTo s fd ⟨[u], []⟩ [(x, u)]) :
    codeAny (model P w) callerA (.call (.ref fa) ⟨[.ref a], []⟩) (fun r s' => r = .ok (.ret (.bool true)) ∧ OldK s₁.heap s'.heap ∧ s'.os = s₁.os ∧ AllBare s'.gens) s₁ := by
  obtain ⟨H, base, hF, hO, hKb, hNb, e0⟩ := law_start (P := P) (w := w) KX hns hb hbb hlim hg ha hi (Nat.le_trans hl hl2)
  have ce : Ce K H (fun b => b = a ∧ H a ≠ none) [] [] := ⟨rfl, List.nodup_nil, fun n b d z => by simp at z, fun b z => (List.not_mem_nil z).elim, fun b z => by rw [z.1]; exact z.2⟩
  have sp : spF S K (lawSp n) [.ref a] H (fun v _ => v = .bl true) fun _ _ _ => False :=
    ⟨[.scr (ns.map D.int)], [], (fun b => b = a ∧ H a ≠ none), [], fun d o _ => d = .bl true ∧ o = false, fun _ _ => False, .cons (.scr hF (repL_ints ns)) .nil, ce, ⟨ns, rfl, hl, rfl, fun _ => ⟨rfl, rfl⟩⟩,
      fun d o c' v H' F' rh' ⟨q1, q2⟩ _ _ r => by subst q1; subst q2; cases (show Rep K H' F' rh' v (.bl true) from r); rfl, fun ex c' cls da H' F' rh' q => q.elim⟩
  refine codeAny_mono ((F _ hKb hNb).go callerA [] s₁ H ⟨[.ref a], []⟩ [.ref a] [.ref a] _ _ hr rfl e0 (hbind s₁ (.ref a)) (.cons rfl .nil) sp) fun r s' h => ?_
  cases r with
  | error e =>
    obtain ⟨_, _, _, _, _, _, _, _, _, _, _, _, z⟩ := (show L2.CX P w [] H s₁ (fun _ _ _ => False) e s' from h)
    exact z.elim
  | ok fl =>
    cases fl with
    | next => exact False.elim h
    | brk => exact False.elim h
    | cont => exact False.elim h
    | ret u =>
      obtain ⟨v, H', os, bare, un, hok', r', q⟩ := h
      have q' : v = .bl true := q
      subst q'
      obtain rfl : u = Value.bool true := r'
      refine ⟨rfl, OldK.of_keep fun b o e => ?_, os, bare⟩
      rcases hO b with z | ⟨ob, z, _⟩
      · exact un.keep b o e z (by intro z; exact absurd (show b ∈ ([] : List Addr) from z) (by simp)) (by simp)
      · have z2 := un.frzs b ob _ z
        obtain ⟨e1, _⟩ := e0.hok b _ z
        obtain ⟨e2, _⟩ := hok' b _ z2
        rw [e] at e1; cases e1
        exact e2
theorem walk_ofG {l : PySem.W.OpenLaw} {n k : Nat} {q : Program} {loose : List Str} {XP : (Str → Option Value) → Heap → Prop} {YP : World → Heap → Prop} {d : DefRec} {S : Sta} {x : Str}
    (hn : l.most = some n) (hn2 : n ≤ sizeLine) (hdf : d.params.defaults = []) (hr : Room k callerA)
    (F : ∀ (w : World) (mg : Str → Option Value) (fa : Addr) (h : Heap), YP w h → h.Ns mainGlobals mg → mg d.name = some (.ref fa) →
      ∃ (K : PySem.W.Frag) (fd : FuncData), K.In h ∧ (∀ (s : Shared) (u : Value), BindsTo s fd ⟨[u], []⟩ [(x, u)]) ∧
        ∀ base : Heap, K.In base → base.Ns mainGlobals mg → FnG l.prog w K mg base k fa fd [x] (spF S K (lawSp n))) :
    PySem.W.WalkO q loose XP YP l.row.toRowW d [] (fun f vs => PySem.call f vs) := by
  refine Att.attach_call hn hdf fun w s₀ s₁ mg mb fa o pm cd doc a vs ns G Y ho hd hcd hmg hobj hints hlen hg => ?_
  obtain ⟨K, fd, KX, hb, hF⟩ := F w mg fa _ Y G.T.g hmg
  exact law_callG KX G.T.g G.T.b G.T.builtins G.T.nolimit hg hobj hints hlen hn2 hr hF hb
end Vm

/-! Vm: the weakest preconditions, a step at a time -/
namespace Vm
open PySem PySem.Spec L2
def IfK (d : D) (A B : Prop) : Prop := ∃ k, d = .bl k ∧ (k = true → A) ∧ (k = false → B)
def BoK (c : Cl) (a : Bool) (d : D) (A B : Prop) : Prop := ∃ k, Tru c d = some k ∧ (k = a → A) ∧ (k = (!a) → B)
def ChK (k : Bool) (A B : Prop) : Prop := (k = true → A) ∧ (k = false → B)
def NotK (c : Cl) (d : D) (P : Bool → Prop) : Prop := ∃ k, Tru c d = some k ∧ P (!k)
def IsiK (c : Cl) (d : D) (T : String) (P : Bool → Prop) : Prop := ∃ u, tyD c d = some u ∧ P (isTy u T)
def IntK (d : D) (P : Int → Prop) : Prop := ∃ i, d = .int i ∧ P i
def Int2K (x y : D) (P : Int → Int → Prop) : Prop := ∃ i j, x = .int i ∧ y = .int j ∧ P i j
def BlK (d : D) (P : Bool → Prop) : Prop := ∃ k, d = .bl k ∧ P k
def QT (Q : QK) (d : D) (s : List Sl) (c : Cl) : Prop := ∃ k, Tru c d = some k ∧ Q (.bl k) false s c
section
variable {C : Ctx} {s : List Sl} {c : Cl} {Q : QK} {E : EK} {d x y : D} {i f n : Nat} {a b e : IE} {l kl : IL} {op op' : Operator} {t : Bool} {A B : Prop} {nx bk ct : List Sl → Cl → Prop} {rt : QK}
theorem ifk_bl {p : Bool} (h1 : p = true → A) (h2 : p = false → B) : IfK (.bl p) A B := ⟨p, rfl, h1, h2⟩
theorem ifk_t (h1 : A) : IfK (.bl true) A B := ⟨true, rfl, fun _ => h1, nofun⟩
theorem ifk_f (h1 : B) : IfK (.bl false) A B := ⟨false, rfl, nofun, fun _ => h1⟩
theorem ifk_d {p : Prop} [Decidable p] (h1 : p → A) (h2 : ¬ p → B) : IfK (.bl (decide p)) A B := ⟨_, rfl, fun h => h1 (of_decide_eq_true h), fun h => h2 (of_decide_eq_false h)⟩
theorem bok_bl {p q : Bool} (h1 : p = q → A) (h2 : p = (!q) → B) : BoK c q (.bl p) A B := ⟨p, rfl, h1, h2⟩
theorem bok_tt (h : A) : BoK c true (.bl true) A B := ⟨true, rfl, fun _ => h, nofun⟩
theorem bok_tf (h : B) : BoK c true (.bl false) A B := ⟨false, rfl, nofun, fun _ => h⟩
theorem bok_ff (h : A) : BoK c false (.bl false) A B := ⟨false, rfl, fun _ => h, nofun⟩
theorem bok_ft (h : B) : BoK c false (.bl true) A B := ⟨true, rfl, nofun, fun _ => h⟩
theorem bok_dt {p : Prop} [Decidable p] (h1 : p → A) (h2 : ¬ p → B) : BoK c true (.bl (decide p)) A B := ⟨_, rfl, fun h => h1 (of_decide_eq_true h), fun h => h2 (of_decide_eq_false h)⟩
theorem bok_df {p : Prop} [Decidable p] (h1 : ¬ p → A) (h2 : p → B) : BoK c false (.bl (decide p)) A B := ⟨_, rfl, fun h => h1 (of_decide_eq_false h), fun h => h2 (of_decide_eq_true h)⟩
theorem bok_of {q k : Bool} (h : Tru c d = some k) (h1 : k = q → A) (h2 : k = (!q) → B) : BoK c q d A B := ⟨k, h, h1, h2⟩
theorem chk_d {p : Prop} [Decidable p] (h1 : p → A) (h2 : ¬ p → B) : ChK (decide p) A B := ⟨fun h => h1 (of_decide_eq_true h), fun h => h2 (of_decide_eq_false h)⟩
theorem chk_nd {p : Prop} [Decidable p] (h1 : ¬ p → A) (h2 : p → B) : ChK (!decide p) A B := ⟨fun h => h1 (by simpa using h), fun h => h2 (by simpa using h)⟩
theorem chk_b {k : Bool} (h1 : k = true → A) (h2 : k = false → B) : ChK k A B := ⟨h1, h2⟩
theorem qt_bl {p : Bool} (h : Q (.bl p) false s c) : QT Q (.bl p) s c := ⟨p, rfl, h⟩
theorem qt_int {j : Int} (h : Q (.bl (decide (j ≠ 0))) false s c) : QT Q (.int j) s c := ⟨j != 0, rfl, by
  have e : (j != 0) = decide (j ≠ 0) := by by_cases h : j = 0 <;> simp [h]
  rw [e]; exact h⟩
theorem qt_of {k : Bool} (h : Tru c d = some k) (q : Q (.bl k) false s c) : QT Q d s c := ⟨k, h, q⟩
theorem qt_e : Qt true Q d t s c = QT Q d s c := rfl

theorem e_var0 (h : s[i]? = some (.sh d)) (k : Q d false s c) : wpE C false (.var i) s c Q E := by
  unfold wpE
  rw [h]; exact k
theorem e_var1 (h : s[i]? = some (.sh d)) (k : QT Q d s c) : wpE C true (.var i) s c Q E := by
  unfold wpE
  rw [h]; exact k
theorem e_own0 (h : s[i]? = some (.ow d)) (k : Q d false (s.set i (.sh d)) c) : wpE C false (.var i) s c Q E := by
  unfold wpE
  rw [h]; exact k
theorem e_own1 (h : s[i]? = some (.ow d)) (k : QT Q d (s.set i (.sh d)) c) : wpE C true (.var i) s c Q E := by
  unfold wpE
  rw [h]; exact k
theorem e_con0  (k : Q d false s c) : wpE C false (.con d) s c Q E := by
  unfold wpE
  exact k
theorem e_con1  (k : QT Q d s c) : wpE C true (.con d) s c Q E := by
  unfold wpE
  exact k
theorem e_glob0 (h : C.hasG i = true) (k : Q (C.gl i) false s c) : wpE C false (.glob i) s c Q E := by
  unfold wpE
  exact ⟨h, k⟩
theorem e_glob1 (h : C.hasG i = true) (k : QT Q (C.gl i) s c) : wpE C true (.glob i) s c Q E := by
  unfold wpE
  exact ⟨h, k⟩
theorem e_bin0  (k : wpE C false a s c (fun x _ s1 c1 => wpE C false b s1 c1 (fun y _ s2 c2 => binW op c2 x y fun d o => Q d o s2 c2) E) E) : wpE C false (.bin op a b) s c Q E := by
  unfold wpE
  exact k
theorem e_bin1  (k : wpE C false a s c (fun x _ s1 c1 => wpE C false b s1 c1 (fun y _ s2 c2 => binW op c2 x y fun d o => QT Q d s2 c2) E) E) : wpE C true (.bin op a b) s c Q E := by
  unfold wpE
  exact k
theorem e_un0 {op : UnaryOp}  (k : wpE C false a s c (fun x _ s1 c1 => unW op x fun d o => Q d o s1 c1) E) : wpE C false (.un op a) s c Q E := by
  unfold wpE
  exact k
theorem e_un1 {op : UnaryOp}  (k : wpE C false a s c (fun x _ s1 c1 => unW op x fun d o => QT Q d s1 c1) E) : wpE C true (.un op a) s c Q E := by
  unfold wpE
  exact k
theorem e_cmp0 {op : CmpOp} (k : wpE C false a s c (fun x _ s1 c1 => wpE C false b s1 c1 (fun y _ s2 c2 => cmpW op c2 x y fun k => Q (.bl k) false s2 c2) E) E) : wpE C false (.cmp op a b) s c Q E := by
  unfold wpE
  exact k
theorem e_chain0 {op op' : CmpOp} (k : wpE C false a s c (fun x _ s1 c1 => wpE C false b s1 c1 (fun y _ s2 c2 => cmpW op c2 x y fun k => ChK k (wpE C false e s2 c2 (fun z _ s3 c3 => cmpW op' c3 y z fun k' => Q (.bl k') false s3 c3) E) (Q (.bl false) false s2 c2)) E) E) : wpE C false (.chain op op' a b e) s c Q E := by
  unfold wpE
  have eq : ∀ (k : Bool) (A B : Prop), ChK k A B = (match k with | true => A | false => B) := fun k A B => propext (by cases k <;> simp [ChK])
  simp only [eq] at k
  exact k
theorem e_bool0 {q : Bool} (k : wpB C false q l s c Q E) : wpE C false (.bool q l) s c Q E := by
  unfold wpE
  exact k
theorem b_one0 {q : Bool} (k : wpE C false e s c Q E) : wpB C false q (.cons e .nil) s c Q E := by
  unfold wpB
  exact k
theorem b_cons0 {q : Bool} {e' : IE} (k : wpE C false e s c (fun d _ s1 c1 => BoK c1 q d (wpB C false q (.cons e' l) s1 c1 Q E) (Q d false s1 c1)) E) : wpB C false q (.cons e (.cons e' l)) s c Q E := by
  unfold wpB
  have eq : (fun (d : D) (_ : Bool) s1 c1 => BoK c1 q d (wpB C false q (.cons e' l) s1 c1 Q E) (Q d false s1 c1)) = (fun d _ s1 c1 => ∃ k, Tru c1 d = some k ∧ (match k == q with
      | true => wpB C false q (.cons e' l) s1 c1 Q E
      | false => Q d false s1 c1)) := by
    funext d o s1 c1
    refine propext ⟨fun ⟨k, h1, h2, h3⟩ => ⟨k, h1, ?_⟩, fun ⟨k, h1, h2⟩ => ⟨k, h1, fun h => ?_, fun h => ?_⟩⟩
    · cases k <;> cases q <;> first | exact h2 rfl | exact h3 rfl
    · subst h
      have z : ∀ b : Bool, (b == b) = true := by decide
      rw [z] at h2
      exact h2
    · subst h
      have z : ∀ b : Bool, ((!b) == b) = false := by decide
      rw [z] at h2
      exact h2
  rw [eq] at k
  exact k
theorem e_not0 (k : wpE C false a s c (fun d _ s1 c1 => NotK c1 d fun k => Q (.bl k) false s1 c1) E) : wpE C false (.not a) s c Q E := by
  unfold wpE
  exact k
theorem e_ite0 (k : wpE C true a s c (fun d _ s1 c1 => IfK d (wpE C false b s1 c1 (Qt false Q) E) (wpE C false e s1 c1 (Qt false Q) E)) E) : wpE C false (.ite a b e) s c Q E := by
  unfold wpE
  have eq : (fun (d : D) (_ : Bool) s1 c1 => IfK d (wpE C false b s1 c1 (Qt false Q) E) (wpE C false e s1 c1 (Qt false Q) E)) = (fun d _ s1 c1 => ∃ k, d = .bl k ∧ (match k with
      | true => wpE C false b s1 c1 (Qt false Q) E
      | false => wpE C false e s1 c1 (Qt false Q) E)) := by
    funext d o s1 c1
    refine propext ⟨fun ⟨k, h1, h2, h3⟩ => ⟨k, h1, ?_⟩, fun ⟨k, h1, h2⟩ => ⟨k, h1, fun h => ?_, fun h => ?_⟩⟩
    · cases k <;> first | exact h2 rfl | exact h3 rfl
    · subst h; exact h2
    · subst h; exact h2
  rw [eq] at k
  exact k
theorem e_cmp1 {op : CmpOp} (k : wpE C false a s c (fun x _ s1 c1 => wpE C false b s1 c1 (fun y _ s2 c2 => cmpW op c2 x y fun k => Q (.bl k) false s2 c2) E) E) : wpE C true (.cmp op a b) s c Q E := by
  unfold wpE
  exact k
theorem e_chain1 {op op' : CmpOp} (k : wpE C false a s c (fun x _ s1 c1 => wpE C false b s1 c1 (fun y _ s2 c2 => cmpW op c2 x y fun k => ChK k (wpE C false e s2 c2 (fun z _ s3 c3 => cmpW op' c3 y z fun k' => Q (.bl k') false s3 c3) E) (Q (.bl false) false s2 c2)) E) E) : wpE C true (.chain op op' a b e) s c Q E := by
  unfold wpE
  have eq : ∀ (k : Bool) (A B : Prop), ChK k A B = (match k with | true => A | false => B) := fun k A B => propext (by cases k <;> simp [ChK])
  simp only [eq] at k
  exact k
theorem e_bool1 {q : Bool} (k : wpB C true q l s c Q E) : wpE C true (.bool q l) s c Q E := by
  unfold wpE
  exact k
theorem b_one1 {q : Bool} (k : wpE C true e s c Q E) : wpB C true q (.cons e .nil) s c Q E := by
  unfold wpB
  exact k
theorem b_cons1 {q : Bool} {e' : IE} (k : wpE C true e s c (fun d _ s1 c1 => BoK c1 q d (wpB C true q (.cons e' l) s1 c1 Q E) (Q d false s1 c1)) E) : wpB C true q (.cons e (.cons e' l)) s c Q E := by
  unfold wpB
  have eq : (fun (d : D) (_ : Bool) s1 c1 => BoK c1 q d (wpB C true q (.cons e' l) s1 c1 Q E) (Q d false s1 c1)) = (fun d _ s1 c1 => ∃ k, Tru c1 d = some k ∧ (match k == q with
      | true => wpB C true q (.cons e' l) s1 c1 Q E
      | false => Q d false s1 c1)) := by
    funext d o s1 c1
    refine propext ⟨fun ⟨k, h1, h2, h3⟩ => ⟨k, h1, ?_⟩, fun ⟨k, h1, h2⟩ => ⟨k, h1, fun h => ?_, fun h => ?_⟩⟩
    · cases k <;> cases q <;> first | exact h2 rfl | exact h3 rfl
    · subst h
      have z : ∀ b : Bool, (b == b) = true := by decide
      rw [z] at h2
      exact h2
    · subst h
      have z : ∀ b : Bool, ((!b) == b) = false := by decide
      rw [z] at h2
      exact h2
  rw [eq] at k
  exact k
theorem e_not1 (k : wpE C true a s c (fun d _ s1 c1 => NotK c1 d fun k => Q (.bl k) false s1 c1) E) : wpE C true (.not a) s c Q E := by
  unfold wpE
  exact k
theorem e_ite1 (k : wpE C true a s c (fun d _ s1 c1 => IfK d (wpE C false b s1 c1 (Qt true Q) E) (wpE C false e s1 c1 (Qt true Q) E)) E) : wpE C true (.ite a b e) s c Q E := by
  unfold wpE
  have eq : (fun (d : D) (_ : Bool) s1 c1 => IfK d (wpE C false b s1 c1 (Qt true Q) E) (wpE C false e s1 c1 (Qt true Q) E)) = (fun d _ s1 c1 => ∃ k, d = .bl k ∧ (match k with
      | true => wpE C false b s1 c1 (Qt true Q) E
      | false => wpE C false e s1 c1 (Qt true Q) E)) := by
    funext d o s1 c1
    refine propext ⟨fun ⟨k, h1, h2, h3⟩ => ⟨k, h1, ?_⟩, fun ⟨k, h1, h2⟩ => ⟨k, h1, fun h => ?_, fun h => ?_⟩⟩
    · cases k <;> first | exact h2 rfl | exact h3 rfl
    · subst h; exact h2
    · subst h; exact h2
  rw [eq] at k
  exact k
theorem notk_t {P : Bool → Prop} (k : P false) : NotK c (.bl true) P := ⟨true, rfl, k⟩
theorem notk_f {P : Bool → Prop} (k : P true) : NotK c (.bl false) P := ⟨false, rfl, k⟩
theorem notk_b {P : Bool → Prop} {p : Bool} (k : P (!p)) : NotK c (.bl p) P := ⟨p, rfl, k⟩
theorem notk_d {P : Bool → Prop} {p : Prop} [Decidable p] (k : P (decide (¬ p))) : NotK c (.bl (decide p)) P := ⟨_, rfl, by
  have e : (!decide p) = decide (¬ p) := by simp
  rw [e]; exact k⟩
theorem notk_of {P : Bool → Prop} {p : Bool} (h : Tru c d = some p) (k : P (!p)) : NotK c d P := ⟨p, h, k⟩
theorem isik {P : Bool → Prop} {T u : String} {r : Bool} (h : tyD c d = some u) (h2 : isTy u T = r) (k : P r) : IsiK c d T P := ⟨u, h, by rw [h2]; exact k⟩
theorem isik_str {P : Bool → Prop} {T : String} {z : Str} (k : P (isTy "str" T)) : IsiK c (.str z) T P := ⟨_, rfl, k⟩
theorem intk {P : Int → Prop} {j : Int} (k : P j) : IntK (.int j) P := ⟨j, rfl, k⟩
theorem int2k {P : Int → Int → Prop} {j m : Int} (k : P j m) : Int2K (.int j) (.int m) P := ⟨j, m, rfl, rfl, k⟩
theorem blk {P : Bool → Prop} {p : Bool} (k : P p) : BlK (.bl p) P := ⟨p, rfl, k⟩
theorem qtf {o : Bool} (k : Q d o s c) : Qt false Q d o s c := k
theorem qtt {o : Bool} (k : QT Q d s c) : Qt true Q d o s c := k
theorem e_tup0  (k : wpL C l s c (fun ds s1 c1 => ds.length ≤ sizeLine ∧ Q (.tup ds) false s1 c1) E) : wpE C false (.tup l) s c Q E := by
  unfold wpE
  exact k
theorem e_tup1  (k : wpL C l s c (fun ds s1 c1 => ds.length ≤ sizeLine ∧ QT Q (.tup ds) s1 c1) E) : wpE C true (.tup l) s c Q E := by
  unfold wpE
  exact k
theorem e_lst0  (k : wpL C l s c (fun ds s1 c1 => ds.length ≤ sizeLine ∧ Q (.lst ds) true s1 c1) E) : wpE C false (.lst l) s c Q E := by
  unfold wpE
  exact k
theorem e_lst1  (k : wpL C l s c (fun ds s1 c1 => ds.length ≤ sizeLine ∧ QT Q (.lst ds) s1 c1) E) : wpE C true (.lst l) s c Q E := by
  unfold wpE
  exact k
theorem e_idx0  (k : wpE C false a s c (fun x _ s1 c1 => wpE C false b s1 c1 (fun y _ s2 c2 => idxW c2 x y fun d o => Q d o s2 c2) E) E) : wpE C false (.idx a b) s c Q E := by
  unfold wpE
  exact k
theorem e_idx1  (k : wpE C false a s c (fun x _ s1 c1 => wpE C false b s1 c1 (fun y _ s2 c2 => idxW c2 x y fun d o => QT Q d s2 c2) E) E) : wpE C true (.idx a b) s c Q E := by
  unfold wpE
  exact k
theorem e_slc0 {lo hi : IO}  (k : wpE C false a s c (fun x _ s1 c1 => wpO C lo s1 c1 (fun l s2 c2 => wpO C hi s2 c2 (fun h s3 c3 => slcW c3 x l h fun d o => Q d o s3 c3) E) E) E) : wpE C false (.slc a lo hi) s c Q E := by
  unfold wpE
  exact k
theorem e_slc1 {lo hi : IO}  (k : wpE C false a s c (fun x _ s1 c1 => wpO C lo s1 c1 (fun l s2 c2 => wpO C hi s2 c2 (fun h s3 c3 => slcW c3 x l h fun d o => QT Q d s3 c3) E) E) E) : wpE C true (.slc a lo hi) s c Q E := by
  unfold wpE
  exact k
theorem e_call0  (h : C.hasF f = true) (k : wpL C l s c (fun ds s1 c1 => C.fn f ds c1 (fun d o c2 => Q d o s1 c2) (fun ex c2 => E ex s1 c2)) E) : wpE C false (.call f l) s c Q E := by
  unfold wpE
  exact ⟨h, k⟩
theorem e_call1  (h : C.hasF f = true) (k : wpL C l s c (fun ds s1 c1 => C.fn f ds c1 (fun d o c2 => QT Q d s1 c2) (fun ex c2 => E ex s1 c2)) E) : wpE C true (.call f l) s c Q E := by
  unfold wpE
  exact ⟨h, k⟩
theorem e_kcall0 {ks : List Nat} (h : C.hasF f = true) (h2 : C.hasK f n ks = true) (k : wpL C l s c (fun ds s1 c1 => wpL C kl s1 c1 (fun es s2 c2 => ds.length = n ∧ es.length = ks.length ∧ C.fn f (ds ++ arr ks es) c2 (fun d o c3 => Q d o s2 c3) (fun ex c3 => E ex s2 c3)) E) E) : wpE C false (.kcall f n l ks kl) s c Q E := by
  unfold wpE
  exact ⟨h, h2, k⟩
theorem e_kcall1 {ks : List Nat} (h : C.hasF f = true) (h2 : C.hasK f n ks = true) (k : wpL C l s c (fun ds s1 c1 => wpL C kl s1 c1 (fun es s2 c2 => ds.length = n ∧ es.length = ks.length ∧ C.fn f (ds ++ arr ks es) c2 (fun d o c3 => QT Q d s2 c3) (fun ex c3 => E ex s2 c3)) E) E) : wpE C true (.kcall f n l ks kl) s c Q E := by
  unfold wpE
  exact ⟨h, h2, k⟩
theorem e_prim0 {p : Prim} (h : C.hasP p = true) (k : wpL C l s c (fun ds s1 c1 => primW p c1 ds fun d o => Q d o s1 c1) E) : wpE C false (.prim p l) s c Q E := by
  unfold wpE
  exact ⟨h, k⟩
theorem e_prim1 {p : Prim} (h : C.hasP p = true) (k : wpL C l s c (fun ds s1 c1 => primW p c1 ds fun d o => QT Q d s1 c1) E) : wpE C true (.prim p l) s c Q E := by
  unfold wpE
  exact ⟨h, k⟩
theorem e_isi0 {T : String} (k : wpE C false a s c (fun x _ s1 c1 => IsiK c1 x T fun r => Q (.bl r) false s1 c1) E) : wpE C false (.isi a T) s c Q E := by
  unfold wpE
  exact k
theorem e_isi1 {T : String} (k : wpE C false a s c (fun x _ s1 c1 => IsiK c1 x T fun r => QT Q (.bl r) s1 c1) E) : wpE C true (.isi a T) s c Q E := by
  unfold wpE
  exact k
theorem e_meth0 {m : Mt} (k : wpE C false a s c (fun x _ s1 c1 => recvOk m x ∧ wpL C l s1 c1 (fun ds s2 c2 => methW m c2 x ds fun d o => Q d o s2 c2) E) E) : wpE C false (.meth m a l) s c Q E := by
  unfold wpE
  exact k
theorem e_meth1 {m : Mt} (k : wpE C false a s c (fun x _ s1 c1 => recvOk m x ∧ wpL C l s1 c1 (fun ds s2 c2 => methW m c2 x ds fun d o => QT Q d s2 c2) E) E) : wpE C true (.meth m a l) s c Q E := by
  unfold wpE
  exact k
theorem e_methv0 {m : Mt} (h : slotL c (s[i]?)) (k : wpL C l s c (fun ds s1 c1 => slotW s1 c1 i fun xs g => mutW m c1 xs ds fun r ys => Q r false (g ys).1 (g ys).2) E) : wpE C false (.methv m i l) s c Q E := by
  unfold wpE
  exact ⟨h, k⟩
theorem e_methv1 {m : Mt} (h : slotL c (s[i]?)) (k : wpL C l s c (fun ds s1 c1 => slotW s1 c1 i fun xs g => mutW m c1 xs ds fun r ys => QT Q r (g ys).1 (g ys).2) E) : wpE C true (.methv m i l) s c Q E := by
  unfold wpE
  exact ⟨h, k⟩
def cStep (C : Ctx) (own : List Nat) (tg : Tg) (ifs : IL) (elt : IE) (x : D) (s2 : List Sl) (c2 : Cl) (k : Option D → List Sl → Cl → Prop) : Prop := match bindT tg x (wipeS s2 own) with
  | none => False
  | some s3 => wpIf C ifs s3 c2 (fun b s4 c4 => match b with
    | true => wpE C false elt s4 c4 (fun d _ s5 c5 => k (some d) s5 c5) EK0
    | false => k none s4 c4)
theorem c_step {own : List Nat} {tg : Tg} {ifs : IL} {elt : IE} {k : Option D → List Sl → Cl → Prop} {s3 : List Sl} (h : bindT tg x (wipeS s own) = some s3) (w : wpIf C ifs s3 c (fun b s4 c4 => ChK b (wpE C false elt s4 c4 (fun d _ s5 c5 => k (some d) s5 c5) EK0) (k none s4 c4))) : cStep C own tg ifs elt x s c k := by
  unfold cStep
  rw [h]
  have eq : (fun (b : Bool) s4 c4 => ChK b (wpE C false elt s4 c4 (fun d _ s5 c5 => k (some d) s5 c5) EK0) (k none s4 c4)) = (fun b s4 c4 => match b with
    | true => wpE C false elt s4 c4 (fun d _ s5 c5 => k (some d) s5 c5) EK0
    | false => k none s4 c4) := by
    funext b s4 c4
    exact propext (by cases b <;> simp [ChK])
  rw [eq] at w
  exact w
theorem e_comp0 {own : List Nat} {tg : Tg} {src : IT} {ifs : IL} (k : wpI C src s c (fun items g s1 c1 => loopC g (cStep C own tg ifs e) items [] s1 c1 fun acc s6 c6 => Q (.lst acc) true (backS s1 s6 own) c6) E) : wpE C false (.comp own tg src ifs e) s c Q E := by
  unfold wpE
  exact k
theorem e_comp1 {own : List Nat} {tg : Tg} {src : IT} {ifs : IL} (k : wpI C src s c (fun items g s1 c1 => loopC g (cStep C own tg ifs e) items [] s1 c1 fun acc s6 c6 => QT Q (.lst acc) (backS s1 s6 own) c6) E) : wpE C true (.comp own tg src ifs e) s c Q E := by
  unfold wpE
  exact k
theorem l_nil {Ql : List D → List Sl → Cl → Prop} (k : Ql [] s c) : wpL C .nil s c Ql E := by unfold wpL; exact k
theorem l_cons {Ql : List D → List Sl → Cl → Prop} (k : wpE C false e s c (fun d _ s1 c1 => wpL C l s1 c1 (fun ds s2 c2 => Ql (d :: ds) s2 c2) E) E) : wpL C (.cons e l) s c Ql E := by unfold wpL; exact k
theorem o_no {Qo : Option Int → List Sl → Cl → Prop} (k : Qo none s c) : wpO C .no s c Qo E := by unfold wpO; exact k
theorem o_so {Qo : Option Int → List Sl → Cl → Prop} (k : wpE C false e s c (fun d _ s1 c1 => IntK d fun i => Qo (some i) s1 c1) E) : wpO C (.so e) s c Qo E := by unfold wpO; exact k
theorem if_nil {Qb : Bool → List Sl → Cl → Prop} (k : Qb true s c) : wpIf C .nil s c Qb := by unfold wpIf; exact k
theorem if_one {Qb : Bool → List Sl → Cl → Prop} (k : wpE C true e s c (fun d _ s1 c1 => BlK d fun k => Qb k s1 c1) EK0) : wpIf C (.cons e .nil) s c Qb := by unfold wpIf; exact k
theorem i_val {ki : List D → (Cl → Prop) → List Sl → Cl → Prop} (k : wpE C false e s c (fun d _ s1 c1 => itemsW c1 d fun xs g => ki xs g s1 c1) E) : wpI C (.val e) s c ki E := by unfold wpI; exact k
theorem i_range1 {ki : List D → (Cl → Prop) → List Sl → Cl → Prop} (k : wpE C false a s c (fun x _ s1 c1 => IntK x fun j => inRange j ∧ ki (rangeD 0 j.toNat) (fun _ => True) s1 c1) E) : wpI C (.range1 a) s c ki E := by unfold wpI; exact k
theorem i_range2 {ki : List D → (Cl → Prop) → List Sl → Cl → Prop} (k : wpE C false a s c (fun x _ s1 c1 => wpE C false b s1 c1 (fun y _ s2 c2 => Int2K x y fun i j => inRange i ∧ inRange j ∧ ki (rangeD i (j - i).toNat) (fun _ => True) s2 c2) E) E) : wpI C (.range2 a b) s c ki E := by unfold wpI; exact k
theorem i_enum {ki : List D → (Cl → Prop) → List Sl → Cl → Prop} (k : wpE C false e s c (fun d _ s1 c1 => itemsW c1 d fun xs g => ki (enumD 0 xs) g s1 c1) E) : wpI C (.enum e) s c ki E := by unfold wpI; exact k
/-! statements -/
theorem ss_nil (k : nx s c) : wpSs C .nil s c ⟨nx, rt, bk, ct⟩ E := by unfold wpSs; exact k
theorem ss_cons {p : IS} {q : ISs} (k : wpS C p s c ⟨fun s1 c1 => wpSs C q s1 c1 ⟨nx, rt, bk, ct⟩ E, rt, bk, ct⟩ E) : wpSs C (.cons p q) s c ⟨nx, rt, bk, ct⟩ E := by unfold wpSs; exact k
theorem s_asg (k : wpE C false e s c (fun d o s1 c1 => nx (s1.set i (slOf d o)) c1) E) : wpS C (.asg i e) s c ⟨nx, rt, bk, ct⟩ E := by unfold wpS; exact k
theorem s_cellify (k : wpE C false e s c (fun d o s1 c1 => o = true ∧ nx (s1.set i (.sh (.cell c1.length))) (c1 ++ [d])) E) : wpS C (.cellify i e) s c ⟨nx, rt, bk, ct⟩ E := by unfold wpS; exact k
def bindK (l : TgL) (d : D) (s : List Sl) (k : List Sl → Prop) : Prop := match bindT (.tp l) d s with
  | some s2 => k s2
  | none => False
theorem bindk {tl : TgL} {k : List Sl → Prop} {s2 : List Sl} (h : bindT (.tp tl) d s = some s2) (q : k s2) : bindK tl d s k := by unfold bindK; rw [h]; exact q
theorem s_asgT {tl : TgL} (k : wpE C false e s c (fun d _ s1 c1 => bindK tl d s1 fun s2 => nx s2 c1) E) : wpS C (.asgT tl e) s c ⟨nx, rt, bk, ct⟩ E := by unfold wpS; exact k
theorem s_par {is : List Nat} (k : wpL C l s c (fun ds s1 c1 => ds.length = is.length ∧ nx (setAll s1 is ds) c1) E) : wpS C (.par is l) s c ⟨nx, rt, bk, ct⟩ E := by unfold wpS; exact k
theorem s_seti (k : wpE C false e s c (fun v _ s1 c1 => slotL c1 (s1[i]?) ∧ wpE C false a s1 c1 (fun x _ s2 c2 => slotW s2 c2 i fun xs g => setiW xs x v fun ys => nx (g ys).1 (g ys).2) E) E) : wpS C (.seti i a e) s c ⟨nx, rt, bk, ct⟩ E := by unfold wpS; exact k
theorem s_augI {j : Int} (h : s[i]? = some (.sh (.int j))) (k : wpE C false e s c (fun y _ s1 c1 => binW op c1 (.int j) y fun d o => nx (s1.set i (slOf d o)) c1) E) : wpS C (.aug i op e) s c ⟨nx, rt, bk, ct⟩ E := by unfold wpS; rw [h]; exact k
theorem s_augS {z : Str} (h : s[i]? = some (.sh (.str z))) (k : wpE C false e s c (fun y _ s1 c1 => binW .Add c1 (.str z) y fun d o => nx (s1.set i (slOf d o)) c1) E) : wpS C (.aug i .Add e) s c ⟨nx, rt, bk, ct⟩ E := by unfold wpS; rw [h]; exact ⟨rfl, k⟩
theorem s_expr (k : wpE C false e s c (fun _ _ s1 c1 => nx s1 c1) E) : wpS C (.expr e) s c ⟨nx, rt, bk, ct⟩ E := by unfold wpS; exact k
theorem s_ret (k : wpE C false e s c rt E) : wpS C (.ret e) s c ⟨nx, rt, bk, ct⟩ E := by unfold wpS; exact k
theorem s_retv (h : s[i]? = some (.sh d)) (k : rt d false s c) : wpS C (.retv i) s c ⟨nx, rt, bk, ct⟩ E := by unfold wpS; rw [h]; exact k
theorem s_reto (h : s[i]? = some (.ow d)) (k : rt d true (s.set i .no) c) : wpS C (.retv i) s c ⟨nx, rt, bk, ct⟩ E := by unfold wpS; rw [h]; exact k
theorem s_retN (k : rt .non false s c) : wpS C .retN s c ⟨nx, rt, bk, ct⟩ E := by unfold wpS; exact k
theorem s_pass (k : nx s c) : wpS C .pass s c ⟨nx, rt, bk, ct⟩ E := by unfold wpS; exact k
theorem s_brk (k : bk s c) : wpS C .brk s c ⟨nx, rt, bk, ct⟩ E := by unfold wpS; exact k
theorem s_cont (k : ct s c) : wpS C .cont s c ⟨nx, rt, bk, ct⟩ E := by unfold wpS; exact k
theorem s_ifs {p q : ISs} (k : wpE C true e s c (fun d _ s1 c1 => IfK d (wpSs C p s1 c1 ⟨nx, rt, bk, ct⟩ E) (wpSs C q s1 c1 ⟨nx, rt, bk, ct⟩ E)) E) : wpS C (.ifs e p q) s c ⟨nx, rt, bk, ct⟩ E := by
  unfold wpS
  have eq : (fun (d : D) (_ : Bool) s1 c1 => IfK d (wpSs C p s1 c1 ⟨nx, rt, bk, ct⟩ E) (wpSs C q s1 c1 ⟨nx, rt, bk, ct⟩ E)) = (fun d _ s1 c1 => ∃ k, d = .bl k ∧ (match k with
      | true => wpSs C p s1 c1 ⟨nx, rt, bk, ct⟩ E
      | false => wpSs C q s1 c1 ⟨nx, rt, bk, ct⟩ E)) := by
    funext d o s1 c1
    refine propext ⟨fun ⟨k, h1, h2, h3⟩ => ⟨k, h1, ?_⟩, fun ⟨k, h1, h2⟩ => ⟨k, h1, fun h => ?_, fun h => ?_⟩⟩
    · cases k <;> first | exact h2 rfl | exact h3 rfl
    · subst h; exact h2
    · subst h; exact h2
  rw [eq] at k
  exact k
def fStep (C : Ctx) (t : Tg) (b : ISs) (nx0 : List Sl → Cl → Prop) (rt : QK) (E : EK) (x : D) (s2 : List Sl) (c2 : Cl) (nxt : List Sl → Cl → Prop) : Prop := match bindT t x s2 with
  | none => False
  | some s3 => wpSs C b s3 c2 { nx := nxt, ct := nxt, bk := nx0, rt := rt } E
theorem f_step {tg : Tg} {q : ISs} {nx0 nxt : List Sl → Cl → Prop} {s3 : List Sl} (h : bindT tg x s = some s3) (w : wpSs C q s3 c ⟨nxt, rt, nx0, nxt⟩ E) : fStep C tg q nx0 rt E x s c nxt := by
  unfold fStep
  rw [h]
  exact w
theorem s_for {tg : Tg} {src : IT} {q : ISs} (k : wpI C src s c (fun items g s1 c1 => loopF g (fStep C tg q nx rt E) items s1 c1 nx) E) : wpS C (.for_ tg src q) s c ⟨nx, rt, bk, ct⟩ E := by
  unfold wpS
  exact k
def wStep (C : Ctx) (e : IE) (b : ISs) (nx0 : List Sl → Cl → Prop) (rt : QK) (E : EK) (s1 : List Sl) (c1 : Cl) (nxt : List Sl → Cl → Prop) : Prop := wpE C true e s1 c1 (fun d _ s2 c2 => ∃ k, d = .bl k ∧ (match k with
      | true => wpSs C b s2 c2 { nx := nxt, ct := nxt, bk := nx0, rt := rt } E
      | false => nx0 s2 c2)) E
theorem w_step {q : ISs} {nx0 nxt : List Sl → Cl → Prop} (k : wpE C true e s c (fun d _ s2 c2 => IfK d (wpSs C q s2 c2 ⟨nxt, rt, nx0, nxt⟩ E) (nx0 s2 c2)) E) : wStep C e q nx0 rt E s c nxt := by
  unfold wStep
  have eq : (fun (d : D) (_ : Bool) s1 c1 => IfK d (wpSs C q s1 c1 ⟨nxt, rt, nx0, nxt⟩ E) (nx0 s1 c1)) = (fun d _ s2 c2 => ∃ k, d = .bl k ∧ (match k with
      | true => wpSs C q s2 c2 { nx := nxt, ct := nxt, bk := nx0, rt := rt } E
      | false => nx0 s2 c2)) := by
    funext d o s1 c1
    refine propext ⟨fun ⟨k, h1, h2, h3⟩ => ⟨k, h1, ?_⟩, fun ⟨k, h1, h2⟩ => ⟨k, h1, fun h => ?_, fun h => ?_⟩⟩
    · cases k <;> first | exact h2 rfl | exact h3 rfl
    · subst h; exact h2
    · subst h; exact h2
  rw [eq] at k
  exact k
theorem s_while {q : ISs} (k : ∃ n, loopW (wStep C e q nx rt E) n s c) : wpS C (.while_ e q) s c ⟨nx, rt, bk, ct⟩ E := by
  unfold wpS
  exact k
end
/-! loops -/
section
variable {g : Cl → Prop}
theorem loopC_of {body : D → List Sl → Cl → (Option D → List Sl → Cl → Prop) → Prop} {k : List D → List Sl → Cl → Prop} (I : List D → List D → List Sl → Cl → Prop)
    (step : ∀ x xs acc s c, I (x :: xs) acc s c → g c ∧ ∀ K : Option D → List Sl → Cl → Prop, (∀ d s1 c1, acc.length < sizeLine ∧ I xs (acc ++ [d]) s1 c1 → K (some d) s1 c1) → (∀ s1 c1, I xs acc s1 c1 → K none s1 c1) → body x s c K)
    (fin : ∀ acc s c, I [] acc s c → g c ∧ k acc s c) : ∀ xs acc s c, I xs acc s c → loopC g body xs acc s c k := by
  intro xs
  induction xs with
  | nil => intro acc s c h; unfold loopC; exact fin acc s c h
  | cons x xs ih =>
    intro acc s c h
    unfold loopC
    obtain ⟨h1, h2⟩ := step x xs acc s c h
    exact ⟨h1, h2 _ (fun d s1 c1 q => ⟨q.1, ih _ _ _ q.2⟩) fun s1 c1 q => ih _ _ _ q⟩
theorem loopF_of {body : D → List Sl → Cl → (List Sl → Cl → Prop) → Prop} {k : List Sl → Cl → Prop} (I : List D → List Sl → Cl → Prop)
    (step : ∀ x xs s c, I (x :: xs) s c → g c ∧ ∀ K : List Sl → Cl → Prop, (∀ s1 c1, I xs s1 c1 → K s1 c1) → body x s c K)
    (fin : ∀ s c, I [] s c → g c ∧ k s c) : ∀ xs s c, I xs s c → loopF g body xs s c k := by
  intro xs
  induction xs with
  | nil => intro s c h; unfold loopF; exact fin s c h
  | cons x xs ih =>
    intro s c h
    unfold loopF
    obtain ⟨h1, h2⟩ := step x xs s c h
    exact ⟨h1, h2 _ fun s1 c1 q => ih _ _ q⟩
theorem loopW_of {step : List Sl → Cl → (List Sl → Cl → Prop) → Prop} (I : Nat → List Sl → Cl → Prop) (h : ∀ m s c, I m s c → ∀ K : List Sl → Cl → Prop, (∀ m' s1 c1, m' < m → I m' s1 c1 → K s1 c1) → step s c K) :
    ∀ n m s c, I m s c → m < n → loopW step n s c := by
  intro n
  induction n with
  | zero => intro m s c _ q; omega
  | succ n ih =>
    intro m s c i q
    unfold loopW
    exact h m s c i _ fun m' s1 c1 z i' => ih m' s1 c1 i' (by omega)
end
/-! primitives -/
section
variable {c : Cl} {Q : Q1} {i j : Int} {a b : Str} {xs ys : List D} {kb : Bool → Prop} {x y : D}
theorem p_addI (k : Q (.int (i + j)) false) : binW .Add c (.int i) (.int j) Q := k
theorem p_addS (h : a.length + b.length ≤ sizeLine) (k : Q (.str (a ++ b)) false) : binW .Add c (.str a) (.str b) Q := ⟨h, k⟩
theorem p_addT (h : xs.length + ys.length ≤ sizeLine) (k : Q (.tup (xs ++ ys)) false) : binW .Add c (.tup xs) (.tup ys) Q := ⟨h, k⟩
theorem p_addL (h : xs.length + ys.length ≤ sizeLine) (k : Q (.lst (xs ++ ys)) true) : binW .Add c (.lst xs) (.lst ys) Q := ⟨xs, ys, rfl, rfl, h, k⟩
theorem p_sub (k : Q (.int (i - j)) false) : binW .Sub c (.int i) (.int j) Q := k
theorem p_mul (h : CMul i j ∨ CMulW i j) (k : Q (.int (i * j)) false) : binW .Mult c (.int i) (.int j) Q := ⟨h, k⟩
theorem p_mulS (h : a.length * j.toNat ≤ sizeLine) (h2 : j.natAbs < 2 ^ 62) (k : Q (.str (repS a j.toNat)) false) : binW .Mult c (.str a) (.int j) Q := ⟨h, h2, k⟩
theorem p_fdiv (h : CDivN i j ∨ CDivW i j) (k : Q (.int (i.fdiv j)) false) : binW .FloorDiv c (.int i) (.int j) Q := ⟨h, k⟩
theorem p_mod (h : j ≠ 0) (k : Q (.int (i.fmod j)) false) : binW .Mod c (.int i) (.int j) Q := ⟨h, k⟩
theorem p_pow (h : CPow i j) (k : Q (.int (i ^ j.toNat)) false) : binW .Pow c (.int i) (.int j) Q := ⟨h, k⟩
theorem p_neg (k : Q (.int (-i)) false) : unW .USub (.int i) Q := k
theorem p_ltI (k : kb (decide (i < j))) : cmpW .Lt c (.int i) (.int j) kb := k
theorem p_leI (k : kb (decide (i ≤ j))) : cmpW .LtE c (.int i) (.int j) kb := k
theorem p_gtI (k : kb (decide (j < i))) : cmpW .Gt c (.int i) (.int j) kb := k
theorem p_geI (k : kb (decide (j ≤ i))) : cmpW .GtE c (.int i) (.int j) kb := k
theorem p_eqI (k : kb (decide (i = j))) : cmpW .Eq c (.int i) (.int j) kb := by
  refine ⟨.int i, .int j, rfl, rfl, rfl, rfl, ?_⟩
  have e : PyData.eqv (.int i) (.int j) = decide (i = j) := by
    show (i == j) = _
    by_cases h : i = j <;> simp [h]
  rw [e]; exact k
theorem p_neI (k : kb (decide (i ≠ j))) : cmpW .NotEq c (.int i) (.int j) kb := by
  refine ⟨.int i, .int j, rfl, rfl, rfl, rfl, ?_⟩
  have e : (!PyData.eqv (.int i) (.int j)) = decide (i ≠ j) := by
    show (!(i == j)) = _
    by_cases h : i = j <;> simp [h]
  rw [e]; exact k
theorem p_ltS (k : kb (decide (a.cps.toList < b.cps.toList))) : cmpW .Lt c (.str a) (.str b) kb := k
theorem p_leS (k : kb (!decide (b.cps.toList < a.cps.toList))) : cmpW .LtE c (.str a) (.str b) kb := k
theorem p_inC {ch : Nat} (k : kb (decide (ch ∈ b.cps.toList))) : cmpW .In c (.str ⟨#[ch]⟩) (.str b) kb := .inl ⟨ch, rfl, k⟩
theorem p_niC {ch : Nat} (k : kb (!decide (ch ∈ b.cps.toList))) : cmpW .NotIn c (.str ⟨#[ch]⟩) (.str b) kb := .inl ⟨ch, rfl, k⟩
theorem p_isN (k : kb (isNon x)) : cmpW .Is c x .non kb := k
theorem p_isNN (k : kb (!isNon x)) : cmpW .IsNot c x .non kb := k
theorem atI_n {α : Type} (xs : List α) (n : Nat) : atI xs (n : Int) = xs[n]? := by
  unfold atI ixN
  by_cases h : n < xs.length
  · simp [h]
  · simp [h]
theorem p_idxS {ch : Nat} (h : a.length ≤ sizeLine) (h2 : atI a.cps.toList i = some ch) (k : Q (.str ⟨#[ch]⟩) false) : idxW c (.str a) (.int i) Q := ⟨h, ch, h2, k⟩
theorem p_idx {v : D} (h : asS c x = some xs) (h2 : atI xs i = some v) (k : Q v false) : idxW c x (.int i) Q := by
  cases x with
  | str z => cases h
  | _ => exact ⟨xs, v, h, h2, k⟩
theorem p_len {n : Nat} (h : lenD c x = some n) (k : Q (.int (n : Nat)) false) : primW .len c [x] Q := ⟨n, h, k⟩
theorem p_abs (k : Q (.int (if i < 0 then -i else i)) false) : primW .abs c [.int i] Q := k
theorem p_intI (k : Q (.int i) false) : primW .int c [.int i] Q := k
theorem p_intB {p : Bool} (k : Q (.int (if p then 1 else 0)) false) : primW .int c [.bl p] Q := k
theorem p_boolI (k : Q (.bl (i != 0)) false) : primW .bool c [.int i] Q := k
theorem p_boolB {p : Bool} (k : Q (.bl p) false) : primW .bool c [.bl p] Q := k
theorem p_min (k : Q (.int (if j < i then j else i)) false) : primW .min c [.int i, .int j] Q := k
theorem p_max (k : Q (.int (if j > i then j else i)) false) : primW .max c [.int i, .int j] Q := k
theorem p_all {bs : List Bool} (h : asL c x = some (bs.map D.bl)) (k : Q (.bl (bs.all id)) false) : primW .all c [x] Q := ⟨_, bs, h, rfl, k⟩
theorem p_any {bs : List Bool} (h : asL c x = some (bs.map D.bl)) (k : Q (.bl (bs.any id)) false) : primW .any c [x] Q := ⟨_, bs, h, rfl, k⟩
theorem p_slcS {l h : Option Int} (h0 : a.length ≤ sizeLine) (k : Q (.str (cutS a l h)) false) : slcW c (.str a) l h Q := ⟨h0, k⟩
theorem p_slcT {l h : Option Int} (k : Q (.tup (cutD xs l h)) false) : slcW c (.tup xs) l h Q := k
theorem p_slcL {l h : Option Int} (k : Q (.lst (cutD xs l h)) true) : slcW c (.lst xs) l h Q := ⟨xs, .inl rfl, k⟩
theorem p_slcR {l h : Option Int} (k : Q (.lst (cutD xs l h)) true) : slcW c (.scr xs) l h Q := ⟨xs, .inr rfl, k⟩
theorem p_upper (h : a.length ≤ 5592405) (k : Q (.str (Txt.upper a)) false) : methW .upper c (.str a) [] Q := ⟨h, k⟩
theorem p_join {ys : List Str} (h : asS c x = some (ys.map D.str)) (h2 : (ys.map (·.length)).sum + ys.length * a.length ≤ 16777216) (k : Q (.str (Txt.join a ys)) false) : methW .join c (.str a) [x] Q := ⟨_, ys, h, rfl, h2, k⟩
theorem p_slotC {s : List Sl} {i n : Nat} {kk : List D → (List D → List Sl × Cl) → Prop} (h : s[i]? = some (.sh (.cell n))) (h2 : c[n]? = some (.lst xs)) (k : kk xs fun ys => (s, c.set n (.lst ys))) : slotW s c i kk := by
  unfold slotW; rw [h]; exact ⟨xs, h2, k⟩
theorem p_slotO {s : List Sl} {i : Nat} {kk : List D → (List D → List Sl × Cl) → Prop} (h : s[i]? = some (.ow (.lst xs))) (k : kk xs fun ys => (s.set i (.ow (.lst ys)), c)) : slotW s c i kk := by
  unfold slotW; rw [h]; exact k
theorem p_slC {s : List Sl} {i n : Nat} (h : s[i]? = some (.sh (.cell n))) (h2 : c[n]? = some (.lst xs)) : slotL c (s[i]?) := by rw [h]; exact ⟨xs, h2⟩
theorem p_slO {s : List Sl} {i : Nat} (h : s[i]? = some (.ow (.lst xs))) : slotL c (s[i]?) := by rw [h]; trivial
theorem p_set {v : D} {Ql : List D → Prop} {n : Nat} (h : ixN xs.length i = some n) (k : Ql (xs.set n v)) : setiW xs (.int i) v Ql := ⟨n, h, k⟩
theorem p_append {Qm : D → List D → Prop} (h : xs.length < sizeLine) (k : Qm .non (xs ++ [x])) : mutW .append c xs [x] Qm := ⟨h, k⟩
theorem p_itL (k : List D → (Cl → Prop) → Prop) (h : k xs (fun _ => True)) : itemsW c (.lst xs) k := h
theorem p_itT (k : List D → (Cl → Prop) → Prop) (h : k xs (fun _ => True)) : itemsW c (.tup xs) k := h
theorem p_itR (k : List D → (Cl → Prop) → Prop) (h : k xs (fun _ => True)) : itemsW c (.scr xs) k := h
theorem p_itS (k : List D → (Cl → Prop) → Prop) (h : k (signs a) (fun _ => True)) : itemsW c (.str a) k := h
end
end Vm

namespace Vm.K02
open PySem PySem.Spec L2 Vm
open PyProof.Rows hiding St
/-! ### the text, its terms in the small language (printed by a program of this claim) -/
def top (i : Nat) : Stmt := PySem.Challenge.pw_addalong_k02_names.main.body.getD i (.Pass ⟨0, 0, 0, 0⟩)
def fnNames : List Str := ["is_name", "_law_feed", "_law_take", "_law_signs", "_law_name", "_law_due", "law"]
def glNames : List Str := ["LETTERS", "DIGITS", "MOST_NAME"]
def psNames : List (List Str) := [["value"], ["_law_script", "_law_k"], ["_law_feed_here", "_law_many"], [], ["_law_feed_here"], ["_law_one"], ["_law_script"]]
def nm : Nm := ⟨fun i => (fnNames[i]?).getD "", fun i => (glNames[i]?).getD "", fun i => (psNames[i]?).getD []⟩
def glVals : List D := [.str "abcdefghijklmnopqrstuvwxyz", .str "0123456789", .int 8]
abbrev st0 : Stmt := top 4
/-- is_name: 0 value, 1 sign_here -/
def N0 : List Str := ["value", "sign_here"]
def ir0 : ISs := (.cons (.ifs (.bool false (.cons (.not (.isi (.var 0) "str")) (.cons (.not (.chain .LtE .LtE (.con (.int 1)) (.prim .len (.cons (.var 0) .nil)) (.glob 2))) .nil))) (.cons (.ret (.con (.bl false)))
  .nil) .nil)
  (.cons (.ret (.bool true (.cons (.cmp .In (.idx (.var 0) (.con (.int 0))) (.glob 0)) (.cons (.prim .all (.cons (.comp [1] (.nm 1) (.val (.var 0)) .nil (.bool false (.cons (.cmp .In (.var 1) (.glob 0)) (.cons (.cmp .In (.var 1) (.glob 1)) .nil)))) .nil)) .nil))))
  .nil))
theorem ck0 : ckSs N0 nm (defScope st0) ir0 (defBody st0) = true := by decide +kernel
theorem sc0 : FnScope N0 ["value"] (defScope st0) := ⟨rfl, rfl, rfl, by decide +kernel, by decide +kernel, by decide +kernel, by decide +kernel⟩
abbrev st1 : Stmt := top 6
/-- _law_feed: 0 _law_script, 1 _law_k, 2 _law_cell, 3 _law_seed -/
def N1 : List Str := ["_law_script", "_law_k", "_law_cell", "_law_seed"]
def ir1 : ISs := (.cons (.asg 2 (.bin .Add (.bin .Mult (.con (.int 7411)) (.var 1)) (.con (.int 47))))
  (.cons (.ifs (.cmp .Lt (.var 1) (.prim .len (.cons (.var 0) .nil))) (.cons (.asg 2 (.prim .abs (.cons (.idx (.var 0) (.var 1)) .nil)))
  .nil) (.cons (.ifs (.cmp .Gt (.prim .len (.cons (.var 0) .nil)) (.con (.int 0))) (.cons (.asg 2 (.bin .Add (.var 2) (.bin .Mult (.bin .Mod (.prim .abs (.cons (.idx (.var 0) (.bin .Mod (.var 1) (.prim .len (.cons (.var 0) .nil)))) .nil)) (.con (.int 2147483629))) (.con (.int 40009)))))
  .nil) .nil)
  .nil))
  (.cons (.asg 3 (.bin .Add (.bin .Mod (.bin .Add (.bin .Mult (.bin .Mod (.var 2) (.con (.int 2147483629))) (.con (.int 48271))) (.bin .Mult (.con (.int 30323)) (.var 1))) (.con (.int 2147483629))) (.con (.int 1))))
  (.cons (.ret (.lst (.cons (.bin .Mult (.var 2) (.prim .int (.cons (.cmp .GtE (.var 2) (.bin .Pow (.con (.int 10)) (.con (.int 18)))) .nil))) (.cons (.var 3) (.cons (.con (.int 0)) .nil)))))
  .nil))))
theorem ck1 : ckSs N1 nm (defScope st1) ir1 (defBody st1) = true := by decide +kernel
theorem sc1 : FnScope N1 ["_law_script", "_law_k"] (defScope st1) := ⟨rfl, rfl, rfl, by decide +kernel, by decide +kernel, by decide +kernel, by decide +kernel⟩
abbrev st2 : Stmt := top 7
/-- _law_take: 0 _law_feed_here, 1 _law_many, 2 _law_digit, 3 _law_mix -/
def N2 : List Str := ["_law_feed_here", "_law_many", "_law_digit", "_law_mix"]
def ir2 : ISs := (.cons (.ifs (.cmp .Gt (.idx (.var 0) (.con (.int 0))) (.con (.int 0))) (.cons (.asg 2 (.bin .Mod (.idx (.var 0) (.con (.int 0))) (.var 1)))
  (.cons (.seti 0 (.con (.int 0)) (.bin .FloorDiv (.idx (.var 0) (.con (.int 0))) (.var 1)))
  (.cons (.retv 2)
  .nil))) .nil)
  (.cons (.seti 0 (.con (.int 2)) (.bin .Add (.idx (.var 0) (.con (.int 2))) (.con (.int 1))))
  (.cons (.asg 3 (.bin .Mod (.bin .Mult (.bin .Add (.idx (.var 0) (.con (.int 1))) (.bin .Mult (.con (.int 104729)) (.idx (.var 0) (.con (.int 2))))) (.con (.int 69623))) (.con (.int 2147483647))))
  (.cons (.seti 0 (.con (.int 1)) (.bin .Add (.bin .Mod (.bin .Add (.bin .Mult (.var 3) (.con (.int 48271))) (.con (.int 30103))) (.con (.int 2147483629))) (.con (.int 1))))
  (.cons (.ret (.bin .Mod (.bin .FloorDiv (.bin .Add (.bin .Mult (.var 3) (.con (.int 2147483647))) (.idx (.var 0) (.con (.int 1)))) (.con (.int 8191))) (.var 1)))
  .nil)))))
theorem ck2 : ckSs N2 nm (defScope st2) ir2 (defBody st2) = true := by decide +kernel
theorem sc2 : FnScope N2 ["_law_feed_here", "_law_many"] (defScope st2) := ⟨rfl, rfl, rfl, by decide +kernel, by decide +kernel, by decide +kernel, by decide +kernel⟩
abbrev st3 : Stmt := top 8
/-- _law_signs: 0 _law_found -/
def N3 : List Str := ["_law_found"]
def ir3 : ISs := (.cons (.asg 0 (.con (.str " !\"#$&'()*+,-./0123456789:;<=>?@ABCDEFGHIJKLMNOPQRSTUVWXYZ[\\]^_`")))
  (.cons (.ret (.bin .Add (.var 0) (.con (.str "abcdefghijklmnopqrstuvwxyz{|}~"))))
  .nil))
theorem ck3 : ckSs N3 nm (defScope st3) ir3 (defBody st3) = true := by decide +kernel
theorem sc3 : FnScope N3 [] (defScope st3) := ⟨rfl, rfl, rfl, by decide +kernel, by decide +kernel, by decide +kernel, by decide +kernel⟩
abbrev st4 : Stmt := top 9
/-- _law_name: 0 _law_feed_here, 1 _law_marks, 2 _law_many, 3 _law_at -/
def N4 : List Str := ["_law_feed_here", "_law_marks", "_law_many", "_law_at"]
def ir4 : ISs := (.cons (.asg 1 (.con (.str "abcdefghijklmnopqrstuvwxyz0123456789")))
  (.cons (.asg 2 (.bin .Add (.con (.int 1)) (.call 2 (.cons (.var 0) (.cons (.con (.int 8)) .nil)))))
  (.cons (.ret (.meth .join (.con (.str "")) (.cons (.comp [3] (.nm 3) (.range1 (.var 2)) .nil (.idx (.var 1) (.call 2 (.cons (.var 0) (.cons (.idx (.lst (.cons (.con (.int 26)) (.cons (.con (.int 36)) .nil))) (.prim .int (.cons (.cmp .Gt (.var 3) (.con (.int 0))) .nil))) .nil))))) .nil)))
  .nil)))
theorem ck4 : ckSs N4 nm (defScope st4) ir4 (defBody st4) = true := by decide +kernel
theorem sc4 : FnScope N4 ["_law_feed_here"] (defScope st4) := ⟨rfl, rfl, rfl, by decide +kernel, by decide +kernel, by decide +kernel, by decide +kernel⟩
abbrev st5 : Stmt := top 10
/-- _law_due: 0 _law_one, 1 _law_at, 2 _law_mark, 3 _law_is_letter -/
def N5 : List Str := ["_law_one", "_law_at", "_law_mark", "_law_is_letter"]
def ir5 : ISs := (.cons (.ifs (.bool false (.cons (.not (.isi (.var 0) "str")) (.cons (.cmp .Lt (.prim .len (.cons (.var 0) .nil)) (.con (.int 1))) (.cons (.cmp .Gt (.prim .len (.cons (.var 0) .nil)) (.con (.int 8))) .nil)))) (.cons (.ret (.con (.bl false)))
  .nil) .nil)
  (.cons (.for_ (.tp (.cons (.nm 1) (.cons (.nm 2) .nil))) (.enum (.var 0)) (.cons (.asg 3 (.chain .LtE .LtE (.con (.str "a")) (.var 2) (.con (.str "z"))))
  (.cons (.ifs (.bool true (.cons (.not (.var 3)) (.cons (.bool false (.cons (.cmp .Eq (.var 1) (.con (.int 0))) (.cons (.not (.chain .LtE .LtE (.con (.str "0")) (.var 2) (.con (.str "9")))) .nil))) .nil))) (.cons (.ret (.con (.bl false)))
  .nil) .nil)
  .nil)))
  (.cons (.ret (.con (.bl true)))
  .nil)))
theorem ck5 : ckSs N5 nm (defScope st5) ir5 (defBody st5) = true := by decide +kernel
theorem sc5 : FnScope N5 ["_law_one"] (defScope st5) := ⟨rfl, rfl, rfl, by decide +kernel, by decide +kernel, by decide +kernel, by decide +kernel⟩
abbrev st6 : Stmt := top 11
/-- law: 0 _law_script, 1 _law_marks, 2 _law_k, 3 _law_feed_here, 4 _law_name_here, 5 _law_mark, 6 _law_at, 7 _law_some, 8 _law_one -/
def N6 : List Str := ["_law_script", "_law_marks", "_law_k", "_law_feed_here", "_law_name_here", "_law_mark", "_law_at", "_law_some", "_law_one"]
def ir6 : ISs := (.cons (.asg 1 (.call 3 .nil))
  (.cons (.for_ (.nm 2) (.range1 (.prim .max (.cons (.con (.int 1)) (.cons (.prim .min (.cons (.con (.int 8)) (.cons (.prim .len (.cons (.var 0) .nil)) .nil))) .nil)))) (.cons (.cellify 3 (.call 1 (.cons (.var 0) (.cons (.var 2) .nil))))
  (.cons (.par [4, 5] (.cons (.call 4 (.cons (.var 3) .nil)) (.cons (.idx (.var 1) (.call 2 (.cons (.var 3) (.cons (.prim .len (.cons (.var 1) .nil)) .nil)))) .nil)))
  (.cons (.asg 6 (.call 2 (.cons (.var 3) (.cons (.bin .Add (.prim .len (.cons (.var 4) .nil)) (.con (.int 1))) .nil))))
  (.cons (.asg 7 (.lst (.cons (.var 4) (.cons (.bin .Add (.bin .Add (.slc (.var 4) .no (.so (.var 6))) (.var 5)) (.slc (.var 4) (.so (.var 6)) .no)) (.cons (.bin .Add (.slc (.var 4) .no (.so (.var 6))) (.slc (.var 4) (.so (.bin .Add (.var 6) (.con (.int 1)))) .no)) (.cons (.bin .Add (.bin .Add (.slc (.var 4) .no (.so (.var 6))) (.var 5)) (.slc (.var 4) (.so (.bin .Add (.var 6) (.con (.int 1)))) .no)) .nil))))))
  (.cons (.asg 7 (.bin .Add (.var 7) (.lst (.cons (.bin .Add (.var 4) (.con (.str "\n"))) (.cons (.bin .Add (.con (.str " ")) (.var 4)) (.cons (.bin .Mult (.var 4) (.con (.int 2))) (.cons (.con (.str "")) (.cons (.meth .upper (.var 4) .nil) (.cons (.call 2 (.cons (.var 3) (.cons (.con (.int 99)) .nil))) (.cons (.con .non) (.cons (.con (.bl true)) (.cons (.con (.bl false)) .nil))))))))))))
  (.cons (.asg 7 (.bin .Add (.var 7) (.lst (.cons (.tup (.cons (.var 4) .nil)) (.cons (.tup .nil) (.cons (.tup (.cons (.var 4) (.cons (.tup (.cons (.var 5) .nil)) .nil))) (.cons (.var 4) .nil)))))))
  (.cons (.for_ (.nm 8) (.val (.var 7)) (.cons (.ifs (.cmp .NotEq (.prim .repr (.cons (.call 0 (.cons (.var 8) .nil)) .nil)) (.prim .repr (.cons (.call 5 (.cons (.var 8) .nil)) .nil))) (.cons (.ret (.con (.bl false)))
  .nil) .nil)
  .nil))
  .nil))))))))
  (.cons (.ret (.bool true (.cons (.kcall 0 0 .nil [0] (.cons (.con (.str "abcdefgh")) .nil)) (.cons (.not (.call 0 (.cons (.con (.str "abcdefghi")) .nil))) .nil))))
  .nil)))
theorem ck6 : ckSs N6 nm (defScope st6) ir6 (defBody st6) = true := by decide +kernel
theorem sc6 : FnScope N6 ["_law_script"] (defScope st6) := ⟨rfl, rfl, rfl, by decide +kernel, by decide +kernel, by decide +kernel, by decide +kernel⟩
end Vm.K02

namespace Vm.K02
open PySem PySem.Spec L2
def feedD (a b t : Int) : D := .lst [.int a, .int b, .int t]
def spTake : List D → Cl → (D → Bool → Cl → Prop) → (Ex → Cl → Prop) → Prop := fun ds c Q _ => ∃ n a b t m, ds = [.cell n, .int m] ∧ 0 < m ∧ m < 2 ^ 20 ∧ c[n]? = some (feedD a b t) ∧ ∀ r a' b' t', 0 ≤ r → r < m → Q (.int r) false (c.set n (feedD a' b' t'))
def LET : List Nat := ("abcdefghijklmnopqrstuvwxyz" : Str).cps.toList
def DIG : List Nat := ("0123456789" : Str).cps.toList
def lod (ch : Nat) : Bool := decide (ch ∈ LET) || decide (ch ∈ DIG)
def isNm (l : List Nat) : Bool := decide (1 ≤ l.length) && decide (l.length ≤ 8) && (match l with
  | [] => false
  | ch :: _ => decide (ch ∈ LET) && l.all lod)
def isName : D → Bool
  | .str s => isNm s.cps.toList
  | _ => false
def okD : D → Prop
  | .str s => s.length ≤ sizeLine
  | .cell _ => False
  | _ => True
def spIs : List D → Cl → (D → Bool → Cl → Prop) → (Ex → Cl → Prop) → Prop := fun ds c Q _ => ∃ d, ds = [d] ∧ okD d ∧ Q (.bl (isName d)) false c
def spFeed : List D → Cl → (D → Bool → Cl → Prop) → (Ex → Cl → Prop) → Prop := fun ds c Q _ => ∃ (ns : List Int) (k : Nat), ds = [.scr (ns.map D.int), .int (k : Nat)] ∧ k < 8 ∧ ns.length ≤ 63 ∧ ∀ a b, Q (feedD a b 0) true c
def spSigns : List D → Cl → (D → Bool → Cl → Prop) → (Ex → Cl → Prop) → Prop := fun ds c Q _ => ds = [] ∧ ∀ z : Str, z.length = 94 → Q (.str z) false c
def spName : List D → Cl → (D → Bool → Cl → Prop) → (Ex → Cl → Prop) → Prop := fun ds c Q _ => ∃ n a b t, ds = [.cell n] ∧ c[n]? = some (feedD a b t) ∧ ∀ (z : Str) a' b' t', z.length ≤ 8 → Q (.str z) false (c.set n (feedD a' b' t'))
def cx (k : Nat) : Ctx := { fn := fun i => match i with
    | 0 => spIs
    | 1 => spFeed
    | 2 => spTake
    | 3 => spSigns
    | 4 => spName
    | 5 => spIs
    | _ => fun _ _ _ _ => False, hasF := fun i => decide (i < k), gl := fun i => (glVals[i]?).getD .non, hasG := fun i => decide (i < 3), hasP := fun _ => true, hasK := fun f n ks => decide (f = 0) && decide (n = 0) && decide (ks = [0]) }
theorem egl {k : Nat} {j : Nat} {d : D} (h : glVals[j]? = some d) : (cx k).gl j = d := by show (glVals[j]?).getD .non = d; rw [h]; rfl
theorem egl0 {k : Nat} {j : Nat} {d : D} {s : List Sl} {c : Cl} {Q : QK} {E : EK} (h : glVals[j]? = some d) (hj : j < 3) (q : Q d false s c) : wpE (cx k) false (.glob j) s c Q E := e_glob0 (decide_eq_true hj) (by rw [egl h]; exact q)
theorem egl1 {k : Nat} {j : Nat} {d : D} {s : List Sl} {c : Cl} {Q : QK} {E : EK} (h : glVals[j]? = some d) (hj : j < 3) (q : QT Q d s c) : wpE (cx k) true (.glob j) s c Q E := e_glob1 (decide_eq_true hj) (by rw [egl h]; exact q)
local macro_rules | `(tactic| walk_at "vm") => `(tactic| (repeat (first
  | (with_reducible refine ss_cons ?_) | (with_reducible refine ss_nil ?_) | (with_reducible refine s_asg ?_) | (with_reducible refine s_ret ?_) | ((with_reducible apply s_retv); next => rfl) | (with_reducible refine s_ifs ?_) | (with_reducible refine s_expr ?_) | (with_reducible refine s_pass ?_) | (with_reducible refine s_par ?_) | (with_reducible refine s_asgT ?_) | (with_reducible refine s_retN ?_)
  | ((with_reducible apply e_var0); next => rfl) | ((with_reducible apply e_own0); next => rfl) | (with_reducible refine p_slcS (by assumption) ?_) | (with_reducible refine e_con0 ?_) | (with_reducible refine e_bin0 ?_) | (with_reducible refine e_cmp0 ?_) | (with_reducible refine e_cmp1 ?_) | (with_reducible refine l_nil ?_) | (with_reducible refine l_cons ?_) | (with_reducible refine e_idx0 ?_) | ((with_reducible apply e_prim0); next => rfl) | ((with_reducible apply e_call0); next => rfl)
  | (with_reducible refine p_addI ?_) | (with_reducible refine p_sub ?_) | (with_reducible refine p_gtI ?_) | (with_reducible refine p_ltI ?_) | (with_reducible refine p_leI ?_) | (with_reducible refine p_geI ?_) | (with_reducible refine p_eqI ?_) | (with_reducible refine p_neI ?_) | (with_reducible refine p_abs ?_) | (with_reducible refine p_intI ?_) | (with_reducible refine p_intB ?_) | (with_reducible refine p_min ?_) | (with_reducible refine p_max ?_) | (with_reducible refine p_leS ?_)
  | (with_reducible refine e_chain0 ?_) | (with_reducible refine e_chain1 ?_) | (with_reducible refine e_bool0 ?_) | (with_reducible refine e_bool1 ?_) | (with_reducible refine b_one0 ?_) | (with_reducible refine b_one1 ?_) | (with_reducible refine b_cons0 ?_) | (with_reducible refine b_cons1 ?_) | (with_reducible refine e_not0 ?_) | (with_reducible refine e_not1 ?_) | (with_reducible refine e_isi0 ?_) | (with_reducible refine e_isi1 ?_) | (with_reducible refine notk_t ?_) | (with_reducible refine notk_f ?_) | (with_reducible refine notk_d ?_) | (with_reducible refine notk_b ?_) | (with_reducible refine intk ?_) | (with_reducible refine int2k ?_) | (with_reducible refine blk ?_) | (with_reducible refine p_inC ?_) | ((with_reducible apply egl0); (next => rfl); (next => decide)) | ((with_reducible apply egl1); (next => rfl); (next => decide))
  | (with_reducible refine bok_tt ?_) | (with_reducible refine bok_tf ?_) | (with_reducible refine bok_ff ?_) | (with_reducible refine bok_ft ?_) | (with_reducible refine ifk_t ?_) | (with_reducible refine ifk_f ?_) | (with_reducible refine qt_bl ?_) | ((with_reducible apply e_var1); next => rfl) | (with_reducible refine e_lst0 ?_) | (with_reducible refine e_tup0 ?_) | (with_reducible refine e_slc0 ?_) | (with_reducible refine o_no ?_) | (with_reducible refine o_so ?_) | (with_reducible refine e_meth0 ?_)
  | (with_reducible refine e_un0 ?_) | (with_reducible refine p_neg ?_) | (with_reducible refine s_seti ?_) | (with_reducible refine e_comp0 ?_) | (with_reducible refine s_for ?_) | (with_reducible refine i_val ?_) | (with_reducible refine i_range1 ?_) | (with_reducible refine i_range2 ?_) | (with_reducible refine i_enum ?_) | (with_reducible refine s_cellify ?_) | ((with_reducible apply e_kcall0); (next => rfl); (next => rfl)))))
theorem cset {c : Cl} {n : Nat} {x y : D} (h : c[n]? = some x) : (c.set n y)[n]? = some y := by
  rw [List.getElem?_set_self (List.getElem?_eq_some_iff.mp h).1]
theorem asC {c : Cl} {n : Nat} {xs : List D} (h : c[n]? = some (.lst xs)) : asS c (.cell n) = some xs := by
  show asL c (.cell n) = some xs
  unfold asL
  simp only [h]
theorem mulC {i j : Int} (h : -(2 ^ 64) < j ∧ j < 2 ^ 64) : CMul i j ∨ CMulW i j := .inl (.inr h)
theorem mulC' {i j : Int} (h : -(2 ^ 64) < i ∧ i < 2 ^ 64) : CMul i j ∨ CMulW i j := .inl (.inl h)
theorem wp_take : ∀ ds c Q E, spTake ds c Q E → wpDef (cx 2) 2 4 ir2 ds c Q E := by
  rintro ds c Q E ⟨n, a, b, t, m, rfl, h0, h1, hc, k⟩
  refine ⟨rfl, ?_⟩
  show wpSs _ _ [.sh (.cell n), .sh (.int m), .no, .no] c _ _
  unfold ir2
  have f1 := asC hc
  walk_at "vm"
  refine p_idx f1 rfl ?_
  walk_at "vm"
  refine ifk_d (fun ha => ?_) fun ha => ?_
  · walk_at "vm"
    refine p_idx f1 rfl ?_
    walk_at "vm"
    refine p_mod (by omega) ?_
    walk_at "vm"
    refine p_idx f1 rfl ?_
    walk_at "vm"
    refine p_fdiv (.inl ⟨by omega, by omega⟩) ?_
    refine ⟨p_slC rfl hc, ?_⟩
    walk_at "vm"
    refine p_slotC rfl hc (p_set rfl ?_)
    walk_at "vm"
    exact k _ _ _ _ (Int.fmod_nonneg_of_pos _ (by omega)) (Int.fmod_lt_of_pos _ (by omega))
  · walk_at "vm"
    refine p_idx f1 rfl ?_
    walk_at "vm"
    refine ⟨p_slC rfl hc, ?_⟩
    walk_at "vm"
    refine p_slotC rfl hc (p_set rfl ?_)
    have hc2 : (c.set n (.lst [.int a, .int b, .int (t + 1)]))[n]? = some (.lst [.int a, .int b, .int (t + 1)]) := cset hc
    show wpSs _ _ [.sh (.cell n), .sh (.int m), .no, .no] (c.set n (.lst [.int a, .int b, .int (t + 1)])) _ _
    have f2 := asC hc2
    walk_at "vm"
    refine p_idx f2 rfl ?_
    walk_at "vm"
    refine p_idx f2 rfl ?_
    refine p_mul (mulC' (by decide)) ?_
    walk_at "vm"
    refine p_mul (mulC (by decide)) ?_
    walk_at "vm"
    refine p_mod (by decide) ?_
    walk_at "vm"
    refine p_mul (mulC (by decide)) ?_
    walk_at "vm"
    refine p_mod (by decide) ?_
    walk_at "vm"
    refine ⟨p_slC rfl hc2, ?_⟩
    walk_at "vm"
    refine p_slotC rfl hc2 (p_set rfl ?_)
    generalize ((b + 104729 * (t + 1)) * 69623).fmod 2147483647 = mix
    generalize (mix * 48271 + 30103).fmod 2147483629 + 1 = sd
    have e3 : (c.set n (.lst [.int a, .int b, .int (t + 1)])).set n (.lst [.int a, .int sd, .int (t + 1)]) = c.set n (.lst [.int a, .int sd, .int (t + 1)]) := List.set_set ..
    show wpSs _ _ [.sh (.cell n), .sh (.int m), .no, .sh (.int mix)] ((c.set n (.lst [.int a, .int b, .int (t + 1)])).set n (.lst [.int a, .int sd, .int (t + 1)])) _ _
    rw [e3]
    have f3 := asC (cset (y := .lst [.int a, .int sd, .int (t + 1)]) hc)
    walk_at "vm"
    refine p_mul (mulC (by decide)) ?_
    walk_at "vm"
    refine p_idx f3 rfl ?_
    walk_at "vm"
    refine p_fdiv (.inl ⟨by decide, by decide⟩) ?_
    walk_at "vm"
    refine p_mod (by omega) ?_
    exact k _ _ _ _ (Int.fmod_nonneg_of_pos _ (by omega)) (Int.fmod_lt_of_pos _ (by omega))
end Vm.K02

namespace Vm.K02
open PySem PySem.Spec L2
local macro_rules | `(tactic| walk_at "vm") => `(tactic| (repeat (first
  | (with_reducible refine ss_cons ?_) | (with_reducible refine ss_nil ?_) | (with_reducible refine s_asg ?_) | (with_reducible refine s_ret ?_) | ((with_reducible apply s_retv); next => rfl) | (with_reducible refine s_ifs ?_) | (with_reducible refine s_expr ?_) | (with_reducible refine s_pass ?_) | (with_reducible refine s_par ?_) | (with_reducible refine s_asgT ?_) | (with_reducible refine s_retN ?_)
  | ((with_reducible apply e_var0); next => rfl) | ((with_reducible apply e_own0); next => rfl) | (with_reducible refine p_slcS (by assumption) ?_) | (with_reducible refine e_con0 ?_) | (with_reducible refine e_bin0 ?_) | (with_reducible refine e_cmp0 ?_) | (with_reducible refine e_cmp1 ?_) | (with_reducible refine l_nil ?_) | (with_reducible refine l_cons ?_) | (with_reducible refine e_idx0 ?_) | ((with_reducible apply e_prim0); next => rfl) | ((with_reducible apply e_call0); next => rfl)
  | (with_reducible refine p_addI ?_) | (with_reducible refine p_sub ?_) | (with_reducible refine p_gtI ?_) | (with_reducible refine p_ltI ?_) | (with_reducible refine p_leI ?_) | (with_reducible refine p_geI ?_) | (with_reducible refine p_eqI ?_) | (with_reducible refine p_neI ?_) | (with_reducible refine p_abs ?_) | (with_reducible refine p_intI ?_) | (with_reducible refine p_intB ?_) | (with_reducible refine p_min ?_) | (with_reducible refine p_max ?_) | (with_reducible refine p_leS ?_)
  | (with_reducible refine e_chain0 ?_) | (with_reducible refine e_chain1 ?_) | (with_reducible refine e_bool0 ?_) | (with_reducible refine e_bool1 ?_) | (with_reducible refine b_one0 ?_) | (with_reducible refine b_one1 ?_) | (with_reducible refine b_cons0 ?_) | (with_reducible refine b_cons1 ?_) | (with_reducible refine e_not0 ?_) | (with_reducible refine e_not1 ?_) | (with_reducible refine e_isi0 ?_) | (with_reducible refine e_isi1 ?_) | (with_reducible refine notk_t ?_) | (with_reducible refine notk_f ?_) | (with_reducible refine notk_d ?_) | (with_reducible refine notk_b ?_) | (with_reducible refine intk ?_) | (with_reducible refine int2k ?_) | (with_reducible refine blk ?_) | (with_reducible refine p_inC ?_) | ((with_reducible apply egl0); (next => rfl); (next => decide)) | ((with_reducible apply egl1); (next => rfl); (next => decide))
  | (with_reducible refine bok_tt ?_) | (with_reducible refine bok_tf ?_) | (with_reducible refine bok_ff ?_) | (with_reducible refine bok_ft ?_) | (with_reducible refine ifk_t ?_) | (with_reducible refine ifk_f ?_) | (with_reducible refine qt_bl ?_) | ((with_reducible apply e_var1); next => rfl) | (with_reducible refine e_lst0 ?_) | (with_reducible refine e_tup0 ?_) | (with_reducible refine e_slc0 ?_) | (with_reducible refine o_no ?_) | (with_reducible refine o_so ?_) | (with_reducible refine e_meth0 ?_)
  | (with_reducible refine e_un0 ?_) | (with_reducible refine p_neg ?_) | (with_reducible refine s_seti ?_) | (with_reducible refine e_comp0 ?_) | (with_reducible refine s_for ?_) | (with_reducible refine i_val ?_) | (with_reducible refine i_range1 ?_) | (with_reducible refine i_range2 ?_) | (with_reducible refine i_enum ?_) | (with_reducible refine s_cellify ?_) | ((with_reducible apply e_kcall0); (next => rfl); (next => rfl)))))
theorem strLen (s : Str) : s.length = s.cps.toList.length := by show s.cps.size = _; simp
theorem atI0 {α : Type} (x : α) (l : List α) : atI (x :: l) 0 = some x := by
  have h := atI_n (x :: l) 0
  exact h
theorem signs_eq (z : Str) : signs z = z.cps.toList.map fun ch => D.str ⟨#[ch]⟩ := rfl
theorem lod_all (l : List Nat) : (l.map lod).all id = l.all lod := by
  rw [List.all_map]; rfl
theorem wp_is_name : ∀ ds c Q E, spIs ds c Q E → wpDef (cx 0) 1 2 ir0 ds c Q E := by
  rintro ds c Q E ⟨d, rfl, hd, q⟩
  refine ⟨rfl, ?_⟩
  show wpSs _ _ [.sh d, .no] c _ _
  unfold ir0
  walk_at "vm"
  cases d with
  | str z =>
    refine isik (r := true) rfl (by decide) ?_
    have hz : z.length ≤ sizeLine := hd
    have hl := strLen z
    have lz : lenD c (.str z) = some z.length := by show (if z.length ≤ sizeLine then some z.length else none) = _; rw [if_pos hz]
    have bad : (z.length < 1 ∨ 8 < z.length) → Q (.bl false) false c := fun h => by
      have e : isName (.str z) = false := by
        show isNm z.cps.toList = false
        unfold isNm
        rw [← hl]
        rcases h with h | h
        · rw [decide_eq_false (show ¬ 1 ≤ z.length by omega)]; rfl
        · rw [decide_eq_false (show ¬ z.length ≤ 8 by omega), Bool.and_false]; rfl
      rw [e] at q; exact q
    walk_at "vm"
    refine p_len lz ?_
    walk_at "vm"
    refine chk_d (fun h1 => ?_) fun h1 => ?_
    · walk_at "vm"
      refine ifk_d (fun h2 => ?_) fun h2 => ?_
      · walk_at "vm"
        exact bad (.inr (by omega))
      · -- a text of one to eight signs
        walk_at "vm"
        obtain ⟨ch, l, hc⟩ : ∃ ch l, z.cps.toList = ch :: l := by
          cases e : z.cps.toList with
          | nil => rw [e] at hl; simp at hl; omega
          | cons ch l => exact ⟨ch, l, rfl⟩
        have isn : isName (.str z) = (decide (ch ∈ LET) && (ch :: l).all lod) := by
          show isNm z.cps.toList = _
          unfold isNm
          rw [← hl, decide_eq_true (show 1 ≤ z.length by omega), decide_eq_true (show z.length ≤ 8 by omega), hc]; rfl
        rw [isn] at q
        refine p_idxS hz (by rw [hc]; exact atI0 ch l) ?_
        walk_at "vm"
        refine bok_dt (fun h3 => ?_) fun h3 => ?_
        · have h3' : ch ∈ LET := h3
          rw [decide_eq_true h3', Bool.true_and, ← hc] at q
          walk_at "vm"
          refine p_itS _ ?_
          rw [signs_eq]
          refine loopC_of (fun rest acc s c' => ∃ l1 l2 x, z.cps.toList = l1 ++ l2 ∧ rest = l2.map (fun ch => D.str ⟨#[ch]⟩) ∧ acc = l1.map (fun ch => D.bl (lod ch)) ∧ s = [.sh (.str z), x] ∧ c' = c) ?_ ?_ _ _ _ _ ⟨[], z.cps.toList, .no, rfl, rfl, rfl, rfl, rfl⟩
          · rintro x xs acc s c' ⟨l1, l2, sx, e1, e2, rfl, rfl, rfl⟩
            cases l2 with
            | nil => cases e2
            | cons k l2 =>
              cases e2
              refine ⟨trivial, fun K k1 k2 => c_step rfl (if_nil (chk_b (fun _ => ?_) nofun))⟩
              show wpE _ _ _ [.sh (.str z), .sh (.str ⟨#[k]⟩)] c' _ _
              have fin : K (some (.bl (lod k))) [.sh (.str z), .sh (.str ⟨#[k]⟩)] c' := k1 _ _ _ ⟨by
                rw [List.length_map]
                have := congrArg List.length e1
                rw [List.length_append, List.length_cons, ← hl] at this
                omega, l1 ++ [k], l2, _, by rw [e1, List.append_assoc]; rfl, rfl, by rw [List.map_append]; rfl, rfl, rfl⟩
              walk_at "vm"
              refine bok_df (fun h4 => ?_) fun h4 => ?_
              · walk_at "vm"
                have e : lod k = decide (k ∈ ("0123456789" : Str).cps.toList) := by
                  unfold lod
                  rw [decide_eq_false (show ¬ k ∈ LET from h4), Bool.false_or]; rfl
                rw [e] at fin
                exact fin
              · have e : lod k = true := by
                  unfold lod
                  rw [decide_eq_true (show k ∈ LET from h4)]; rfl
                rw [e] at fin
                rw [decide_eq_true h4]
                exact fin
          · rintro acc s c' ⟨l1, l2, sx, e1, e2, rfl, rfl, rfl⟩
            have e3 : l2 = [] := by cases l2 with
              | nil => rfl
              | cons _ _ => cases e2
            subst e3
            rw [List.append_nil] at e1
            refine ⟨trivial, ?_⟩
            rw [← e1]
            walk_at "vm"
            refine p_all (bs := z.cps.toList.map lod) (by show some _ = some _; rw [List.map_map]; rfl) ?_
            rw [lod_all]
            exact q
        · have h3' : ¬ ch ∈ LET := h3
          rw [decide_eq_false h3', Bool.false_and] at q
          rw [decide_eq_false h3]
          exact q
    · walk_at "vm"
      exact bad (.inl (by omega))
  | cell n => exact hd.elim
  | non | bl _ | int _ | tup _ | lst _ | scr _ =>
    refine isik (r := false) rfl (by decide) ?_
    walk_at "vm"
    exact q
end Vm.K02

namespace Vm.K02
open PySem PySem.Spec L2
local macro_rules | `(tactic| walk_at "vm") => `(tactic| (repeat (first
  | (with_reducible refine ss_cons ?_) | (with_reducible refine ss_nil ?_) | (with_reducible refine s_asg ?_) | (with_reducible refine s_ret ?_) | ((with_reducible apply s_retv); next => rfl) | (with_reducible refine s_ifs ?_) | (with_reducible refine s_expr ?_) | (with_reducible refine s_pass ?_) | (with_reducible refine s_par ?_) | (with_reducible refine s_asgT ?_) | (with_reducible refine s_retN ?_)
  | ((with_reducible apply e_var0); next => rfl) | ((with_reducible apply e_own0); next => rfl) | (with_reducible refine p_slcS (by assumption) ?_) | (with_reducible refine e_con0 ?_) | (with_reducible refine e_bin0 ?_) | (with_reducible refine e_cmp0 ?_) | (with_reducible refine e_cmp1 ?_) | (with_reducible refine l_nil ?_) | (with_reducible refine l_cons ?_) | (with_reducible refine e_idx0 ?_) | ((with_reducible apply e_prim0); next => rfl) | ((with_reducible apply e_call0); next => rfl)
  | (with_reducible refine p_addI ?_) | (with_reducible refine p_sub ?_) | (with_reducible refine p_gtI ?_) | (with_reducible refine p_ltI ?_) | (with_reducible refine p_leI ?_) | (with_reducible refine p_geI ?_) | (with_reducible refine p_eqI ?_) | (with_reducible refine p_neI ?_) | (with_reducible refine p_abs ?_) | (with_reducible refine p_intI ?_) | (with_reducible refine p_intB ?_) | (with_reducible refine p_min ?_) | (with_reducible refine p_max ?_) | (with_reducible refine p_leS ?_)
  | (with_reducible refine e_chain0 ?_) | (with_reducible refine e_chain1 ?_) | (with_reducible refine e_bool0 ?_) | (with_reducible refine e_bool1 ?_) | (with_reducible refine b_one0 ?_) | (with_reducible refine b_one1 ?_) | (with_reducible refine b_cons0 ?_) | (with_reducible refine b_cons1 ?_) | (with_reducible refine e_not0 ?_) | (with_reducible refine e_not1 ?_) | (with_reducible refine e_isi0 ?_) | (with_reducible refine e_isi1 ?_) | (with_reducible refine notk_t ?_) | (with_reducible refine notk_f ?_) | (with_reducible refine notk_d ?_) | (with_reducible refine notk_b ?_) | (with_reducible refine intk ?_) | (with_reducible refine int2k ?_) | (with_reducible refine blk ?_) | (with_reducible refine p_inC ?_) | ((with_reducible apply egl0); (next => rfl); (next => decide)) | ((with_reducible apply egl1); (next => rfl); (next => decide))
  | (with_reducible refine bok_tt ?_) | (with_reducible refine bok_tf ?_) | (with_reducible refine bok_ff ?_) | (with_reducible refine bok_ft ?_) | (with_reducible refine ifk_t ?_) | (with_reducible refine ifk_f ?_) | (with_reducible refine qt_bl ?_) | ((with_reducible apply e_var1); next => rfl) | (with_reducible refine e_lst0 ?_) | (with_reducible refine e_tup0 ?_) | (with_reducible refine e_slc0 ?_) | (with_reducible refine o_no ?_) | (with_reducible refine o_so ?_) | (with_reducible refine e_meth0 ?_)
  | (with_reducible refine e_un0 ?_) | (with_reducible refine p_neg ?_) | (with_reducible refine s_seti ?_) | (with_reducible refine e_comp0 ?_) | (with_reducible refine s_for ?_) | (with_reducible refine i_val ?_) | (with_reducible refine i_range1 ?_) | (with_reducible refine i_range2 ?_) | (with_reducible refine i_enum ?_) | (with_reducible refine s_cellify ?_) | ((with_reducible apply e_kcall0); (next => rfl); (next => rfl)))))
theorem szk {n : Nat} (h : n ≤ 1000) : n ≤ sizeLine := by have : sizeLine = 16777216 := sizeLine_eq; omega
theorem mul01 {i : Int} {p : Bool} : CMul i (if p then 1 else 0) ∨ CMulW i (if p then 1 else 0) := mulC (by cases p <;> decide)
theorem wp_feed : ∀ ds c Q E, spFeed ds c Q E → wpDef (cx 1) 2 4 ir1 ds c Q E := by
  rintro ds c Q E ⟨ns, k, rfl, hk, hn, q⟩
  refine ⟨rfl, ?_⟩
  show wpSs _ _ [.sh (.scr (ns.map D.int)), .sh (.int (k : Nat)), .no, .no] c _ _
  have ln : lenD c (.scr (ns.map D.int)) = some ns.length := by show some (ns.map D.int).length = _; rw [List.length_map]
  have at_ : ∀ j : Nat, j < ns.length → ∃ v : Int, atI (ns.map D.int) (j : Int) = some (.int v) := fun j hj => ⟨ns[j], by rw [atI_n, List.getElem?_map, List.getElem?_eq_getElem hj]; rfl⟩
  unfold ir1
  walk_at "vm"
  refine p_mul (mulC' (by decide)) ?_
  walk_at "vm"
  refine p_len ln ?_
  walk_at "vm"
  refine ifk_d (fun h => ?_) fun h => ?_
  · obtain ⟨v, hv⟩ := at_ k (by omega)
    walk_at "vm"
    refine p_idx rfl hv ?_
    walk_at "vm"
    refine p_mod (by decide) ?_
    walk_at "vm"
    refine p_mul (mulC (by decide)) ?_
    walk_at "vm"
    refine p_mul (mulC' (by decide)) ?_
    walk_at "vm"
    refine p_mod (by decide) ?_
    walk_at "vm"
    refine p_pow ⟨by decide, by decide, by decide⟩ ?_
    walk_at "vm"
    refine p_mul mul01 ?_
    walk_at "vm"
    exact ⟨szk (by simp), q _ _⟩
  · walk_at "vm"
    refine p_len ln ?_
    walk_at "vm"
    refine ifk_d (fun h2 => ?_) fun h2 => ?_
    · walk_at "vm"
      refine p_len ln ?_
      walk_at "vm"
      refine p_mod (by omega) ?_
      have hm : ((k : Int).fmod (ns.length : Int)) = ((k % ns.length : Nat) : Int) := by
        rw [Int.fmod_eq_emod_of_nonneg _ (by omega)]; omega
      obtain ⟨v, hv⟩ := at_ (k % ns.length) (Nat.mod_lt _ (by omega))
      refine p_idx rfl (by rw [hm]; exact hv) ?_
      walk_at "vm"
      refine p_mod (by decide) ?_
      walk_at "vm"
      refine p_mul (mulC (by decide)) ?_
      walk_at "vm"
      refine p_mod (by decide) ?_
      walk_at "vm"
      refine p_mul (mulC (by decide)) ?_
      walk_at "vm"
      refine p_mul (mulC' (by decide)) ?_
      walk_at "vm"
      refine p_mod (by decide) ?_
      walk_at "vm"
      refine p_pow ⟨by decide, by decide, by decide⟩ ?_
      walk_at "vm"
      refine p_mul mul01 ?_
      walk_at "vm"
      exact ⟨szk (by simp), q _ _⟩
    · walk_at "vm"
      refine p_mod (by decide) ?_
      walk_at "vm"
      refine p_mul (mulC (by decide)) ?_
      walk_at "vm"
      refine p_mul (mulC' (by decide)) ?_
      walk_at "vm"
      refine p_mod (by decide) ?_
      walk_at "vm"
      refine p_pow ⟨by decide, by decide, by decide⟩ ?_
      walk_at "vm"
      refine p_mul mul01 ?_
      walk_at "vm"
      exact ⟨szk (by simp), q _ _⟩
theorem wp_signs : ∀ ds c Q E, spSigns ds c Q E → wpDef (cx 3) 0 1 ir3 ds c Q E := by
  rintro ds c Q E ⟨rfl, q⟩
  refine ⟨rfl, ?_⟩
  show wpSs _ _ [.no] c _ _
  unfold ir3
  walk_at "vm"
  refine p_addS (by decide +kernel) ?_
  exact q _ (by decide +kernel)
theorem one_len (ch : Nat) : (⟨#[ch]⟩ : Str).length = 1 := rfl
theorem wp_name : ∀ ds c Q E, spName ds c Q E → wpDef (cx 4) 1 4 ir4 ds c Q E := by
  rintro ds c Q E ⟨n, a, b, t, rfl, hc, q⟩
  refine ⟨rfl, ?_⟩
  show wpSs _ _ [.sh (.cell n), .no, .no, .no] c _ _
  unfold ir4
  walk_at "vm"
  refine ⟨n, a, b, t, 8, rfl, by decide, by decide, hc, fun r a b t r0 r1 => ?_⟩
  walk_at "vm"
  refine ⟨trivial, ?_⟩
  walk_at "vm"
  refine ⟨⟨by omega, by omega⟩, ?_⟩
  refine loopC_of (fun rest acc s c' => ∃ (i : Nat) (ys : List Str) (a b t : Int) (x : Sl), rest = ((List.range (1 + r).toNat).drop i).map (fun (j : Nat) => D.int (0 + (j : Int))) ∧ i ≤ (1 + r).toNat ∧ ys.length = i ∧ acc = ys.map D.str ∧ (∀ y ∈ ys, y.length = 1) ∧ s = [.sh (.cell n), .sh (.str "abcdefghijklmnopqrstuvwxyz0123456789"), .sh (.int (1 + r)), x] ∧ c' = c.set n (feedD a b t)) ?_ ?_ _ _ _ _ ⟨0, [], a, b, t, .no, rfl, Nat.zero_le _, rfl, rfl, fun _ h => (List.not_mem_nil h).elim, rfl, rfl⟩
  · rintro x xs acc s c' ⟨i, ys, a, b, t, sx, e1, hi, hy, rfl, h1, rfl, rfl⟩
    have hlt : i < (1 + r).toNat := by
      rcases Nat.lt_or_ge i (1 + r).toNat with h | h
      · exact h
      · rw [List.drop_eq_nil_of_le (by rw [List.length_range]; exact h)] at e1; cases e1
    rw [List.drop_eq_getElem_cons (by rw [List.length_range]; exact hlt), List.map_cons, List.getElem_range] at e1
    cases e1
    refine ⟨trivial, fun K k1 k2 => c_step rfl (if_nil (chk_b (fun _ => ?_) nofun))⟩
    show wpE _ _ _ [.sh (.cell n), .sh (.str "abcdefghijklmnopqrstuvwxyz0123456789"), .sh (.int (1 + r)), .sh (.int (0 + (i : Int)))] (c.set n (feedD a b t)) _ _
    walk_at "vm"
    refine ⟨szk (by simp), ?_⟩
    walk_at "vm"
    obtain ⟨m, hm, hm2⟩ : ∃ m : Int, (m = 26 ∨ m = 36) ∧ atI [D.int 26, D.int 36] (if decide (0 < 0 + (i : Int)) = true then 1 else 0) = some (.int m) := by
      by_cases h : 0 < 0 + (i : Int)
      · rw [if_pos (decide_eq_true h)]; exact ⟨36, .inr rfl, rfl⟩
      · rw [if_neg (by rw [decide_eq_false h]; exact Bool.false_ne_true)]; exact ⟨26, .inl rfl, rfl⟩
    refine p_idx rfl hm2 ?_
    walk_at "vm"
    refine ⟨n, a, b, t, m, rfl, by omega, by omega, cset hc, fun r' a' b' t' r2 r3 => ?_⟩
    have es : (c.set n (feedD a b t)).set n (feedD a' b' t') = c.set n (feedD a' b' t') := List.set_set ..
    rw [es]
    obtain ⟨ch, hch⟩ : ∃ ch, atI ("abcdefghijklmnopqrstuvwxyz0123456789" : Str).cps.toList r' = some ch := by
      have e : r' = ((r'.toNat : Nat) : Int) := by omega
      have hl : r'.toNat < ("abcdefghijklmnopqrstuvwxyz0123456789" : Str).cps.toList.length := by
        have : ("abcdefghijklmnopqrstuvwxyz0123456789" : Str).cps.toList.length = 36 := by decide +kernel
        omega
      exact ⟨_, by rw [e, atI_n]; exact List.getElem?_eq_getElem hl⟩
    refine p_idxS (by decide +kernel) hch ?_
    refine k1 _ _ _ ⟨by rw [List.length_map, hy]; have : sizeLine = 16777216 := sizeLine_eq; omega, i + 1, ys ++ [⟨#[ch]⟩], a', b', t', _, ?_, hlt, by rw [List.length_append, hy]; rfl, by rw [List.map_append]; rfl, ?_, rfl, rfl⟩
    · rfl
    · intro y h
      rcases List.mem_append.mp h with z | z
      · exact h1 y z
      · rw [List.mem_singleton] at z; subst z; rfl
  · rintro acc s c' ⟨i, ys, a, b, t, sx, e1, hi, hy, rfl, h1, rfl, rfl⟩
    refine ⟨trivial, ?_⟩
    have sum : (ys.map (·.length)).sum = ys.length := by
      clear e1 hy
      induction ys with
      | nil => rfl
      | cons y ys ih =>
        rw [List.map_cons, List.sum_cons, ih (fun z hz => h1 z (List.mem_cons_of_mem _ hz)), h1 y (List.mem_cons_self ..), List.length_cons]; omega
    walk_at "vm"
    refine p_join rfl ?_ ?_
    · rw [sum]; show ys.length + ys.length * 0 ≤ _; omega
    · refine q _ _ _ _ ?_
      rw [show Txt.join "" ys = Str.join "" ys from StrLaws.glued_eq_join "" ys]
      have h := StrLaws.join_length_le "" ys
      rw [sum, show ("" : Str).length = 0 from rfl] at h
      omega
end Vm.K02

namespace Vm.K02
open PySem PySem.Spec L2
local macro_rules | `(tactic| walk_at "vm") => `(tactic| (repeat (first
  | (with_reducible refine ss_cons ?_) | (with_reducible refine ss_nil ?_) | (with_reducible refine s_asg ?_) | (with_reducible refine s_ret ?_) | ((with_reducible apply s_retv); next => rfl) | (with_reducible refine s_ifs ?_) | (with_reducible refine s_expr ?_) | (with_reducible refine s_pass ?_) | (with_reducible refine s_par ?_) | (with_reducible refine s_asgT ?_) | (with_reducible refine s_retN ?_)
  | ((with_reducible apply e_var0); next => rfl) | ((with_reducible apply e_own0); next => rfl) | (with_reducible refine p_slcS (by assumption) ?_) | (with_reducible refine e_con0 ?_) | (with_reducible refine e_bin0 ?_) | (with_reducible refine e_cmp0 ?_) | (with_reducible refine e_cmp1 ?_) | (with_reducible refine l_nil ?_) | (with_reducible refine l_cons ?_) | (with_reducible refine e_idx0 ?_) | ((with_reducible apply e_prim0); next => rfl) | ((with_reducible apply e_call0); next => rfl)
  | (with_reducible refine p_addI ?_) | (with_reducible refine p_sub ?_) | (with_reducible refine p_gtI ?_) | (with_reducible refine p_ltI ?_) | (with_reducible refine p_leI ?_) | (with_reducible refine p_geI ?_) | (with_reducible refine p_eqI ?_) | (with_reducible refine p_neI ?_) | (with_reducible refine p_abs ?_) | (with_reducible refine p_intI ?_) | (with_reducible refine p_intB ?_) | (with_reducible refine p_min ?_) | (with_reducible refine p_max ?_) | (with_reducible refine p_leS ?_)
  | (with_reducible refine e_chain0 ?_) | (with_reducible refine e_chain1 ?_) | (with_reducible refine e_bool0 ?_) | (with_reducible refine e_bool1 ?_) | (with_reducible refine b_one0 ?_) | (with_reducible refine b_one1 ?_) | (with_reducible refine b_cons0 ?_) | (with_reducible refine b_cons1 ?_) | (with_reducible refine e_not0 ?_) | (with_reducible refine e_not1 ?_) | (with_reducible refine e_isi0 ?_) | (with_reducible refine e_isi1 ?_) | (with_reducible refine notk_t ?_) | (with_reducible refine notk_f ?_) | (with_reducible refine notk_d ?_) | (with_reducible refine notk_b ?_) | (with_reducible refine intk ?_) | (with_reducible refine int2k ?_) | (with_reducible refine blk ?_) | (with_reducible refine p_inC ?_) | ((with_reducible apply egl0); (next => rfl); (next => decide)) | ((with_reducible apply egl1); (next => rfl); (next => decide))
  | (with_reducible refine bok_tt ?_) | (with_reducible refine bok_tf ?_) | (with_reducible refine bok_ff ?_) | (with_reducible refine bok_ft ?_) | (with_reducible refine ifk_t ?_) | (with_reducible refine ifk_f ?_) | (with_reducible refine qt_bl ?_) | ((with_reducible apply e_var1); next => rfl) | (with_reducible refine e_lst0 ?_) | (with_reducible refine e_tup0 ?_) | (with_reducible refine e_slc0 ?_) | (with_reducible refine o_no ?_) | (with_reducible refine o_so ?_) | (with_reducible refine e_meth0 ?_)
  | (with_reducible refine e_un0 ?_) | (with_reducible refine p_neg ?_) | (with_reducible refine s_seti ?_) | (with_reducible refine e_comp0 ?_) | (with_reducible refine s_for ?_) | (with_reducible refine i_val ?_) | (with_reducible refine i_range1 ?_) | (with_reducible refine i_range2 ?_) | (with_reducible refine i_enum ?_) | (with_reducible refine s_cellify ?_) | ((with_reducible apply e_kcall0); (next => rfl); (next => rfl)))))
theorem lt1 (a b : Nat) : ([a] < [b]) ↔ a < b := by simp [List.cons_lt_cons_iff]
theorem mem_LET (ch : Nat) : ch ∈ LET ↔ 97 ≤ ch ∧ ch ≤ 122 := by
  have e : LET = (List.range 26).map (· + 97) := by decide +kernel
  rw [e, List.mem_map]
  constructor
  · rintro ⟨k, h, rfl⟩; rw [List.mem_range] at h; omega
  · intro h; exact ⟨ch - 97, List.mem_range.mpr (by omega), by omega⟩
theorem mem_DIG (ch : Nat) : ch ∈ DIG ↔ 48 ≤ ch ∧ ch ≤ 57 := by
  have e : DIG = (List.range 10).map (· + 48) := by decide +kernel
  rw [e, List.mem_map]
  constructor
  · rintro ⟨k, h, rfl⟩; rw [List.mem_range] at h; omega
  · intro h; exact ⟨ch - 48, List.mem_range.mpr (by omega), by omega⟩
theorem lod_iff (ch : Nat) : lod ch = true ↔ ch ∈ LET ∨ ch ∈ DIG := by unfold lod; simp
theorem isNm_false1 {ch : Nat} {l : List Nat} (h : ¬ ch ∈ LET) : isNm (ch :: l) = false := by
  unfold isNm; simp [h]
theorem isNm_false2 {ch : Nat} {l1 l2 : List Nat} (h : ¬ lod ch = true) : isNm (l1 ++ ch :: l2) = false := by
  unfold isNm
  have e : (l1 ++ ch :: l2).all lod = false := by
    rw [List.all_append, List.all_cons, Bool.eq_false_iff.mpr h]; simp
  cases q : l1 ++ ch :: l2 with
  | nil => simp
  | cons a l =>
    show (decide (1 ≤ (a :: l).length) && decide ((a :: l).length ≤ 8) && (decide (a ∈ LET) && (a :: l).all lod)) = false
    rw [← q, e, Bool.and_false, Bool.and_false]
theorem wp_due : ∀ ds c Q E, spIs ds c Q E → wpDef (cx 5) 1 4 ir5 ds c Q E := by
  rintro ds c Q E ⟨d, rfl, hd, q⟩
  refine ⟨rfl, ?_⟩
  show wpSs _ _ [.sh d, .no, .no, .no] c _ _
  unfold ir5
  walk_at "vm"
  cases d with
  | cell n => exact hd.elim
  | non | bl _ | int _ | tup _ | lst _ | scr _ =>
    refine isik (r := false) rfl (by decide) ?_
    walk_at "vm"
    exact q
  | str z =>
    refine isik (r := true) rfl (by decide) ?_
    have hz : z.length ≤ sizeLine := hd
    have hl := strLen z
    have lz : lenD c (.str z) = some z.length := by show (if z.length ≤ sizeLine then some z.length else none) = _; rw [if_pos hz]
    have bad : (z.length < 1 ∨ 8 < z.length) → Q (.bl false) false c := fun h => by
      have e : isName (.str z) = false := by
        show isNm z.cps.toList = false
        unfold isNm
        rw [← hl]
        rcases h with h | h
        · rw [decide_eq_false (show ¬ 1 ≤ z.length by omega)]; rfl
        · rw [decide_eq_false (show ¬ z.length ≤ 8 by omega), Bool.and_false]; rfl
      rw [e] at q; exact q
    walk_at "vm"
    refine p_len lz ?_
    walk_at "vm"
    refine bok_df (fun h1 => ?_) fun h1 => ?_
    · walk_at "vm"
      refine p_len lz ?_
      walk_at "vm"
      refine ifk_d (fun h2 => ?_) fun h2 => ?_
      · walk_at "vm"
        exact bad (.inr (by omega))
      · walk_at "vm"
        refine p_itS _ ?_
        rw [signs_eq]
        have q' : Q (.bl (isNm z.cps.toList)) false c := q
        refine loopF_of (fun rest s c' => ∃ (l1 l2 : List Nat) (x y w : Sl), z.cps.toList = l1 ++ l2 ∧ rest = enumD l1.length (l2.map fun ch => D.str ⟨#[ch]⟩) ∧ (∀ ch ∈ l1, lod ch = true) ∧ (∀ ch l, l1 = ch :: l → ch ∈ LET) ∧ s = [.sh (.str z), x, y, w] ∧ c' = c) ?_ ?_ _ _ _ ⟨[], z.cps.toList, .no, .no, .no, rfl, rfl, fun _ h => (List.not_mem_nil h).elim, fun _ _ h => (nomatch h), rfl, rfl⟩
        · rintro x xs s c' ⟨l1, l2, sx, sy, sw, e1, e2, g1, g2, rfl, rfl⟩
          cases l2 with
          | nil => cases e2
          | cons ch l2 =>
            cases e2
            refine ⟨trivial, fun K kk => f_step rfl ?_⟩
            show wpSs _ _ [.sh (.str z), .sh (.int (l1.length : Nat)), .sh (.str ⟨#[ch]⟩), sw] c' _ _
            have go : lod ch = true → (l1 = [] → ch ∈ LET) → ∀ w, K [.sh (.str z), .sh (.int (l1.length : Nat)), .sh (.str ⟨#[ch]⟩), w] c' := fun h1 h2 w => kk _ _ ⟨l1 ++ [ch], l2, _, _, _, by rw [e1, List.append_assoc]; rfl, by rw [List.length_append]; rfl, fun k hk => by
              rcases List.mem_append.mp hk with z | z
              · exact g1 k z
              · rw [List.mem_singleton] at z; subst z; exact h1, fun k l hk => by
              cases l1 with
              | nil => cases hk; exact h2 rfl
              | cons a l1 => cases hk; exact g2 _ _ rfl, rfl, rfl⟩
            have no1 : l1 = [] → ¬ ch ∈ LET → Q (.bl false) false c' := fun h1 h2 => by
              subst h1
              rw [e1, List.nil_append, isNm_false1 h2] at q'; exact q'
            have no2 : ¬ lod ch = true → Q (.bl false) false c' := fun h => by
              rw [e1, isNm_false2 h] at q'; exact q'
            walk_at "vm"
            refine chk_nd (fun h3 => ?_) fun h3 => ?_
            · have h3' : ¬ ch < 97 := fun z => h3 ((lt1 _ _).mpr z)
              walk_at "vm"
              refine bok_bl (fun h4 => ?_) fun h4 => ?_
              · have h4' : 122 < ch := (lt1 122 ch).mp (by have h := h4; simp at h; exact h)
                have nl : ¬ ch ∈ LET := fun z => by have := (mem_LET ch).mp z; omega
                walk_at "vm"
                refine bok_df (fun h5 => ?_) fun h5 => ?_
                · walk_at "vm"
                  refine chk_nd (fun h6 => ?_) fun h6 => ?_
                  · walk_at "vm"
                    refine ifk_bl (fun h7 => ?_) fun h7 => ?_
                    · walk_at "vm"
                      refine no2 fun z => ?_
                      rcases (lod_iff ch).mp z with z | z
                      · exact nl z
                      · have := (mem_DIG ch).mp z; omega
                    · exfalso
                      have h8 : ¬ 57 < ch := fun z => by
                        have z2 : [57] < [ch] := (lt1 57 ch).mpr z
                        have z3 : (!!decide ([57] < [ch])) = false := h7
                        rw [decide_eq_true z2] at z3; cases z3
                      omega
                  · walk_at "vm"
                    refine no2 fun z => ?_
                    rcases (lod_iff ch).mp z with z | z
                    · exact nl z
                    · have := (mem_DIG ch).mp z; omega
                · refine ifk_d (fun h6 => ?_) fun h6 => (h6 h5).elim
                  walk_at "vm"
                  exact no1 (List.length_eq_zero_iff.mp (by omega)) nl
              · have h4' : ¬ 122 < ch := fun z => by
                  have z2 : [122] < [ch] := (lt1 122 ch).mpr z
                  have z3 : (!!decide ([122] < [ch])) = false := h4
                  rw [decide_eq_true z2] at z3; cases z3
                have il : ch ∈ LET := (mem_LET ch).mpr ⟨by omega, by omega⟩
                refine ifk_bl (fun h5 => ?_) fun h5 => ?_
                · rw [h5] at h4; cases h4
                · walk_at "vm"
                  exact go ((lod_iff ch).mpr (.inl il)) (fun _ => il) _
            · have h3' : ch < 97 := (lt1 ch 97).mp h3
              have nl : ¬ ch ∈ LET := fun z => by have := (mem_LET ch).mp z; omega
              walk_at "vm"
              refine bok_df (fun h5 => ?_) fun h5 => ?_
              · have ne : l1 ≠ [] := fun z => h5 (by rw [z]; rfl)
                walk_at "vm"
                refine chk_nd (fun h6 => ?_) fun h6 => ?_
                · have h6' : ¬ ch < 48 := fun z => h6 ((lt1 _ _).mpr z)
                  walk_at "vm"
                  refine ifk_bl (fun h7 => ?_) fun h7 => ?_
                  · have h8 : 57 < ch := (lt1 57 ch).mp (by have h := h7; simp at h; exact h)
                    walk_at "vm"
                    refine no2 fun z => ?_
                    rcases (lod_iff ch).mp z with z | z
                    · exact nl z
                    · have := (mem_DIG ch).mp z; omega
                  · have h8 : ¬ 57 < ch := fun z => by
                      have z2 : [57] < [ch] := (lt1 57 ch).mpr z
                      have z3 : (!!decide ([57] < [ch])) = false := h7
                      rw [decide_eq_true z2] at z3; cases z3
                    walk_at "vm"
                    exact go ((lod_iff ch).mpr (.inr ((mem_DIG ch).mpr ⟨by omega, by omega⟩))) (fun z => (ne z).elim) _
                · have h6' : ch < 48 := (lt1 ch 48).mp h6
                  walk_at "vm"
                  refine no2 fun z => ?_
                  rcases (lod_iff ch).mp z with z | z
                  · exact nl z
                  · have := (mem_DIG ch).mp z; omega
              · refine ifk_d (fun h6 => ?_) fun h6 => (h6 h5).elim
                walk_at "vm"
                exact no1 (List.length_eq_zero_iff.mp (by omega)) nl
        · rintro s c' ⟨l1, l2, sx, sy, sw, e1, e2, g1, g2, rfl, rfl⟩
          have e3 : l2 = [] := by cases l2 with
            | nil => rfl
            | cons _ _ => cases e2
          subst e3
          rw [List.append_nil] at e1
          refine ⟨trivial, ?_⟩
          walk_at "vm"
          have e : isNm z.cps.toList = true := by
            unfold isNm
            rw [← hl, decide_eq_true (show 1 ≤ z.length by omega), decide_eq_true (show z.length ≤ 8 by omega)]
            cases q : z.cps.toList with
            | nil => rw [q] at hl; simp at hl; omega
            | cons a l =>
              rw [e1] at q
              show (true && true && (decide (a ∈ LET) && (a :: l).all lod)) = true
              rw [decide_eq_true (g2 _ _ q), ← q]
              simp only [Bool.true_and]
              exact List.all_eq_true.mpr fun x hx => g1 x hx
          rw [e] at q'
          exact q'
    · refine ifk_d (fun h2 => ?_) fun h2 => (h2 h1).elim
      walk_at "vm"
      exact bad (.inl (by omega))
end Vm.K02

namespace Vm.K02
open PySem PySem.Spec L2
local macro_rules | `(tactic| walk_at "vm") => `(tactic| (repeat (first
  | (with_reducible refine ss_cons ?_) | (with_reducible refine ss_nil ?_) | (with_reducible refine s_asg ?_) | (with_reducible refine s_ret ?_) | ((with_reducible apply s_retv); next => rfl) | (with_reducible refine s_ifs ?_) | (with_reducible refine s_expr ?_) | (with_reducible refine s_pass ?_) | (with_reducible refine s_par ?_) | (with_reducible refine s_asgT ?_) | (with_reducible refine s_retN ?_)
  | ((with_reducible apply e_var0); next => rfl) | ((with_reducible apply e_own0); next => rfl) | (with_reducible refine p_slcS (by assumption) ?_) | (with_reducible refine e_con0 ?_) | (with_reducible refine e_bin0 ?_) | (with_reducible refine e_cmp0 ?_) | (with_reducible refine e_cmp1 ?_) | (with_reducible refine l_nil ?_) | (with_reducible refine l_cons ?_) | (with_reducible refine e_idx0 ?_) | ((with_reducible apply e_prim0); next => rfl) | ((with_reducible apply e_call0); next => rfl)
  | (with_reducible refine p_addI ?_) | (with_reducible refine p_sub ?_) | (with_reducible refine p_gtI ?_) | (with_reducible refine p_ltI ?_) | (with_reducible refine p_leI ?_) | (with_reducible refine p_geI ?_) | (with_reducible refine p_eqI ?_) | (with_reducible refine p_neI ?_) | (with_reducible refine p_abs ?_) | (with_reducible refine p_intI ?_) | (with_reducible refine p_intB ?_) | (with_reducible refine p_min ?_) | (with_reducible refine p_max ?_) | (with_reducible refine p_leS ?_)
  | (with_reducible refine e_chain0 ?_) | (with_reducible refine e_chain1 ?_) | (with_reducible refine e_bool0 ?_) | (with_reducible refine e_bool1 ?_) | (with_reducible refine b_one0 ?_) | (with_reducible refine b_one1 ?_) | (with_reducible refine b_cons0 ?_) | (with_reducible refine b_cons1 ?_) | (with_reducible refine e_not0 ?_) | (with_reducible refine e_not1 ?_) | (with_reducible refine e_isi0 ?_) | (with_reducible refine e_isi1 ?_) | (with_reducible refine notk_t ?_) | (with_reducible refine notk_f ?_) | (with_reducible refine notk_d ?_) | (with_reducible refine notk_b ?_) | (with_reducible refine intk ?_) | (with_reducible refine int2k ?_) | (with_reducible refine blk ?_) | (with_reducible refine p_inC ?_) | ((with_reducible apply egl0); (next => rfl); (next => decide)) | ((with_reducible apply egl1); (next => rfl); (next => decide))
  | (with_reducible refine bok_tt ?_) | (with_reducible refine bok_tf ?_) | (with_reducible refine bok_ff ?_) | (with_reducible refine bok_ft ?_) | (with_reducible refine ifk_t ?_) | (with_reducible refine ifk_f ?_) | (with_reducible refine qt_bl ?_) | ((with_reducible apply e_var1); next => rfl) | (with_reducible refine e_lst0 ?_) | (with_reducible refine e_tup0 ?_) | (with_reducible refine e_slc0 ?_) | (with_reducible refine o_no ?_) | (with_reducible refine o_so ?_) | (with_reducible refine e_meth0 ?_)
  | (with_reducible refine e_un0 ?_) | (with_reducible refine p_neg ?_) | (with_reducible refine s_seti ?_) | (with_reducible refine e_comp0 ?_) | (with_reducible refine s_for ?_) | (with_reducible refine i_val ?_) | (with_reducible refine i_range1 ?_) | (with_reducible refine i_range2 ?_) | (with_reducible refine i_enum ?_) | (with_reducible refine s_cellify ?_) | ((with_reducible apply e_kcall0); (next => rfl); (next => rfl)))))
theorem p_reprB {c : Cl} {b : Bool} {Q : Q1} (k : Q (.str (PyData.bool b).shown) false) : primW .repr c [.bl b] Q := ⟨.bool b, rfl, rfl, by show 0 ≤ 60; decide, by cases b <;> decide +kernel, k⟩
theorem p_neR {c : Cl} {b : Bool} {kb : Bool → Prop} (k : kb false) : cmpW .NotEq c (.str (PyData.bool b).shown) (.str (PyData.bool b).shown) kb := by
  refine ⟨.str (PyData.bool b).shown, .str (PyData.bool b).shown, rfl, rfl, by cases b <;> decide +kernel, by cases b <;> decide +kernel, ?_⟩
  have e : (!PyData.eqv (.str (PyData.bool b).shown) (.str (PyData.bool b).shown)) = false := by cases b <;> decide +kernel
  rw [e]; exact k
theorem szL {n : Nat} (h : n ≤ 100) : n ≤ sizeLine := szk (by omega)
theorem cutl (z : Str) (l h : Option Int) (hz : z.length ≤ 8) : (cutS z l h).length ≤ 8 := Nat.le_trans (cutS_length z l h) hz
theorem wp_law : ∀ ds c Q E, lawSp 63 ds c Q E → wpDef (cx 6) 1 9 ir6 ds c Q E := by
  rintro ds c Q E ⟨ns, rfl, hn, rfl, q⟩
  refine ⟨rfl, ?_⟩
  show wpSs _ _ [.sh (.scr (ns.map D.int)), .no, .no, .no, .no, .no, .no, .no, .no] [] _ _
  have ln : ∀ c, lenD c (.scr (ns.map D.int)) = some ns.length := fun c => by show some (ns.map D.int).length = _; rw [List.length_map]
  unfold ir6
  walk_at "vm"
  refine ⟨rfl, fun mk hmk => ?_⟩
  walk_at "vm"
  refine p_len (ln _) ?_
  walk_at "vm"
  refine ⟨⟨by split <;> (try split) <;> omega, by split <;> (try split) <;> omega⟩, ?_⟩
  refine loopF_of (fun rest s c => (∀ x ∈ rest, ∃ i : Nat, i < 8 ∧ x = .int (i : Nat)) ∧ ∃ (x2 x3 x4 x5 x6 x7 x8 : Sl), s = [.sh (.scr (ns.map D.int)), .sh (.str mk), x2, x3, x4, x5, x6, x7, x8]) ?_ ?_ _ _ _ ⟨?_, .no, .no, .no, .no, .no, .no, .no, rfl⟩
  · rintro x xs s c ⟨hx, x2, x3, x4, x5, x6, x7, x8, rfl⟩
    obtain ⟨i, hi, rfl⟩ := hx x (List.mem_cons_self ..)
    refine ⟨trivial, fun K kk => f_step rfl ?_⟩
    have go : ∀ x2 x3 x4 x5 x6 x7 x8 c, K [.sh (.scr (ns.map D.int)), .sh (.str mk), x2, x3, x4, x5, x6, x7, x8] c := fun x2 x3 x4 x5 x6 x7 x8 c => kk _ _ ⟨fun x h => hx x (List.mem_cons_of_mem _ h), x2, x3, x4, x5, x6, x7, x8, rfl⟩
    show wpSs _ _ [.sh (.scr (ns.map D.int)), .sh (.str mk), .sh (.int (i : Nat)), x3, x4, x5, x6, x7, x8] c _ _
    walk_at "vm"
    refine ⟨ns, i, rfl, hi, hn, fun a b => ⟨rfl, ?_⟩⟩
    generalize hn0 : c.length = n
    have hc : (c ++ [feedD a b 0])[n]? = some (feedD a b 0) := by rw [← hn0]; simp
    generalize c ++ [feedD a b 0] = c0 at hc
    show wpSs _ _ [.sh (.scr (ns.map D.int)), .sh (.str mk), .sh (.int (i : Nat)), .sh (.cell n), x4, x5, x6, x7, x8] c0 _ _
    walk_at "vm"
    refine ⟨n, a, b, 0, rfl, hc, fun z a b t hz => ?_⟩
    have hc := cset (y := feedD a b t) hc
    generalize c0.set n (feedD a b t) = c0 at hc
    have lm : mk.length ≤ sizeLine := szL (by omega)
    have lmk : ∀ c, lenD c (.str mk) = some 94 := fun c => by show (if mk.length ≤ sizeLine then some mk.length else none) = _; rw [if_pos lm, hmk]
    have lz : z.length ≤ sizeLine := szL (by omega)
    have lnz : ∀ c, lenD c (.str z) = some z.length := fun c => by show (if z.length ≤ sizeLine then some z.length else none) = _; rw [if_pos lz]
    walk_at "vm"
    refine p_len (lmk _) ?_
    walk_at "vm"
    refine ⟨n, a, b, t, _, rfl, by decide, by decide, hc, fun r a b t r0 r1 => ?_⟩
    have hc := cset (y := feedD a b t) hc
    generalize c0.set n (feedD a b t) = c0 at hc
    obtain ⟨ch, hch⟩ : ∃ ch, atI mk.cps.toList r = some ch := by
      have e : r = ((r.toNat : Nat) : Int) := by omega
      have hl : r.toNat < mk.cps.toList.length := by rw [← strLen, hmk]; omega
      exact ⟨_, by rw [e, atI_n]; exact List.getElem?_eq_getElem hl⟩
    refine p_idxS lm hch ?_
    walk_at "vm"
    refine ⟨rfl, ?_⟩
    show wpSs _ _ [.sh (.scr (ns.map D.int)), .sh (.str mk), .sh (.int (i : Nat)), .sh (.cell n), .sh (.str z), .sh (.str ⟨#[ch]⟩), x6, x7, x8] c0 _ _
    walk_at "vm"
    refine p_len (lnz _) ?_
    walk_at "vm"
    refine ⟨n, a, b, t, _, rfl, by omega, by omega, hc, fun at_ a b t _ _ => ?_⟩
    have hc := cset (y := feedD a b t) hc
    generalize c0.set n (feedD a b t) = c0 at hc
    have k1 := cutl z none (some at_) hz
    have k2 := cutl z (some at_) none hz
    have k3 := cutl z (some (at_ + 1)) none hz
    have k4 : (⟨#[ch]⟩ : Str).length = 1 := rfl
    have la : ∀ a b : Str, (a ++ b).length = a.length + b.length := fun a b => Str.length_append a b
    walk_at "vm"
    refine p_addS (szL (by omega)) ?_
    walk_at "vm"
    refine p_addS (szL (by rw [la]; omega)) ?_
    walk_at "vm"
    refine p_addS (szL (by omega)) ?_
    walk_at "vm"
    refine p_addS (szL (by omega)) ?_
    walk_at "vm"
    refine p_addS (szL (by rw [la]; omega)) ?_
    walk_at "vm"
    refine ⟨szL (by simp), ?_⟩
    walk_at "vm"
    have n1 : ("\n" : Str).length = 1 := rfl
    have n2 : (" " : Str).length = 1 := rfl
    refine p_addS (szL (by rw [n1]; omega)) ?_
    walk_at "vm"
    refine p_addS (szL (by rw [n2]; omega)) ?_
    walk_at "vm"
    refine p_mulS (szL (by show z.length * 2 ≤ _; omega)) (by decide) ?_
    walk_at "vm"
    refine ⟨trivial, ?_⟩
    walk_at "vm"
    refine p_upper (by omega) ?_
    walk_at "vm"
    refine ⟨n, a, b, t, _, rfl, by decide, by decide, hc, fun some_ a b t _ _ => ?_⟩
    have hc := cset (y := feedD a b t) hc
    generalize c0.set n (feedD a b t) = c0 at hc
    walk_at "vm"
    refine ⟨szL (by simp), ?_⟩
    walk_at "vm"
    refine p_addL (szL (by simp)) ?_
    walk_at "vm"
    refine ⟨szL (by simp), ?_⟩
    walk_at "vm"
    refine ⟨szL (by simp), ?_⟩
    walk_at "vm"
    refine ⟨szL (by simp), ?_⟩
    walk_at "vm"
    refine ⟨szL (by simp), ?_⟩
    walk_at "vm"
    refine ⟨szL (by simp), ?_⟩
    walk_at "vm"
    refine p_addL (szL (by simp)) ?_
    walk_at "vm"
    have fin : ∀ s c, (∃ x6 x7 x8, s = [.sh (.scr (ns.map D.int)), .sh (.str mk), .sh (.int (i : Nat)), .sh (.cell n), .sh (.str z), .sh (.str ⟨#[ch]⟩), x6, x7, x8]) → K s c := by
      rintro s c ⟨x6, x7, x8, rfl⟩
      exact go ..
    refine p_itL _ ?_
    refine loopF_of (fun rest s c => (∀ x ∈ rest, okD x) ∧ ∃ x6 x7 x8, s = [.sh (.scr (ns.map D.int)), .sh (.str mk), .sh (.int (i : Nat)), .sh (.cell n), .sh (.str z), .sh (.str ⟨#[ch]⟩), x6, x7, x8]) ?_ (fun s c h => ⟨trivial, ?_⟩) _ _ _ ⟨?_, _, _, _, rfl⟩
    · rintro x xs s c ⟨hx, x6, x7, x8, rfl⟩
      refine ⟨trivial, fun K kk => f_step rfl ?_⟩
      show wpSs _ _ [.sh (.scr (ns.map D.int)), .sh (.str mk), .sh (.int (i : Nat)), .sh (.cell n), .sh (.str z), .sh (.str ⟨#[ch]⟩), x6, x7, .sh x] c _ _
      have hx0 := hx x (List.mem_cons_self ..)
      walk_at "vm"
      refine ⟨x, rfl, hx0, ?_⟩
      walk_at "vm"
      refine p_reprB ?_
      walk_at "vm"
      refine ⟨x, rfl, hx0, ?_⟩
      walk_at "vm"
      refine p_reprB (p_neR ?_)
      walk_at "vm"
      exact kk _ _ ⟨fun y h => hx y (List.mem_cons_of_mem _ h), _, _, _, rfl⟩
    · walk_at "vm"
      exact fin _ _ h.2
    · intro x h
      have lu : (Txt.upper z).length ≤ 3 * z.length := PyProof.Rows.len_upper z
      have lr : (repS z (Int.toNat 2)).length ≤ 100 := by
        show (repS z 2).length ≤ 100
        have e : (repS z 2).length = 2 * z.length := by
          show ((List.replicate 2 z.cps.toList).flatten.toArray).size = _
          rw [strLen]; simp [List.replicate]; omega
        omega
      simp only [List.cons_append, List.nil_append, List.mem_cons, List.not_mem_nil, or_false] at h
      rcases h with rfl | rfl | rfl | rfl | rfl | rfl | rfl | rfl | rfl | rfl | rfl | rfl | rfl | rfl | rfl | rfl | rfl <;> first | trivial | exact szL (n := 0) (Nat.zero_le _) | exact szL (show (Txt.upper z).length ≤ 100 by omega) | exact szL (by simp only [la, k4, n1, n2]; omega) | exact szL lr | exact szL (by omega)
  · rintro s c ⟨hx, x2, x3, x4, x5, x6, x7, x8, rfl⟩
    refine ⟨trivial, ?_⟩
    walk_at "vm"
    refine ⟨rfl, rfl, .str "abcdefgh", rfl, by show _ ≤ _; decide +kernel, ?_⟩
    rw [show isName (.str "abcdefgh") = true by decide +kernel]
    walk_at "vm"
    refine ⟨.str "abcdefghi", rfl, by show _ ≤ _; decide +kernel, ?_⟩
    rw [show isName (.str "abcdefghi") = false by decide +kernel]
    walk_at "vm"
    exact q _
  · intro x h
    unfold rangeD at h
    obtain ⟨i, h1, rfl⟩ := List.mem_map.mp h
    rw [List.mem_range] at h1
    refine ⟨i, ?_, by rw [Int.zero_add]⟩
    refine Nat.lt_of_lt_of_le h1 ?_
    split <;> (try split) <;> omega
end Vm.K02

namespace Vm.K02
open PySem PySem.Spec L2
/-! ### the defs, one behind another -/
def sta : Sta := ⟨fun _ => .none, fun _ => ""⟩
section
variable {P : Program} {w : World} {K : PySem.W.Frag} {mg : Str → Option Value} {base : Heap}
abbrev FnP (K : PySem.W.Frag) (x : Str) (st : Stmt) (f : Addr) (fd : FuncData) : Prop := FunD K x x (defArgs st) (defBody st) (defScope st) [] [] f fd
theorem b0 {f : Addr} {fd : FuncData} (F : FnP K "is_name" st0 f fd) : Binds K fd (nm.ps 0) [] := FunD.bindsN F fun _ _ _ _ _ _ us hl => match us, hl with | [_], _ => rfl
theorem b1 {f : Addr} {fd : FuncData} (F : FnP K "_law_feed" st1 f fd) : Binds K fd (nm.ps 1) [] := FunD.bindsN F fun _ _ _ _ _ _ us hl => match us, hl with | [_, _], _ => rfl
theorem b2 {f : Addr} {fd : FuncData} (F : FnP K "_law_take" st2 f fd) : Binds K fd (nm.ps 2) [] := FunD.bindsN F fun _ _ _ _ _ _ us hl => match us, hl with | [_, _], _ => rfl
theorem b3 {f : Addr} {fd : FuncData} (F : FnP K "_law_signs" st3 f fd) : Binds K fd (nm.ps 3) [] := FunD.bindsN F fun _ _ _ _ _ _ us hl => match us, hl with | [], _ => rfl
theorem b4 {f : Addr} {fd : FuncData} (F : FnP K "_law_name" st4 f fd) : Binds K fd (nm.ps 4) [] := FunD.bindsN F fun _ _ _ _ _ _ us hl => match us, hl with | [_], _ => rfl
theorem b5 {f : Addr} {fd : FuncData} (F : FnP K "_law_due" st5 f fd) : Binds K fd (nm.ps 5) [] := FunD.bindsN F fun _ _ _ _ _ _ us hl => match us, hl with | [_], _ => rfl
theorem kb0 {f : Addr} {fd : FuncData} (F : FnP K "is_name" st0 f fd) : KBn K fd (nm.ps 0) 0 (kwN (nm.ps 0) 0 [0]) (fun us ws => us ++ arr [0] ws) (fun vs zs => vs ++ arr [0] zs) :=
  kb_of F 0 [0] fun _ _ _ _ _ _ us ws h1 h2 => match us, ws, h1, h2 with | [], [_], _, _ => rfl
/-- what the module's names stand for -/
structure Gs (mg : Str → Option Value) : Prop where
  g0 : ∃ t, mg "LETTERS" = some (.str "abcdefghijklmnopqrstuvwxyz" t)
  g1 : ∃ t, mg "DIGITS" = some (.str "0123456789" t)
  g2 : ∃ t, mg "MOST_NAME" = some (.int 8 t)
  pr : ∀ p : Prim, mg p.name = none
  rng : mg "range" = none
  enm : mg "enumerate" = none
  zp : mg "zip" = none
  isi : mg "isinstance" = none
  ty : ∀ T ∈ tyNames, mg (Str.ofString T) = none
theorem wd_of {k : Nat} (G : Gs mg) (fn : ∀ f, f < k → ∃ a fd j, mg (nm.fn f) = some (.ref a) ∧ PySem.W.keepIn K (.ref a) = true ∧ Binds K fd (nm.ps f) [] ∧ FnG P w K mg base j a fd (nm.ps f) (spF sta K ((cx k).fn f)) ∧ j ≤ k ∧
    ∀ n ks, (cx k).hasK f n ks = true → KBn K fd (nm.ps f) n (kwN (nm.ps f) n ks) (fun us ws => us ++ arr ks ws) (fun vs zs => vs ++ arr ks zs)) : Wd P w K mg base nm sta (cx k) k := by
  refine ⟨fun f h => fn f (of_decide_eq_true h), fun i h => ?_, fun p _ => G.pr p, G.rng, G.enm, G.zp, G.isi, G.ty⟩
  have hi : i < 3 := of_decide_eq_true h
  match i, hi with
  | 0, _ => obtain ⟨t, e⟩ := G.g0; exact ⟨_, .str _, e, ⟨t, rfl⟩, fun _ _ _ => .str⟩
  | 1, _ => obtain ⟨t, e⟩ := G.g1; exact ⟨_, .str _, e, ⟨t, rfl⟩, fun _ _ _ => .str⟩
  | 2, _ => obtain ⟨t, e⟩ := G.g2; exact ⟨_, .int _, e, ⟨t, rfl⟩, fun _ _ _ => .int⟩
def Pk (P : Program) (w : World) (K : PySem.W.Frag) (mg : Str → Option Value) (base : Heap) (j f : Nat) : Prop := ∃ a fd, mg (nm.fn f) = some (.ref a) ∧ PySem.W.keepIn K (.ref a) = true ∧ Binds K fd (nm.ps f) [] ∧ FnG P w K mg base j a fd (nm.ps f) (spF sta K ((cx 0).fn f)) ∧
    ∀ n ks, (cx 0).hasK f n ks = true → KBn K fd (nm.ps f) n (kwN (nm.ps f) n ks) (fun us ws => us ++ arr ks ws) (fun vs zs => vs ++ arr ks zs)
theorem wd_pk {k : Nat} (G : Gs mg) (fn : ∀ f, f < k → Pk P w K mg base (f + 1) f) : Wd P w K mg base nm sta (cx k) k := wd_of G fun f h => by
  obtain ⟨a, fd, h1, h2, h3, h4, h5⟩ := fn f h
  exact ⟨a, fd, f + 1, h1, h2, h3, h4, h, h5⟩
theorem kb_none {f : Nat} (h : f ≠ 0) {n : Nat} {ks : List Nat} {A : Prop} (z : (cx 0).hasK f n ks = true) : A := by
  have z' : (decide (f = 0) && decide (n = 0) && decide (ks = [0])) = true := z
  rw [decide_eq_false h] at z'; cases z'
theorem kb_some {n : Nat} {ks : List Nat} (z : (cx 0).hasK 0 n ks = true) : n = 0 ∧ ks = [0] := by
  have z' : (decide ((0 : Nat) = 0) && decide (n = 0) && decide (ks = [0])) = true := z
  simp only [Bool.and_eq_true, decide_eq_true_eq] at z'
  exact ⟨z'.1.2, z'.2⟩
theorem chain {f0 f1 f2 f3 f4 f5 f6 : Addr} {fd0 fd1 fd2 fd3 fd4 fd5 fd6 : FuncData} (G : Gs mg) (F0 : FnP K "is_name" st0 f0 fd0) (F1 : FnP K "_law_feed" st1 f1 fd1) (F2 : FnP K "_law_take" st2 f2 fd2) (F3 : FnP K "_law_signs" st3 f3 fd3) (F4 : FnP K "_law_name" st4 f4 fd4) (F5 : FnP K "_law_due" st5 f5 fd5) (F6 : FnP K "law" st6 f6 fd6)
    (m0 : mg "is_name" = some (.ref f0)) (m1 : mg "_law_feed" = some (.ref f1)) (m2 : mg "_law_take" = some (.ref f2)) (m3 : mg "_law_signs" = some (.ref f3)) (m4 : mg "_law_name" = some (.ref f4)) (m5 : mg "_law_due" = some (.ref f5)) :
    FnG P w K mg base 7 f6 fd6 ["_law_script"] (spF sta K (lawSp 63)) := by
  have p0 : Pk P w K mg base 1 0 := ⟨f0, fd0, m0, F0.kp, b0 F0, (def_ok F0 sc0 (wd_pk G fun f h => absurd h (Nat.not_lt_zero _)) (by decide) ck0).imp wp_is_name, fun n ks z => by
    obtain ⟨rfl, rfl⟩ := kb_some z
    exact kb0 F0⟩
  have p1 : Pk P w K mg base 2 1 := ⟨f1, fd1, m1, F1.kp, b1 F1, (def_ok F1 sc1 (wd_pk G fun f h => match f, h with | 0, _ => p0) (by decide) ck1).imp wp_feed, fun n ks z => kb_none (by decide) z⟩
  have p2 : Pk P w K mg base 3 2 := ⟨f2, fd2, m2, F2.kp, b2 F2, (def_ok F2 sc2 (wd_pk G fun f h => match f, h with | 0, _ => p0 | 1, _ => p1) (by decide) ck2).imp wp_take, fun n ks z => kb_none (by decide) z⟩
  have p3 : Pk P w K mg base 4 3 := ⟨f3, fd3, m3, F3.kp, b3 F3, (def_ok F3 sc3 (wd_pk G fun f h => match f, h with | 0, _ => p0 | 1, _ => p1 | 2, _ => p2) (by decide) ck3).imp wp_signs, fun n ks z => kb_none (by decide) z⟩
  have p4 : Pk P w K mg base 5 4 := ⟨f4, fd4, m4, F4.kp, b4 F4, (def_ok F4 sc4 (wd_pk G fun f h => match f, h with | 0, _ => p0 | 1, _ => p1 | 2, _ => p2 | 3, _ => p3) (by decide) ck4).imp wp_name, fun n ks z => kb_none (by decide) z⟩
  have p5 : Pk P w K mg base 6 5 := ⟨f5, fd5, m5, F5.kp, b5 F5, (def_ok F5 sc5 (wd_pk G fun f h => match f, h with | 0, _ => p0 | 1, _ => p1 | 2, _ => p2 | 3, _ => p3 | 4, _ => p4) (by decide) ck5).imp wp_due, fun n ks z => kb_none (by decide) z⟩
  exact (def_ok F6 sc6 (wd_pk G fun f h => match f, h with | 0, _ => p0 | 1, _ => p1 | 2, _ => p2 | 3, _ => p3 | 4, _ => p4 | 5, _ => p5) (by decide) ck6).imp wp_law
end
end Vm.K02

set_option maxHeartbeats 0
namespace Vm.K02
open PySem PySem.Spec L2
def dd (x : Str) (st : Stmt) : He.DefD := ⟨(x, none), x, x, defArgs st, defBody st, defScope st, [], []⟩
def fnD : List He.DefD := [dd "is_name" st0, dd "_law_feed" st1, dd "_law_take" st2, dd "_law_signs" st3, dd "_law_name" st4, dd "_law_due" st5, dd "law" st6]
def faD : List He.Fa := [.glo "is_name", .glo "_law_feed", .glo "_law_take", .glo "_law_signs", .glo "_law_name", .glo "_law_due", .glo "law", .str "LETTERS" "abcdefghijklmnopqrstuvwxyz", .str "DIGITS" "0123456789", .int "MOST_NAME" 8,
  .free "len", .free "abs", .free "int", .free "bool", .free "str", .free "repr", .free "min", .free "max", .free "all", .free "any", .free "sum", .free "range", .free "enumerate", .free "zip", .free "isinstance", .free "tuple", .free "list", .free "dict", .free "object"]
abbrev R : PySem.W.OpenRow := PySem.W.OpenLaw.row PySem.Challenge.rw_addalong_k02_names
abbrev hk : PySem.W.Hook := He.hookD 4 faD fnD
def ob (s : PySem.W.SharedT) : He.AlD := He.obsDG 4 faD fnD (HandSHeadRun.getT s)
theorem ob_eq (s : PySem.W.SharedT) : ob s = hk.obs s.abs := He.obsDG_eq (HandSHeadRun.getT_eq s)
def loose : List Str := ["LETTERS", "DIGITS", "MOST_NAME", "is_name", "_law_feed", "_law_take", "_law_signs", "_law_name", "_law_due"]
theorem run (w : World) : HandSHeadRun.RunEq R (PySem.W.view R.prog [11]) hk ob 2000 loose w := by
  intro os
  kernel_rfl
theorem facts {P : Program} {w : World} {K : PySem.W.Frag} {h : Heap} {mg : Str → Option Value} {f : Addr} (X : K.In h) (G : h.Ns mainGlobals mg) (hfa : mg ("law" : Str) = some (.ref f)) (c : He.SaysD faD fnD K) :
    ∃ fd : FuncData, (∀ (s : Shared) (v : Value), BindsTo s fd ⟨[v], []⟩ [("_law_script", v)]) ∧ ∀ base : Heap, K.In base → base.Ns mainGlobals mg → FnG P w K mg base 7 f fd ["_law_script"] (spF sta K (lawSp 63)) := by
  obtain ⟨fd0, F0⟩ := c.def_ 0 (d := dd "is_name" st0) rfl
  obtain ⟨fd1, F1⟩ := c.def_ 1 (d := dd "_law_feed" st1) rfl
  obtain ⟨fd2, F2⟩ := c.def_ 2 (d := dd "_law_take" st2) rfl
  obtain ⟨fd3, F3⟩ := c.def_ 3 (d := dd "_law_signs" st3) rfl
  obtain ⟨fd4, F4⟩ := c.def_ 4 (d := dd "_law_name" st4) rfl
  obtain ⟨fd5, F5⟩ := c.def_ 5 (d := dd "_law_due" st5) rfl
  obtain ⟨fd6, F6⟩ := c.def_ 6 (d := dd "law" st6) rfl
  have e := hfa.symm.trans (He.glo_ok X G (c.fact 6 (f := .glo "law") rfl))
  cases e
  have b := FunD.bindsA (ps := ["_law_script"]) F6 fun _ _ _ _ _ _ us hl => match us, hl with | [_], _ => rfl
  have fr : ∀ (i : Nat) (x : Str), faD[i]? = some (.free x) → mg x = none := fun i x e => He.free_ok X G (c.fact i e)
  have g : Gs mg := ⟨He.str_ok X G (c.fact 7 (f := .str "LETTERS" "abcdefghijklmnopqrstuvwxyz") rfl), He.str_ok X G (c.fact 8 (f := .str "DIGITS" "0123456789") rfl), He.int_ok X G (c.fact 9 (f := .int "MOST_NAME" 8) rfl),
    fun p => by cases p <;> first | exact fr 10 _ rfl | exact fr 11 _ rfl | exact fr 12 _ rfl | exact fr 13 _ rfl | exact fr 14 _ rfl | exact fr 15 _ rfl | exact fr 16 _ rfl | exact fr 17 _ rfl | exact fr 18 _ rfl | exact fr 19 _ rfl | exact fr 20 _ rfl,
    fr 21 _ rfl, fr 22 _ rfl, fr 23 _ rfl, fr 24 _ rfl, fun T hT => by
      simp only [tyNames, List.mem_cons, List.not_mem_nil, or_false] at hT
      rcases hT with rfl | rfl | rfl | rfl | rfl | rfl | rfl
      · exact fr 14 _ rfl
      · exact fr 12 _ rfl
      · exact fr 13 _ rfl
      · exact fr 25 _ rfl
      · exact fr 26 _ rfl
      · exact fr 27 _ rfl
      · exact fr 28 _ rfl⟩
  exact ⟨fd6, fun s v => b s [v] rfl, fun base _ _ => chain g F0 F1 F2 F3 F4 F5 F6 (He.glo_ok X G (c.fact 0 (f := .glo "is_name") rfl)) (He.glo_ok X G (c.fact 1 (f := .glo "_law_feed") rfl)) (He.glo_ok X G (c.fact 2 (f := .glo "_law_take") rfl)) (He.glo_ok X G (c.fact 3 (f := .glo "_law_signs") rfl)) (He.glo_ok X G (c.fact 4 (f := .glo "_law_name") rfl)) (He.glo_ok X G (c.fact 5 (f := .glo "_law_due") rfl))⟩
end Vm.K02
open PySem PySem.W PySem.Calls PyProof.Rows
theorem PySem.Challenge.cw_addalong_k02_names_holds : PySem.Challenge.rw_addalong_k02_names.Holds := by
  w_on; o_law
  refine HandSHeadRun.head_any (r := OpenLaw.row PySem.Challenge.rw_addalong_k02_names) (q := view (OpenLaw.row PySem.Challenge.rw_addalong_k02_names).prog [11]) (H := Vm.K02.hk) (ob := Vm.K02.ob) (M := 2000) (loose := Vm.K02.loose) (d := HandSHeadRun.topDef (OpenLaw.row PySem.Challenge.rw_addalong_k02_names).prog 11) (kwd := []) Vm.K02.ob_eq
    (by kernel_rfl) (fun s => by kernel_rfl) Vm.K02.run (by kernel_rfl) (by kernel_rfl) (by kernel_rfl) (by rfl) (by first | assumption | decide +kernel) (by decide +kernel) ⟨rfl, rfl, rfl, rfl, rfl, by decide +kernel⟩ ?hw ?hc
  case hw => w_witness2
  case hc =>
    refine Vm.walk_ofG (l := PySem.Challenge.rw_addalong_k02_names) (n := 63) (k := 7) (x := "_law_script") (S := Vm.K02.sta) rfl (by decide) (by kernel_rfl) ⟨rfl, by decide, by decide⟩ ?F
    intro w mg fa h Y G hmg0
    obtain ⟨K, KX, c⟩ := Y
    have hmg : mg ("law" : PySem.Str) = some (.ref fa) := by
      have e : (HandSHeadRun.topDef (OpenLaw.row PySem.Challenge.rw_addalong_k02_names).prog 11).name = ("law" : PySem.Str) := by kernel_rfl
      rw [← e]
      exact hmg0
    obtain ⟨fd, hb, hF⟩ := Vm.K02.facts (P := (PySem.Challenge.rw_addalong_k02_names).prog) (w := w) KX G hmg c
    exact ⟨K, fd, KX, hb, hF⟩

