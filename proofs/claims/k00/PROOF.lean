import PyProof.Rows.All
import Wide.All
import OpenK.AllK
import Wide.FinOn
import HandS.ForMost
import HandS.ForExc
import HandS.Wide
import HandS.WideBits
import HandS.Nested
import HandS.NestedHot
import HandS.ExcInit
import HandS.HeadHook1
import HandS.HeadHook2
import HandS.TupAny
import HandS.Deep
import PyProof.StrBlock2
import HandS.TupMul
import HandS.IsInst
import HandS.Gcd
import HandS.StrMore
import HandS.FStr
import HandS.Walk
import HandS.NoneIn
import HandS.Flow
import HandS.WordsExc
import HandS.Defaults
import HandS.HeadHook4
import HandS.TryMany
import HandS.Lambda
import HandS.HeadWalk
import KE.KDictZip
import KE.KItemsList
import HandS.Zip
import HandS.ListItems
import KE.GoesMore
import KE.KExcIs
import HandS.RaiseFrom
import KE.KStateDown
import HandS.Ends
import HandS.Head0
import HandS.Head1
import HandS.Head2
import HandS.HeadEnd
import HandS.Head3
import HandS.NestedK
import PySem.Challenge.RW_inkwright_k00_errors
section
set_option Elab.async false
set_option linter.all false
set_option maxRecDepth 100000
set_option maxHeartbeats 2000000
/-! Dn1: plain data, results, worlds, what stands for what. -/
namespace Dn
open PySem PySem.Spec PyProof.Rows L2

/-- plain data: never changed in place -/
inductive Dt where
  | non | bl (b : Bool) | int (i : Int) | str (s : List Nat) | tup (ds : List Dt) | lst (ds : List Dt)
  deriving Inhabited
/-- what a name may hold: plain data; the k-th object of the plain heap; an exception of an own class (its name, its field, what the field holds); the script -/
inductive Vx where
  | d (x : Dt) | r (k : Nat) | x (n f : PySem.Str) (p : Dt) | s (ns : List Int)
  deriving Inhabited
inductive Ob where
  | lst (vs : List Vx) | dead
abbrev DH := List Ob
inductive Rz (α : Type) where
  | ok (a : α) (h : DH) | err (c : Nat) (p : Dt) (h : DH) | stk
abbrev Mo (α : Type) := DH → Rz α
section
variable {α β : Type}
@[reducible] def ret (a : α) : Mo α := fun h => .ok a h
def bnd (m : Mo α) (k : α → Mo β) : Mo β := fun h => match m h with
  | .ok a h' => k a h'
  | .err c p h' => .err c p h'
  | .stk => .stk
def stk : Mo α := fun _ => .stk
def raise (c : Nat) (p : Dt) : Mo α := fun h => .err c p h
end

/-! ### what stands for what -/
def okS (s : List Nat) : Prop := s.length ≤ sizeLine ∧ ∀ c ∈ s, c < 0x110000
abbrev toStr (s : List Nat) : Str := ⟨s.toArray⟩
mutual
inductive RepD (K : PySem.W.Frag) (F : Hp) : V → Dt → Prop
  | non : RepD K F .non .non
  | bl (b : Bool) : RepD K F (.bl b) (.bl b)
  | int (i : Int) : RepD K F (.int i) (.int i)
  | str (s : List Nat) (h : okS s) : RepD K F (.str (toStr s)) (.str s)
  | tup {a : Addr} {vs : List V} {ds : List Dt} : SqT K F a vs → RepDs K F vs ds → RepD K F (.ref a) (.tup ds)
  | lst {a : Addr} {vs : List V} {ds : List Dt} : F a = some (.lst vs) → RepDs K F vs ds → RepD K F (.ref a) (.lst ds)
inductive RepDs (K : PySem.W.Frag) (F : Hp) : List V → List Dt → Prop
  | nil : RepDs K F [] []
  | cons {v : V} {d : Dt} {vs : List V} {ds : List Dt} : RepD K F v d → RepDs K F vs ds → RepDs K F (v :: vs) (d :: ds)
end
def HLe (F F' : Hp) : Prop := ∀ a o, F a = some o → F' a = some o
theorem HLe.refl (F : Hp) : HLe F F := fun _ _ h => h
theorem HLe.trans {F G H : Hp} (a : HLe F G) (b : HLe G H) : HLe F H := fun x o h => b x o (a x o h)
theorem SqL.le {K : PySem.W.Frag} {F F' : Hp} {a : Addr} {vs : List V} (h : SqL K F a vs) (le : HLe F F') : SqL K F' a vs := by
  rcases h with (h | ⟨o, h⟩) | h
  · exact .inl (.inl (le _ _ h))
  · exact .inl (.inr ⟨o, le _ _ h⟩)
  · exact .inr h
theorem SqT.le {K : PySem.W.Frag} {F F' : Hp} {a : Addr} {vs : List V} (h : SqT K F a vs) (le : HLe F F') : SqT K F' a vs := by
  rcases h with (h | ⟨o, h⟩) | h
  · exact .inl (.inl (le _ _ h))
  · exact .inl (.inr ⟨o, le _ _ h⟩)
  · exact .inr h
section
variable {K : PySem.W.Frag} {F F' : Hp}
mutual
theorem RepD.le (le : HLe F F') : ∀ {d : Dt} {v : V}, RepD K F v d → RepD K F' v d
  | .non, _, h => by cases h; exact .non
  | .bl _, _, h => by cases h; exact .bl _
  | .int _, _, h => by cases h; exact .int _
  | .str _, _, h => by cases h with | str _ h => exact .str _ h
  | .tup _, _, h => by cases h with | tup h1 h2 => exact .tup (SqT.le h1 le) (RepDs.le le h2)
  | .lst _, _, h => by cases h with | lst h1 h2 => exact .lst (le _ _ h1) (RepDs.le le h2)
theorem RepDs.le (le : HLe F F') : ∀ {ds : List Dt} {vs : List V}, RepDs K F vs ds → RepDs K F' vs ds
  | [], _, h => by cases h; exact .nil
  | _ :: _, _, h => by cases h with | cons h1 h2 => exact .cons (RepD.le le h1) (RepDs.le le h2)
end
theorem RepDs.length {vs : List V} {ds : List Dt} (h : RepDs K F vs ds) : vs.length = ds.length := by
  induction ds generalizing vs with
  | nil => cases h; rfl
  | cons d ds ih => cases h with | cons h1 h2 => simp [ih h2]
theorem RepDs.get {vs : List V} {ds : List Dt} (h : RepDs K F vs ds) {i : Nat} {d : Dt} (e : ds[i]? = some d) : ∃ v, vs[i]? = some v ∧ RepD K F v d := by
  induction ds generalizing vs i with
  | nil => simp at e
  | cons x ds ih =>
    cases h with
    | cons h1 h2 =>
      cases i with
      | zero => simp at e; subst e; exact ⟨_, rfl, h1⟩
      | succ i => obtain ⟨v, e1, e2⟩ := ih h2 (by simpa using e); exact ⟨v, by simpa using e1, e2⟩
theorem RepDs.getv {vs : List V} {ds : List Dt} (h : RepDs K F vs ds) {i : Nat} {v : V} (e : vs[i]? = some v) : ∃ d, ds[i]? = some d ∧ RepD K F v d := by
  induction ds generalizing vs i with
  | nil => cases h; simp at e
  | cons x ds ih =>
    cases h with
    | cons h1 h2 =>
      cases i with
      | zero => simp at e; subst e; exact ⟨_, rfl, h1⟩
      | succ i => obtain ⟨v, e1, e2⟩ := ih h2 (by simpa using e); exact ⟨v, by simpa using e1, e2⟩
theorem RepDs.append {vs ws : List V} {ds es : List Dt} (h : RepDs K F vs ds) (g : RepDs K F ws es) : RepDs K F (vs ++ ws) (ds ++ es) := by
  induction ds generalizing vs with
  | nil => cases h; exact g
  | cons x ds ih => cases h with | cons h1 h2 => exact .cons h1 (ih h2)
theorem RepDs.take {vs : List V} {ds : List Dt} (h : RepDs K F vs ds) (n : Nat) : RepDs K F (vs.take n) (ds.take n) := by
  induction ds generalizing vs n with
  | nil => cases h; simp; exact .nil
  | cons x ds ih =>
    cases h with
    | cons h1 h2 =>
      cases n with
      | zero => exact .nil
      | succ n => exact .cons h1 (ih h2 n)
theorem RepDs.drop {vs : List V} {ds : List Dt} (h : RepDs K F vs ds) (n : Nat) : RepDs K F (vs.drop n) (ds.drop n) := by
  induction ds generalizing vs n with
  | nil => cases h; simp; exact .nil
  | cons x ds ih =>
    cases h with
    | cons h1 h2 =>
      cases n with
      | zero => exact .cons h1 h2
      | succ n => exact ih h2 n
theorem RepDs.reverse {vs : List V} {ds : List Dt} (h : RepDs K F vs ds) : RepDs K F vs.reverse ds.reverse := by
  induction ds generalizing vs with
  | nil => cases h; exact .nil
  | cons x ds ih =>
    cases h with
    | cons h1 h2 =>
      rw [List.reverse_cons, List.reverse_cons]
      exact (ih h2).append (.cons h1 .nil)
end

/-! ### worlds -/
structure Wd where
  F : Hp
  θ : List Addr
def RepV (K : PySem.W.Frag) (W : Wd) (v : V) : Vx → Prop
  | .d x => RepD K W.F v x
  | .r k => ∃ a, W.θ[k]? = some a ∧ v = .ref a
  | .x n f p => ∃ (a dx : Addr) (y : V), v = .ref a ∧ W.F a = some (exo a (He.ga K n) (some dx)) ∧ W.F dx = some (exd dx [(f, y)]) ∧ RepD K W.F y p
  | .s ns => ∃ a, v = .ref a ∧ SqL K W.F a (ns.map V.int)
inductive RepVs (K : PySem.W.Frag) (W : Wd) : List V → List Vx → Prop
  | nil : RepVs K W [] []
  | cons {v : V} {y : Vx} {vs : List V} {ys : List Vx} : RepV K W v y → RepVs K W vs ys → RepVs K W (v :: vs) (y :: ys)
structure WLe (W W' : Wd) : Prop where
  F : HLe W.F W'.F
  θ : ∃ new, W'.θ = W.θ ++ new
theorem WLe.refl (W : Wd) : WLe W W := ⟨HLe.refl _, [], by simp⟩
theorem WLe.trans {A B C : Wd} (a : WLe A B) (b : WLe B C) : WLe A C := by
  obtain ⟨x, e1⟩ := a.θ
  obtain ⟨y, e2⟩ := b.θ
  exact ⟨a.F.trans b.F, x ++ y, by rw [e2, e1, List.append_assoc]⟩
theorem WLe.at_ {W W' : Wd} (le : WLe W W') {k : Nat} {a : Addr} (e : W.θ[k]? = some a) : W'.θ[k]? = some a := by
  obtain ⟨new, h⟩ := le.θ
  rw [h, List.getElem?_append_left (List.getElem?_eq_some_iff.mp e).1]
  exact e
section
variable {K : PySem.W.Frag} {W W' : Wd}
theorem RepV.le (le : WLe W W') {v : V} {y : Vx} (h : RepV K W v y) : RepV K W' v y := by
  cases y with
  | d x => exact RepD.le le.F h
  | r k => obtain ⟨a, e, rfl⟩ := h; exact ⟨a, le.at_ e, rfl⟩
  | x _ _ _ => obtain ⟨a, dx, y, rfl, e1, e2, e3⟩ := h; exact ⟨a, dx, y, rfl, le.F _ _ e1, le.F _ _ e2, RepD.le le.F e3⟩
  | s ns => obtain ⟨a, rfl, e⟩ := h; exact ⟨a, rfl, SqL.le e le.F⟩
theorem RepVs.le (le : WLe W W') {vs : List V} {ys : List Vx} (h : RepVs K W vs ys) : RepVs K W' vs ys := by
  induction h with
  | nil => exact .nil
  | cons h1 _ ih => exact .cons (h1.le le) ih
theorem RepVs.length {vs : List V} {ys : List Vx} (h : RepVs K W vs ys) : vs.length = ys.length := by
  induction h with
  | nil => rfl
  | cons h1 _ ih => simp [ih]
theorem RepVs.get {vs : List V} {ys : List Vx} (h : RepVs K W vs ys) : ∀ {i : Nat} {y : Vx}, ys[i]? = some y → ∃ v, vs[i]? = some v ∧ RepV K W v y := by
  induction h with
  | nil => intro i y e; simp at e
  | cons h1 _ ih =>
    intro i y e
    cases i with
    | zero => simp at e; subst e; exact ⟨_, rfl, h1⟩
    | succ i => obtain ⟨v, e1, e2⟩ := ih (by simpa using e); exact ⟨v, by simpa using e1, e2⟩
theorem RepVs.append {vs ws : List V} {ys zs : List Vx} (h : RepVs K W vs ys) (g : RepVs K W ws zs) : RepVs K W (vs ++ ws) (ys ++ zs) := by
  induction h with
  | nil => exact g
  | cons h1 _ ih => exact .cons h1 ih
theorem RepVs.set {vs : List V} {ys : List Vx} (h : RepVs K W vs ys) {v : V} {y : Vx} (g : RepV K W v y) : ∀ (i : Nat), RepVs K W (vs.set i v) (ys.set i y) := by
  induction h with
  | nil => intro i; simp; exact .nil
  | cons h1 h2 ih =>
    intro i
    cases i with
    | zero => exact .cons g h2
    | succ i => exact .cons h1 (ih i)
theorem RepVs.dropLast {vs : List V} {ys : List Vx} (h : RepVs K W vs ys) : RepVs K W vs.dropLast ys.dropLast := by
  induction h with
  | nil => exact .nil
  | @cons v y vs ys h1 h2 ih =>
    cases h2 with
    | nil => exact .nil
    | cons a b => exact .cons h1 ih
/-- values that are all plain data -/
def plains : List Vx → Option (List Dt)
  | [] => some []
  | .d x :: r => (match plains r with | some ds => some (x :: ds) | none => none)
  | _ :: _ => none
theorem plains_map (ds : List Dt) : plains (ds.map Vx.d) = some ds := by
  induction ds with
  | nil => rfl
  | cons x r ih => simp [plains, ih]
theorem RepVs.plain {vs : List V} {ys : List Vx} (h : RepVs K W vs ys) : ∀ {ds : List Dt}, plains ys = some ds → RepDs K W.F vs ds := by
  induction h with
  | nil => intro ds e; cases e; exact .nil
  | @cons v y vs ys h1 h2 ih =>
    intro ds e
    cases y with
    | d x =>
      unfold plains at e
      split at e
      · rename_i es he; cases e; exact .cons h1 (ih he)
      · cases e
    | r k => cases e
    | x _ _ _ => cases e
    | s _ => cases e
theorem RepVs.of_plain {vs : List V} {ds : List Dt} (h : RepDs K W.F vs ds) : RepVs K W vs (ds.map Vx.d) := by
  induction ds generalizing vs with
  | nil => cases h; exact .nil
  | cons x r ih => cases h with | cons h1 h2 => exact .cons h1 (ih h2)
end

/-- what the code objects' tables tell of the program -/
abbrev Tbs := List NdefX.NTab
def notTbl (o : HO) : Prop := ∀ ps, o ≠ .tbl ps

def ObRep (K : PySem.W.Frag) (W : Wd) (H : Hp) (a : Addr) : Ob → Prop
  | .lst ys => ∃ xs, H a = some (.lst xs) ∧ RepVs K W xs ys
  | .dead => ∃ xs, H a = some (.lst xs)
/-- the heap h stands in H -/
structure HRel (K : PySem.W.Frag) (T : Tbs) (W : Wd) (H : Hp) (h : DH) : Prop where
  fro : HLe W.F H
  ntb : ∀ a o, W.F a = some o → notTbl o
  len : W.θ.length = h.length
  obj : ∀ (k : Nat) (a : Addr) (o : Ob), W.θ[k]? = some a → h[k]? = some o → ObRep K W H a o
  liv : ∀ (k : Nat) (a : Addr) (o : Ob), W.θ[k]? = some a → h[k]? = some o → o ≠ .dead → W.F a = none
  nd : W.θ.Nodup
  tab : NdefX.TabsN T H
/-- from W, H to W', H' -/
structure Ext (W : Wd) (H : Hp) (W' : Wd) (H' : Hp) : Prop where
  F : HLe W.F W'.F
  θ : ∃ new, W'.θ = W.θ ++ new ∧ ∀ a ∈ new, H a = none
  frame : ∀ a o, H a = some o → a ∉ W.θ → notTbl o → H' a = some o
  dom : ∀ a, H' a = none → H a = none
  newF : ∀ a o, W'.F a = some o → W.F a = some o ∨ H a = none ∨ a ∈ W.θ
section
variable {K : PySem.W.Frag} {T : Tbs} {W W1 W2 : Wd} {H H1 H2 : Hp} {h : DH}
theorem Ext.le (e : Ext W H W1 H1) : WLe W W1 := ⟨e.F, let ⟨n, h, _⟩ := e.θ; ⟨n, h⟩⟩
theorem Ext.refl (W : Wd) (H : Hp) : Ext W H W H := ⟨HLe.refl _, ⟨[], by simp, by simp⟩, fun _ _ h _ _ => h, fun _ h => h, fun _ _ h => .inl h⟩
theorem Ext.trans (a : Ext W H W1 H1) (b : Ext W1 H1 W2 H2) : Ext W H W2 H2 := by
  obtain ⟨n1, e1, f1⟩ := a.θ
  obtain ⟨n2, e2, f2⟩ := b.θ
  refine ⟨a.F.trans b.F, ⟨n1 ++ n2, by rw [e2, e1, List.append_assoc], fun x hx => ?_⟩, fun x o hx hn nt => ?_, fun x hx => a.dom x (b.dom x hx), fun x o hx => ?_⟩
  · rcases List.mem_append.mp hx with hx | hx
    · exact f1 x hx
    · exact a.dom x (f2 x hx)
  · refine b.frame x o (a.frame x o hx hn nt) (fun hm => ?_) nt
    rw [e1] at hm
    rcases List.mem_append.mp hm with hm | hm
    · exact hn hm
    · rw [f1 x hm] at hx; cases hx
  · rcases b.newF x o hx with h | h | h
    · exact a.newF x o h
    · exact .inr (.inl (a.dom x h))
    · rw [e1] at h
      rcases List.mem_append.mp h with h | h
      · exact .inr (.inr h)
      · exact .inr (.inl (f1 x h))
theorem SqL.of_rel (r : HRel K T W H h) {a : Addr} {vs : List V} (s : SqL K W.F a vs) : SqL K H a vs := SqL.le s r.fro
theorem SqT.of_rel (r : HRel K T W H h) {a : Addr} {vs : List V} (s : SqT K W.F a vs) : SqT K H a vs := SqT.le s r.fro
/-- a new thing that is known for good -/
theorem HRel.new (r : HRel K T W H h) {p : Addr} {o : HO} (np : H p = none) (nt : notTbl o) :
    HRel K T ⟨upd W.F p o, W.θ⟩ (upd H p o) h ∧ Ext W H ⟨upd W.F p o, W.θ⟩ (upd H p o) := by
  have fp : W.F p = none := by
    cases q : W.F p with
    | none => rfl
    | some u => rw [r.fro _ _ q] at np; cases np
  have le : HLe W.F (upd W.F p o) := fun a u e => by rw [upd_ne (ne_of_none e fp)]; exact e
  have leH : HLe H (upd H p o) := fun a u e => by rw [upd_ne (ne_of_none e np)]; exact e
  have hwl : WLe W ⟨upd W.F p o, W.θ⟩ := ⟨le, [], by simp⟩
  refine ⟨⟨fun a u e => ?_, fun a u e => ?_, r.len, fun k a u e1 e2 => ?_, fun k a u e1 e2 nd => ?_, r.nd, r.tab.ext leH⟩, le, ⟨[], by simp, by simp⟩, fun a u e _ _ => leH a u e, fun a e => ?_, fun a u e => ?_⟩
  · by_cases q : a = p
    · subst q; simp only [upd_same] at e ⊢; exact e
    · simp only [upd_ne q] at e ⊢; exact r.fro a u e
  · by_cases q : a = p
    · subst q; simp only [upd_same] at e; cases e; exact nt
    · simp only [upd_ne q] at e; exact r.ntb a u e
  · have hh := r.obj k a u e1 e2
    cases u with
    | lst ys => obtain ⟨xs, h1, h2⟩ := hh; exact ⟨xs, leH _ _ h1, h2.le hwl⟩
    | dead => obtain ⟨xs, h1⟩ := hh; exact ⟨xs, leH _ _ h1⟩
  · have hh := r.obj k a u e1 e2
    have hn : a ≠ p := by
      cases u with
      | lst ys => obtain ⟨xs, h1, _⟩ := hh; exact ne_of_none h1 np
      | dead => obtain ⟨xs, h1⟩ := hh; exact ne_of_none h1 np
    simp only [upd_ne hn]
    exact r.liv k a u e1 e2 nd
  · by_cases q : a = p
    · subst q; rw [upd_same] at e; cases e
    · rw [upd_ne q] at e; exact e
  · by_cases q : a = p
    · subst q; exact .inr (.inl np)
    · simp only [upd_ne q] at e; exact .inl e
end
end Dn
end
section
set_option Elab.async false
set_option linter.all false
set_option maxRecDepth 100000
set_option maxHeartbeats 2000000
/-! Dn2: results and what is wanted of them; a function on plain values as a reading; expressions' glue. -/
namespace Dn
open PySem PySem.Spec PyProof.Rows L2

abbrev DEnv := List (Option Vx)
/-- the exceptions of the program: the class's name, its field -/
abbrev Exs := List (Str × Str)
def RepX (K : PySem.W.Frag) (xs : Exs) (W : Wd) (H : Hp) (cls : Value) (dd : Option Addr) (c : Nat) (p : Dt) : Prop :=
  ∃ n f, xs[c]? = some (n, f) ∧ cls = .ref (He.ga K n) ∧ ∃ d v, dd = some d ∧ H d = some (.xd [(f, v)]) ∧ RepD K W.F v p
/-- the parameters of a program -/
structure Gp where
  xs : Exs
  T : Tbs
def Post {α β : Type} (K : PySem.W.Frag) (g : Gp) (R : Wd → β → α → Prop) (W : Wd) (H : Hp) (r : Rz α) (Q : β → Hp → Prop) (E : XK) : Prop :=
  match r with
  | .ok y h' => ∀ W' v H', Ext W H W' H' → HRel K g.T W' H' h' → R W' v y → Q v H'
  | .err c p h' => ∀ W' cls dd H', Ext W H W' H' → HRel K g.T W' H' h' → RepX K g.xs W' H' cls dd c p → E cls dd H'
  | .stk => False
structure ERel (K : PySem.W.Frag) (W : Wd) (σ : L2.St) (ρ : DEnv) : Prop where
  len : σ.length = ρ.length
  at_ : ∀ (i : Nat) (y : Vx), ρ[i]? = some (some y) → ∃ v, σ[i]? = some (some v) ∧ RepV K W v y
def Lf {α β : Type} (K : PySem.W.Frag) (g : Gp) (R : Wd → β → α → Prop) (Wx : WX) (f : DEnv → Mo α) (σ : L2.St) (H : Hp) (Q : β → Hp → Prop) : Prop :=
  ∃ W ρ h, HRel K g.T W H h ∧ ERel K W σ ρ ∧ Post K g R W H (f ρ h) Q (fun c d H' => Wx c d σ H')
section
variable {K : PySem.W.Frag} {g : Gp} {W W1 : Wd} {H H1 : Hp} {h : DH} {α β γ δ : Type} {R : Wd → β → α → Prop} {S : Wd → δ → γ → Prop} {σ : L2.St} {ρ : DEnv} {Wx : WX}
theorem ERel.le (e : ERel K W σ ρ) (le : WLe W W1) : ERel K W1 σ ρ := ⟨e.len, fun i y h => let ⟨v, h1, h2⟩ := e.at_ i y h; ⟨v, h1, h2.le le⟩⟩
theorem ERel.set (e : ERel K W σ ρ) {i : Nat} {v : V} {y : Vx} (r : RepV K W v y) : ERel K W (σ.set i (some v)) (ρ.set i (some y)) := by
  refine ⟨by simpa using e.len, fun j z hz => ?_⟩
  by_cases hj : i = j
  · subst hj
    have hlt : i < ρ.length := by
      have := (List.getElem?_eq_some_iff.mp hz).1
      simpa using this
    rw [List.getElem?_set_self hlt] at hz
    cases hz
    exact ⟨v, by rw [List.getElem?_set_self (by rw [e.len]; exact hlt)], r⟩
  · rw [List.getElem?_set_ne hj] at hz ⊢
    exact e.at_ j z hz
theorem Post.imp {r : Rz α} {Q Q' : β → Hp → Prop} {E E' : XK} (p : Post K g R W H r Q E) (hQ : ∀ v H', Q v H' → Q' v H') (hE : ∀ c d H', E c d H' → E' c d H') : Post K g R W H r Q' E' := by
  cases r with
  | ok y h' => exact fun W' v H' e q rr => hQ _ _ (p W' v H' e q rr)
  | err c p' h' => exact fun W' cls dd H' e q rr => hE _ _ _ (p W' cls dd H' e q rr)
  | stk => exact p
/-- from an earlier place -/
theorem Post.later {r : Rz α} {Q : β → Hp → Prop} {E : XK} (p : Post K g R W H r Q E) (e : Ext W H W1 H1) : Post K g R W1 H1 r Q E := by
  cases r with
  | ok y h' => exact fun W' v H' e' q rr => p W' v H' (e.trans e') q rr
  | err c p' h' => exact fun W' cls dd H' e' q rr => p W' cls dd H' (e.trans e') q rr
  | stk => exact p
/-- first m, then k -/
theorem Post.bnd {m : Mo α} {k : α → Mo γ} {Q : δ → Hp → Prop} {E : XK} (p : Post K g S W H (bnd m k h) Q E) :
    Post K g R W H (m h) (fun v H1 => ∃ W1 y h1, Ext W H W1 H1 ∧ HRel K g.T W1 H1 h1 ∧ R W1 v y ∧ Post K g S W1 H1 (k y h1) Q E) E := by
  unfold Dn.bnd at p
  cases e : m h with
  | ok y h1 =>
    rw [e] at p
    exact fun W' v H' ex q rr => ⟨W', y, h1, ex, q, rr, p.later ex⟩
  | err c p' h' =>
    rw [e] at p
    exact fun W' cls dd H' ex q rr => p W' cls dd H' ex q rr
  | stk => rw [e] at p; exact p
theorem Post.ret {y : α} {v : β} {Q : β → Hp → Prop} {E : XK} (p : Post K g R W H (.ok y h) Q E) (r : HRel K g.T W H h) (rr : R W v y) : Q v H := p W v H (Ext.refl _ _) r rr
/-- a new thing known for good, as the answer -/
theorem Post.new {y : α} {p : Addr} {o : HO} {Q : β → Hp → Prop} {E : XK} {v : β} (P : Post K g R W H (.ok y h) Q E) (r : HRel K g.T W H h) (np : H p = none) (nt : notTbl o) (rr : R ⟨upd W.F p o, W.θ⟩ v y) : Q v (upd H p o) :=
  let ⟨a, b⟩ := r.new np nt
  P _ v _ b a rr
theorem Lf.bnd {m : DEnv → Mo α} {k : DEnv → α → Mo γ} {Q : δ → Hp → Prop} (p : Lf K g S Wx (fun ρ => bnd (m ρ) (k ρ)) σ H Q) :
    Lf K g R Wx m σ H (fun v H1 => ∃ W1 ρ y h1, HRel K g.T W1 H1 h1 ∧ ERel K W1 σ ρ ∧ R W1 v y ∧ Post K g S W1 H1 (k ρ y h1) Q (fun c d H' => Wx c d σ H')) := by
  obtain ⟨W, ρ, h, hr, er, p⟩ := p
  refine ⟨W, ρ, h, hr, er, (Post.bnd (R := R) p).imp (fun v H1 ⟨W1, y, h1, ex, hr1, rr, p1⟩ => ⟨W1, ρ, y, h1, hr1, er.le ex.le, rr, p1⟩) fun _ _ _ q => q⟩
theorem Lf.imp {m : DEnv → Mo α} {Q Q' : β → Hp → Prop} (p : Lf K g R Wx m σ H Q) (hQ : ∀ v H', Q v H' → Q' v H') : Lf K g R Wx m σ H Q' := by
  obtain ⟨W, ρ, h, hr, er, p⟩ := p
  exact ⟨W, ρ, h, hr, er, p.imp hQ fun _ _ _ q => q⟩
end
end Dn
namespace L2
open PySem PySem.Spec PyProof.Rows
theorem PE.imp {X : Cx} {e : Expr} {t t' : TE} (h : PE X e t) (q : ∀ σ H Q, t' σ H Q → t σ H Q) : PE X e t' := ⟨fun pins s σ H Q I w => h.run pins s σ H Q I (q σ H Q w)⟩
theorem PT.imp {X : Cx} {e : Expr} {t t' : TT} (h : PT X e t) (q : ∀ σ H Q, t' σ H Q → t σ H Q) : PT X e t' := ⟨fun pins s σ H Q I w => h.run pins s σ H Q I (q σ H Q w)⟩
theorem PW.imp {X : Cx} {e : Expr} {t t' : TT} (h : PW X e t) (q : ∀ σ H Q, t' σ H Q → t σ H Q) : PW X e t' := ⟨fun wh pins s σ H Q I w => h.run wh pins s σ H Q I (q σ H Q w)⟩
theorem PA.imp {X : Cx} {e : List Expr} {t t' : TA} (h : PA X e t) (q : ∀ σ H Q, t' σ H Q → t σ H Q) : PA X e t' := ⟨fun pos pins s σ H Q I w => h.run pos pins s σ H Q I (q σ H Q w)⟩
theorem PS.imp {X : Cx} {e : Stmt} {t t' : TS} (h : PS X e t) (q : ∀ D σ H, t' D σ H → t D σ H) : PS X e t' := ⟨fun pins s σ H Q I w => h.run pins s σ H Q I (q Q σ H w)⟩
theorem PSs.imp {X : Cx} {e : List Stmt} {t t' : TS} (h : PSs X e t) (q : ∀ D σ H, t' D σ H → t D σ H) : PSs X e t' := ⟨fun pins s σ H Q I w => h.run pins s σ H Q I (q Q σ H w)⟩

end L2
namespace Dn
open PySem PySem.Spec PyProof.Rows L2
/-! ### the readings -/
abbrev LE (K : PySem.W.Frag) (g : Gp) (Wx : WX) (f : DEnv → Mo Vx) : TE := Lf K g (fun W v y => RepV K W v y) Wx f
abbrev LT (K : PySem.W.Frag) (g : Gp) (Wx : WX) (f : DEnv → Mo Bool) : TT := Lf K g (fun _ (b c : Bool) => b = c) Wx f
abbrev LA (K : PySem.W.Frag) (g : Gp) (Wx : WX) (f : DEnv → Mo (List Vx)) : TA := Lf K g (fun W vs ys => RepVs K W vs ys) Wx f
/-- a rule on two values -/
def OpD (X : Cx) (g : Gp) (f : Value → Value → Sem Value) (dop : Vx → Vx → Mo Vx) : Prop :=
  ∃ r : R2, OpR X f r ∧ ∀ (W : Wd) (H : Hp) (h : DH) (x y : V) (a b : Vx) (Q : VK) (E : XK), HRel X.K g.T W H h → RepV X.K W x a → RepV X.K W y b → Post X.K g (fun W v y => RepV X.K W v y) W H (dop a b h) Q E → r x y H Q
def UnD (X : Cx) (g : Gp) (f : Value → Sem Value) (dop : Vx → Mo Vx) : Prop :=
  ∃ r : V → Hp → VK → Prop, UnR X f r ∧ ∀ (W : Wd) (H : Hp) (h : DH) (x : V) (a : Vx) (Q : VK) (E : XK), HRel X.K g.T W H h → RepV X.K W x a → Post X.K g (fun W v y => RepV X.K W v y) W H (dop a h) Q E → r x H Q
def CallD (X : Cx) (g : Gp) (f : Value) (dop : List Vx → Mo Vx) : Prop :=
  ∃ r : List V → Hp → VK → Prop, CallR X f r ∧ ∀ (W : Wd) (H : Hp) (h : DH) (xs : List V) (as : List Vx) (Q : VK) (E : XK), HRel X.K g.T W H h → RepVs X.K W xs as → Post X.K g (fun W v y => RepV X.K W v y) W H (dop as h) Q E → r xs H Q
section
variable {X : Cx} {g : Gp} {Wx : WX} {a b c : Expr} {fa fb fc : DEnv → Mo Vx} {ft : DEnv → Mo Bool} {pos : Pos}
def eBin (dop : Vx → Vx → Mo Vx) (fa fb : DEnv → Mo Vx) : DEnv → Mo Vx := fun ρ => bnd (fa ρ) fun x => bnd (fb ρ) fun y => dop x y
def eUn (dop : Vx → Mo Vx) (fa : DEnv → Mo Vx) : DEnv → Mo Vx := fun ρ => bnd (fa ρ) dop
theorem two_ {r : R2} {dop : Vx → Vx → Mo Vx} (hd : ∀ (W : Wd) (H : Hp) (h : DH) (x y : V) (a b : Vx) (Q : VK) (E : XK), HRel X.K g.T W H h → RepV X.K W x a → RepV X.K W y b → Post X.K g (fun W v y => RepV X.K W v y) W H (dop a b h) Q E → r x y H Q)
    {σ : L2.St} {H : Hp} {Q : VK} (p : LE X.K g Wx (eBin dop fa fb) σ H Q) : tOp r (LE X.K g Wx fa) (LE X.K g Wx fb) σ H Q := by
  refine Lf.imp (Lf.bnd (R := fun W v y => RepV X.K W v y) p) fun v H1 ⟨W1, ρ, y, h1, hr1, er, rr, p1⟩ => ?_
  refine ⟨W1, ρ, h1, hr1, er, (Post.bnd (R := fun W v y => RepV X.K W v y) p1).imp (fun v2 H2 ⟨W2, y2, h2, ex, hr2, rr2, p2⟩ => ?_) fun _ _ _ q => q⟩
  exact hd W2 H2 h2 v v2 y y2 Q _ hr2 (RepV.le ex.le rr) rr2 p2
theorem pd_op {op : Operator} {dop : Vx → Vx → Mo Vx} (ho : OpD X g (binaryOp op) dop) (ha : PE X a (LE X.K g Wx fa)) (hb : PE X b (LE X.K g Wx fb)) : PE X (.BinOp a op b pos) (LE X.K g Wx (eBin dop fa fb)) := by
  obtain ⟨r, h1, h2⟩ := ho
  exact (pe_op h1 ha hb).imp fun σ H Q p => two_ h2 p
theorem pd_cmp {op : CmpOp} {dop : Vx → Vx → Mo Vx} (ho : OpD X g (compareOp op) dop) (ha : PE X a (LE X.K g Wx fa)) (hb : PE X b (LE X.K g Wx fb)) (hm : behindInMarks op b = false) : PE X (.Compare a [op] [b] pos) (LE X.K g Wx (eBin dop fa fb)) := by
  obtain ⟨r, h1, h2⟩ := ho
  exact (pe_cmpR h1 ha hb hm).imp fun σ H Q p => two_ h2 p
theorem pd_un {op : UnaryOp} {dop : Vx → Mo Vx} (ho : UnD X g (unaryOp op) dop) (ha : PE X a (LE X.K g Wx fa)) : PE X (.UnaryOp op a pos) (LE X.K g Wx (eUn dop fa)) := by
  obtain ⟨r, h1, h2⟩ := ho
  refine (pe_un h1 ha).imp fun σ H Q p => ?_
  refine Lf.imp (Lf.bnd (R := fun W v y => RepV X.K W v y) p) fun v H1 ⟨W1, ρ, y, h1, hr1, er, rr, p1⟩ => ?_
  exact h2 W1 H1 h1 v y Q _ hr1 rr p1

/-! names and constants -/
def eVar (i : Nat) : DEnv → Mo Vx := fun ρ h => match ρ[i]? with
  | some (some y) => .ok y h
  | _ => .stk
def eC (d : Dt) : DEnv → Mo Vx := fun _ => ret (.d d)
theorem pd_var {i : Nat} {x : Str} (hN : X.N[i]? = some x) (hv : Vis X.env.scope x) (hd : (x == ("__debug__" : Str)) = false) (hcd : (x == ("__classdict__" : Str)) = false) : PE X (.Name x pos) (LE X.K g Wx (eVar i)) := by
  refine (pe_var hN hv hd hcd).imp fun σ H Q p => ?_
  obtain ⟨W, ρ, h, hr, er, p⟩ := p
  unfold eVar at p
  split at p
  · rename_i y e
    obtain ⟨v, e1, e2⟩ := er.at_ i y e
    exact ⟨v, e1, p.ret hr e2⟩
  · exact p.elim
theorem lf_c {d : Dt} {v : V} (r : ∀ F, RepD X.K F v d) {σ : L2.St} {H : Hp} {Q : VK} (p : LE X.K g Wx (eC d) σ H Q) : Q v H := by
  obtain ⟨W, ρ, h, hr, er, p⟩ := p
  exact p.ret hr (r W.F)
theorem pd_int {i : Int} {j : Nat} : PE X (.Constant (.int i) j pos) (LE X.K g Wx (eC (.int i))) := pe_int.imp fun σ H Q p => lf_c (fun _ => .int i) p
theorem pd_bl {i : Bool} {j : Nat} : PE X (.Constant (.bool i) j pos) (LE X.K g Wx (eC (.bl i))) := pe_bl.imp fun σ H Q p => lf_c (fun _ => .bl i) p
theorem pd_non {j : Nat} : PE X (.Constant .none j pos) (LE X.K g Wx (eC .non)) := pe_non.imp fun σ H Q p => lf_c (fun _ => .non) p
theorem pd_str {s : List Nat} {x : Str} {j : Nat} (e : x = toStr s) (ok : okS s) : PE X (.Constant (.str x) j pos) (LE X.K g Wx (eC (.str s))) := by
  subst e
  exact pe_str.imp fun σ H Q p => lf_c (fun _ => .str s ok) p
/-- a module's constant -/
theorem pd_glob {x : Str} {v : V} {u : Value} {d : Dt} (hg : Gl X x) (hm : X.mg x = some u) (r : RelV v u) (rd : RepD X.K (fun _ => none) v d) (hd : (x == ("__debug__" : Str)) = false) : PE X (.Name x pos) (LE X.K g Wx (eC d)) :=
  (pe_glob hg hm r hd).imp fun σ H Q p => lf_c (fun F => RepD.le (fun _ o z => absurd (show (none : Option HO) = some o from z) (by simp)) rd) p

/-! truth, tests -/
def truD : Vx → DH → Option Bool
  | .d .non, _ => some false
  | .d (.bl b), _ => some b
  | .d (.int i), _ => some (!decide (i = 0))
  | .d (.str s), _ => some (!s.isEmpty)
  | .d (.tup ds), _ => some (!ds.isEmpty)
  | .d (.lst ds), _ => some (!ds.isEmpty)
  | .r k, h => (match h[k]? with | some (.lst ys) => some (!ys.isEmpty) | _ => none)
  | .x _ _ _, _ => none
  | .s _, _ => none
def truM (y : Vx) : Mo Bool := fun h => match truD y h with
  | some b => .ok b h
  | none => .stk
def tVal (fa : DEnv → Mo Vx) : DEnv → Mo Bool := fun ρ => bnd (fa ρ) truM
theorem tru_rep {W : Wd} {H : Hp} {h : DH} {v : V} {y : Vx} {b : Bool} (hr : HRel X.K g.T W H h) (r : RepV X.K W v y) (e : truD y h = some b) : TruV X.K v H b := by
  cases y with
  | d x =>
    cases x with
    | non => cases r; cases e; rfl
    | bl c => cases r; cases e; rfl
    | int i =>
      cases r; cases e
      show (!decide (i = 0)) = (i != 0)
      rw [bne, Bool.beq_eq_decide_eq]
    | str s =>
      cases r with
      | str _ ok =>
        cases e
        refine ⟨by have := ok.1; show (toStr s).cps.size ≤ _; simpa using this, ?_⟩
        show (!s.isEmpty) = (((s.toArray.size : Nat) : Int) != 0)
        cases s <;> simp <;> omega
    | tup ds =>
      cases r with
      | tup h1 h2 =>
        cases e
        refine .inr (.inl ⟨_, SqT.of_rel hr h1, ?_⟩)
        have := h2.length
        cases ds <;> cases h2 <;> rfl
    | lst ds =>
      cases r with
      | lst h1 h2 =>
        cases e
        refine .inl ⟨_, SqL.of (hr.fro _ _ h1), ?_⟩
        cases ds <;> cases h2 <;> rfl
  | r k =>
    obtain ⟨a, e1, rfl⟩ := r
    have e : (match h[k]? with | some (.lst ys) => some (!ys.isEmpty) | _ => none) = some b := e
    split at e
    · rename_i ys hk
      cases e
      obtain ⟨xs, hx, hv⟩ := hr.obj k a _ e1 hk
      refine .inl ⟨xs, .inl (.inl hx), ?_⟩
      cases hv <;> rfl
    · cases e
  | x _ _ _ => cases e
  | s _ => cases e
theorem lt_val {σ : L2.St} {H : Hp} {Q : Bool → Hp → Prop} (p : LT X.K g Wx (tVal fa) σ H Q) : LE X.K g Wx fa σ H (fun x H1 => ∃ k, TruV X.K x H1 k ∧ Q k H1) := by
  refine Lf.imp (Lf.bnd (R := fun W v y => RepV X.K W v y) p) fun v H1 ⟨W1, ρ, y, h1, hr1, er, rr, p1⟩ => ?_
  unfold truM at p1
  split at p1
  · rename_i b e
    exact ⟨b, tru_rep hr1 rr e, p1.ret hr1 rfl⟩
  · exact p1.elim
/-- a test by an expression that is no not, and, or, comparison, if-expression -/
theorem pdt_val (ha : PE X a (LE X.K g Wx fa)) (he : ∀ whole, isTrue a X.env whole = (do let v ← whole; standAt a.pos; holding [v] (truthy v))) : PT X a (LT X.K g Wx (tVal fa)) :=
  (pt_truth ha he).imp fun σ H Q p => lt_val p
def tNotD (ft : DEnv → Mo Bool) : DEnv → Mo Bool := fun ρ => bnd (ft ρ) fun b => ret (!b)
theorem pdt_not (ha : PT X a (LT X.K g Wx ft)) : PT X (.UnaryOp .Not a pos) (LT X.K g Wx (tNotD ft)) := by
  refine (pt_not ha).imp fun σ H Q p => ?_
  refine Lf.imp (Lf.bnd (R := fun _ (b c : Bool) => b = c) p) fun v H1 ⟨W1, ρ, y, h1, hr1, er, rr, p1⟩ => ?_
  subst rr
  exact p1.ret hr1 rfl
end
end Dn
end
section
set_option Elab.async false
set_option linter.all false
set_option maxRecDepth 100000
set_option maxHeartbeats 2000000
/-! Dn3: operators on plain values. -/
namespace Dn
open PySem PySem.Spec PyProof.Rows L2

/-! ### helpers -/
abbrev RV (K : PySem.W.Frag) : Wd → V → Vx → Prop := fun W v y => RepV K W v y
/-- the list that a value is -/
def asL : Vx → DH → Option (List Vx)
  | .d (.lst ds), _ => some (ds.map Vx.d)
  | .r k, h => (match h[k]? with | some (.lst ys) => some ys | _ => none)
  | _, _ => none
/-- the data that a value is -/
def asD : Vx → DH → Option Dt
  | .d x, _ => some x
  | .r k, h => (match h[k]? with | some (.lst ys) => (match plains ys with | some ds => some (.lst ds) | none => none) | _ => none)
  | _, _ => none
section
variable {K : PySem.W.Frag} {g : Gp} {W : Wd} {H : Hp} {h : DH} {v : V} {y : Vx}
theorem asL_rep (hr : HRel K g.T W H h) (r : RepV K W v y) {ys : List Vx} (e : asL y h = some ys) : ∃ a xs, v = .ref a ∧ H a = some (.lst xs) ∧ RepVs K W xs ys := by
  cases y with
  | d x =>
    cases x with
    | lst ds =>
      cases e
      cases r with
      | lst h1 h2 => exact ⟨_, _, rfl, hr.fro _ _ h1, .of_plain h2⟩
    | _ => cases e
  | r k =>
    obtain ⟨a, e1, rfl⟩ := r
    have e : (match h[k]? with | some (.lst ys) => some ys | _ => none) = some ys := e
    split at e
    · rename_i zs hk
      cases e
      obtain ⟨xs, hx, hv⟩ := hr.obj k a _ e1 hk
      exact ⟨a, xs, rfl, hx, hv⟩
    · cases e
  | x _ _ _ => cases e
  | s _ => cases e
/-- data as it stands now -/
inductive RepN (K : PySem.W.Frag) (F H : Hp) : V → Dt → Prop
  | of {v : V} {d : Dt} : RepD K F v d → RepN K F H v d
  | now {a : Addr} {vs : List V} {ds : List Dt} : H a = some (.lst vs) → RepDs K F vs ds → RepN K F H (.ref a) (.lst ds)
theorem asD_rep (hr : HRel K g.T W H h) (r : RepV K W v y) {x : Dt} (e : asD y h = some x) : RepN K W.F H v x := by
  cases y with
  | d x => cases e; exact .of r
  | r k =>
    obtain ⟨a, e1, rfl⟩ := r
    have e : (match h[k]? with | some (.lst ys) => (match plains ys with | some ds => some (Dt.lst ds) | none => none) | _ => none) = some x := e
    split at e
    · rename_i zs hk
      split at e
      · rename_i ds hd
        cases e
        obtain ⟨xs, hx, hv⟩ := hr.obj k a _ e1 hk
        exact .now hx (hv.plain hd)
      · cases e
    · cases e
  | x _ _ _ => cases e
  | s _ => cases e
end

/-! ### data as the library's data -/
mutual
def pyd : Dt → PyData
  | .non => .none
  | .bl b => .bool b
  | .int i => .int i
  | .str s => .str (toStr s)
  | .tup ds => .tuple (pyds ds)
  | .lst ds => .list (pyds ds)
def pyds : List Dt → List PyData
  | [] => []
  | d :: r => pyd d :: pyds r
end
mutual
def deq : Dt → Dt → Bool
  | .non, .non => true
  | .bl a, .bl b => a == b
  | .bl a, .int j => decide ((if a then 1 else 0) = j)
  | .int i, .bl b => decide (i = (if b then 1 else 0))
  | .int i, .int j => decide (i = j)
  | .str s, .str t => decide (s = t)
  | .tup xs, .tup ys => deqs xs ys
  | .lst xs, .lst ys => deqs xs ys
  | .non, .bl _ | .non, .int _ | .non, .str _ | .non, .lst _ | .non, .tup _ => false
  | .bl _, .non | .bl _, .str _ | .bl _, .lst _ | .bl _, .tup _ => false
  | .int _, .non | .int _, .str _ | .int _, .lst _ | .int _, .tup _ => false
  | .str _, .non | .str _, .bl _ | .str _, .int _ | .str _, .lst _ | .str _, .tup _ => false
  | .lst _, .non | .lst _, .bl _ | .lst _, .int _ | .lst _, .str _ | .lst _, .tup _ => false
  | .tup _, .non | .tup _, .bl _ | .tup _, .int _ | .tup _, .str _ | .tup _, .lst _ => false
def deqs : List Dt → List Dt → Bool
  | [], [] => true
  | x :: xs, y :: ys => deq x y && deqs xs ys
  | [], _ :: _ => false
  | _ :: _, [] => false
end
mutual
def dep : Dt → Nat
  | .tup ds => deps ds + 1
  | .lst ds => deps ds + 1
  | .non => 0 | .bl _ => 0 | .int _ => 0 | .str _ => 0
def deps : List Dt → Nat
  | [] => 0
  | d :: r => max (dep d) (deps r)
end
theorem toStr_inj {s t : List Nat} (e : toStr s = toStr t) : s = t := by
  have : (toStr s).cps.toList = (toStr t).cps.toList := by rw [e]
  simpa using this
mutual
theorem eqv_pyd : ∀ (a b : Dt), PyData.eqv (pyd a) (pyd b) = deq a b := by
  intro a b
  cases a <;> cases b <;> simp only [pyd, PyData.eqv, deq]
  case bl.int a j => cases a <;> simp [Bool.beq_eq_decide_eq]
  case int.bl i b => cases b <;> simp [Bool.beq_eq_decide_eq]
  case int.int i j => simp [Bool.beq_eq_decide_eq]
  case str.str s t =>
    rw [Bool.beq_eq_decide_eq]
    by_cases e : s = t
    · subst e; simp
    · rw [decide_eq_false e, decide_eq_false fun z => e (toStr_inj z)]
  case tup.tup xs ys => exact eqv_pyds xs ys
  case lst.lst xs ys => exact eqv_pyds xs ys
theorem eqv_pyds : ∀ (xs ys : List Dt), PyData.eqvAll (pyds xs) (pyds ys) = deqs xs ys := by
  intro xs ys
  cases xs with
  | nil => cases ys <;> simp only [pyds, PyData.eqvAll, deqs]
  | cons x xs =>
    cases ys with
    | nil => simp only [pyds, PyData.eqvAll, deqs]
    | cons y ys => simp only [pyds, PyData.eqvAll, deqs]; rw [eqv_pyd x y, eqv_pyds xs ys]
end
mutual
theorem dep_pyd : ∀ (a : Dt), (pyd a).depth = dep a := by
  intro a
  cases a <;> simp only [pyd, PyData.depth, dep]
  case tup ds => rw [deps_pyd ds]
  case lst ds => rw [deps_pyd ds]
theorem deps_pyd : ∀ (xs : List Dt), PyData.depthAll (pyds xs) = deps xs := by
  intro xs
  cases xs with
  | nil => simp only [pyds, PyData.depthAll, deps]
  | cons x xs => simp only [pyds, PyData.depthAll, deps]; rw [dep_pyd x, deps_pyd xs]
end
section
variable {K : PySem.W.Frag} {g : Gp} {W : Wd} {F H : Hp} {h : DH}
mutual
theorem RepD.dp (le : HLe F H) : ∀ {d : Dt} {v : V}, RepD K F v d → Dp K H v (pyd d)
  | .non, _, h => by cases h; exact .non
  | .bl _, _, h => by cases h; exact .bl _
  | .int _, _, h => by cases h; exact .int _
  | .str _, _, h => by cases h; exact .str _
  | .tup _, _, h => by cases h with | tup h1 h2 => exact .tup (SqT.le h1 le) (RepDs.dp le h2)
  | .lst _, _, h => by cases h with | lst h1 h2 => exact .lst (.inl (.inl (le _ _ h1))) (RepDs.dp le h2)
theorem RepDs.dp (le : HLe F H) : ∀ {ds : List Dt} {vs : List V}, RepDs K F vs ds → DpAll K H vs (pyds ds)
  | [], _, h => by cases h; exact .nil
  | _ :: _, _, h => by cases h with | cons h1 h2 => exact .cons (RepD.dp le h1) (RepDs.dp le h2)
end
mutual
theorem RepD.lay : ∀ {d : Dt} {v : V}, RepD K F v d → (pyd d).canLay0 = true
  | .non, _, h => by simp [pyd, PyData.canLay0]
  | .bl _, _, h => by simp [pyd, PyData.canLay0]
  | .int _, _, h => by simp [pyd, PyData.canLay0]
  | .str s, _, h => by
    cases h with
    | str _ ok =>
      simp only [pyd, PyData.canLay0, PyData.strOk]
      simp only [Array.all_eq_true', List.mem_toArray, decide_eq_true_eq]
      exact fun c hc => ok.2 c hc
  | .tup _, _, h => by cases h with | tup h1 h2 => simpa [pyd, PyData.canLay0] using RepDs.lay h2
  | .lst _, _, h => by cases h with | lst h1 h2 => simpa [pyd, PyData.canLay0] using RepDs.lay h2
theorem RepDs.lay : ∀ {ds : List Dt} {vs : List V}, RepDs K F vs ds → PyData.canLayAll0 (pyds ds) = true
  | [], _, h => by simp [pyds, PyData.canLayAll0]
  | _ :: _, _, h => by cases h with | cons h1 h2 => simp only [pyds, PyData.canLayAll0, Bool.and_eq_true]; exact ⟨RepD.lay h1, RepDs.lay h2⟩
end
theorem RepN.dp (le : HLe F H) {d : Dt} {v : V} (r : RepN K F H v d) : Dp K H v (pyd d) := by
  cases r with
  | of r => exact RepD.dp le r
  | now h1 h2 => exact .lst (.inl (.inl h1)) (RepDs.dp le h2)
theorem RepN.lay {d : Dt} {v : V} (r : RepN K F H v d) : (pyd d).canLay0 = true := by
  cases r with
  | of r => exact RepD.lay r
  | now h1 h2 => simpa [pyd, PyData.canLay0] using RepDs.lay h2
end

/-! ### == and != -/
def dEq (a b : Vx) : Mo Vx := fun h => match asD a h, asD b h with
  | some x, some y => if min (dep x) (dep y) ≤ 64 then .ok (.d (.bl (deq x y))) h else .stk
  | _, _ => .stk
def dNe (a b : Vx) : Mo Vx := fun h => match asD a h, asD b h with
  | some x, some y => if min (dep x) (dep y) ≤ 64 then .ok (.d (.bl (!deq x y))) h else .stk
  | _, _ => .stk
section
variable {X : Cx} {g : Gp}
def rEqN (K : PySem.W.Frag) : R2 := fun x y H Q => ∃ d e, Dp K H x d ∧ Dp K H y e ∧ d.canLay0 = true ∧ e.canLay0 = true ∧ min d.depth e.depth ≤ 64 ∧ Q (.bl (PyData.eqv d e)) H
def rNeN (K : PySem.W.Frag) : R2 := fun x y H Q => ∃ d e, Dp K H x d ∧ Dp K H y e ∧ d.canLay0 = true ∧ e.canLay0 = true ∧ min d.depth e.depth ≤ 64 ∧ Q (.bl (!PyData.eqv d e)) H
theorem op_eqN (hu : X.A.units + 64 < cLine) : OpR X (compareOp .Eq) (rEqN X.K) := by
  intro pins s σ H x y v u Q I rx ry h
  obtain ⟨d, e, hd, he, sd, se, dp, q⟩ := h
  obtain ⟨as, r1⟩ := Dp.reads I d x v hd rx
  obtain ⟨bs, r2⟩ := Dp.reads I e y u he ry
  exact SeqAt.compareEq_reads r1 r2 sd se (by omega) ⟨.bl _, H, I, rfl, q⟩
theorem op_neN (hu : X.A.units + 64 < cLine) : OpR X (compareOp .NotEq) (rNeN X.K) := by
  intro pins s σ H x y v u Q I rx ry h
  obtain ⟨d, e, hd, he, sd, se, dp, q⟩ := h
  obtain ⟨as, r1⟩ := Dp.reads I d x v hd rx
  obtain ⟨bs, r2⟩ := Dp.reads I e y u he ry
  exact SeqAt.compareNe_reads r1 r2 sd se (by omega) ⟨.bl _, H, I, rfl, q⟩
theorem od_eq (hu : X.A.units + 64 < cLine) : OpD X g (compareOp .Eq) dEq := by
  refine ⟨_, op_eqN hu, fun W H h x y a b Q E hr ra rb p => ?_⟩
  unfold dEq at p
  cases e1 : asD a h with
  | none => rw [e1] at p; exact p.elim
  | some d =>
    cases e2 : asD b h with
    | none => rw [e1, e2] at p; exact p.elim
    | some e =>
      rw [e1, e2] at p
      dsimp only at p
      split at p
      · rename_i hd
        have r1 := asD_rep hr ra e1
        have r2 := asD_rep hr rb e2
        refine ⟨pyd d, pyd e, r1.dp hr.fro, r2.dp hr.fro, r1.lay, r2.lay, by rw [dep_pyd, dep_pyd]; exact hd, ?_⟩
        rw [eqv_pyd]
        exact p.ret hr (.bl _)
      · exact p.elim
theorem od_ne (hu : X.A.units + 64 < cLine) : OpD X g (compareOp .NotEq) dNe := by
  refine ⟨_, op_neN hu, fun W H h x y a b Q E hr ra rb p => ?_⟩
  unfold dNe at p
  cases e1 : asD a h with
  | none => rw [e1] at p; exact p.elim
  | some d =>
    cases e2 : asD b h with
    | none => rw [e1, e2] at p; exact p.elim
    | some e =>
      rw [e1, e2] at p
      dsimp only at p
      split at p
      · rename_i hd
        have r1 := asD_rep hr ra e1
        have r2 := asD_rep hr rb e2
        refine ⟨pyd d, pyd e, r1.dp hr.fro, r2.dp hr.fro, r1.lay, r2.lay, by rw [dep_pyd, dep_pyd]; exact hd, ?_⟩
        rw [eqv_pyd]
        exact p.ret hr (.bl _)
      · exact p.elim
end

/-! ### the order: ints, texts, tuples of ints -/
def intsOf : List Dt → Option (List Int)
  | [] => some []
  | .int i :: r => (match intsOf r with | some ns => some (i :: ns) | none => none)
  | _ :: _ => none
theorem intsOf_eq : ∀ {ds : List Dt} {ns : List Int}, intsOf ds = some ns → ds = ns.map Dt.int
  | [], ns, e => by cases e; rfl
  | .int i :: r, ns, e => by
    unfold intsOf at e
    split at e
    · rename_i ms hm; cases e; rw [intsOf_eq hm]; rfl
    · cases e
  | .non :: _, _, e => by cases e
  | .bl _ :: _, _, e => by cases e
  | .str _ :: _, _, e => by cases e
  | .tup _ :: _, _, e => by cases e
  | .lst _ :: _, _, e => by cases e
theorem RepDs.ints {K : PySem.W.Frag} {F : Hp} : ∀ {ns : List Int} {vs : List V}, RepDs K F vs (ns.map Dt.int) → vs = ns.map V.int
  | [], vs, h => by cases h; rfl
  | n :: r, vs, h => by
    cases h with
    | cons h1 h2 => cases h1; rw [RepDs.ints h2]; rfl
def dLt (a b : Vx) : Mo Vx := fun h => match a, b with
  | .d (.int i), .d (.int j) => .ok (.d (.bl (decide (i < j)))) h
  | .d (.str s), .d (.str t) => .ok (.d (.bl (decide (s < t)))) h
  | .d (.tup ds), .d (.tup es) => (match intsOf ds, intsOf es with
    | some ns, some ms => .ok (.d (.bl (HT.lexLt ns ms))) h
    | _, _ => .stk)
  | _, _ => .stk
def dLe (a b : Vx) : Mo Vx := fun h => match a, b with
  | .d (.int i), .d (.int j) => .ok (.d (.bl (decide (i ≤ j)))) h
  | _, _ => .stk
def dGt (a b : Vx) : Mo Vx := fun h => match a, b with
  | .d (.int i), .d (.int j) => .ok (.d (.bl (decide (j < i)))) h
  | _, _ => .stk
def dGe (a b : Vx) : Mo Vx := fun h => match a, b with
  | .d (.int i), .d (.int j) => .ok (.d (.bl (decide (j ≤ i)))) h
  | _, _ => .stk
section
variable {X : Cx} {g : Gp}
theorem repInt {K : PySem.W.Frag} {W : Wd} {v : V} {i : Int} (r : RepV K W v (.d (.int i))) : v = .int i := by
  have r : RepD K W.F v (.int i) := r
  cases r; rfl
theorem repStr {K : PySem.W.Frag} {W : Wd} {v : V} {s : List Nat} (r : RepV K W v (.d (.str s))) : v = .str (toStr s) ∧ okS s := by
  have r : RepD K W.F v (.str s) := r
  cases r with
  | str _ ok => exact ⟨rfl, ok⟩
theorem repBl {K : PySem.W.Frag} {W : Wd} {v : V} {i : Bool} (r : RepV K W v (.d (.bl i))) : v = .bl i := by
  have r : RepD K W.F v (.bl i) := r
  cases r; rfl
theorem repTup {K : PySem.W.Frag} {g : Gp} {W : Wd} {H : Hp} {h : DH} (hr : HRel K g.T W H h) {v : V} {ds : List Dt} (r : RepV K W v (.d (.tup ds))) : ∃ a vs, v = .ref a ∧ SqT K H a vs ∧ SqT K W.F a vs ∧ RepDs K W.F vs ds := by
  have r : RepD K W.F v (.tup ds) := r
  cases r with
  | tup h1 h2 => exact ⟨_, _, rfl, SqT.le h1 hr.fro, h1, h2⟩
theorem od_lt (hu : X.A.units < cLine) : OpD X g (compareOp .Lt) dLt := by
  refine ⟨_, (op_lt.or op_lt_str).or (op_ltT hu), fun W H h x y a b Q E hr ra rb p => ?_⟩
  unfold dLt at p
  split at p
  · rename_i i j
    rw [repInt ra, repInt rb]
    exact .inl (.inl ⟨i, j, rfl, rfl, p.ret hr (.bl _)⟩)
  · rename_i s t
    rw [(repStr ra).1, (repStr rb).1]
    refine .inl (.inr ⟨_, _, rfl, rfl, ?_⟩)
    exact p.ret hr (.bl _)
  · rename_i ds es
    split at p
    · rename_i ns ms e1 e2
      obtain ⟨a1, vs1, rfl, q1, _, s1⟩ := repTup hr ra
      obtain ⟨a2, vs2, rfl, q2, _, s2⟩ := repTup hr rb
      rw [intsOf_eq e1] at s1
      rw [intsOf_eq e2] at s2
      have z1 := RepDs.ints s1
      have z2 := RepDs.ints s2
      subst z1 z2
      exact .inr ⟨a1, a2, ns, ms, rfl, rfl, q1, q2, p.ret hr (.bl _)⟩
    · exact p.elim
  · exact p.elim
theorem od_le : OpD X g (compareOp .LtE) dLe := by
  refine ⟨_, op_le, fun W H h x y a b Q E hr ra rb p => ?_⟩
  unfold dLe at p
  split at p
  · rename_i i j
    rw [repInt ra, repInt rb]
    exact ⟨i, j, rfl, rfl, p.ret hr (.bl _)⟩
  · exact p.elim
theorem od_gt : OpD X g (compareOp .Gt) dGt := by
  refine ⟨_, op_gt, fun W H h x y a b Q E hr ra rb p => ?_⟩
  unfold dGt at p
  split at p
  · rename_i i j
    rw [repInt ra, repInt rb]
    exact ⟨i, j, rfl, rfl, p.ret hr (.bl _)⟩
  · exact p.elim
theorem od_ge : OpD X g (compareOp .GtE) dGe := by
  refine ⟨_, op_ge, fun W H h x y a b Q E hr ra rb p => ?_⟩
  unfold dGe at p
  split at p
  · rename_i i j
    rw [repInt ra, repInt rb]
    exact ⟨i, j, rfl, rfl, p.ret hr (.bl _)⟩
  · exact p.elim
end

/-! ### is None -/
def isNon : Vx → Bool
  | .d .non => true
  | _ => false
def dIs (a b : Vx) : Mo Vx := fun h => match b with
  | .d .non => .ok (.d (.bl (isNon a))) h
  | _ => .stk
def dIsNot (a b : Vx) : Mo Vx := fun h => match b with
  | .d .non => .ok (.d (.bl (!isNon a))) h
  | _ => .stk
section
variable {X : Cx} {g : Gp}
theorem isNon_rep {K : PySem.W.Frag} {W : Wd} {v : V} {a : Vx} (r : RepV K W v a) : decide (v = .non) = isNon a := by
  cases a with
  | d x =>
    have r : RepD K W.F v x := r
    cases r <;> simp [isNon]
  | r k => obtain ⟨_, _, rfl⟩ := r; simp [isNon]
  | x _ _ _ => obtain ⟨_, _, _, rfl, _⟩ := r; simp [isNon]
  | s _ => obtain ⟨_, rfl, _⟩ := r; simp [isNon]
theorem od_is : OpD X g (compareOp .Is) dIs := by
  refine ⟨_, op_isN, fun W H h x y a b Q E hr ra rb p => ?_⟩
  unfold dIs at p
  split at p
  · have rb : RepD X.K W.F y .non := rb
    cases rb
    refine ⟨rfl, ?_⟩
    rw [isNon_rep ra]
    exact p.ret hr (.bl _)
  · exact p.elim
theorem od_isNot : OpD X g (compareOp .IsNot) dIsNot := by
  refine ⟨_, op_notN, fun W H h x y a b Q E hr ra rb p => ?_⟩
  unfold dIsNot at p
  split at p
  · have rb : RepD X.K W.F y .non := rb
    cases rb
    refine ⟨rfl, ?_⟩
    rw [isNon_rep ra]
    exact p.ret hr (.bl _)
  · exact p.elim
end
end Dn
end
section
set_option Elab.async false
set_option linter.all false
set_option maxRecDepth 100000
set_option maxHeartbeats 2000000
/-! Dn4: arithmetic, in, items, slices. -/
namespace L2
open PySem PySem.Spec PyProof.Rows
theorem tuple_mul1 (l : Addr) (items : Array Value) (n : Nat) (dd : Option Addr) (sl : Array (Option Value)) (u : Tok) :
    Meets (Builtin.«tuple.__mul__» ⟨[.ref l, .int 1 u], []⟩) (fun _ R s => s.heap.get? l = some { cls := .type "tuple", dict := dd, data := .seq items n, slots := sl } ∧ R (.ok (.ret (Value.ref l))) s) :=
  .of_wp fun prog w A R s h => by
    obtain ⟨hp, g, d, tk, os⟩ := s
    obtain ⟨hl, h⟩ := h
    have f1 := AutoSeq1.idx_int
    have c1 : (items.isEmpty || (1 : Int) == 1) = true := by simp
    wp_walk using wpAny_loadPart' hl
    repeat (first
      | (refine wpAny_ite_true (decide_eq_true (by rw [c1])) ?_; wp_walk using wpAny_loadPart' hl)
      | (refine wpAny_ite_true (decide_eq_true rfl) ?_; wp_walk using wpAny_loadPart' hl))
    exact ⟨_, rfl, h⟩
/-- a tuple times one is that tuple -/
theorem op_rep1 {X : Cx} : OpR X (binaryOp .Mult) (fun x y H Q => ∃ l xs, x = V.ref l ∧ y = V.int 1 ∧ SqT X.K H l xs ∧ Q (.ref l) H) := by
  intro pins s σ H x y v u Q I rx ry h
  obtain ⟨l, xs, rfl, rfl, hT, q⟩ := h
  cases rx
  obtain ⟨t, rfl⟩ := ry
  obtain ⟨its, r, ⟨⟨cls, dd, data, sl⟩, ho, hc, n, hd⟩, hs⟩ := I.tuple hT
  simp only at hc hd
  subst hc hd
  refine wpAny_binaryOp_repeat_ref (T := "tuple") (U := "int") (by decide) ⟨_, ho, rfl⟩ (fun s' => typeIs_int s' 1 t) noFill_tuple_mul F.fills_int_mul F.slot_int_rmul repeat_tuple F.slot_int_index.lookup
    (call_meets F.slot_int_rmul (typeIs_int s 1 t) F.entry_int_rmul (F.args_int_rmul_2 _ _) (int_rmul_tuple 1 t l its.toArray n dd sl)
      ⟨ho, rfl, ⟨_, ho, rfl⟩, call_meets F.slot_tuple_mul ⟨_, ho, rfl⟩ F.entry_tuple_mul (F.args_tuple_mul_2 _ _) (tuple_mul1 l its.toArray n dd sl t) ⟨ho, ?_⟩⟩)
  exact ⟨.ref l, H, I, rfl, q⟩
end L2
namespace Dn
open PySem PySem.Spec PyProof.Rows L2

section
variable {K : PySem.W.Frag} {g : Gp} {W : Wd} {H : Hp} {h : DH}
/-- a new list, tuple as the answer -/
theorem Post.newL {ds : List Dt} {vs : List V} {Q : VK} {E : XK} (P : Post K g (RV K) W H (.ok (.d (.lst ds)) h) Q E) (hr : HRel K g.T W H h) (rd : RepDs K W.F vs ds) : ∀ p, H p = none → Q (.ref p) (upd H p (.lst vs)) := fun p np => by
  refine P.new hr np (fun ps z => by cases z) ?_
  have fp : W.F p = none := by
    cases q : W.F p with
    | none => rfl
    | some u => rw [hr.fro _ _ q] at np; cases np
  exact .lst upd_same (RepDs.le (fun a u e => by show upd W.F p _ a = some u; rw [upd_ne (ne_of_none e fp)]; exact e) rd)
theorem Post.newT {ds : List Dt} {vs : List V} {Q : VK} {E : XK} (P : Post K g (RV K) W H (.ok (.d (.tup ds)) h) Q E) (hr : HRel K g.T W H h) (rd : RepDs K W.F vs ds) : ∀ p, H p = none → Q (.ref p) (upd H p (.tup vs)) := fun p np => by
  refine P.new hr np (fun ps z => by cases z) ?_
  have fp : W.F p = none := by
    cases q : W.F p with
    | none => rfl
    | some u => rw [hr.fro _ _ q] at np; cases np
  exact .tup (.inl (.inl upd_same)) (RepDs.le (fun a u e => by show upd W.F p _ a = some u; rw [upd_ne (ne_of_none e fp)]; exact e) rd)
theorem plains_append {ys zs : List Vx} {ds es : List Dt} (h1 : plains ys = some ds) (h2 : plains zs = some es) : plains (ys ++ zs) = some (ds ++ es) := by
  induction ys generalizing ds with
  | nil => cases h1; exact h2
  | cons y ys ih =>
    cases y with
    | d x =>
      unfold plains at h1
      split at h1
      · rename_i fs hf; cases h1; simp [plains, ih hf]
      · cases h1
    | _ => cases h1
theorem okS_append {s t : List Nat} (a : okS s) (b : okS t) (hl : s.length + t.length ≤ 16777216) : okS (s ++ t) :=
  ⟨by rw [sizeLine_eq, List.length_append]; exact hl, fun c hc => (List.mem_append.mp hc).elim (a.2 c) (b.2 c)⟩
theorem toStr_append (s t : List Nat) : toStr s ++ toStr t = toStr (s ++ t) := TL.ext_tl (by rw [TL.tl_append])
theorem plains_some {ys : List Vx} {ds : List Dt} (h : plains ys = some ds) : ys = ds.map Vx.d := by
  induction ys generalizing ds with
  | nil => cases h; rfl
  | cons y ys ih =>
    cases y with
    | d x =>
      unfold plains at h
      split at h
      · rename_i fs hf; cases h; rw [ih hf]; rfl
      · cases h
    | _ => cases h
end

/-! ### + -/
def dAdd (a b : Vx) : Mo Vx := fun h => match a, b with
  | .d (.int i), .d (.int j) => .ok (.d (.int (i + j))) h
  | .d (.str s), .d (.str t) => if s.length + t.length ≤ 16777216 then .ok (.d (.str (s ++ t))) h else .stk
  | .d (.tup ds), .d (.tup es) => if ds.length + es.length ≤ 16777216 then .ok (.d (.tup (ds ++ es))) h else .stk
  | a, b => (match asL a h, asL b h with
    | some ys, some zs => (match plains ys, plains zs with
      | some ds, some es => if ds.length + es.length ≤ 16777216 then .ok (.d (.lst (ds ++ es))) h else .stk
      | _, _ => .stk)
    | _, _ => .stk)
section
variable {X : Cx} {g : Gp}
theorem od_add : OpD X g (binaryOp .Add) dAdd := by
  refine ⟨_, (op_add.or op_add_str).or (op_catA.or op_cat), fun W H h x y a b Q E hr ra rb p => ?_⟩
  unfold dAdd at p
  split at p
  · rename_i i j
    rw [repInt ra, repInt rb]
    exact .inl (.inl ⟨i, j, rfl, rfl, p.ret hr (.int _)⟩)
  · rename_i s t
    obtain ⟨rfl, o1⟩ := repStr ra
    obtain ⟨rfl, o2⟩ := repStr rb
    split at p
    · rename_i hl
      refine .inl (.inr ⟨_, _, rfl, rfl, by rw [sizeLine_eq]; show (toStr s).cps.size + (toStr t).cps.size ≤ _; simpa using hl, ?_⟩)
      rw [toStr_append]
      exact p.ret hr (.str _ (okS_append o1 o2 hl))
    · exact p.elim
  · rename_i ds es
    obtain ⟨a1, vs1, rfl, q1, f1, s1⟩ := repTup hr ra
    obtain ⟨a2, vs2, rfl, q2, f2, s2⟩ := repTup hr rb
    split at p
    · rename_i hl
      refine .inr (.inl ⟨a1, a2, vs1, vs2, rfl, rfl, q1, q2, by rw [sizeLine_eq, s1.length, s2.length]; exact hl, fun e => ?_, fun _ e => ?_, fun _ _ => ?_⟩)
      · subst e
        cases ds with
        | nil => exact p.ret hr (.tup f2 s2)
        | cons _ _ => cases s1
      · subst e
        cases es with
        | nil => rw [List.append_nil] at p; exact p.ret hr (.tup f1 s1)
        | cons _ _ => cases s2
      · exact p.newT hr (s1.append s2)
    · exact p.elim
  · split at p
    · rename_i ys zs e1 e2
      split at p
      · rename_i ds es p1 p2
        split at p
        · rename_i hl
          obtain ⟨a1, xs1, rfl, q1, r1⟩ := asL_rep hr ra e1
          obtain ⟨a2, xs2, rfl, q2, r2⟩ := asL_rep hr rb e2
          have s1 := r1.plain p1
          have s2 := r2.plain p2
          exact .inr (.inr ⟨a1, a2, xs1, xs2, rfl, rfl, q1, q2, by rw [sizeLine_eq, s1.length, s2.length]; exact hl, p.newL hr (s1.append s2)⟩)
        · exact p.elim
      · exact p.elim
    · exact p.elim
end

/-! ### the other operators -/
def dSub (a b : Vx) : Mo Vx := fun h => match a, b with
  | .d (.int i), .d (.int j) => .ok (.d (.int (i - j))) h
  | _, _ => .stk
def mulOk (i j : Int) : Bool := decide (i.natAbs < 18446744073709551616) || decide (j.natAbs < 18446744073709551616) || decide (i.natAbs.log2 + j.natAbs.log2 < 1000000)
def repS (s : List Nat) (k : Nat) : List Nat := (List.replicate k s).flatten
def dMul (a b : Vx) : Mo Vx := fun h => match a, b with
  | .d (.int i), .d (.int j) => if mulOk i j = true then .ok (.d (.int (i * j))) h else .stk
  | .d (.str s), .d (.int k) => if s.length * k.toNat ≤ 16777216 ∧ -1000000 < k ∧ k < 1000000 then .ok (.d (.str (repS s k.toNat))) h else .stk
  | .d (.tup ds), .d (.int k) => if ds.isEmpty = false ∧ ds.length ≤ 1000 ∧ 1 ≤ k ∧ k ≤ 1000 then .ok (.d (.tup (List.replicate k.toNat ds).flatten)) h else .stk
  | a, .d (.int k) => (match asL a h with
    | some ys => (match plains ys with
      | some ds => if ds.length * k.toNat ≤ 16777216 ∧ -1000000 < k ∧ k < 1000000 then .ok (.d (.lst (List.replicate k.toNat ds).flatten)) h else .stk
      | _ => .stk)
    | _ => .stk)
  | _, _ => .stk
def dFdiv (a b : Vx) : Mo Vx := fun h => match a, b with
  | .d (.int i), .d (.int j) => if 0 < j ∧ j.natAbs.log2 < 9000 then .ok (.d (.int (i / j))) h else if j < 0 ∧ -1073741824 < j then .ok (.d (.int (i.fdiv j))) h else .stk
  | _, _ => .stk
def dMod (a b : Vx) : Mo Vx := fun h => match a, b with
  | .d (.int i), .d (.int j) => if 0 < j then .ok (.d (.int (i % j))) h else .stk
  | _, _ => .stk
def dPow (a b : Vx) : Mo Vx := fun h => match a, b with
  | .d (.int i), .d (.int j) => if 0 ≤ j ∧ j ≤ 1000 ∧ i.natAbs < 1000000 then .ok (.d (.int (i ^ j.toNat))) h else .stk
  | _, _ => .stk
def dNeg (a : Vx) : Mo Vx := fun h => match a with
  | .d (.int i) => .ok (.d (.int (-i))) h
  | _ => .stk
section
variable {X : Cx} {g : Gp}
theorem od_sub : OpD X g (binaryOp .Sub) dSub := by
  refine ⟨_, op_sub, fun W H h x y a b Q E hr ra rb p => ?_⟩
  unfold dSub at p
  split at p
  · rw [repInt ra, repInt rb]; exact ⟨_, _, rfl, rfl, p.ret hr (.int _)⟩
  · exact p.elim
theorem od_fdiv : OpD X g (binaryOp .FloorDiv) dFdiv := by
  refine ⟨_, op_fdivW.or op_fdivN, fun W H h x y a b Q E hr ra rb p => ?_⟩
  unfold dFdiv at p
  split at p
  · split at p
    · rename_i hc
      rw [repInt ra, repInt rb]; exact .inl ⟨_, _, rfl, rfl, hc, p.ret hr (.int _)⟩
    · split at p
      · rename_i hc
        rw [repInt ra, repInt rb]; exact .inr ⟨_, _, rfl, rfl, ⟨by omega, by omega⟩, p.ret hr (.int _)⟩
      · exact p.elim
  · exact p.elim
theorem od_mod : OpD X g (binaryOp .Mod) dMod := by
  refine ⟨_, op_mod, fun W H h x y a b Q E hr ra rb p => ?_⟩
  unfold dMod at p
  split at p
  · split at p
    · rename_i hc
      rw [repInt ra, repInt rb]; exact ⟨_, _, rfl, rfl, hc, p.ret hr (.int _)⟩
    · exact p.elim
  · exact p.elim
theorem od_pow : OpD X g (binaryOp .Pow) dPow := by
  refine ⟨_, op_pow, fun W H h x y a b Q E hr ra rb p => ?_⟩
  unfold dPow at p
  split at p
  · split at p
    · rename_i hc
      rw [repInt ra, repInt rb]
      refine ⟨_, _, rfl, rfl, ⟨hc.1, by omega, ?_⟩, p.ret hr (.int _)⟩
      have := hc.2.2
      omega
    · exact p.elim
  · exact p.elim
theorem ud_neg : UnD X g (unaryOp .USub) dNeg := by
  refine ⟨_, un_neg, fun W H h x a Q E hr ra p => ?_⟩
  unfold dNeg at p
  split at p
  · rw [repInt ra]; exact ⟨_, rfl, p.ret hr (.int _)⟩
  · exact p.elim
theorem foldl_app (c : Array Nat) : ∀ (k : Nat) (acc : Array Nat), ((List.replicate k c).foldl (· ++ ·) acc).toList = acc.toList ++ (List.replicate k c.toList).flatten := by
  intro k
  induction k with
  | zero => intro acc; simp
  | succ k ih => intro acc; rw [List.replicate_succ, List.foldl_cons, ih, List.replicate_succ, List.flatten_cons]; simp [List.append_assoc]
theorem mul_txt (s : List Nat) (k : Int) (hk : -1000000 < k) : Txt.mul (toStr s) k = toStr (repS s k.toNat) := by
  unfold Txt.mul repS
  split
  · rename_i h1
    have e : k.toNat = 0 := by omega
    rw [e]; rfl
  · rename_i h1
    split
    · rename_i h2
      simp only [Bool.or_eq_true, beq_iff_eq] at h2
      rcases h2 with h2 | h2
      · subst h2; simp
      · have e : s = [] := by
          have : (toStr s).cps.size = 0 := h2
          simpa using this
        subst e
        refine TL.ext_tl ?_
        simp
    · refine TL.ext_tl ?_
      show ((List.replicate k.toNat s.toArray).foldl (· ++ ·) #[]).toList = _
      rw [foldl_app]
      simp
theorem len_repS (s : List Nat) (k : Nat) : (repS s k).length = s.length * k := by
  unfold repS
  induction k with
  | zero => simp
  | succ k ih => rw [List.replicate_succ, List.flatten_cons, List.length_append, ih, Nat.mul_succ, Nat.add_comm]
theorem mem_repS {s : List Nat} {k c : Nat} (h : c ∈ repS s k) : c ∈ s := by
  unfold repS at h
  obtain ⟨l, hl, hc⟩ := List.mem_flatten.mp h
  rw [List.eq_of_mem_replicate hl] at hc
  exact hc
def rMulS : R2 := fun x y H Q => ∃ (s : List Nat) (k : Int), x = .str (toStr s) ∧ y = .int k ∧ s.length * k.toNat ≤ 16777216 ∧ -1000000 < k ∧ k < 1000000 ∧ Q (.str (toStr (repS s k.toNat))) H
theorem op_mulS : OpR X (binaryOp .Mult) rMulS := by
  intro pins s σ H x y v u Q I rx ry h
  obtain ⟨l, k, rfl, rfl, hl, h1, h2, q⟩ := h
  obtain ⟨t, rfl⟩ := rx
  obtain ⟨t', rfl⟩ := ry
  refine PySem.SB.mul ⟨?_, fun g1 g2 => ?_, fun g1 g2 => ?_⟩ fun t' k' => ?_
  · have a1 : ¬ k < -(2 ^ 63 : Int) := by omega
    have a2 : ¬ k ≥ 2 ^ 63 := by omega
    rw [decide_eq_false a1, decide_eq_false a2]; rfl
  · intro hgt
    have hle : ((toStr l).length : Int) ≤ 16777216 := by
      have e : (toStr l).length = l.length := by show (toStr l).cps.size = _; simp
      have hk1 : 1 ≤ k.toNat := by omega
      have : l.length ≤ l.length * k.toNat := Nat.le_mul_of_pos_right _ hk1
      omega
    have hd : (2 ^ 63 - 1 : Int) / k ≥ 16777216 := by
      refine Int.le_ediv_of_mul_le (by omega) ?_
      omega
    omega
  · have e : (toStr l).length = l.length := by show (toStr l).cps.size = _; simp
    rw [e]
    unfold Builtin.Str.tooLong
    exact decide_eq_false (by rw [sizeLine_eq]; omega)
  · rw [mul_txt l k h1]
    exact ⟨.str _, H, I.tok k', ⟨t', rfl⟩, q⟩
theorem RepDs.rep {K : PySem.W.Frag} {F : Hp} {vs : List V} {ds : List Dt} (h : RepDs K F vs ds) : ∀ k : Nat, RepDs K F (List.replicate k vs).flatten (List.replicate k ds).flatten
  | 0 => .nil
  | k + 1 => by rw [List.replicate_succ, List.replicate_succ, List.flatten_cons, List.flatten_cons]; exact h.append (RepDs.rep h k)
theorem od_mul : OpD X g (binaryOp .Mult) dMul := by
  refine ⟨_, (op_mul.or op_mulW).or ((op_mulS.or op_rep).or (op_rep1.or op_repT)), fun W H h x y a b Q E hr ra rb p => ?_⟩
  unfold dMul at p
  split at p
  · rename_i i j
    split at p
    · rename_i hc
      rw [repInt ra, repInt rb]
      unfold mulOk at hc
      simp only [Bool.or_eq_true, decide_eq_true_eq] at hc
      rcases hc with (hc | hc) | hc
      · exact .inl (.inl ⟨i, j, rfl, rfl, .inl (by omega), p.ret hr (.int _)⟩)
      · exact .inl (.inl ⟨i, j, rfl, rfl, .inr (by omega), p.ret hr (.int _)⟩)
      · exact .inl (.inr ⟨i, j, rfl, rfl, hc, p.ret hr (.int _)⟩)
    · exact p.elim
  · rename_i s k
    obtain ⟨rfl, o1⟩ := repStr ra
    split at p
    · rename_i hc
      rw [repInt rb]
      exact .inr (.inl (.inl ⟨s, k, rfl, rfl, hc.1, hc.2.1, hc.2.2, p.ret hr (.str _ ⟨by rw [sizeLine_eq, len_repS]; exact hc.1, fun c m => o1.2 c (mem_repS m)⟩)⟩))
    · exact p.elim
  · rename_i ds k
    split at p
    · rename_i hc
      obtain ⟨hc0, hc1, hc2, hc3⟩ := hc
      obtain ⟨l, vs, rfl, q1, q2, q3⟩ := repTup hr ra
      rw [repInt rb]
      by_cases h1 : k = 1
      · subst h1
        refine .inr (.inr (.inl ⟨l, vs, rfl, rfl, q1, p.ret hr ?_⟩))
        have e : (List.replicate (1 : Int).toNat ds).flatten = ds := by simp
        rw [e]
        exact ra
      · refine .inr (.inr (.inr ⟨l, k, vs, rfl, rfl, q1, ?_, by omega, hc3, by rw [q3.length]; exact hc1, p.newT hr (q3.rep _)⟩))
        rintro rfl
        have := q3.length
        cases ds with
        | nil => simp at hc0
        | cons => simp at this
    · exact p.elim
  · rename_i k _ _ _
    split at p
    · rename_i ys e1
      split at p
      · rename_i ds e2
        split at p
        · rename_i hc
          obtain ⟨a1, xs1, rfl, q1, r1⟩ := asL_rep hr ra e1
          have s1 := r1.plain e2
          rw [repInt rb]
          exact .inr (.inl (.inr ⟨a1, k, xs1, rfl, rfl, q1, by omega, by omega, by rw [sizeLine_eq, s1.length]; exact hc.1, p.newL hr (s1.rep _)⟩))
        · exact p.elim
      · exact p.elim
    · exact p.elim
  · exact p.elim
end

/-! ### in -/
def asQ : Vx → DH → Option (List Dt)
  | .d (.tup ds), _ => some ds
  | y, h => (match asD y h with | some (.lst ds) => some ds | _ => none)
def dInB (a b : Vx) (h : DH) : Option Bool := match a, b with
  | .d (.str [c]), .d (.str t) => some (decide (c ∈ t))
  | a, b => (match asD a h, asQ b h with
    | some x, some ds => if min (deps ds) (dep x) ≤ 60 then some (ds.any fun z => deq z x) else none
    | _, _ => none)
def dIn (a b : Vx) : Mo Vx := fun h => match dInB a b h with
  | some k => .ok (.d (.bl k)) h
  | none => .stk
def dNotIn (a b : Vx) : Mo Vx := fun h => match dInB a b h with
  | some k => .ok (.d (.bl (!k))) h
  | none => .stk
section
variable {X : Cx} {g : Gp}
def rInQ (K : PySem.W.Frag) (ng : Bool) : R2 := fun x y H Q => ∃ d ds, Dp K H x d ∧ (Dp K H y (.list ds) ∨ Dp K H y (.tuple ds)) ∧ d.canLay0 = true ∧ PyData.canLayAll0 ds = true ∧ min (PyData.depthAll ds) d.depth ≤ 60 ∧ Q (.bl (if ng then !(ds.any fun z => PyData.eqv z d) else ds.any fun z => PyData.eqv z d)) H
theorem op_inQ (hu : X.A.units + 64 < cLine) : OpR X (compareOp .In) (rInQ X.K false) := by
  intro pins s σ H x y v u Q I rx ry h
  obtain ⟨d, ds, hd, he, sd, se, dp, q⟩ := h
  obtain ⟨as, r1⟩ := Dp.reads I d x v hd rx
  rcases he with he | he
  · obtain ⟨bs, r2⟩ := Dp.reads I (.list ds) y u he ry
    exact SeqAt.in_list_reads r2 r1 se sd (by omega) ⟨.bl _, H, I, rfl, q⟩
  · obtain ⟨bs, r2⟩ := Dp.reads I (.tuple ds) y u he ry
    exact SeqAt.in_tuple_reads r2 r1 se sd (by omega) ⟨.bl _, H, I, rfl, q⟩
theorem op_notInQ (hu : X.A.units + 64 < cLine) : OpR X (compareOp .NotIn) (rInQ X.K true) := by
  intro pins s σ H x y v u Q I rx ry h
  obtain ⟨d, ds, hd, he, sd, se, dp, q⟩ := h
  obtain ⟨as, r1⟩ := Dp.reads I d x v hd rx
  rcases he with he | he
  · obtain ⟨bs, r2⟩ := Dp.reads I (.list ds) y u he ry
    exact SeqAt.notIn_list_reads r2 r1 se sd (by omega) ⟨.bl _, H, I, rfl, q⟩
  · obtain ⟨bs, r2⟩ := Dp.reads I (.tuple ds) y u he ry
    exact SeqAt.notIn_tuple_reads r2 r1 se sd (by omega) ⟨.bl _, H, I, rfl, q⟩
theorem any_pyd (x : Dt) : ∀ ds : List Dt, ((pyds ds).any fun z => PyData.eqv z (pyd x)) = ds.any fun z => deq z x
  | [] => by simp [pyds]
  | d :: r => by simp only [pyds, List.any_cons]; rw [eqv_pyd, any_pyd x r]
theorem asQ_rep {K : PySem.W.Frag} {W : Wd} {H : Hp} {h : DH} {v : V} {y : Vx} (hr : HRel K g.T W H h) (r : RepV K W v y) {ds : List Dt} (e : asQ y h = some ds) :
    (Dp K H v (.list (pyds ds)) ∨ Dp K H v (.tuple (pyds ds))) ∧ PyData.canLayAll0 (pyds ds) = true := by
  unfold asQ at e
  split at e
  · cases e
    have r : RepD K W.F v (.tup _) := r
    have h1 := RepD.dp hr.fro r
    have h2 := RepD.lay r
    exact ⟨.inr (by simpa only [pyd] using h1), by simpa only [pyd, PyData.canLay0] using h2⟩
  · split at e
    · rename_i hd
      cases e
      have n := asD_rep hr r hd
      have h1 := n.dp hr.fro
      have h2 := n.lay
      exact ⟨.inl (by simpa only [pyd] using h1), by simpa only [pyd, PyData.canLay0] using h2⟩
    · cases e
theorem dIn_rep {W : Wd} {H : Hp} {h : DH} {x y : V} {a b : Vx} {k : Bool} {Q : VK} (ng : Bool) (hr : HRel X.K g.T W H h) (ra : RepV X.K W x a) (rb : RepV X.K W y b) (e : dInB a b h = some k) (q : Q (.bl (if ng then !k else k)) H) :
    (∃ (c : Nat) (z : Str), x = .str ⟨#[c]⟩ ∧ y = .str z ∧ Q (.bl (if ng then !decide (c ∈ z.cps.toList) else decide (c ∈ z.cps.toList))) H) ∨ rInQ X.K ng x y H Q := by
  unfold dInB at e
  split at e
  · rename_i c t
    cases e
    exact .inl ⟨c, toStr t, (repStr ra).1, (repStr rb).1, q⟩
  · split at e
    · rename_i d ds e1 e2
      split at e
      · rename_i hd
        cases e
        have n := asD_rep hr ra e1
        obtain ⟨h1, h2⟩ := asQ_rep hr rb e2
        have hd2 : min (PyData.depthAll (pyds ds)) (pyd d).depth ≤ 60 := by rw [deps_pyd, dep_pyd]; exact hd
        exact .inr ⟨pyd d, pyds ds, n.dp hr.fro, h1, n.lay, h2, hd2, by rw [any_pyd]; exact q⟩
      · cases e
    · cases e
theorem od_in (hu : X.A.units + 64 < cLine) : OpD X g (compareOp .In) dIn := by
  refine ⟨_, op_in_sign.or (op_inQ hu), fun W H h x y a b Q E hr ra rb p => ?_⟩
  unfold dIn at p
  split at p
  · rename_i k e
    exact dIn_rep false hr ra rb e (p.ret hr (.bl _))
  · exact p.elim
theorem od_notIn (hu : X.A.units + 64 < cLine) : OpD X g (compareOp .NotIn) dNotIn := by
  refine ⟨_, op_notIn_sign.or (op_notInQ hu), fun W H h x y a b Q E hr ra rb p => ?_⟩
  unfold dNotIn at p
  split at p
  · rename_i k e
    exact dIn_rep true hr ra rb e (p.ret hr (.bl _))
  · exact p.elim
end
end Dn
end
section
set_option Elab.async false
set_option linter.all false
set_option maxRecDepth 100000
set_option maxHeartbeats 2000000
/-! Dn5: items, slices, built-in functions, the plain heap's lists, methods. -/
namespace Dn
open PySem PySem.Spec PyProof.Rows L2

/-! ### items -/
section
variable {K : PySem.W.Frag} {g : Gp} {W : Wd} {H : Hp} {h : DH}
theorem atI_rep {ds : List Dt} {vs : List V} {F : Hp} (r : RepDs K F vs ds) {i : Int} {d : Dt} (e : atI ds i = some d) : ∃ v, atI vs i = some v ∧ RepD K F v d := by
  unfold atI at e ⊢
  rw [r.length]
  cases q : ixN ds.length i with
  | none => rw [q] at e; cases e
  | some j =>
    rw [q] at e
    obtain ⟨v, e1, e2⟩ := r.get (show ds[j]? = some d from e)
    exact ⟨v, e1, e2⟩
theorem atI_repV {ys : List Vx} {vs : List V} (r : RepVs K W vs ys) {i : Int} {d : Vx} (e : atI ys i = some d) : ∃ v, atI vs i = some v ∧ RepV K W v d := by
  unfold atI at e ⊢
  rw [r.length]
  cases q : ixN ys.length i with
  | none => rw [q] at e; cases e
  | some j =>
    rw [q] at e
    obtain ⟨v, e1, e2⟩ := r.get (show ys[j]? = some d from e)
    exact ⟨v, e1, e2⟩
end
def dIx (a b : Vx) : Mo Vx := fun h => match a, b with
  | .d (.tup ds), .d (.int k) => (match atI ds k with | some x => .ok (.d x) h | none => .stk)
  | .d (.str s), .d (.int k) => (match atI s k with | some c => .ok (.d (.str [c])) h | none => .stk)
  | a, .d (.int k) => (match asL a h with
    | some ys => (match atI ys k with | some y => .ok y h | none => .stk)
    | none => .stk)
  | _, _ => .stk
section
variable {X : Cx} {g : Gp} {Wx : WX} {a b : Expr} {fa fb : DEnv → Mo Vx} {pos : Pos}
theorem atI_mem {α : Type} {xs : List α} {i : Int} {c : α} (e : atI xs i = some c) : c ∈ xs := by
  unfold atI at e
  cases q : ixN xs.length i with
  | none => rw [q] at e; cases e
  | some j => rw [q] at e; exact List.mem_of_getElem? (show xs[j]? = some c from e)
theorem pd_ix (ha : PE X a (LE X.K g Wx fa)) (hb : PE X b (LE X.K g Wx fb)) (hs : PlainIx b) : PE X (.Subscript a b pos) (LE X.K g Wx (eBin dIx fa fb)) := by
  refine (pe_ix ix_seq ha hb hs).imp fun σ H Q p => two_ (fun W H h x y a b Q E hr ra rb p => ?_) p
  unfold dIx at p
  split at p
  · rename_i ds k
    obtain ⟨a1, vs1, rfl, q1, f1, s1⟩ := repTup hr ra
    rw [repInt rb]
    split at p
    · rename_i d e
      obtain ⟨v, e1, e2⟩ := atI_rep s1 e
      exact .inr (.inl ⟨a1, vs1, k, v, rfl, rfl, q1, e1, p.ret hr e2⟩)
    · exact p.elim
  · rename_i s k
    obtain ⟨rfl, o1⟩ := repStr ra
    rw [repInt rb]
    split at p
    · rename_i c e
      refine .inr (.inr ⟨_, k, c, rfl, rfl, by show (toStr s).cps.size ≤ _; simpa using o1.1, e, p.ret hr (.str [c] ⟨by rw [sizeLine_eq]; show 1 ≤ 16777216; decide, fun z hz => ?_⟩)⟩)
      have ez : z = c := by simpa using hz
      rw [ez]
      exact o1.2 c (atI_mem e)
    · exact p.elim
  · rename_i k _ _
    split at p
    · rename_i ys e1
      split at p
      · rename_i y2 e2
        obtain ⟨a1, xs1, rfl, q1, r1⟩ := asL_rep hr ra e1
        rw [repInt rb]
        obtain ⟨v, e3, e4⟩ := atI_repV r1 e2
        exact .inl ⟨a1, xs1, k, v, rfl, rfl, .inl (.inl q1), e3, p.ret hr e4⟩
      · exact p.elim
    · exact p.elim
  · exact p.elim
end

/-! ### slices without a step -/
def cutD {α : Type} (xs : List α) (lo hi : Option Int) : List α := (xs.drop (HT.sIx xs.length 0 lo)).take (HT.sIx xs.length xs.length hi - HT.sIx xs.length 0 lo)
def optInt : Option Vx → Option (Option Int)
  | none => some none
  | some (.d (.int i)) => some (some i)
  | _ => none
def dSl (a : Vx) (lo hi : Option Int) : Mo Vx := fun h => match a with
  | .d (.tup ds) => .ok (.d (.tup (cutD ds lo hi))) h
  | .d (.str s) => .ok (.d (.str (cutD s lo hi))) h
  | .s ns => .ok (.d (.lst ((cutD ns lo hi).map Dt.int))) h
  | a => (match asL a h with
    | some ys => (match plains ys with | some ds => .ok (.d (.lst (cutD ds lo hi))) h | none => .stk)
    | none => .stk)
section
variable {X : Cx} {g : Gp} {Wx : WX} {a : Expr} {lo hi : Option Expr} {fa : DEnv → Mo Vx} {fl fh : DEnv → Mo (Option Int)} {pos p2 : Pos}
/-- a slice's part -/
abbrev LO (K : PySem.W.Frag) (g : Gp) (Wx : WX) (f : DEnv → Mo (Option Int)) : TO := Lf K g (fun _ (a b : Option Int) => a = b) Wx f
def oNone : DEnv → Mo (Option Int) := fun _ => ret none
def oSome (fa : DEnv → Mo Vx) : DEnv → Mo (Option Int) := fun ρ => bnd (fa ρ) fun y h => match y with
  | .d (.int i) => .ok (some i) h
  | _ => .stk
theorem po_imp {e : Option Expr} {t t' : TO} (h : PO X e t) (q : ∀ σ H Q, t' σ H Q → t σ H Q) : PO X e t' := ⟨fun pins s σ H Q I w => h.run pins s σ H Q I (q σ H Q w)⟩
theorem pdo_none : PO X none (LO X.K g Wx oNone) := po_imp po_none fun σ H Q p => by
  obtain ⟨W, ρ, h, hr, er, p⟩ := p
  exact p.ret hr rfl
theorem pdo_some {e : Expr} (ha : PE X e (LE X.K g Wx fa)) : PO X (some e) (LO X.K g Wx (oSome fa)) := po_imp (po_some ha) fun σ H Q p => by
  refine Lf.imp (Lf.bnd (R := RV X.K) p) fun v H1 ⟨W1, ρ, y, h1, hr1, er, rr, p1⟩ => ?_
  split at p1
  · rw [repInt rr]; exact ⟨_, rfl, p1.ret hr1 rfl⟩
  · exact p1.elim
def eSl (fa : DEnv → Mo Vx) (fl fh : DEnv → Mo (Option Int)) : DEnv → Mo Vx := fun ρ => bnd (fa ρ) fun x => bnd (fl ρ) fun l => bnd (fh ρ) fun u => dSl x l u
theorem RepDs.cut {K : PySem.W.Frag} {F : Hp} {vs : List V} {ds : List Dt} (h : RepDs K F vs ds) (lo hi : Option Int) : RepDs K F (cutV vs lo hi) (cutD ds lo hi) := by
  unfold cutV cutD
  rw [h.length]
  exact (h.drop _).take _
theorem cutD_len {α : Type} (xs : List α) (lo hi : Option Int) : (cutD xs lo hi).length ≤ xs.length := by
  unfold cutD
  rw [List.length_take, List.length_drop]
  omega
theorem cutD_mem {α : Type} {xs : List α} {lo hi : Option Int} {c : α} (h : c ∈ cutD xs lo hi) : c ∈ xs := List.mem_of_mem_drop (List.mem_of_mem_take h)
theorem okS_cut {s : List Nat} (ok : okS s) (lo hi : Option Int) : okS (cutD s lo hi) := ⟨Nat.le_trans (cutD_len _ _ _) ok.1, fun c hc => ok.2 c (cutD_mem hc)⟩
theorem cutD_whole {α : Type} {xs : List α} {lo hi : Option Int} (h : HT.sIx xs.length 0 lo = 0 ∧ HT.sIx xs.length xs.length hi = xs.length) : cutD xs lo hi = xs := by
  unfold cutD
  rw [h.1, h.2]
  simp
theorem cut_ints (ns : List Int) (lo hi : Option Int) : cutV (ns.map V.int) lo hi = (cutD ns lo hi).map V.int := by
  unfold cutV cutD
  rw [List.length_map, List.map_take, List.map_drop]
theorem RepDs.ofInts {K : PySem.W.Frag} {F : Hp} : ∀ ns : List Int, RepDs K F (ns.map V.int) (ns.map Dt.int)
  | [] => .nil
  | n :: r => .cons (.int n) (RepDs.ofInts r)
theorem sl_rep {W : Wd} {H : Hp} {h : DH} {x : V} {y : Vx} {l u : Option Int} {Q : VK} {E : XK} (hr : HRel X.K g.T W H h) (ra : RepV X.K W x y) (p : Post X.K g (RV X.K) W H (dSl y l u h) Q E) :
    rSlL X.K x l u H Q ∨ rSlA X.K x l u H Q ∨ rSlS x l u H Q := by
  unfold dSl at p
  split at p
  · rename_i ds
    obtain ⟨a1, vs1, rfl, q1, f1, s1⟩ := repTup hr ra
    refine .inr (.inl ⟨a1, vs1, rfl, q1, fun e => ?_, fun _ => p.newT hr (s1.cut l u)⟩)
    rw [s1.length] at e
    rw [cutD_whole e] at p
    exact p.ret hr (.tup f1 s1)
  · rename_i s
    obtain ⟨rfl, o1⟩ := repStr ra
    refine .inr (.inr ⟨_, rfl, by show (toStr s).cps.size ≤ _; simpa using o1.1, ?_⟩)
    have e : cutS (toStr s) l u = toStr (cutD s l u) := by
      unfold cutS cutD
      have el : (toStr s).length = s.length := by show (toStr s).cps.size = _; simp
      rw [el]
    rw [e]
    exact p.ret hr (.str _ (okS_cut o1 l u))
  · rename_i ns
    obtain ⟨a1, rfl, q1⟩ := ra
    refine .inl ⟨a1, _, rfl, SqL.le q1 hr.fro, ?_⟩
    rw [cut_ints]
    exact p.newL hr (RepDs.ofInts _)
  · split at p
    · rename_i ys e1
      split at p
      · rename_i ds e2
        obtain ⟨a1, xs1, rfl, q1, r1⟩ := asL_rep hr ra e1
        exact .inl ⟨a1, xs1, rfl, .inl (.inl q1), p.newL hr ((r1.plain e2).cut l u)⟩
      · exact p.elim
    · exact p.elim
theorem pd_sl (ha : PE X a (LE X.K g Wx fa)) (hl : PO X lo (LO X.K g Wx fl)) (hh : PO X hi (LO X.K g Wx fh)) : PE X (.Subscript a (.Slice lo hi none p2) pos) (LE X.K g Wx (eSl fa fl fh)) := by
  refine (pe_slice (sl_list.or (sl_tupA.or sl_str)) ha hl hh).imp fun σ H Q p => ?_
  refine Lf.imp (Lf.bnd (R := RV X.K) p) fun v H1 ⟨W1, ρ, y, h1, hr1, er, rr, p1⟩ => ?_
  refine ⟨W1, ρ, h1, hr1, er, (Post.bnd (R := fun _ (a b : Option Int) => a = b) p1).imp (fun l H2 ⟨W2, y2, h2, ex2, hr2, rr2, p2⟩ => ?_) fun _ _ _ q => q⟩
  refine ⟨W2, ρ, h2, hr2, er.le ex2.le, (Post.bnd (R := fun _ (a b : Option Int) => a = b) p2).imp (fun u H3 ⟨W3, y3, h3, ex3, hr3, rr3, p3⟩ => ?_) fun _ _ _ q => q⟩
  subst rr2 rr3
  exact sl_rep hr3 (RepV.le (ex2.trans ex3).le rr) p3
end

/-! ### built-in functions -/
def bLen : List Vx → Mo Vx := fun as h => match as with
  | [.d (.str s)] => .ok (.d (.int s.length)) h
  | [.d (.tup ds)] => .ok (.d (.int ds.length)) h
  | [a] => (match asL a h with | some ys => .ok (.d (.int ys.length)) h | none => .stk)
  | _ => .stk
/-- the signs of an int -/
def intL (i : Int) : List Nat := if 0 ≤ i then TL.numL i.toNat else 45 :: TL.numL (-i).toNat
def bInt : List Vx → Mo Vx := fun as h => match as with
  | [.d (.int i)] => .ok (.d (.int i)) h
  | [.d (.bl b)] => .ok (.d (.int (if b then 1 else 0))) h
  | [.d (.str s)] => (match PySem.intText? (toStr s) with | some n => if s.length ≤ 640 then .ok (.d (.int n)) h else .stk | none => .stk)
  | _ => .stk
def bStr : List Vx → Mo Vx := fun as h => match as with
  | [.d (.int i)] => if i.natAbs.log2 < 1920 then .ok (.d (.str (intL i))) h else .stk
  | _ => .stk
def bTuple : List Vx → Mo Vx := fun as h => match as with
  | [.d (.tup ds)] => .ok (.d (.tup ds)) h
  | [a] => (match asL a h with | some ys => (match plains ys with | some ds => .ok (.d (.tup ds)) h | none => .stk) | none => .stk)
  | _ => .stk
def bList : List Vx → Mo Vx := fun as h => match as with
  | [.d (.tup ds)] => .ok (.d (.lst ds)) h
  | [a] => (match asL a h with | some ys => (match plains ys with | some ds => .ok (.d (.lst ds)) h | none => .stk) | none => .stk)
  | _ => .stk
def blsOf : List Dt → Option (List Bool)
  | [] => some []
  | .bl i :: r => (match blsOf r with | some ns => some (i :: ns) | none => none)
  | _ :: _ => none
def plainL (a : Vx) (h : DH) : Option (List Dt) := match asL a h with | some ys => plains ys | none => none
def bSum : List Vx → Mo Vx := fun as h => match as with
  | [a] => (match plainL a h with | some ds => (match intsOf ds with | some ns => .ok (.d (.int ns.sum)) h | none => .stk) | none => .stk)
  | _ => .stk
def bAll : List Vx → Mo Vx := fun as h => match as with
  | [a] => (match plainL a h with | some ds => (match blsOf ds with | some ns => .ok (.d (.bl (ns.all id))) h | none => .stk) | none => .stk)
  | _ => .stk
def bAny : List Vx → Mo Vx := fun as h => match as with
  | [a] => (match plainL a h with | some ds => (match blsOf ds with | some ns => .ok (.d (.bl (ns.any id))) h | none => .stk) | none => .stk)
  | _ => .stk
def bAbs : List Vx → Mo Vx := fun as h => match as with
  | [.d (.int i)] => .ok (.d (.int (if i < 0 then -i else i))) h
  | _ => .stk
def bGcd : List Vx → Mo Vx := fun as h => match as with
  | [.d (.int i), .d (.int j)] => .ok (.d (.int (Nat.gcd i.natAbs j.natAbs : Nat))) h
  | _ => .stk
def maxI : List Int → Option Int
  | [] => none
  | n :: r => some (r.foldl (fun a b => if a < b then b else a) n)
def minI : List Int → Option Int
  | [] => none
  | n :: r => some (r.foldl (fun a b => if b < a then b else a) n)
def bMax : List Vx → Mo Vx := fun as h => match as with
  | [.d (.int i), .d (.int j)] => .ok (.d (.int (if j > i then j else i))) h
  | [a] => (match plainL a h with | some ds => (match intsOf ds with | some ns => (match maxI ns with | some m => .ok (.d (.int m)) h | none => .stk) | none => .stk) | none => .stk)
  | _ => .stk
def bMin : List Vx → Mo Vx := fun as h => match as with
  | [.d (.int i), .d (.int j)] => .ok (.d (.int (if j < i then j else i))) h
  | [a] => (match plainL a h with | some ds => (match intsOf ds with | some ns => (match minI ns with | some m => .ok (.d (.int m)) h | none => .stk) | none => .stk) | none => .stk)
  | _ => .stk
section
variable {K : PySem.W.Frag} {W : Wd}
theorem RepVs.one {xs : List V} {a : Vx} (r : RepVs K W xs [a]) : ∃ x, xs = [x] ∧ RepV K W x a := by
  cases r with
  | cons h t => cases t; exact ⟨_, rfl, h⟩
theorem RepVs.two {xs : List V} {a b : Vx} (r : RepVs K W xs [a, b]) : ∃ x y, xs = [x, y] ∧ RepV K W x a ∧ RepV K W y b := by
  cases r with
  | cons h t => cases t with | cons h2 t => cases t; exact ⟨_, _, rfl, h, h2⟩
theorem blsOf_eq : ∀ {ds : List Dt} {ns : List Bool}, blsOf ds = some ns → ds = ns.map Dt.bl
  | [], ns, e => by cases e; rfl
  | .bl i :: r, ns, e => by
    unfold blsOf at e
    split at e
    · rename_i ms hm; cases e; rw [blsOf_eq hm]; rfl
    · cases e
  | .non :: _, _, e => by cases e
  | .int _ :: _, _, e => by cases e
  | .str _ :: _, _, e => by cases e
  | .tup _ :: _, _, e => by cases e
  | .lst _ :: _, _, e => by cases e
theorem RepDs.bls {F : Hp} : ∀ {ns : List Bool} {vs : List V}, RepDs K F vs (ns.map Dt.bl) → vs = ns.map V.bl
  | [], vs, h => by cases h; rfl
  | n :: r, vs, h => by
    cases h with
    | cons h1 h2 => cases h1; rw [RepDs.bls h2]; rfl
theorem plainL_rep {g : Gp} {H : Hp} {h : DH} {x : V} {a : Vx} (hr : HRel K g.T W H h) (r : RepV K W x a) {ds : List Dt} (e : plainL a h = some ds) : ∃ p vs, x = .ref p ∧ H p = some (.lst vs) ∧ RepDs K W.F vs ds := by
  unfold plainL at e
  split at e
  · rename_i ys hy
    obtain ⟨p, vs, rfl, h1, h2⟩ := asL_rep hr r hy
    exact ⟨p, vs, rfl, h1, h2.plain e⟩
  · cases e
end
theorem intL_str (i : Int) : (toString i : Str) = toStr (intL i) := by
  refine TL.ext_tl ?_
  show TL.tl (Str.ofString (toString i)) = _
  unfold intL
  cases i with
  | ofNat n => exact TL.tl_num n
  | negSucc n =>
    have e1 : ¬ (0 : Int) ≤ Int.negSucc n := by omega
    rw [if_neg e1]
    have e2 : (-Int.negSucc n).toNat = n + 1 := by omega
    rw [e2]
    have e3 : toString (Int.negSucc n) = "-" ++ toString (n + 1) := rfl
    have e4 := TL.tl_num (n + 1)
    have e5 : toString (((n + 1 : Nat)) : Int) = toString (n + 1) := rfl
    rw [e5] at e4
    rw [e3, TL.tl_ofString, String.toList_append, List.map_append, ← TL.tl_ofString (toString (n + 1)), e4]
    rfl
theorem intL_dig (i : Int) : ∀ c ∈ intL i, c = 45 ∨ (48 ≤ c ∧ c ≤ 57) := by
  intro c hc
  unfold intL at hc
  split at hc
  · have := TL.numL_digits i.toNat c hc
    exact .inr this
  · rcases List.mem_cons.mp hc with h | h
    · exact .inl h
    · exact .inr (TL.numL_digits _ c h)
theorem intL_ok (i : Int) (h : i.natAbs.log2 < 1920) : okS (intL i) := by
  refine ⟨?_, fun c hc => ?_⟩
  · have e1 := int_text_fits h
    rw [intL_str] at e1
    have e2 : (toStr (intL i)).length = (intL i).length := by show (toStr _).cps.size = _; simp
    rw [e2] at e1
    exact e1
  · rcases intL_dig i c hc with h | h <;> omega
theorem maxI_ok {ns : List Int} {m : Int} (e : maxI ns = some m) : m ∈ ns ∧ ∀ y ∈ ns, y ≤ m := by
  cases ns with
  | nil => cases e
  | cons n r =>
    cases e
    have gen : ∀ (r : List Int) (n : Int), (r.foldl (fun a b => if a < b then b else a) n) ∈ n :: r ∧ ∀ y ∈ n :: r, y ≤ r.foldl (fun a b => if a < b then b else a) n := by
      intro r
      induction r with
      | nil => intro n; simp
      | cons z r ih =>
        intro n
        rw [List.foldl_cons]
        obtain ⟨h1, h2⟩ := ih (if n < z then z else n)
        refine ⟨?_, fun y hy => ?_⟩
        · rcases List.mem_cons.mp h1 with h | h
          · rw [h]; split <;> simp
          · exact List.mem_cons_of_mem _ (List.mem_cons_of_mem _ h)
        · have hb := h2 _ List.mem_cons_self
          rcases List.mem_cons.mp hy with rfl | hy
          · exact Int.le_trans (by split <;> omega) hb
          · rcases List.mem_cons.mp hy with rfl | hy
            · exact Int.le_trans (by split <;> omega) hb
            · exact h2 y (List.mem_cons_of_mem _ hy)
    exact gen r n
theorem minI_ok {ns : List Int} {m : Int} (e : minI ns = some m) : m ∈ ns ∧ ∀ y ∈ ns, m ≤ y := by
  cases ns with
  | nil => cases e
  | cons n r =>
    cases e
    have gen : ∀ (r : List Int) (n : Int), (r.foldl (fun a b => if b < a then b else a) n) ∈ n :: r ∧ ∀ y ∈ n :: r, r.foldl (fun a b => if b < a then b else a) n ≤ y := by
      intro r
      induction r with
      | nil => intro n; simp
      | cons z r ih =>
        intro n
        rw [List.foldl_cons]
        obtain ⟨h1, h2⟩ := ih (if z < n then z else n)
        refine ⟨?_, fun y hy => ?_⟩
        · rcases List.mem_cons.mp h1 with h | h
          · rw [h]; split <;> simp
          · exact List.mem_cons_of_mem _ (List.mem_cons_of_mem _ h)
        · have hb := h2 _ List.mem_cons_self
          rcases List.mem_cons.mp hy with rfl | hy
          · exact Int.le_trans hb (by split <;> omega)
          · rcases List.mem_cons.mp hy with rfl | hy
            · exact Int.le_trans hb (by split <;> omega)
            · exact h2 y (List.mem_cons_of_mem _ hy)
    exact gen r n
section
variable {X : Cx} {g : Gp}
theorem cd_len : CallD X g (.builtin "len") bLen := by
  refine ⟨_, call_len, fun W H h xs as Q E hr ra p => ?_⟩
  unfold bLen at p
  split at p
  · rename_i s
    obtain ⟨x, rfl, r1⟩ := ra.one
    obtain ⟨rfl, o⟩ := repStr r1
    have el : (toStr s).length = s.length := by show (toStr s).cps.size = _; simp
    refine ⟨_, s.length, rfl, ⟨by rw [el]; exact o.1, el.symm⟩, p.ret hr (.int _)⟩
  · rename_i ds
    obtain ⟨x, rfl, r1⟩ := ra.one
    obtain ⟨a1, vs1, rfl, q1, f1, s1⟩ := repTup hr r1
    exact ⟨_, ds.length, rfl, .inr ⟨vs1, q1, s1.length.symm⟩, p.ret hr (.int _)⟩
  · rename_i a _ _
    obtain ⟨x, rfl, r1⟩ := ra.one
    split at p
    · rename_i ys e
      obtain ⟨a1, xs1, rfl, q1, r2⟩ := asL_rep hr r1 e
      exact ⟨_, ys.length, rfl, .inl ⟨xs1, .inl (.inl q1), r2.length.symm⟩, p.ret hr (.int _)⟩
    · exact p.elim
  · exact p.elim
theorem cd_int : CallD X g (.type "int") bInt := by
  refine ⟨_, CallR.or call_int1 call_int_str, fun W H h xs as Q E hr ra p => ?_⟩
  unfold bInt at p
  split at p
  · obtain ⟨x, rfl, r1⟩ := ra.one
    rw [repInt r1]
    exact .inl (.inl ⟨_, rfl, p.ret hr (.int _)⟩)
  · obtain ⟨x, rfl, r1⟩ := ra.one
    rw [repBl r1]
    exact .inl (.inr ⟨_, rfl, p.ret hr (.int _)⟩)
  · rename_i s
    obtain ⟨x, rfl, r1⟩ := ra.one
    obtain ⟨rfl, o⟩ := repStr r1
    split at p
    · rename_i n e
      split at p
      · rename_i hl
        have el : (toStr s).length = s.length := by show (toStr s).cps.size = _; simp
        exact .inr ⟨_, n, rfl, e, by rw [el]; exact hl, p.ret hr (.int _)⟩
      · exact p.elim
    · exact p.elim
  · exact p.elim
theorem cd_str : CallD X g (.type "str") bStr := by
  refine ⟨_, call_str_int, fun W H h xs as Q E hr ra p => ?_⟩
  unfold bStr at p
  split at p
  · rename_i i
    obtain ⟨x, rfl, r1⟩ := ra.one
    rw [repInt r1]
    split at p
    · rename_i hl
      refine ⟨i, rfl, hl, ?_⟩
      rw [intL_str]
      exact p.ret hr (.str _ (intL_ok i hl))
    · exact p.elim
  · exact p.elim
theorem cd_tuple : CallD X g (.type "tuple") bTuple := by
  refine ⟨_, call_tuple_of, fun W H h xs as Q E hr ra p => ?_⟩
  unfold bTuple at p
  split at p
  · obtain ⟨x, rfl, r1⟩ := ra.one
    obtain ⟨a1, vs1, rfl, q1, f1, s1⟩ := repTup hr r1
    exact ⟨a1, vs1, rfl, .inr ⟨q1, p.ret hr (.tup f1 s1)⟩⟩
  · obtain ⟨x, rfl, r1⟩ := ra.one
    split at p
    · rename_i ys e
      split at p
      · rename_i ds e2
        obtain ⟨a1, xs1, rfl, q1, r2⟩ := asL_rep hr r1 e
        exact ⟨a1, xs1, rfl, .inl ⟨.inl (.inl q1), p.newT hr (r2.plain e2)⟩⟩
      · exact p.elim
    · exact p.elim
  · exact p.elim
theorem cd_list : CallD X g (.type "list") bList := by
  refine ⟨_, call_list_of, fun W H h xs as Q E hr ra p => ?_⟩
  unfold bList at p
  split at p
  · obtain ⟨x, rfl, r1⟩ := ra.one
    obtain ⟨a1, vs1, rfl, q1, f1, s1⟩ := repTup hr r1
    exact ⟨a1, vs1, rfl, .inr q1, p.newL hr s1⟩
  · obtain ⟨x, rfl, r1⟩ := ra.one
    split at p
    · rename_i ys e
      split at p
      · rename_i ds e2
        obtain ⟨a1, xs1, rfl, q1, r2⟩ := asL_rep hr r1 e
        exact ⟨a1, xs1, rfl, .inl (.inl (.inl q1)), p.newL hr (r2.plain e2)⟩
      · exact p.elim
    · exact p.elim
  · exact p.elim
theorem cd_sum (hc : X.calm = true) : CallD X g (.builtin "sum") bSum := by
  refine ⟨_, cr_sum hc, fun W H h xs as Q E hr ra p => ?_⟩
  unfold bSum at p
  split at p
  · obtain ⟨x, rfl, r1⟩ := ra.one
    split at p
    · rename_i ds e
      split at p
      · rename_i ns e2
        obtain ⟨a1, xs1, rfl, q1, r2⟩ := plainL_rep hr r1 e
        rw [intsOf_eq e2] at r2
        have z := RepDs.ints r2
        subst z
        exact ⟨a1, ns, rfl, .inl (.inl q1), p.ret hr (.int _)⟩
      · exact p.elim
    · exact p.elim
  · exact p.elim
theorem cd_all (hc : X.calm = true) : CallD X g (.builtin "all") bAll := by
  refine ⟨_, cr_all hc, fun W H h xs as Q E hr ra p => ?_⟩
  unfold bAll at p
  split at p
  · obtain ⟨x, rfl, r1⟩ := ra.one
    split at p
    · rename_i ds e
      split at p
      · rename_i ns e2
        obtain ⟨a1, xs1, rfl, q1, r2⟩ := plainL_rep hr r1 e
        rw [blsOf_eq e2] at r2
        have z := RepDs.bls r2
        subst z
        exact ⟨a1, ns, rfl, .inl (.inl q1), p.ret hr (.bl _)⟩
      · exact p.elim
    · exact p.elim
  · exact p.elim
theorem cd_any (hc : X.calm = true) : CallD X g (.builtin "any") bAny := by
  refine ⟨_, cr_any hc, fun W H h xs as Q E hr ra p => ?_⟩
  unfold bAny at p
  split at p
  · obtain ⟨x, rfl, r1⟩ := ra.one
    split at p
    · rename_i ds e
      split at p
      · rename_i ns e2
        obtain ⟨a1, xs1, rfl, q1, r2⟩ := plainL_rep hr r1 e
        rw [blsOf_eq e2] at r2
        have z := RepDs.bls r2
        subst z
        exact ⟨a1, ns, rfl, .inl (.inl q1), p.ret hr (.bl _)⟩
      · exact p.elim
    · exact p.elim
  · exact p.elim
theorem cd_abs : CallD X g (.builtin "abs") bAbs := by
  refine ⟨_, call_abs, fun W H h xs as Q E hr ra p => ?_⟩
  unfold bAbs at p
  split at p
  · obtain ⟨x, rfl, r1⟩ := ra.one
    rw [repInt r1]
    exact ⟨_, rfl, p.ret hr (.int _)⟩
  · exact p.elim
theorem cd_gcd : CallD X g (.builtin "math.gcd") bGcd := by
  refine ⟨_, cr_gcd, fun W H h xs as Q E hr ra p => ?_⟩
  unfold bGcd at p
  split at p
  · obtain ⟨x, y, rfl, r1, r2⟩ := ra.two
    rw [repInt r1, repInt r2]
    exact ⟨_, _, rfl, p.ret hr (.int _)⟩
  · exact p.elim
theorem cd_max (hc : X.calm = true) : CallD X g (.builtin "max") bMax := by
  refine ⟨_, CallR.or (call_max2 hc) (cr_max hc), fun W H h xs as Q E hr ra p => ?_⟩
  unfold bMax at p
  split at p
  · obtain ⟨x, y, rfl, r1, r2⟩ := ra.two
    rw [repInt r1, repInt r2]
    exact .inl ⟨_, _, rfl, p.ret hr (.int _)⟩
  · obtain ⟨x, rfl, r1⟩ := ra.one
    split at p
    · rename_i ds e
      split at p
      · rename_i ns e2
        split at p
        · rename_i m e3
          obtain ⟨a1, xs1, rfl, q1, r2⟩ := plainL_rep hr r1 e
          rw [intsOf_eq e2] at r2
          have z := RepDs.ints r2
          subst z
          obtain ⟨h1, h2⟩ := maxI_ok e3
          refine .inr ⟨a1, ns, rfl, .inl (.inl q1), List.length_pos_of_mem h1, fun m' hm hle => ?_⟩
          have : m' = m := Int.le_antisymm (h2 m' hm) (hle m h1)
          subst this
          exact p.ret hr (.int _)
        · exact p.elim
      · exact p.elim
    · exact p.elim
  · exact p.elim
theorem cd_min (hc : X.calm = true) : CallD X g (.builtin "min") bMin := by
  refine ⟨_, CallR.or (call_min2 hc) (cr_min hc), fun W H h xs as Q E hr ra p => ?_⟩
  unfold bMin at p
  split at p
  · obtain ⟨x, y, rfl, r1, r2⟩ := ra.two
    rw [repInt r1, repInt r2]
    exact .inl ⟨_, _, rfl, p.ret hr (.int _)⟩
  · obtain ⟨x, rfl, r1⟩ := ra.one
    split at p
    · rename_i ds e
      split at p
      · rename_i ns e2
        split at p
        · rename_i m e3
          obtain ⟨a1, xs1, rfl, q1, r2⟩ := plainL_rep hr r1 e
          rw [intsOf_eq e2] at r2
          have z := RepDs.ints r2
          subst z
          obtain ⟨h1, h2⟩ := minI_ok e3
          refine .inr ⟨a1, ns, rfl, .inl (.inl q1), List.length_pos_of_mem h1, fun m' hm hle => ?_⟩
          have : m' = m := Int.le_antisymm (hle m h1) (h2 m' hm)
          subst this
          exact p.ret hr (.int _)
        · exact p.elim
      · exact p.elim
    · exact p.elim
  · exact p.elim
end
end Dn
end
section
set_option Elab.async false
set_option linter.all false
set_option maxRecDepth 100000
set_option maxHeartbeats 2000000
/-! Dn6: the plain heap's lists, methods, displays, arguments, f-strings. -/
namespace Dn
open PySem PySem.Spec PyProof.Rows L2

section
variable {K : PySem.W.Frag} {T : Tbs} {g : Gp} {W : Wd} {H : Hp} {h : DH}
theorem TabsN_upd {a : Addr} {xs xs' : List V} (t : NdefX.TabsN T H) (e : H a = some (.lst xs)) : NdefX.TabsN T (upd H a (.lst xs')) := fun p hp => by
  obtain ⟨ps, h1, h2, h3⟩ := t p hp
  have n1 : p.1 ≠ a := ne_of h1 e (fun z => by cases z)
  refine ⟨ps, by rw [upd_ne n1]; exact h1, h2, fun pos cv hc => ?_⟩
  obtain ⟨c, e1, e2⟩ := h3 pos cv hc
  refine ⟨c, e1, ?_⟩
  have n2 : c ≠ a := ne_of e2 e (fun z => by unfold LamX.CodeO at z; cases z)
  rw [upd_ne n2]; exact e2
theorem HRel.alloc (r : HRel K T W H h) {p : Addr} {vs : List V} {ys : List Vx} (np : H p = none) (rv : RepVs K W vs ys) :
    HRel K T ⟨W.F, W.θ ++ [p]⟩ (upd H p (.lst vs)) (h ++ [.lst ys]) ∧ Ext W H ⟨W.F, W.θ ++ [p]⟩ (upd H p (.lst vs)) := by
  have fp : W.F p = none := by
    cases q : W.F p with
    | none => rfl
    | some u => rw [r.fro _ _ q] at np; cases np
  have leH : HLe H (upd H p (.lst vs)) := fun a u e => by rw [upd_ne (ne_of_none e np)]; exact e
  have hwl : WLe W ⟨W.F, W.θ ++ [p]⟩ := ⟨HLe.refl _, [p], rfl⟩
  have old : ∀ (k : Nat) (a : Addr), (W.θ ++ [p])[k]? = some a → (k < W.θ.length ∧ W.θ[k]? = some a) ∨ (k = W.θ.length ∧ a = p) := fun k a e => by
    by_cases q : k < W.θ.length
    · rw [List.getElem?_append_left q] at e; exact .inl ⟨q, e⟩
    · rw [List.getElem?_append_right (by omega)] at e
      have hk : k - W.θ.length = 0 := by
        have := (List.getElem?_eq_some_iff.mp e).1
        simp at this; omega
      rw [hk] at e
      cases e
      exact .inr ⟨by omega, rfl⟩
  have at_ : ∀ (k : Nat) (o : Ob), k < W.θ.length → (h ++ [Ob.lst ys])[k]? = some o → h[k]? = some o := fun k o q e => by
    rw [List.getElem?_append_left (by rw [← r.len]; exact q)] at e; exact e
  refine ⟨⟨fun a u e => leH a u (r.fro a u e), r.ntb, by simp [r.len], fun k a o e1 e2 => ?_, fun k a o e1 e2 nd => ?_, ?_, r.tab.ext leH⟩, HLe.refl _, ⟨[p], rfl, by simpa using np⟩, fun a u e _ _ => leH a u e, fun a e => ?_, fun a u e => .inl e⟩
  · rcases old k a e1 with ⟨q, e⟩ | ⟨rfl, rfl⟩
    · have hh := r.obj k a o e (at_ k o q e2)
      cases o with
      | lst zs => obtain ⟨xs, h1, h2⟩ := hh; exact ⟨xs, leH _ _ h1, h2.le hwl⟩
      | dead => obtain ⟨xs, h1⟩ := hh; exact ⟨xs, leH _ _ h1⟩
    · rw [r.len, List.getElem?_append_right (Nat.le_refl _), Nat.sub_self] at e2
      cases e2
      exact ⟨vs, upd_same, rv.le hwl⟩
  · rcases old k a e1 with ⟨q, e⟩ | ⟨rfl, rfl⟩
    · exact r.liv k a o e (at_ k o q e2) nd
    · exact fp
  · refine List.nodup_append.mpr ⟨r.nd, by simp, fun a ha b hb => ?_⟩
    have eb : b = p := by simpa using hb
    subst eb
    rintro rfl
    obtain ⟨k, hk⟩ := List.mem_iff_getElem?.mp ha
    have hlt := (List.getElem?_eq_some_iff.mp hk).1
    obtain ⟨o, ho⟩ : ∃ o, h[k]? = some o := ⟨h[k]'(by rw [← r.len]; exact hlt), by simp⟩
    have hh := r.obj k a o hk ho
    cases o with
    | lst zs => obtain ⟨xs, h1, _⟩ := hh; rw [np] at h1; cases h1
    | dead => obtain ⟨xs, h1⟩ := hh; rw [np] at h1; cases h1
  · by_cases q : a = p
    · subst q; rw [upd_same] at e; cases e
    · rw [upd_ne q] at e; exact e
theorem HRel.put (r : HRel K T W H h) {k : Nat} {a : Addr} {xs xs' : List V} {ys ys' : List Vx} (ha : W.θ[k]? = some a) (hk : h[k]? = some (.lst ys)) (hx : H a = some (.lst xs)) (rv : RepVs K W xs' ys') :
    HRel K T W (upd H a (.lst xs')) (h.set k (.lst ys')) ∧ Ext W H W (upd H a (.lst xs')) := by
  have fa : W.F a = none := r.liv k a _ ha hk (fun z => by cases z)
  have inj : ∀ (j : Nat) (b : Addr), W.θ[j]? = some b → j ≠ k → b ≠ a := fun j b e n z => by
    subst z
    obtain ⟨h1, e1⟩ := List.getElem?_eq_some_iff.mp e
    obtain ⟨h2, e2⟩ := List.getElem?_eq_some_iff.mp ha
    exact n ((List.getElem_inj r.nd).mp (e1.trans e2.symm))
  refine ⟨⟨fun b u e => ?_, r.ntb, by simp [r.len], fun j b o e1 e2 => ?_, fun j b o e1 e2 nd => ?_, r.nd, TabsN_upd r.tab hx⟩, HLe.refl _, ⟨[], by simp, by simp⟩, fun b u e n _ => ?_, fun b e => ?_, fun b u e => .inl e⟩
  · have nb : b ≠ a := fun z => by rw [z, fa] at e; cases e
    rw [upd_ne nb]; exact r.fro b u e
  · by_cases q : j = k
    · subst q
      rw [ha] at e1; cases e1
      rw [List.getElem?_set_self (by rw [← r.len]; exact (List.getElem?_eq_some_iff.mp ha).1)] at e2
      cases e2
      exact ⟨xs', upd_same, rv⟩
    · rw [List.getElem?_set_ne (Ne.symm q)] at e2
      have nb := inj j b e1 q
      have hh := r.obj j b o e1 e2
      cases o with
      | lst zs => obtain ⟨ws, h1, h2⟩ := hh; exact ⟨ws, by rw [upd_ne nb]; exact h1, h2⟩
      | dead => obtain ⟨ws, h1⟩ := hh; exact ⟨ws, by rw [upd_ne nb]; exact h1⟩
  · by_cases q : j = k
    · subst q; rw [ha] at e1; cases e1; exact fa
    · rw [List.getElem?_set_ne (Ne.symm q)] at e2
      exact r.liv j b o e1 e2 nd
  · have nb : b ≠ a := fun z => n (z ▸ List.mem_of_getElem? ha)
    rw [upd_ne nb]; exact e
  · by_cases q : b = a
    · subst q; rw [upd_same] at e; cases e
    · rw [upd_ne q] at e; exact e
end

def strsOf : List Dt → Option (List (List Nat))
  | [] => some []
  | .str s :: r => (match strsOf r with | some ns => some (s :: ns) | none => none)
  | _ :: _ => none
theorem strsOf_eq : ∀ {ds : List Dt} {ns : List (List Nat)}, strsOf ds = some ns → ds = ns.map Dt.str
  | [], ns, e => by cases e; rfl
  | .str i :: r, ns, e => by
    unfold strsOf at e
    split at e
    · rename_i ms hm; cases e; rw [strsOf_eq hm]; rfl
    · cases e
  | .non :: _, _, e => by cases e
  | .int _ :: _, _, e => by cases e
  | .bl _ :: _, _, e => by cases e
  | .tup _ :: _, _, e => by cases e
  | .lst _ :: _, _, e => by cases e
/-! ### methods -/
def MtD (X : Cx) (g : Gp) (id : String) (dop : Vx → List Vx → Mo Vx) : Prop :=
  ∃ r : V → List V → Hp → VK → Prop, MtR X id r ∧ ∀ (W : Wd) (H : Hp) (h : DH) (x : V) (xs : List V) (a : Vx) (as : List Vx) (Q : VK) (E : XK), HRel X.K g.T W H h → RepV X.K W x a → RepVs X.K W xs as → Post X.K g (RV X.K) W H (dop a as h) Q E → r x xs H Q
inductive Ty where
  | str | list
def Ty.nm : Ty → String
  | .str => "str"
  | .list => "list"
def tyD : Ty → Vx → DH → Bool
  | .str, .d (.str _), _ => true
  | .list, a, h => (asL a h).isSome
  | _, _, _ => false
def aNil : DEnv → Mo (List Vx) := fun _ => ret []
def aCons (fa : DEnv → Mo Vx) (fr : DEnv → Mo (List Vx)) : DEnv → Mo (List Vx) := fun ρ => bnd (fa ρ) fun x => bnd (fr ρ) fun r => ret (x :: r)
def eMt (T : Ty) (dop : Vx → List Vx → Mo Vx) (fo : DEnv → Mo Vx) (fa : DEnv → Mo (List Vx)) : DEnv → Mo Vx := fun ρ => bnd (fo ρ) fun o h => if tyD T o h = true then bnd (fa ρ) (fun as => dop o as) h else .stk
def eCall (dop : List Vx → Mo Vx) (fa : DEnv → Mo (List Vx)) : DEnv → Mo Vx := fun ρ => bnd (fa ρ) dop
def eTup (fa : DEnv → Mo (List Vx)) : DEnv → Mo Vx := fun ρ => bnd (fa ρ) fun as h => match plains as with
  | some ds => if ds.length ≤ 16777216 then .ok (.d (.tup ds)) h else .stk
  | none => .stk
def eLst (fa : DEnv → Mo (List Vx)) : DEnv → Mo Vx := fun ρ => bnd (fa ρ) fun as h => match plains as with
  | some ds => if ds.length ≤ 16777216 then .ok (.d (.lst ds)) h else .stk
  | none => .stk
def eNew (fa : DEnv → Mo (List Vx)) : DEnv → Mo Vx := fun ρ => bnd (fa ρ) fun as h => if as.length ≤ 16777216 then .ok (.r h.length) (h ++ [.lst as]) else .stk
section
variable {X : Cx} {g : Gp} {Wx : WX} {a b : Expr} {es : List Expr} {fa fb : DEnv → Mo Vx} {fs : DEnv → Mo (List Vx)} {pos : Pos}
abbrev RVs (K : PySem.W.Frag) : Wd → List V → List Vx → Prop := fun W v y => RepVs K W v y
theorem pda_nil : PA X [] (LA X.K g Wx aNil) := pa_nil.imp fun σ H Q p => by
  obtain ⟨W, ρ, h, hr, er, p⟩ := p
  exact p.ret hr RepVs.nil
theorem pda_cons (ha : PE X a (LE X.K g Wx fa)) (hr : PA X es (LA X.K g Wx fs)) (hs : starEach (a :: es) X.env = (false, eval a X.env) :: starEach es X.env) : PA X (a :: es) (LA X.K g Wx (aCons fa fs)) := by
  refine (pa_cons ha hr hs).imp fun σ H Q p => ?_
  refine Lf.imp (Lf.bnd (R := RV X.K) p) fun v H1 ⟨W1, ρ, y, h1, hr1, er, rr, p1⟩ => ?_
  refine ⟨W1, ρ, h1, hr1, er, (Post.bnd (R := RVs X.K) p1).imp (fun vs H2 ⟨W2, y2, h2, ex2, hr2, rr2, p2⟩ => ?_) fun _ _ _ q => q⟩
  exact p2.ret hr2 (.cons (RepV.le ex2.le rr) rr2)
theorem pd_tup {x1 : Nat} (h : PA X es (LA X.K g Wx fs)) : PE X (.Tuple es x1 pos) (LE X.K g Wx (eTup fs)) := by
  refine (pe_tup h).imp fun σ H Q p => ?_
  refine Lf.imp (Lf.bnd (R := RVs X.K) p) fun v H1 ⟨W1, ρ, y, h1, hr1, er, rr, p1⟩ => ?_
  split at p1
  · rename_i ds e
    split at p1
    · rename_i hl
      have s1 := rr.plain e
      exact ⟨by rw [sizeLine_eq, s1.length]; exact hl, p1.newT hr1 s1⟩
    · exact p1.elim
  · exact p1.elim
theorem pd_lst (h : PA X es (LA X.K g Wx fs)) : PE X (.List es pos) (LE X.K g Wx (eLst fs)) := by
  refine (pe_lst h).imp fun σ H Q p => ?_
  refine Lf.imp (Lf.bnd (R := RVs X.K) p) fun v H1 ⟨W1, ρ, y, h1, hr1, er, rr, p1⟩ => ?_
  split at p1
  · rename_i ds e
    split at p1
    · rename_i hl
      have s1 := rr.plain e
      exact ⟨by rw [sizeLine_eq, s1.length]; exact hl, p1.newL hr1 s1⟩
    · exact p1.elim
  · exact p1.elim
/-- a new list of the plain heap as the answer -/
theorem Post.newR {K : PySem.W.Frag} {W : Wd} {H : Hp} {h : DH} {ys : List Vx} {vs : List V} {Q : VK} {E : XK} (P : Post K g (RV K) W H (.ok (.r h.length) (h ++ [.lst ys])) Q E) (hr : HRel K g.T W H h) (rv : RepVs K W vs ys) : ∀ p, H p = none → Q (.ref p) (upd H p (.lst vs)) := fun p np => by
  obtain ⟨h1, h2⟩ := hr.alloc np rv
  refine P _ _ _ h2 h1 ⟨p, ?_, rfl⟩
  show (W.θ ++ [p])[h.length]? = some p
  rw [← hr.len, List.getElem?_append_right (Nat.le_refl _), Nat.sub_self]; rfl
theorem pd_new (h : PA X es (LA X.K g Wx fs)) : PE X (.List es pos) (LE X.K g Wx (eNew fs)) := by
  refine (pe_lst h).imp fun σ H Q p => ?_
  refine Lf.imp (Lf.bnd (R := RVs X.K) p) fun v H1 ⟨W1, ρ, y, h1, hr1, er, rr, p1⟩ => ?_
  split at p1
  · rename_i hl
    exact ⟨by rw [sizeLine_eq, rr.length]; exact hl, p1.newR hr1 rr⟩
  · exact p1.elim
/-- list(x): a list of the plain heap -/
def bListN : List Vx → Mo Vx := fun as h => match as with
  | [.d (.tup ds)] => .ok (.r h.length) (h ++ [.lst (ds.map Vx.d)])
  | [a] => (match asL a h with | some ys => .ok (.r h.length) (h ++ [.lst ys]) | none => .stk)
  | _ => .stk
theorem cd_listN : CallD X g (.type "list") bListN := by
  refine ⟨_, call_list_of, fun W H h xs as Q E hr ra p => ?_⟩
  unfold bListN at p
  split at p
  · obtain ⟨x, rfl, r1⟩ := ra.one
    obtain ⟨a1, vs1, rfl, q1, f1, s1⟩ := repTup hr r1
    exact ⟨a1, vs1, rfl, .inr q1, p.newR hr (.of_plain s1)⟩
  · obtain ⟨x, rfl, r1⟩ := ra.one
    split at p
    · rename_i ys e
      obtain ⟨a1, xs1, rfl, q1, r2⟩ := asL_rep hr r1 e
      exact ⟨a1, xs1, rfl, .inl (.inl (.inl q1)), p.newR hr r2⟩
    · exact p.elim
  · exact p.elim
/-! calls of built-ins -/
theorem pd_callB {x : Str} {p : Pos} {id : String} {dop : List Vx → Mo Vx} (hc : CallD X g (.builtin id) dop) (hg : Gl X x) (hm : X.mg x = none) (hv : bootBuiltins x = some (.builtin id)) (ha : PA X (a :: es) (LA X.K g Wx fs)) (hn : x ≠ "__name__") (hdb : (x == ("__debug__" : Str)) = false)
    (he : starEach (a :: es) X.env = (false, eval a X.env) :: starEach es X.env) (hpl : (backTo pos (starEach es X.env)).any (·.1) = false) : PE X (.Call (.Name x p) (a :: es) [] pos) (LE X.K g Wx (eCall dop fs)) := by
  obtain ⟨r, h1, h2⟩ := hc
  refine (pe_callB h1 hg hm hv ha hn hdb he hpl).imp fun σ H Q p => ?_
  refine Lf.imp (Lf.bnd (R := RVs X.K) p) fun v H1 ⟨W1, ρ, y, h1', hr1, er, rr, p1⟩ => ?_
  exact h2 W1 H1 h1' v y Q _ hr1 rr p1
theorem pd_callTy {x : Str} {p : Pos} {T : String} {dop : List Vx → Mo Vx} (hc : CallD X g (.type T) dop) (hg : Gl X x) (hm : X.mg x = none) (hv : bootBuiltins x = some (.type T)) (ha : PA X (a :: es) (LA X.K g Wx fs)) (hn : x ≠ "__name__") (hdb : (x == ("__debug__" : Str)) = false)
    (he : starEach (a :: es) X.env = (false, eval a X.env) :: starEach es X.env) (hpl : (backTo pos (starEach es X.env)).any (·.1) = false) : PE X (.Call (.Name x p) (a :: es) [] pos) (LE X.K g Wx (eCall dop fs)) := by
  obtain ⟨r, h1, h2⟩ := hc
  refine (pe_callTy h1 hg hm hv ha hn hdb he hpl).imp fun σ H Q p => ?_
  refine Lf.imp (Lf.bnd (R := RVs X.K) p) fun v H1 ⟨W1, ρ, y, h1', hr1, er, rr, p1⟩ => ?_
  exact h2 W1 H1 h1' v y Q _ hr1 rr p1
/-- a built-in function that the module holds by a name of its own (from math import gcd) -/
theorem pd_callG {x : Str} {p : Pos} {id : String} {dop : List Vx → Mo Vx} (hc : CallD X g (.builtin id) dop) (hg : Gl X x) (hm : X.mg x = some (.builtin id)) (ha : PA X (a :: es) (LA X.K g Wx fs)) (hdb : (x == ("__debug__" : Str)) = false)
    (he : starEach (a :: es) X.env = (false, eval a X.env) :: starEach es X.env) (hpl : (backTo pos (starEach es X.env)).any (·.1) = false) : PE X (.Call (.Name x p) (a :: es) [] pos) (LE X.K g Wx (eCall dop fs)) := by
  obtain ⟨r, h1, h2⟩ := hc
  refine PE.imp (t := tCB r (LA X.K g Wx fs)) ⟨fun pins s σ H Q I h => ?_⟩ fun σ H Q p => ?_
  · refine wpAny_Call_Name_kw (ld_glob I hg hm ?_ hdb)
    exact PyProof.Rows.callWith_builtin1 (thn (ha.run pos pins s σ H _ I h) fun us s1 ⟨vs, H1, I1, r1, q1⟩ => h1 pins s1 σ H1 vs us Q I1 r1 q1) he hpl
  refine Lf.imp (Lf.bnd (R := RVs X.K) p) fun v H1 ⟨W1, ρ, y, h1', hr1, er, rr, p1⟩ => ?_
  exact h2 W1 H1 h1' v y Q _ hr1 rr p1
/-! methods of built-ins -/
theorem tyD_rep {K : PySem.W.Frag} {W : Wd} {H : Hp} {h : DH} {x : V} {y : Vx} {T : Ty} (hr : HRel K g.T W H h) (r : RepV K W x y) (e : tyD T y h = true) : tyV K T.nm x H := by
  unfold tyD at e
  split at e
  · rw [(repStr r).1]; rfl
  · cases q : asL y h with
    | none => rw [q] at e; cases e
    | some ys =>
      obtain ⟨a1, xs1, rfl, q1, _⟩ := asL_rep hr r q
      exact .inl ⟨rfl, xs1, .inl (.inl q1)⟩
  · cases e
theorem pd_mt {T : Ty} {id : String} {name : Str} {o : Expr} {apos : Pos} {dop : Vx → List Vx → Mo Vx} {fo : DEnv → Mo Vx} (pa : PlainAttrs T.nm) (slot : Slot T.nm name id) (hty : typeOf (.builtin id) = pure (.type "method_descriptor")) (hm : MtD X g id dop)
    (ho : PE X o (LE X.K g Wx fo)) (ha : PA X (a :: es) (LA X.K g Wx fs)) (hbase : attributeBase o name X.env (eval o X.env) = eval o X.env)
    (hfew : ((backTo pos (starEach (a :: es) X.env)).all (fun x => !x.1) && (backToKw pos (keywordEach [] X.env)).all (fun x => x.1.isSome)
      && decide ((a :: es).length + ([] : List Keyword).length + (if ([] : List Keyword).isEmpty then 0 else 1) < 30)) = true)
    (hline : (apos.endLine == pos.line) = true) (hs : starEach (a :: es) X.env = (false, eval a X.env) :: starEach es X.env) (hplain : (backTo pos (starEach es X.env)).any (·.1) = false) :
    PE X (.Call (.Attribute o name apos) (a :: es) [] pos) (LE X.K g Wx (eMt T dop fo fs)) := by
  obtain ⟨r, h1, h2⟩ := hm
  refine (pe_bm pa slot hty h1 ho ha hbase hfew hline hs hplain).imp fun σ H Q p => ?_
  refine Lf.imp (Lf.bnd (R := RV X.K) p) fun v H1 ⟨W1, ρ, y, h1', hr1, er, rr, p1⟩ => ?_
  split at p1
  · rename_i ht
    refine ⟨tyD_rep hr1 rr ht, W1, ρ, h1', hr1, er, (Post.bnd (R := RVs X.K) p1).imp (fun vs H2 ⟨W2, y2, h2', ex2, hr2, rr2, p2⟩ => ?_) fun _ _ _ q => q⟩
    exact h2 W2 H2 h2' v vs y y2 Q _ hr2 (RepV.le ex2.le rr) rr2 p2
  · exact p1.elim
theorem pd_mt0 {T : Ty} {id : String} {name : Str} {o : Expr} {apos : Pos} {dop : Vx → List Vx → Mo Vx} {fo : DEnv → Mo Vx} (pa : PlainAttrs T.nm) (slot : Slot T.nm name id) (hty : typeOf (.builtin id) = pure (.type "method_descriptor")) (hm : MtD X g id dop)
    (ho : PE X o (LE X.K g Wx fo)) (hbase : attributeBase o name X.env (eval o X.env) = eval o X.env) (hline : (apos.endLine == pos.line) = true) :
    PE X (.Call (.Attribute o name apos) [] [] pos) (LE X.K g Wx (eMt T dop fo aNil)) := by
  obtain ⟨r, h1, h2⟩ := hm
  refine (pe_bm0 pa slot hty h1 ho hbase hline).imp fun σ H Q p => ?_
  refine Lf.imp (Lf.bnd (R := RV X.K) p) fun v H1 ⟨W1, ρ, y, h1', hr1, er, rr, p1⟩ => ?_
  split at p1
  · rename_i ht
    exact ⟨tyD_rep hr1 rr ht, h2 W1 H1 h1' v [] y [] Q _ hr1 rr .nil p1⟩
  · exact p1.elim

/-! ### each method -/
def mJoin : Vx → List Vx → Mo Vx := fun o as h => match o, as with
  | .d (.str s), [a] => (match asQ a h with
    | some ds => (match strsOf ds with
      | some ts => if (ts.map List.length).sum + ts.length * s.length ≤ 16777216 then .ok (.d (.str (TL.joinL s ts))) h else .stk
      | none => .stk)
    | none => .stk)
  | _, _ => .stk
def mSplit : Vx → List Vx → Mo Vx := fun o as h => match o, as with
  | .d (.str s), [.d (.str t)] => if t ≠ [] ∧ (∀ c ∈ t, c < 256) ∧ s.length + 2 ≤ 16777216 then .ok (.d (.lst ((TL.spl t 0 [] s).map Dt.str))) h else .stk
  | _, _ => .stk
def partD (t s : List Nat) : List Nat × List Nat × List Nat := match TL.par t [] s with
  | some (a, b) => (a, t, b)
  | none => (s, [], [])
def mPart : Vx → List Vx → Mo Vx := fun o as h => match o, as with
  | .d (.str s), [.d (.str t)] => if t ≠ [] then .ok (.d (.tup [.str (partD t s).1, .str (partD t s).2.1, .str (partD t s).2.2])) h else .stk
  | _, _ => .stk
def mStarts : Vx → List Vx → Mo Vx := fun o as h => match o, as with
  | .d (.str s), [.d (.str t)] => .ok (.d (.bl (Txt.startswith (toStr s) (toStr t)))) h
  | _, _ => .stk
def mEnds : Vx → List Vx → Mo Vx := fun o as h => match o, as with
  | .d (.str s), [.d (.str t)] => .ok (.d (.bl (Txt.endswith (toStr s) (toStr t)))) h
  | _, _ => .stk
def mCount : Vx → List Vx → Mo Vx := fun o as h => match o, as with
  | .d (.str s), [.d (.str t)] => .ok (.d (.int (Txt.count (toStr s) (toStr t)))) h
  | _, _ => .stk
def mAppend : Vx → List Vx → Mo Vx := fun o as h => match o, as with
  | .r k, [y] => (match h[k]? with | some (.lst ys) => if ys.length < 16777216 then .ok (.d .non) (h.set k (.lst (ys ++ [y]))) else .stk | _ => .stk)
  | _, _ => .stk
def mExtend : Vx → List Vx → Mo Vx := fun o as h => match o, as with
  | .r k, [a] => (match h[k]? with
    | some (.lst ys) => (match asL a h with
      | some zs => if ys.length + zs.length ≤ 16777216 then .ok (.d .non) (h.set k (.lst (ys ++ zs))) else .stk
      | none => .stk)
    | _ => .stk)
  | _, _ => .stk
def mPop : Vx → List Vx → Mo Vx := fun o as h => match o, as with
  | .r k, [] => (match h[k]? with | some (.lst ys) => (match ys[ys.length - 1]? with | some y => .ok y (h.set k (.lst ys.dropLast)) | none => .stk) | _ => .stk)
  | _, _ => .stk
theorem od_app : MtD X g "list.append" mAppend := by
  refine ⟨_, mt_append, fun W H h x xs a as Q E hr ra rs p => ?_⟩
  unfold mAppend at p
  split at p
  · rename_i k y
    obtain ⟨z, rfl, rz⟩ := rs.one
    obtain ⟨a1, ea, rfl⟩ := ra
    split at p
    · rename_i ys hk
      split at p
      · rename_i hl
        obtain ⟨zs, hx, hv⟩ := hr.obj k a1 _ ea hk
        obtain ⟨h1, h2⟩ := hr.put ea hk hx (hv.append (.cons rz .nil))
        exact ⟨a1, zs, z, rfl, rfl, hx, by rw [sizeLine_eq, hv.length]; exact hl, p W _ _ h2 h1 RepD.non⟩
      · exact p.elim
    · exact p.elim
  · exact p.elim
theorem od_ext : MtD X g "list.extend" mExtend := by
  refine ⟨_, mt_extend, fun W H h x xs a as Q E hr ra rs p => ?_⟩
  unfold mExtend at p
  split at p
  · rename_i k b
    obtain ⟨z, rfl, rz⟩ := rs.one
    obtain ⟨a1, ea, rfl⟩ := ra
    split at p
    · rename_i ys hk
      split at p
      · rename_i ws e2
        split at p
        · rename_i hl
          obtain ⟨zs, hx, hv⟩ := hr.obj k a1 _ ea hk
          obtain ⟨a2, xs2, rfl, q2, r2⟩ := asL_rep hr rz e2
          obtain ⟨h1, h2⟩ := hr.put ea hk hx (hv.append r2)
          exact ⟨a1, a2, zs, xs2, rfl, rfl, hx, q2, by rw [sizeLine_eq, hv.length, r2.length]; exact hl, p W _ _ h2 h1 RepD.non⟩
        · exact p.elim
      · exact p.elim
    · exact p.elim
  · exact p.elim
theorem od_pop : MtD X g "list.pop" mPop := by
  refine ⟨_, mt_pop, fun W H h x xs a as Q E hr ra rs p => ?_⟩
  unfold mPop at p
  split at p
  · rename_i k
    cases rs
    obtain ⟨a1, ea, rfl⟩ := ra
    split at p
    · rename_i ys hk
      split at p
      · rename_i y e
        obtain ⟨zs, hx, hv⟩ := hr.obj k a1 _ ea hk
        obtain ⟨v, e1, e2⟩ := hv.get e
        obtain ⟨h1, h2⟩ := hr.put ea hk hx hv.dropLast
        refine ⟨a1, zs, v, rfl, rfl, hx, by rw [hv.length]; exact e1, p W _ _ h2 h1 e2⟩
      · exact p.elim
    · exact p.elim
  · exact p.elim
theorem len_toStr (s : List Nat) : (toStr s).length = s.length := by show (toStr s).cps.size = _; simp
theorem od_starts : MtD X g "str.startswith" mStarts := by
  refine ⟨_, mt_startswith, fun W H h x xs a as Q E hr ra rs p => ?_⟩
  unfold mStarts at p
  split at p
  · obtain ⟨z, rfl, rz⟩ := rs.one
    rw [(repStr ra).1, (repStr rz).1]
    exact ⟨_, _, rfl, rfl, p.ret hr (.bl _)⟩
  · exact p.elim
theorem od_ends : MtD X g "str.endswith" mEnds := by
  refine ⟨_, mt_endswith, fun W H h x xs a as Q E hr ra rs p => ?_⟩
  unfold mEnds at p
  split at p
  · obtain ⟨z, rfl, rz⟩ := rs.one
    rw [(repStr ra).1, (repStr rz).1]
    exact ⟨_, _, rfl, rfl, p.ret hr (.bl _)⟩
  · exact p.elim
theorem od_count : MtD X g "str.count" mCount := by
  refine ⟨_, mt_count, fun W H h x xs a as Q E hr ra rs p => ?_⟩
  unfold mCount at p
  split at p
  · obtain ⟨z, rfl, rz⟩ := rs.one
    rw [(repStr ra).1, (repStr rz).1]
    exact ⟨_, _, rfl, rfl, p.ret hr (.int _)⟩
  · exact p.elim
theorem par_mem (t : List Nat) : ∀ (l acc a b : List Nat), TL.par t acc l = some (a, b) → a.length + b.length ≤ acc.length + l.length ∧ (∀ c ∈ a, c ∈ acc ∨ c ∈ l) ∧ ∀ c ∈ b, c ∈ l
  | [], acc, a, b, e => by cases e
  | c :: r, acc, a, b, e => by
    unfold TL.par at e
    split at e
    · cases e
      refine ⟨?_, fun x hx => .inl hx, fun x hx => List.mem_of_mem_drop hx⟩
      rw [List.length_drop]; omega
    · obtain ⟨h1, h2, h3⟩ := par_mem t r (acc ++ [c]) a b e
      refine ⟨?_, fun x hx => ?_, fun x hx => List.mem_cons_of_mem _ (h3 x hx)⟩
      · rw [List.length_append, List.length_singleton] at h1; rw [List.length_cons]; omega
      · rcases h2 x hx with h | h
        · rcases List.mem_append.mp h with h | h
          · exact .inl h
          · exact .inr (by simp at h; simp [h])
        · exact .inr (List.mem_cons_of_mem _ h)
theorem partD_ok {s t : List Nat} (hs : okS s) (ht : okS t) : okS (partD t s).1 ∧ okS (partD t s).2.1 ∧ okS (partD t s).2.2 := by
  have nil : okS [] := ⟨Nat.zero_le _, by simp⟩
  unfold partD
  split
  · rename_i a b e
    obtain ⟨h1, h2, h3⟩ := par_mem t s [] a b e
    have l1 := hs.1
    refine ⟨⟨by simp at h1; show a.length ≤ _; omega, fun c hc => ?_⟩, ht, ⟨by simp at h1; show b.length ≤ _; omega, fun c hc => hs.2 c (h3 c hc)⟩⟩
    rcases h2 c hc with h | h
    · cases h
    · exact hs.2 c h
  · exact ⟨hs, nil, nil⟩
theorem partD_txt (s t : List Nat) (ht : t ≠ []) : Txt.partition (toStr s) (toStr t) = (toStr (partD t s).1, toStr (partD t s).2.1, toStr (partD t s).2.2) := by
  have e := TL.partition_par (toStr s) (toStr t) (by simpa using ht)
  have h1 : TL.tl (toStr s) = s := rfl
  have h2 : TL.tl (toStr t) = t := rfl
  rw [h1, h2] at e
  unfold partD
  split
  · rename_i a b q
    rw [q] at e
    refine Prod.ext (TL.ext_tl ?_) (Prod.ext (TL.ext_tl ?_) (TL.ext_tl ?_)) <;> simp_all
  · rename_i q
    rw [q] at e
    rw [e] <;> rfl
/-! join, split, partition -/
theorem strs_rep {K : PySem.W.Frag} {F : Hp} : ∀ {ts : List (List Nat)} {vs : List V}, RepDs K F vs (ts.map Dt.str) → vs = (ts.map toStr).map V.str ∧ ∀ t ∈ ts, okS t
  | [], vs, h => by cases h; exact ⟨rfl, by simp⟩
  | t :: r, vs, h => by
    cases h with
    | cons h1 h2 =>
      obtain ⟨e1, e2⟩ := strs_rep h2
      cases h1 with
      | str _ ok =>
        subst e1
        refine ⟨rfl, fun z hz => ?_⟩
        rcases List.mem_cons.mp hz with q | q
        · rw [q]; exact ok
        · exact e2 z q
theorem strs_rep' {K : PySem.W.Frag} {F : Hp} : ∀ {ts : List (List Nat)}, (∀ t ∈ ts, okS t) → RepDs K F ((ts.map toStr).map V.str) (ts.map Dt.str)
  | [], _ => .nil
  | t :: r, h => .cons (.str t (h t List.mem_cons_self)) (strs_rep' fun z hz => h z (List.mem_cons_of_mem _ hz))
/-- the items of a list or tuple as they stand -/
theorem asQ_seq {K : PySem.W.Frag} {W : Wd} {H : Hp} {h : DH} {v : V} {y : Vx} (hr : HRel K g.T W H h) (r : RepV K W v y) {ds : List Dt} (e : asQ y h = some ds) :
    ∃ p vs, v = .ref p ∧ (SqL K H p vs ∨ SqT K H p vs) ∧ RepDs K W.F vs ds := by
  unfold asQ at e
  split at e
  · cases e
    obtain ⟨a1, vs1, rfl, q1, f1, s1⟩ := repTup hr r
    exact ⟨a1, vs1, rfl, .inr q1, s1⟩
  · split at e
    · rename_i hd
      cases e
      have n := asD_rep hr r hd
      cases n with
      | of n => cases n with | lst h1 h2 => exact ⟨_, _, rfl, .inl (.inl (.inl (hr.fro _ _ h1))), h2⟩
      | now h1 h2 => exact ⟨_, _, rfl, .inl (.inl (.inl h1)), h2⟩
    · cases e
theorem joinL_ok {s : List Nat} {ts : List (List Nat)} (hs : okS s) (ht : ∀ t ∈ ts, okS t) : ∀ c ∈ TL.joinL s ts, c < 0x110000 := by
  induction ts with
  | nil => intro c hc; cases hc
  | cons t r ih =>
    intro c hc
    cases r with
    | nil => exact (ht t List.mem_cons_self).2 c (by simpa [TL.joinL] using hc)
    | cons t2 r2 =>
      have hc : c ∈ t ++ (s ++ TL.joinL s (t2 :: r2)) := by simpa [TL.joinL] using hc
      rcases List.mem_append.mp hc with h | h
      · exact (ht t List.mem_cons_self).2 c h
      · rcases List.mem_append.mp h with h | h
        · exact hs.2 c h
        · exact ih (fun z hz => ht z (List.mem_cons_of_mem _ hz)) c h
theorem joinL_len {s : List Nat} : ∀ {ts : List (List Nat)}, (TL.joinL s ts).length ≤ (ts.map List.length).sum + ts.length * s.length
  | [] => by simp [TL.joinL]
  | [t] => by simp [TL.joinL]
  | t :: t2 :: r => by
    have ih := joinL_len (s := s) (ts := t2 :: r)
    have e : TL.joinL s (t :: t2 :: r) = t ++ (s ++ TL.joinL s (t2 :: r)) := by simp [TL.joinL]
    rw [e, List.length_append, List.length_append, List.map_cons, List.sum_cons, List.length_cons, Nat.succ_mul]
    omega
theorem od_join : MtD X g "str.join" mJoin := by
  refine ⟨_, mt_join, fun W H h x xs a as Q E hr ra rs p => ?_⟩
  unfold mJoin at p
  split at p
  · rename_i s b
    obtain ⟨z, rfl, rz⟩ := rs.one
    obtain ⟨rfl, os⟩ := repStr ra
    split at p
    · rename_i ds e1
      split at p
      · rename_i ts e2
        split at p
        · rename_i hl
          obtain ⟨q, vs, rfl, hq, hv⟩ := asQ_seq hr rz e1
          rw [strsOf_eq e2] at hv
          obtain ⟨e3, ok⟩ := strs_rep hv
          subst e3
          refine ⟨_, q, ts.map toStr, rfl, rfl, hq, ?_, ?_⟩
          · rw [List.map_map, List.length_map, len_toStr]
            have e4 : ts.map ((fun x => x.length) ∘ toStr) = ts.map List.length := by
              apply List.map_congr_left; intro t _; exact len_toStr t
            rw [e4]; exact hl
          · have e5 : Txt.join (toStr s) (ts.map toStr) = toStr (TL.joinL s ts) := by
              rw [TL.join_eq]
              refine TL.ext_tl ?_
              rw [TL.tl_join, List.map_map]
              have e6 : ts.map (TL.tl ∘ toStr) = ts := by
                rw [show (TL.tl ∘ toStr) = id from rfl, List.map_id]
              rw [e6]
            rw [e5]
            exact p.ret hr (.str _ ⟨Nat.le_trans joinL_len (by rw [sizeLine_eq]; exact hl), joinL_ok os ok⟩)
        · exact p.elim
      · exact p.elim
    · exact p.elim
  · exact p.elim
theorem spl_ok (t : List Nat) : ∀ (l : List Nat) (k : Nat) (acc : List Nat), ∀ z ∈ TL.spl t k acc l, z.length ≤ acc.length + l.length ∧ ∀ c ∈ z, c ∈ acc ∨ c ∈ l
  | [], k, acc => by
    intro z hz
    rw [TL.spl_nil] at hz
    have e : z = acc := by simpa using hz
    subst e
    exact ⟨by simp, fun c hc => .inl hc⟩
  | c :: r, 0, acc => by
    intro z hz
    unfold TL.spl at hz
    split at hz
    · rcases List.mem_cons.mp hz with q | q
      · subst q; exact ⟨by omega, fun c hc => .inl hc⟩
      · obtain ⟨h1, h2⟩ := spl_ok t r _ [] z q
        refine ⟨by simp at h1; rw [List.length_cons]; omega, fun x hx => ?_⟩
        rcases h2 x hx with q | q
        · cases q
        · exact .inr (List.mem_cons_of_mem _ q)
    · obtain ⟨h1, h2⟩ := spl_ok t r 0 (acc ++ [c]) z hz
      refine ⟨by rw [List.length_append, List.length_singleton] at h1; rw [List.length_cons]; omega, fun x hx => ?_⟩
      rcases h2 x hx with q | q
      · rcases List.mem_append.mp q with q | q
        · exact .inl q
        · exact .inr (by simp at q; simp [q])
      · exact .inr (List.mem_cons_of_mem _ q)
  | c :: r, k + 1, acc => by
    intro z hz
    obtain ⟨h1, h2⟩ := spl_ok t r k acc z hz
    refine ⟨by rw [List.length_cons]; omega, fun x hx => ?_⟩
    rcases h2 x hx with q | q
    · exact .inl q
    · exact .inr (List.mem_cons_of_mem _ q)
theorem od_split : MtD X g "str.split" mSplit := by
  refine ⟨_, mt_split, fun W H h x xs a as Q E hr ra rs p => ?_⟩
  unfold mSplit at p
  split at p
  · rename_i s t
    obtain ⟨z, rfl, rz⟩ := rs.one
    obtain ⟨rfl, os⟩ := repStr ra
    obtain ⟨rfl, ot⟩ := repStr rz
    split at p
    · rename_i hc
      refine ⟨_, _, rfl, rfl, ?_, by rw [len_toStr, sizeLine_eq]; exact hc.2.2, fun q nq => ?_⟩
      · rw [len_toStr]
        cases t with
        | nil => exact absurd rfl hc.1
        | cons _ _ => rfl
      · have e : (Txt.split (toStr s) (toStr t)).map TL.tl = TL.spl t 0 [] s := TL.split_spl (toStr s) (toStr t) (by simpa using hc.1) (TL.kind_ok (by
          simp only [Array.all_eq_true', List.mem_toArray, decide_eq_true_eq]
          exact hc.2.1))
        have e2 : Txt.split (toStr s) (toStr t) = (TL.spl t 0 [] s).map toStr := by
          refine TL.map_tl_inj ?_
          rw [e, List.map_map]
          rw [show (TL.tl ∘ toStr) = id from rfl, List.map_id]
        rw [e2]
        refine p.newL hr (strs_rep' fun z hz => ?_) q nq
        obtain ⟨h1, h2⟩ := spl_ok t s 0 [] z hz
        have := os.1
        refine ⟨by simp at h1; omega, fun c hc => ?_⟩
        rcases h2 c hc with q | q
        · cases q
        · exact os.2 c q
    · exact p.elim
  · exact p.elim
theorem od_part : MtD X g "str.partition" mPart := by
  refine ⟨_, mt_partition, fun W H h x xs a as Q E hr ra rs p => ?_⟩
  unfold mPart at p
  split at p
  · rename_i s t
    obtain ⟨z, rfl, rz⟩ := rs.one
    obtain ⟨rfl, os⟩ := repStr ra
    obtain ⟨rfl, ot⟩ := repStr rz
    split at p
    · rename_i hc
      refine ⟨_, _, rfl, rfl, ?_, by rw [len_toStr]; exact os.1, ?_⟩
      · rw [len_toStr]
        cases t with
        | nil => exact absurd rfl hc
        | cons _ _ => rfl
      · rw [partD_txt s t hc]
        obtain ⟨o1, o2, o3⟩ := partD_ok os ot
        exact p.newT hr (.cons (.str _ o1) (.cons (.str _ o2) (.cons (.str _ o3) .nil)))
    · exact p.elim
  · exact p.elim
end
end Dn
end
section
set_option Elab.async false
set_option linter.all false
set_option maxRecDepth 100000
set_option maxHeartbeats 2000000
/-! Dn7: f-strings, targets. -/
namespace Dn
open PySem PySem.Spec PyProof.Rows L2

/-! ### f-strings -/
def fmtD (y : Vx) : Mo Vx := fun h => match y with
  | .d (.str s) => .ok (.d (.str s)) h
  | .d (.int i) => if i.natAbs.log2 < 1920 then .ok (.d (.str (intL i))) h else .stk
  | _ => .stk
def eFmt (fa : DEnv → Mo Vx) : DEnv → Mo Vx := fun ρ => bnd (fa ρ) fmtD
/-- a text in parts -/
def jNil : List Nat → DEnv → Mo Vx := fun acc _ => ret (.d (.str acc))
def jCons (fa : DEnv → Mo Vx) (fr : List Nat → DEnv → Mo Vx) : List Nat → DEnv → Mo Vx := fun acc ρ => bnd (fa ρ) fun y h => match y with
  | .d (.str s) => if acc.length + s.length ≤ 16777216 then fr (acc ++ s) ρ h else .stk
  | _ => .stk
section
variable {X : Cx} {g : Gp} {Wx : WX} {a : Expr} {es : List Expr} {fa : DEnv → Mo Vx} {pos : Pos}
theorem pd_fmt (ha : PE X a (LE X.K g Wx fa)) : PE X (.FormattedValue a (-1) none pos) (LE X.K g Wx (eFmt fa)) := by
  refine (pe_fmt ha).imp fun σ H Q p => ?_
  refine Lf.imp (Lf.bnd (R := RV X.K) p) fun v H1 ⟨W1, ρ, y, h1, hr1, er, rr, p1⟩ => ?_
  unfold fmtD at p1
  split at p1
  · obtain ⟨rfl, o⟩ := repStr rr
    exact .inl ⟨_, rfl, by rw [len_toStr]; exact o.1, p1.ret hr1 (.str _ o)⟩
  · split at p1
    · rename_i i hl
      refine .inr ⟨i, repInt rr, hl, ?_⟩
      rw [intL_str]
      exact p1.ret hr1 (.str _ (intL_ok i hl))
    · exact p1.elim
  · exact p1.elim
inductive PJd (X : Cx) (g : Gp) (Wx : WX) : List Expr → (List Nat → DEnv → Mo Vx) → Prop where
  | nil : PJd X g Wx [] jNil
  | cons {a : Expr} {fa : DEnv → Mo Vx} {es : List Expr} {fr : List Nat → DEnv → Mo Vx} (h : PE X a (LE X.K g Wx fa)) (r : PJd X g Wx es fr) : PJd X g Wx (a :: es) (jCons fa fr)
theorem PJd.pj {fr : List Nat → DEnv → Mo Vx} (P : PJd X g Wx es fr) : ∃ ts, PJ X es ts ∧ ∀ (acc : List Nat) (σ : L2.St) (H : Hp) (Q : VK), okS acc →
    LE X.K g Wx (fr acc) σ H Q → tJs ts (toStr acc) σ H (fun out H' => Q (.str out) H') := by
  induction P with
  | nil =>
    refine ⟨[], .nil, fun acc σ H Q o p => ?_⟩
    obtain ⟨W, ρ, h, hr, er, p⟩ := p
    exact p.ret hr (.str _ o)
  | @cons a fa es fr ha r ih =>
    obtain ⟨ts, hp, ih⟩ := ih
    refine ⟨_ :: ts, .cons ha hp, fun acc σ H Q o p => ?_⟩
    refine Lf.imp (Lf.bnd (R := RV X.K) p) fun v H1 ⟨W1, ρ, y, h1, hr1, er, rr, p1⟩ => ?_
    split at p1
    · rename_i s
      obtain ⟨rfl, os⟩ := repStr rr
      split at p1
      · rename_i hl
        have o2 : okS (acc ++ s) := okS_append o os (by first | exact hl | (rw [List.length_append, sizeLine_eq]; exact hl) | (rw [sizeLine_eq]; exact hl))
        refine ⟨_, rfl, ?_, ?_⟩
        · rw [toStr_append, len_toStr]; exact o2.1
        · rw [toStr_append]
          exact ih _ σ H1 Q o2 ⟨W1, ρ, h1, hr1, er, p1⟩
      · exact p1.elim
    · exact p1.elim
theorem pd_joined {v1 v2 : Expr} {rest : List Expr} {fr : List Nat → DEnv → Mo Vx} (P : PJd X g Wx (v1 :: v2 :: rest) fr) : PE X (.JoinedStr (v1 :: v2 :: rest) pos) (LE X.K g Wx (fr [])) := by
  obtain ⟨ts, h1, h2⟩ := P.pj
  exact (pe_joined h1).imp fun σ H Q p => h2 [] σ H Q ⟨Nat.zero_le _, by simp⟩ p
theorem pd_joined1 (ha : PE X a (LE X.K g Wx fa)) : PE X (.JoinedStr [a] pos) (LE X.K g Wx fa) := pe_joined1 ha
end

/-! ### targets -/
inductive MT where
  | nm (i : Nat) | tup (ts : List MT)
mutual
def asg : MT → Vx → DEnv → Option DEnv
  | .nm i, y, ρ => some (ρ.set i (some y))
  | .tup ts, y, ρ => match y with
    | .d (.tup ds) => asgs ts (ds.map Vx.d) ρ
    | .d (.lst ds) => asgs ts (ds.map Vx.d) ρ
    | _ => none
def asgs : List MT → List Vx → DEnv → Option DEnv
  | [], [], ρ => some ρ
  | t :: ts, y :: ys, ρ => match asg t y ρ with
    | some ρ' => asgs ts ys ρ'
    | none => none
  | _, _, _ => none
end
mutual
def MT.slots : MT → List Nat
  | .nm i => [i]
  | .tup ts => MT.slotss ts
def MT.slotss : List MT → List Nat
  | [] => []
  | t :: ts => t.slots ++ MT.slotss ts
end
/-- the places outside vs are as they were -/
def SameOut (vs : List Nat) (σ σ' : L2.St) : Prop := σ'.length = σ.length ∧ ∀ i, i ∉ vs → σ'[i]? = σ[i]?
theorem SameOut.refl (vs : List Nat) (σ : L2.St) : SameOut vs σ σ := ⟨rfl, fun _ _ => rfl⟩
theorem SameOut.trans {vs : List Nat} {a b c : L2.St} (x : SameOut vs a b) (y : SameOut vs b c) : SameOut vs a c := ⟨y.1.trans x.1, fun i h => (y.2 i h).trans (x.2 i h)⟩
theorem SameOut.mono {vs ws : List Nat} {a b : L2.St} (x : SameOut vs a b) (h : ∀ i ∈ vs, i ∈ ws) : SameOut ws a b := ⟨x.1, fun i n => x.2 i fun z => n (h i z)⟩
theorem wipe_get (σ : L2.St) : ∀ (vs : List Nat) (i : Nat), i < σ.length → (wipe σ vs)[i]? = if i ∈ vs then some none else σ[i]?
  | [], i, h => by simp [wipe]
  | v :: vs, i, h => by
    unfold wipe
    by_cases e : v = i
    · subst e
      rw [List.getElem?_set_self (by rw [wipe_length]; exact h)]
      simp
    · rw [List.getElem?_set_ne e, wipe_get σ vs i h]
      have e2 : ¬ i = v := fun z => e z.symm
      simp [e2]
theorem SameOut.wipe {vs : List Nat} {σ σ' : L2.St} (h : SameOut vs σ σ') : L2.wipe σ' vs = L2.wipe σ vs := by
  apply List.ext_getElem?
  intro i
  by_cases hi : i < σ.length
  · rw [wipe_get σ vs i hi, wipe_get σ' vs i (by rw [h.1]; exact hi)]
    by_cases hm : i ∈ vs
    · simp [hm]
    · simp [hm, h.2 i hm]
  · rw [List.getElem?_eq_none (by rw [wipe_length, h.1]; omega), List.getElem?_eq_none (by rw [wipe_length]; omega)]
theorem wipe_wipe (σ : L2.St) (vs : List Nat) : L2.wipe (L2.wipe σ vs) vs = L2.wipe σ vs := by
  apply List.ext_getElem?
  intro i
  by_cases hi : i < σ.length
  · rw [wipe_get _ vs i (by rw [wipe_length]; exact hi), wipe_get σ vs i hi]
    by_cases hm : i ∈ vs <;> simp [hm]
  · rw [List.getElem?_eq_none (by rw [wipe_length, wipe_length]; omega), List.getElem?_eq_none (by rw [wipe_length]; omega)]
def wipeD (ρ : DEnv) : List Nat → DEnv
  | [] => ρ
  | v :: vs => (wipeD ρ vs).set v none
theorem ERel.forget {K : PySem.W.Frag} {W : Wd} {σ : L2.St} {ρ : DEnv} (e : ERel K W σ ρ) (i : Nat) : ERel K W (σ.set i none) (ρ.set i none) := by
  refine ⟨by simpa using e.len, fun j z hz => ?_⟩
  by_cases hj : i = j
  · subst hj
    have hlt : i < ρ.length := by
      have := (List.getElem?_eq_some_iff.mp hz).1
      simpa using this
    rw [List.getElem?_set_self hlt] at hz
    cases hz
  · rw [List.getElem?_set_ne hj] at hz ⊢
    exact e.at_ j z hz
theorem ERel.wipe {K : PySem.W.Frag} {W : Wd} {σ : L2.St} {ρ : DEnv} (e : ERel K W σ ρ) : ∀ (vs : List Nat), ERel K W (L2.wipe σ vs) (wipeD ρ vs)
  | [] => e
  | v :: vs => (ERel.wipe e vs).forget v
/-- what a target does -/
def TgS (K : PySem.W.Frag) (t : MT) (q : TG) : Prop :=
  ∀ (T : Tbs) (W : Wd) (H : Hp) (h : DH) (v : V) (y : Vx) (σ : L2.St) (ρ ρ' : DEnv) (Q : L2.St → Hp → Prop), HRel K T W H h → RepV K W v y → ERel K W σ ρ → asg t y ρ = some ρ' →
    (∀ σ', ERel K W σ' ρ' → SameOut t.slots σ σ' → Q σ' H) → q v σ H Q
def TgSs (K : PySem.W.Frag) (ts : List MT) (q : TGs) : Prop :=
  ∀ (T : Tbs) (W : Wd) (H : Hp) (h : DH) (vs : List V) (ys : List Vx) (σ : L2.St) (ρ ρ' : DEnv) (Q : L2.St → Hp → Prop), HRel K T W H h → RepVs K W vs ys → ERel K W σ ρ → asgs ts ys ρ = some ρ' →
    (∀ σ', ERel K W σ' ρ' → SameOut (MT.slotss ts) σ σ' → Q σ' H) → q vs σ H Q
theorem asgs_length : ∀ {ts : List MT} {ys : List Vx} {ρ ρ' : DEnv}, asgs ts ys ρ = some ρ' → ys.length = ts.length
  | [], [], _, _, _ => rfl
  | [], _ :: _, _, _, h => by cases h
  | _ :: _, [], _, _, h => by cases h
  | t :: ts, y :: ys, ρ, ρ', h => by
    unfold asgs at h
    split at h
    · rw [List.length_cons, List.length_cons, asgs_length h]
    · cases h
section
variable {X : Cx} {pos : Pos}
theorem tg_nm (i : Nat) : TgS X.K (.nm i) (gName i) := fun T W H h v y σ ρ ρ' Q hr rv er e q => by
  cases e
  refine q _ (er.set rv) ⟨by simp, fun j hj => ?_⟩
  rw [List.getElem?_set_ne (fun z => hj (by rw [← z]; exact List.mem_singleton_self _))]
theorem tgs_nil : TgSs X.K [] gNil := fun T W H h vs ys σ ρ ρ' Q hr rv er e q => by
  cases rv with
  | nil => cases e; exact ⟨rfl, q _ er (SameOut.refl _ _)⟩
  | cons _ _ => cases e
theorem tgs_cons {t : MT} {ts : List MT} {q1 : TG} {q2 : TGs} (h1 : TgS X.K t q1) (h2 : TgSs X.K ts q2) : TgSs X.K (t :: ts) (gCons q1 q2) := fun T W H h vs ys σ ρ ρ' Q hr rv er e q => by
  cases rv with
  | nil => cases e
  | @cons v y vs ys r1 r2 =>
    unfold asgs at e
    split at e
    · rename_i ρ1 e1
      refine ⟨v, vs, rfl, h1 T W H h v y σ ρ ρ1 _ hr r1 er e1 fun σ1 er1 s1 => ?_⟩
      refine h2 T W H h vs ys σ1 ρ1 ρ' _ hr r2 er1 e fun σ2 er2 s2 => q σ2 er2 ?_
      unfold MT.slotss
      exact (s1.mono fun i hi => List.mem_append_left _ hi).trans (s2.mono fun i hi => List.mem_append_right _ hi)
    · cases e
/-- (a, b, ..) = a tuple or a list of that length -/
def gSq (K : PySem.W.Frag) (n : Nat) (t : TGs) : TG := fun v σ H Q => gTup K n t v σ H Q ∨ gUnl K n t v σ H Q
theorem pg_sq {es : List Expr} {k : Nat} {t : TGs} {n : Nat} (hc : X.calm = true) (h : PGs X es t) (hn : (assignEach es X.env).length = n) (hst : (assignEach es X.env).findIdx? (·.1) = none) : PG X (.Tuple es k pos) (gSq X.K n t) :=
  ⟨fun pins s σ H v u Q I r p => p.elim (fun p => (pg_tup hc h hn hst).run pins s σ H v u Q I r p) fun p => (pg_unl hc h hn hst).run pins s σ H v u Q I r p⟩
theorem tg_tup {ts : List MT} {q : TGs} (h : TgSs X.K ts q) : TgS X.K (.tup ts) (gSq X.K ts.length q) := fun T W H hh v y σ ρ ρ' Q hr rv er e qq => by
  unfold asg at e
  split at e
  · rename_i ds
    have hl := asgs_length e
    obtain ⟨a1, vs1, rfl, q1, f1, s1⟩ := repTup (g := ⟨[], T⟩) hr rv
    refine .inl ⟨a1, vs1, rfl, q1, ?_, h T W H hh vs1 _ σ ρ ρ' Q hr (.of_plain s1) er e qq⟩
    rw [s1.length, ← hl, List.length_map]
  · rename_i ds
    have hl := asgs_length e
    cases rv with
    | lst h1 h2 =>
      refine .inr ⟨_, _, rfl, SqL.of (hr.fro _ _ h1), ?_, h T W H hh _ _ σ ρ ρ' Q hr (.of_plain h2) er e qq⟩
      rw [h2.length, ← hl, List.length_map]
  · cases e
end
end Dn
end
section
set_option Elab.async false
set_option linter.all false
set_option maxRecDepth 100000
set_option maxHeartbeats 2000000
/-! Dn8: what is walked. -/
namespace Dn
open PySem PySem.Spec PyProof.Rows L2

/-! ### what is walked -/
/-- a row of values: as it was found, or a list of the plain heap as it stands -/
inductive Src where
  | ds (l : List Dt) | hp (k : Nat) | sc (ns : List Int)
inductive Wk where
  | s (x : Src) | rg (lo : Int) (n : Nat) | rc (lo c : Int) (n : Nat) | en (x : Src) | zp (x y : Src) | ez (x y : Src)
def Src.item : Src → Nat → DH → Option (Option Vx)
  | .ds l, i, _ => some (match l[i]? with | some x => some (.d x) | none => none)
  | .hp k, i, h => (match h[k]? with | some (.lst ys) => some ys[i]? | _ => none)
  | .sc ns, i, _ => some (match ns[i]? with | some x => some (.d (.int x)) | none => none)
def Src.len : Src → DH → Nat
  | .ds l, _ => l.length
  | .hp k, h => (match h[k]? with | some (.lst ys) => ys.length | _ => 0)
  | .sc ns, _ => ns.length
def pair1 (x : Dt) : Option (Option Vx) → Option (Option Vx)
  | some (some (.d y)) => some (some (.d (.tup [x, y])))
  | some none => some none
  | _ => none
def pair2 : Option (Option Vx) → Option (Option Vx) → Option (Option Vx)
  | some (some (.d x)), some (some (.d y)) => some (some (.d (.tup [x, y])))
  | some none, some _ => some none
  | some (some (.d _)), some none => some none
  | _, _ => none
def Wk.item : Wk → Nat → DH → Option (Option Vx)
  | .s x, i, h => x.item i h
  | .rg lo n, i, _ => some (if i < n then some (.d (.int (lo + i))) else none)
  | .rc lo c n, i, _ => some (if i < n then some (.d (.int (lo + i * c))) else none)
  | .en x, i, h => if i ≤ x.len h then pair1 (.int i) (x.item i h) else none
  | .zp x y, i, h => if i ≤ x.len h ∧ i ≤ y.len h then pair2 (x.item i h) (y.item i h) else none
  | .ez x y, i, h => if i ≤ x.len h ∧ i ≤ y.len h then pair1 (.int i) (pair2 (x.item i h) (y.item i h)) else none
def Wk.len : Wk → DH → Nat
  | .s x, h => x.len h
  | .rg _ n, _ => n
  | .rc _ _ n, _ => n
  | .en x, h => x.len h
  | .zp x y, h => min (x.len h) (y.len h)
  | .ez x y, h => min (x.len h) (y.len h)
/-- an iterator J that gives what wk says -/
def WkR (K : PySem.W.Frag) (T : Tbs) (W : Wd) (wk : Wk) (J : It) : Prop :=
  ∀ (W1 : Wd) (H1 : Hp) (h1 : DH), WLe W W1 → HRel K T W1 H1 h1 → ∀ i, match wk.item i h1 with
    | some (some y) => J.go i H1 ∧ ∀ x H', J.yld i H1 x H' → ∃ W2, Ext W1 H1 W2 H' ∧ HRel K T W2 H' h1 ∧ RepV K W2 x y
    | some none => J.stop i H1
    | none => True
abbrev LI (K : PySem.W.Frag) (g : Gp) (Wx : WX) (f : DEnv → Mo Wk) : TI := Lf K g (fun W J wk => WkR K g.T W wk J) Wx f
def srcOf : Vx → Option Src
  | .d (.tup ds) => some (.ds ds)
  | .d (.lst ds) => some (.ds ds)
  | .d (.str s) => some (.ds (s.map fun c => .str [c]))
  | .r k => some (.hp k)
  | .s ns => some (.sc ns)
  | _ => none
def wVal (fa : DEnv → Mo Vx) : DEnv → Mo Wk := fun ρ => bnd (fa ρ) fun y h => match srcOf y with
  | some x => if (x.item 0 h).isSome then .ok (.s x) h else .stk
  | none => .stk
section
variable {X : Cx} {g : Gp} {Wx : WX} {pins : List (Addr × Obj)} {σ : L2.St} {H : Hp} {s : Shared} {tg : Expr} {R : It → Hp → Prop} {E : Value → Shared → Prop}
theorem itr_list {a : Addr} {xs : List V} (I : Inv X pins σ H s) (q : SqL X.K H a xs) (r : R (Itl X.K a) H) : wpAny (model X.prog X.w) X.A (pyIter (.ref a)) (PIE X pins σ tg R) E s := by
  obtain ⟨its, _, p, _⟩ := I.list q
  exact wpAny_pyIter_list p.isList (pi_one (tk := s.toks) I _ (turn_list a _) ⟨_, Heap.get?_push_size _ rfl, rfl, rfl⟩ r)
theorem itr_tup {a : Addr} {xs : List V} (I : Inv X pins σ H s) (q : SqT X.K H a xs) (r : R (Itt X.K a) H) : wpAny (model X.prog X.w) X.A (pyIter (.ref a)) (PIE X pins σ tg R) E s := by
  obtain ⟨its, _, p, _⟩ := I.tuple q
  exact wpAny_pyIter_tuple (show s.heap.IsTuple a its.toArray from p) (pi_one (tk := s.toks) I _ (turn_tuple a _) ⟨_, Heap.get?_push_size _ rfl, rfl, rfl⟩ r)
theorem itr_str {x : Str} {t : Tok} (I : Inv X pins σ H s) (r : R (Its x) H) : wpAny (model X.prog X.w) X.A (pyIter (.str x t)) (PIE X pins σ tg R) E s := by
  cases ha : x.cps.all (· < 128)
  · exact wpAny_pyIter_wide ha (pi_one (tk := s.toks) I _ (turn_str _ x t _ (.inr rfl)) ⟨_, Heap.get?_push_size _ rfl, rfl, rfl⟩ r)
  · exact wpAny_pyIter_ascii ha (pi_one (tk := s.toks) I _ (turn_str _ x t _ (.inl rfl)) ⟨_, Heap.get?_push_size _ rfl, rfl, rfl⟩ r)
/-- whatever a walk may begin on -/
def iAny (K : PySem.W.Frag) (te : TE) : TI := fun σ H R => te σ H fun v H1 => (∃ a xs, v = .ref a ∧ SqL K H1 a xs ∧ R (Itl K a) H1) ∨ (∃ a xs, v = .ref a ∧ SqT K H1 a xs ∧ R (Itt K a) H1) ∨ ∃ x, v = .str x ∧ R (Its x) H1
theorem pi_any {e : Expr} {te : TE} (he : PE X e te) : PI X tg e (iAny X.K te) := by
  refine ⟨fun pins s σ H R I h => thn (he.run pins s σ H _ I h) fun v s1 ⟨y, H1, I1, r1, q⟩ => ?_⟩
  rcases q with ⟨a, xs, rfl, q1, q2⟩ | ⟨a, xs, rfl, q1, q2⟩ | ⟨x, rfl, q2⟩
  · cases r1; exact itr_list I1 q1 q2
  · cases r1; exact itr_tup I1 q1 q2
  · obtain ⟨t, rfl⟩ := r1
    exact itr_str I1 q2
theorem wk_sqL {T : Tbs} {W : Wd} {a : Addr} {vs : List V} {ds : List Dt} (e : W.F a = some (.lst vs)) (r : RepDs X.K W.F vs ds) : WkR X.K T W (.s (.ds ds)) (Itl X.K a) := by
  intro W1 H1 h1 le hr i
  have hf := hr.fro _ _ (le.F _ _ e)
  have r1 := r.le le.F
  show (match (some (match ds[i]? with | some x => some (Vx.d x) | none => none) : Option (Option Vx)) with | some (some y) => _ | some none => _ | none => True)
  cases hd : ds[i]? with
  | some x =>
    obtain ⟨v, e1, e2⟩ := r1.get hd
    exact ⟨⟨vs, v, SqL.of hf, e1⟩, fun z H' y => ⟨W1, y.1 ▸ Ext.refl _ _, y.1 ▸ hr, by have := y.2 vs (SqL.of hf); rw [e1] at this; cases this; exact e2⟩⟩
  | none => exact ⟨vs, SqL.of hf, by rw [r1.length]; exact List.getElem?_eq_none_iff.mp hd⟩
theorem wk_sqT {T : Tbs} {W : Wd} {a : Addr} {vs : List V} {ds : List Dt} (e : SqT X.K W.F a vs) (r : RepDs X.K W.F vs ds) : WkR X.K T W (.s (.ds ds)) (Itt X.K a) := by
  intro W1 H1 h1 le hr i
  have hf : SqT X.K H1 a vs := SqT.le (SqT.le e le.F) hr.fro
  have r1 := r.le le.F
  show (match (some (match ds[i]? with | some x => some (Vx.d x) | none => none) : Option (Option Vx)) with | some (some y) => _ | some none => _ | none => True)
  cases hd : ds[i]? with
  | some x =>
    obtain ⟨v, e1, e2⟩ := r1.get hd
    exact ⟨⟨vs, v, hf, e1⟩, fun z H' y => ⟨W1, y.1 ▸ Ext.refl _ _, y.1 ▸ hr, by have := y.2 vs hf; rw [e1] at this; cases this; exact e2⟩⟩
  | none => exact ⟨vs, hf, by rw [r1.length]; exact List.getElem?_eq_none_iff.mp hd⟩
theorem wk_str {T : Tbs} {W : Wd} {z : List Nat} (ok : okS z) : WkR X.K T W (.s (.ds (z.map fun c => .str [c]))) (Its (toStr z)) := by
  intro W1 H1 h1 le hr i
  have hs : (toStr z).cps.size = z.length := by simp
  show (match (some (match (z.map fun c => Dt.str [c])[i]? with | some x => some (Vx.d x) | none => none) : Option (Option Vx)) with | some (some y) => _ | some none => _ | none => True)
  rw [List.getElem?_map]
  cases hd : z[i]? with
  | some x =>
    have hlt := (List.getElem?_eq_some_iff.mp hd).1
    have hx : x < 0x110000 := ok.2 x (List.mem_of_getElem? hd)
    refine ⟨by show i < (toStr z).cps.size; rw [hs]; exact hlt, fun v H' y => ⟨W1, y.1 ▸ Ext.refl _ _, y.1 ▸ hr, ?_⟩⟩
    obtain ⟨_, c, e1, rfl⟩ := y
    have e2 : z[i]? = some c := by simpa using e1
    rw [hd] at e2
    cases e2
    exact RepD.str [x] ⟨by show 1 ≤ sizeLine; rw [sizeLine_eq]; decide, by simpa using hx⟩
  | none => exact (show (toStr z).cps.size ≤ i by rw [hs]; exact List.getElem?_eq_none_iff.mp hd)
theorem wk_hp {T : Tbs} {W : Wd} {a : Addr} {k : Nat} (e : W.θ[k]? = some a) : WkR X.K T W (.s (.hp k)) (Itl X.K a) := by
  intro W1 H1 h1 le hr i
  have ea := le.at_ e
  show (match (match h1[k]? with | some (.lst ys) => some ys[i]? | _ => none) with | some (some y) => _ | some none => _ | none => True)
  cases hk : h1[k]? with
  | none => exact True.intro
  | some o =>
    cases o with
    | dead => exact True.intro
    | lst ys =>
      obtain ⟨xs, hx, hv⟩ := hr.obj k a _ ea hk
      have hq : SqL X.K H1 a xs := SqL.of hx
      show (match (some ys[i]? : Option (Option Vx)) with | some (some y) => _ | some none => _ | none => True)
      cases hd : ys[i]? with
      | some y =>
        obtain ⟨v, e1, e2⟩ := hv.get hd
        exact ⟨⟨xs, v, hq, e1⟩, fun z H' y => ⟨W1, y.1 ▸ Ext.refl _ _, y.1 ▸ hr, by have := y.2 xs hq; rw [e1] at this; cases this; exact e2⟩⟩
      | none => exact ⟨xs, hq, by rw [hv.length]; exact List.getElem?_eq_none_iff.mp hd⟩
theorem wk_sc {T : Tbs} {W : Wd} {a : Addr} {ns : List Int} (e : SqL X.K W.F a (ns.map V.int)) : WkR X.K T W (.s (.sc ns)) (Itl X.K a) := by
  intro W1 H1 h1 le hr i
  have hq : SqL X.K H1 a (ns.map V.int) := SqL.le (SqL.le e le.F) hr.fro
  show (match (some (match ns[i]? with | some x => some (Vx.d (.int x)) | none => none) : Option (Option Vx)) with | some (some y) => _ | some none => _ | none => True)
  cases hd : ns[i]? with
  | some x =>
    have e1 : (ns.map V.int)[i]? = some (.int x) := by rw [List.getElem?_map, hd]; rfl
    exact ⟨⟨_, _, hq, e1⟩, fun z H' y => ⟨W1, y.1 ▸ Ext.refl _ _, y.1 ▸ hr, by have := y.2 _ hq; rw [e1] at this; cases this; exact RepD.int x⟩⟩
  | none => exact ⟨_, hq, by rw [List.length_map]; exact List.getElem?_eq_none_iff.mp hd⟩
theorem wk_rg {T : Tbs} {W : Wd} {lo : Int} {n : Nat} : WkR X.K T W (.rg lo n) (Itr lo n) := by
  intro W1 H1 h1 le hr i
  show (match (some (if i < n then some (Vx.d (.int (lo + i))) else none) : Option (Option Vx)) with | some (some y) => _ | some none => _ | none => True)
  by_cases hi : i < n
  · rw [if_pos hi]
    exact ⟨hi, fun x H' y => ⟨W1, y.1 ▸ Ext.refl _ _, y.1 ▸ hr, by rw [y.2]; exact RepD.int _⟩⟩
  · rw [if_neg hi]
    exact Nat.le_of_not_lt hi
theorem pd_wval {e : Expr} {fa : DEnv → Mo Vx} (he : PE X e (LE X.K g Wx fa)) : PI X tg e (LI X.K g Wx (wVal fa)) := by
  refine ⟨fun pins s σ H R I h => (pi_any (tg := tg) he).run pins s σ H R I ?_⟩
  refine Lf.imp (Lf.bnd (R := RV X.K) h) fun v H1 ⟨W1, ρ, y, h1, hr1, er, rr, p1⟩ => ?_
  cases y with
  | d x =>
    cases x with
    | tup ds =>
      obtain ⟨a, vs, rfl, q1, q2, q3⟩ := repTup hr1 rr
      exact .inr (.inl ⟨a, vs, rfl, q1, p1.ret hr1 (wk_sqT q2 q3)⟩)
    | lst ds =>
      cases rr with
      | lst q1 q2 => exact .inl ⟨_, _, rfl, SqL.of (hr1.fro _ _ q1), p1.ret hr1 (wk_sqL q1 q2)⟩
    | str z =>
      obtain ⟨rfl, ok⟩ := repStr rr
      exact .inr (.inr ⟨_, rfl, p1.ret hr1 (wk_str ok)⟩)
    | _ => exact p1.elim
  | r k =>
    obtain ⟨a, ea, rfl⟩ := rr
    have p1 : Post X.K g (fun W J wk => WkR X.K g.T W wk J) W1 H1 (if (Src.item (.hp k) 0 h1).isSome = true then Rz.ok (Wk.s (.hp k)) h1 else Rz.stk) R (fun c d H' => Wx c d σ H') := p1
    cases hk : h1[k]? with
    | none => simp only [Src.item, hk] at p1; exact p1.elim
    | some o =>
      cases o with
      | dead => simp only [Src.item, hk] at p1; exact p1.elim
      | lst ys =>
        simp only [Src.item, hk] at p1
        obtain ⟨xs, hx, hv⟩ := hr1.obj k a _ ea hk
        exact .inl ⟨a, xs, rfl, SqL.of hx, p1.ret hr1 (wk_hp ea)⟩
  | x _ _ _ => exact p1.elim
  | s ns =>
    obtain ⟨a, rfl, q⟩ := rr
    exact .inl ⟨a, _, rfl, SqL.of_rel hr1 q, p1.ret hr1 (wk_sc q)⟩
/-! ranges -/
def wRng1 (fs : DEnv → Mo (List Vx)) : DEnv → Mo Wk := fun ρ => bnd (fs ρ) fun as h => match as with
  | [.d (.int j)] => if -4611686018427387904 ≤ j ∧ j < 4611686018427387904 then .ok (.rg 0 j.toNat) h else .stk
  | _ => .stk
def wRng2 (fs : DEnv → Mo (List Vx)) : DEnv → Mo Wk := fun ρ => bnd (fs ρ) fun as h => match as with
  | [.d (.int i), .d (.int j)] => if (-4611686018427387904 ≤ i ∧ i < 4611686018427387904) ∧ -4611686018427387904 ≤ j ∧ j < 4611686018427387904 then .ok (.rg i (j - i).toNat) h else .stk
  | _ => .stk
theorem pd_rng1 {a : Expr} {fs : DEnv → Mo (List Vx)} {p pos : Pos} (hg : Gl X "range") (hm : X.mg "range" = none) (ha : PA X [a] (LA X.K g Wx fs)) (hs : starEach [a] X.env = [(false, eval a X.env)]) : PI X tg (.Call (.Name "range" p) [a] [] pos) (LI X.K g Wx (wRng1 fs)) := by
  refine ⟨fun pins s σ H R I h => (pi_range1 (tg := tg) hg hm ha hs).run pins s σ H R I ?_⟩
  refine Lf.imp (Lf.bnd (R := RVs X.K) h) fun v H1 ⟨W1, ρ, y, h1, hr1, er, rr, p1⟩ => ?_
  split at p1
  · rename_i j
    obtain ⟨x, rfl, r1⟩ := rr.one
    split at p1
    · rename_i hj
      exact ⟨j, by rw [repInt r1], by omega, by omega, p1.ret hr1 wk_rg⟩
    · exact p1.elim
  · exact p1.elim
theorem pd_rng2 {a b : Expr} {fs : DEnv → Mo (List Vx)} {p pos : Pos} (hg : Gl X "range") (hm : X.mg "range" = none) (ha : PA X [a, b] (LA X.K g Wx fs)) (hs : starEach [a, b] X.env = [(false, eval a X.env), (false, eval b X.env)]) (hs2 : starEach [b] X.env = [(false, eval b X.env)]) : PI X tg (.Call (.Name "range" p) [a, b] [] pos) (LI X.K g Wx (wRng2 fs)) := by
  refine ⟨fun pins s σ H R I h => (pi_range2 (tg := tg) hg hm ha hs hs2).run pins s σ H R I ?_⟩
  refine Lf.imp (Lf.bnd (R := RVs X.K) h) fun v H1 ⟨W1, ρ, y, h1, hr1, er, rr, p1⟩ => ?_
  split at p1
  · rename_i i j
    obtain ⟨x, z, rfl, r1, r2⟩ := rr.two
    split at p1
    · rename_i hj
      exact ⟨i, j, by rw [repInt r1, repInt r2], by omega, p1.ret hr1 wk_rg⟩
    · exact p1.elim
  · exact p1.elim
end
end Dn
end
section
set_option Elab.async false
set_option linter.all false
set_option maxRecDepth 100000
set_option maxHeartbeats 2000000
/-! Dn9: list comprehensions. -/
namespace Dn
open PySem PySem.Spec PyProof.Rows L2

section
variable {K : PySem.W.Frag} {T : Tbs} {W W1 W2 : Wd} {H H1 H2 : Hp} {h : DH} {D : Addr} {acc acc' : List V}
/-- a list that the world does not know -/
structure Own (W : Wd) (H : Hp) (D : Addr) (acc : List V) : Prop where
  at_ : H D = some (.lst acc)
  nθ : D ∉ W.θ
  nF : W.F D = none
theorem notTbl_lst (xs : List V) : notTbl (.lst xs) := fun ps e => by cases e
theorem Own.keep (o : Own W H D acc) (e : Ext W H W1 H1) : Own W1 H1 D acc := by
  refine ⟨e.frame _ _ o.at_ o.nθ (notTbl_lst _), fun hm => ?_, ?_⟩
  · obtain ⟨new, e1, e2⟩ := e.θ
    rw [e1] at hm
    rcases List.mem_append.mp hm with q | q
    · exact o.nθ q
    · have := e2 D q; rw [o.at_] at this; cases this
  · cases q : W1.F D with
    | none => rfl
    | some u =>
      rcases e.newF D u q with z | z | z
      · rw [o.nF] at z; cases z
      · rw [o.at_] at z; cases z
      · exact absurd z o.nθ
theorem HRel.own (r : HRel K T W H h) (o : Own W H D acc) (acc' : List V) : HRel K T W (upd H D (.lst acc')) h ∧ Own W (upd H D (.lst acc')) D acc' := by
  have ne : ∀ (k : Nat) (a : Addr), W.θ[k]? = some a → a ≠ D := fun k a e z => o.nθ (z ▸ List.mem_of_getElem? e)
  refine ⟨⟨fun a u e => ?_, r.ntb, r.len, fun k a u e1 e2 => ?_, r.liv, r.nd, TabsN_upd r.tab o.at_⟩, ⟨upd_same, o.nθ, o.nF⟩⟩
  · have : a ≠ D := fun z => by rw [z, o.nF] at e; cases e
    rw [upd_ne this]; exact r.fro a u e
  · have hh := r.obj k a u e1 e2
    cases u with
    | lst zs => obtain ⟨ws, h1, h2⟩ := hh; exact ⟨ws, by rw [upd_ne (ne k a e1)]; exact h1, h2⟩
    | dead => obtain ⟨ws, h1⟩ := hh; exact ⟨ws, by rw [upd_ne (ne k a e1)]; exact h1⟩
/-- a new list that the world does not know yet -/
theorem HRel.born (r : HRel K T W H h) (hD : H D = none) (acc : List V) : HRel K T W (upd H D (.lst acc)) h ∧ Own W (upd H D (.lst acc)) D acc ∧ Ext W H W (upd H D (.lst acc)) := by
  have fD : W.F D = none := by
    cases q : W.F D with
    | none => rfl
    | some u => rw [r.fro _ _ q] at hD; cases hD
  have nθ : D ∉ W.θ := fun hm => by
    obtain ⟨k, hk⟩ := List.mem_iff_getElem?.mp hm
    have hlt := (List.getElem?_eq_some_iff.mp hk).1
    obtain ⟨o, ho⟩ : ∃ o, h[k]? = some o := ⟨h[k]'(by rw [← r.len]; exact hlt), by simp⟩
    have hh := r.obj k D o hk ho
    cases o with
    | lst zs => obtain ⟨xs, h1, _⟩ := hh; rw [hD] at h1; cases h1
    | dead => obtain ⟨xs, h1⟩ := hh; rw [hD] at h1; cases h1
  have leH : HLe H (upd H D (.lst acc)) := fun a u e => by rw [upd_ne (ne_of_none e hD)]; exact e
  refine ⟨⟨fun a u e => leH a u (r.fro a u e), r.ntb, r.len, fun k a u e1 e2 => ?_, r.liv, r.nd, r.tab.ext leH⟩, ⟨upd_same, nθ, fD⟩, HLe.refl _, ⟨[], by simp, by simp⟩, fun a u e _ _ => leH a u e, fun a e => ?_, fun a u e => .inl e⟩
  · have hh := r.obj k a u e1 e2
    cases u with
    | lst zs => obtain ⟨ws, h1, h2⟩ := hh; exact ⟨ws, leH _ _ h1, h2⟩
    | dead => obtain ⟨ws, h1⟩ := hh; exact ⟨ws, leH _ _ h1⟩
  · by_cases q : a = D
    · subst q; rw [upd_same] at e; cases e
    · rw [upd_ne q] at e; exact e
theorem Ext.touch (e : Ext W H W1 H1) (hD : H D = none) {o : HO} : Ext W H W1 (upd H1 D o) := by
  refine ⟨e.F, e.θ, fun a u ha n nt => ?_, fun a ha => ?_, e.newF⟩
  · rw [upd_ne (ne_of_none ha hD)]; exact e.frame a u ha n nt
  · by_cases q : a = D
    · subst q; exact hD
    · rw [upd_ne q] at ha; exact e.dom a ha
/-- known from now on for good -/
theorem HRel.freeze (r : HRel K T W H h) (o : Own W H D acc) : HRel K T ⟨upd W.F D (.lst acc), W.θ⟩ H h := by
  have le : HLe W.F (upd W.F D (.lst acc)) := fun a u e => by rw [upd_ne (ne_of_none e o.nF)]; exact e
  have wl : WLe W ⟨upd W.F D (.lst acc), W.θ⟩ := ⟨le, [], by simp⟩
  refine ⟨fun a u e => ?_, fun a u e => ?_, r.len, fun k a u e1 e2 => ?_, fun k a u e1 e2 nd => ?_, r.nd, r.tab⟩
  · by_cases q : a = D
    · subst q; simp only [upd_same] at e; cases e; exact o.at_
    · simp only [upd_ne q] at e; exact r.fro a u e
  · by_cases q : a = D
    · subst q; simp only [upd_same] at e; cases e; exact notTbl_lst _
    · simp only [upd_ne q] at e; exact r.ntb a u e
  · have hh := r.obj k a u e1 e2
    cases u with
    | lst zs => obtain ⟨ws, h1, h2⟩ := hh; exact ⟨ws, h1, h2.le wl⟩
    | dead => exact hh
  · have : a ≠ D := fun z => o.nθ (z ▸ List.mem_of_getElem? e1)
    simp only [upd_ne this]
    exact r.liv k a u e1 e2 nd
theorem Ext.freeze (e : Ext W H W1 H1) (hD : H D = none) {o : HO} (nF : W1.F D = none) : Ext W H ⟨upd W1.F D o, W1.θ⟩ H1 := by
  refine ⟨e.F.trans fun a u x => by show upd W1.F D o a = some u; rw [upd_ne (ne_of_none x nF)]; exact x, e.θ, e.frame, e.dom, fun a u x => ?_⟩
  by_cases q : a = D
  · subst q; exact .inr (.inl hD)
  · simp only [upd_ne q] at x; exact e.newF a u x
/-- from now on a list of the plain heap -/
theorem HRel.adopt (r : HRel K T W H h) (o : Own W H D acc) {ys : List Vx} (rv : RepVs K W acc ys) : HRel K T ⟨W.F, W.θ ++ [D]⟩ H (h ++ [.lst ys]) := by
  have wl : WLe W ⟨W.F, W.θ ++ [D]⟩ := ⟨HLe.refl _, [D], rfl⟩
  have old : ∀ (k : Nat) (a : Addr), (W.θ ++ [D])[k]? = some a → (k < W.θ.length ∧ W.θ[k]? = some a) ∨ (k = W.θ.length ∧ a = D) := fun k a e => by
    by_cases q : k < W.θ.length
    · rw [List.getElem?_append_left q] at e; exact .inl ⟨q, e⟩
    · rw [List.getElem?_append_right (by omega)] at e
      have hk : k - W.θ.length = 0 := by
        have := (List.getElem?_eq_some_iff.mp e).1
        simp at this; omega
      rw [hk] at e
      cases e
      exact .inr ⟨by omega, rfl⟩
  have at_ : ∀ (k : Nat) (o : Ob), k < W.θ.length → (h ++ [Ob.lst ys])[k]? = some o → h[k]? = some o := fun k o q e => by
    rw [List.getElem?_append_left (by rw [← r.len]; exact q)] at e; exact e
  refine ⟨r.fro, r.ntb, by simp [r.len], fun k a u e1 e2 => ?_, fun k a u e1 e2 nd => ?_, ?_, r.tab⟩
  · rcases old k a e1 with ⟨q, e⟩ | ⟨rfl, rfl⟩
    · have hh := r.obj k a u e (at_ k u q e2)
      cases u with
      | lst zs => obtain ⟨xs, h1, h2⟩ := hh; exact ⟨xs, h1, h2.le wl⟩
      | dead => exact hh
    · rw [r.len, List.getElem?_append_right (Nat.le_refl _), Nat.sub_self] at e2
      cases e2
      exact ⟨acc, o.at_, rv.le wl⟩
  · rcases old k a e1 with ⟨q, e⟩ | ⟨rfl, rfl⟩
    · exact r.liv k a u e (at_ k u q e2) nd
    · exact o.nF
  · refine List.nodup_append.mpr ⟨r.nd, by simp, fun a ha b hb => ?_⟩
    have eb : b = D := by simpa using hb
    subst eb
    rintro rfl
    exact o.nθ ha
theorem Ext.adopt (e : Ext W H W1 H1) (hD : H D = none) : Ext W H ⟨W1.F, W1.θ ++ [D]⟩ H1 := by
  obtain ⟨new, e1, e2⟩ := e.θ
  refine ⟨e.F, ⟨new ++ [D], by simp [e1], fun a ha => ?_⟩, e.frame, e.dom, e.newF⟩
  rcases List.mem_append.mp ha with q | q
  · exact e2 a q
  · have : a = D := by simpa using q
    rw [this]; exact hD
end

/-! ### [e for t in i if c] -/
def lcGo (wk : Wk) (t : MT) (ft : DEnv → Mo Bool) (fe : DEnv → Mo Vx) (ρ : DEnv) : Nat → Nat → List Vx → Mo (List Vx)
  | 0, _, _ => stk
  | n + 1, i, acc => fun h => match wk.item i h with
    | none => .stk
    | some none => .ok acc h
    | some (some y) => match asg t y ρ with
      | none => .stk
      | some ρ' => match ft ρ' h with
        | .ok true h2 => (match fe ρ' h2 with
          | .ok z h3 => if acc.length < 16777216 then lcGo wk t ft fe ρ n (i + 1) (acc ++ [z]) h3 else .stk
          | _ => .stk)
        | .ok false h2 => lcGo wk t ft fe ρ n (i + 1) acc h2
        | _ => .stk
/-- what comes of the list: known for good, or of the plain heap -/
def lcEnd (fz : Bool) (acc : List Vx) : Mo Vx := fun h => match fz with
  | true => (match plains acc with | some ds => .ok (.d (.lst ds)) h | none => .stk)
  | false => .ok (.r h.length) (h ++ [.lst acc])
def eLc (fz : Bool) (fi : DEnv → Mo Wk) (t : MT) (ft : DEnv → Mo Bool) (fe : DEnv → Mo Vx) (vs : List Nat) : DEnv → Mo Vx := fun ρ => bnd (fi ρ) fun wk h => bnd (lcGo wk t ft fe (wipeD ρ vs) (wk.len h + 1) 0 []) (lcEnd fz) h
/-- nothing is raised -/
abbrev NoX : WX := fun _ _ _ _ => False
section
variable {K : PySem.W.Frag} {g : Gp} {Wx : WX}
theorem lc_end {W W1 : Wd} {H H1 : Hp} {h : DH} {D : Addr} {acc : List V} {ys : List Vx} {fz : Bool} {Q : VK} {E : XK} (P : Post K g (RV K) W H (lcEnd fz ys h) Q E) (ex : Ext W H W1 H1) (hr : HRel K g.T W1 H1 h) (hD : H D = none) (o : Own W1 H1 D acc) (rv : RepVs K W1 acc ys) : Q (.ref D) H1 := by
  unfold lcEnd at P
  split at P
  · split at P
    · rename_i ds e
      refine P ⟨upd W1.F D (.lst acc), W1.θ⟩ _ _ (ex.freeze hD o.nF) (hr.freeze o) ?_
      exact RepD.lst upd_same (RepDs.le (fun a u x => by show upd W1.F D (.lst acc) a = some u; rw [upd_ne (ne_of_none x o.nF)]; exact x) (rv.plain e))
    · exact P.elim
  · refine P ⟨W1.F, W1.θ ++ [D]⟩ _ _ (ex.adopt hD) (hr.adopt o rv) ⟨D, ?_, rfl⟩
    rw [← hr.len, List.getElem?_append_right (Nat.le_refl _), Nat.sub_self]; rfl
theorem lc_tLc {fz : Bool} {fi : DEnv → Mo Wk} {t : MT} {ft : DEnv → Mo Bool} {fe : DEnv → Mo Vx} {vs : List Nat} {q : TG} (ht : TgS K t q) (hv : ∀ i ∈ t.slots, i ∈ vs) {σ : L2.St} {H : Hp} {Q : VK}
    (p : LE K g Wx (eLc fz fi t ft fe vs) σ H Q) : tLc (LI K g Wx fi) q (LT K g NoX ft) (LE K g NoX fe) vs σ H Q := by
  refine Lf.imp (Lf.bnd (R := fun W J wk => WkR K g.T W wk J) p) fun J H1 ⟨W1, ρ, wk, h1, hr1, er, rr, p1⟩ => ?_
  intro D hD
  obtain ⟨hr0, o0, ex0⟩ := hr1.born hD []
  refine ⟨fun i m H' => ∃ Wc hc acc ys, Ext W1 H1 Wc H' ∧ HRel K g.T Wc H' hc ∧ Own Wc H' D acc ∧ RepVs K Wc acc ys ∧
    Post K g (RV K) W1 H1 (bnd (lcGo wk t ft fe (wipeD ρ vs) m i ys) (lcEnd fz) hc) Q (fun c d H' => Wx c d σ H'), ⟨wk.len h1 + 1, W1, h1, [], [], ex0, hr0, o0, .nil, p1⟩, ?_⟩
  rintro i m H' ⟨Wc, hc, acc, ys, ex, hr, own, ra, P⟩
  unfold Dn.bnd at P
  cases m with
  | zero => exact P.elim
  | succ m =>
    have key := rr Wc H' hc ex.le hr i
    unfold lcGo at P
    cases hi : wk.item i hc with
    | none => rw [hi] at P; exact P.elim
    | some oy =>
      rw [hi] at key P
      cases oy with
      | none => exact .inl ⟨key, lc_end P ex hr hD own ra⟩
      | some y =>
        refine .inr ⟨key.1, fun H'' => ∃ Wc hc acc ys, Ext W1 H1 Wc H'' ∧ HRel K g.T Wc H'' hc ∧ Own Wc H'' D acc ∧ RepVs K Wc acc ys ∧
          Post K g (RV K) W1 H1 (bnd (lcGo wk t ft fe (wipeD ρ vs) m (i + 1) ys) (lcEnd fz) hc) Q (fun c d H' => Wx c d σ H'), fun H'' n => ⟨m, Nat.lt_succ_self _, n⟩, fun x H2 yl => ?_⟩
        obtain ⟨W2, ex2, hr2, rv2⟩ := key.2 x H2 yl
        have own2 := own.keep ex2
        have ra2 := ra.le ex2.le
        cases ha : asg t y (wipeD ρ vs) with
        | none => simp only [ha] at P; exact P.elim
        | some ρ' =>
          simp only [ha] at P
          refine ht g.T W2 H2 hc x y (L2.wipe σ vs) (wipeD ρ vs) ρ' _ hr2 rv2 ((er.le (ex.le.trans ex2.le)).wipe vs) ha fun σ2 er2 so2 => ?_
          refine ⟨by rw [(so2.mono hv).wipe, wipe_wipe], W2, ρ', hc, hr2, er2, ?_⟩
          cases hft : ft ρ' hc with
          | stk => rw [hft] at P; exact P.elim
          | err c pp h3 => rw [hft] at P; exact P.elim
          | ok b h3 =>
            rw [hft] at P
            intro W3 b' H3 ex3 hr3 eb
            subst eb
            have own3 := own2.keep ex3
            have ra3 := ra2.le ex3.le
            have exA := (ex.trans ex2).trans ex3
            cases b' with
            | false => exact ⟨W3, h3, acc, ys, exA, hr3, own3, ra3, P⟩
            | true =>
              refine ⟨W3, ρ', h3, hr3, er2.le ex3.le, ?_⟩
              cases hfe : fe ρ' h3 with
              | stk => simp only [hfe] at P; exact P.elim
              | err c pp h4 => simp only [hfe] at P; exact P.elim
              | ok z h4 =>
                simp only [hfe] at P
                by_cases hlen : ys.length < 16777216
                · rw [if_pos hlen] at P
                  intro W4 v H4 ex4 hr4 rz
                  have own4 := own3.keep ex4
                  obtain ⟨hr5, own5⟩ := hr4.own own4 (acc ++ [v])
                  refine ⟨acc, own4.at_, by rw [ra.length, sizeLine_eq]; exact hlen, W4, h4, acc ++ [v], ys ++ [z], (exA.trans ex4).touch hD, hr5, own5, (ra3.le ex4.le).append (.cons rz .nil), P⟩
                · rw [if_neg hlen] at P; exact P.elim
end
section
variable {X : Cx} {g : Gp} {Wx : WX}
def tYesD : DEnv → Mo Bool := fun _ => ret true
theorem pts_nilD {Wx : WX} : PTs X [] (LT X.K g Wx tYesD) := ⟨fun pins s σ H Q I h => pts_nil.run pins s σ H Q I (by
  obtain ⟨W, ρ, hh, hr, er, p⟩ := h
  exact p.ret hr rfl)⟩
end
end Dn
end
section
set_option Elab.async false
set_option linter.all false
set_option maxRecDepth 100000
set_option maxHeartbeats 2000000
/-! Dn10: list comprehensions of two clauses. -/
namespace Dn
open PySem PySem.Spec PyProof.Rows L2

/-- nothing raised: on with what came -/
def onOk {α β : Type} (r : Rz α) (k : α → DH → Rz β) : Rz β := match r with
  | .ok a h => k a h
  | .err _ _ _ => .stk
  | .stk => .stk
def lcGo2 (wk : Wk) (t : MT) (ft : DEnv → Mo Bool) (fi1 : DEnv → Mo Wk) (t1 : MT) (ft1 : DEnv → Mo Bool) (fe : DEnv → Mo Vx) (vs1 : List Nat) (ρ : DEnv) : Nat → Nat → List Vx → Mo (List Vx)
  | 0, _, _ => stk
  | n + 1, i, acc => fun h => match wk.item i h with
    | none => .stk
    | some none => .ok acc h
    | some (some y) => match asg t y ρ with
      | none => .stk
      | some ρ' => match ft ρ' h with
        | .ok true h2 => onOk (fi1 ρ' h2) fun wk1 h3 => onOk (lcGo wk1 t1 ft1 fe (wipeD ρ' vs1) (wk1.len h3 + 1) 0 acc h3) fun acc' h4 => lcGo2 wk t ft fi1 t1 ft1 fe vs1 ρ n (i + 1) acc' h4
        | .ok false h2 => lcGo2 wk t ft fi1 t1 ft1 fe vs1 ρ n (i + 1) acc h2
        | _ => .stk
def eLc2 (fz : Bool) (fi : DEnv → Mo Wk) (t : MT) (ft : DEnv → Mo Bool) (fi1 : DEnv → Mo Wk) (t1 : MT) (ft1 : DEnv → Mo Bool) (fe : DEnv → Mo Vx) (vs vs1 : List Nat) : DEnv → Mo Vx :=
  fun ρ => bnd (fi ρ) fun wk h => bnd (lcGo2 wk t ft fi1 t1 ft1 fe vs1 (wipeD ρ vs) (wk.len h + 1) 0 []) (lcEnd fz) h
section
variable {K : PySem.W.Frag} {g : Gp} {Wx : WX}
theorem lc2_tLc {fz : Bool} {fi fi1 : DEnv → Mo Wk} {t t1 : MT} {ft ft1 : DEnv → Mo Bool} {fe : DEnv → Mo Vx} {vs vs1 : List Nat} {q q1 : TG} (ht : TgS K t q) (hv : ∀ i ∈ t.slots, i ∈ vs) (ht1 : TgS K t1 q1) (hv1 : ∀ i ∈ t1.slots, i ∈ vs1) {σ : L2.St} {H : Hp} {Q : VK}
    (p : LE K g Wx (eLc2 fz fi t ft fi1 t1 ft1 fe vs vs1) σ H Q) : tLc2 (LI K g Wx fi) q (LT K g NoX ft) (LI K g NoX fi1) q1 (LT K g NoX ft1) (LE K g NoX fe) vs vs1 σ H Q := by
  refine Lf.imp (Lf.bnd (R := fun W J wk => WkR K g.T W wk J) p) fun J H1 ⟨W1, ρ, wk, h1, hr1, er, rr, p1⟩ => ?_
  intro D hD
  obtain ⟨hr0, o0, ex0⟩ := hr1.born hD []
  refine ⟨fun i m H' => ∃ Wc hc acc ys, Ext W1 H1 Wc H' ∧ HRel K g.T Wc H' hc ∧ Own Wc H' D acc ∧ RepVs K Wc acc ys ∧
    Post K g (RV K) W1 H1 (bnd (lcGo2 wk t ft fi1 t1 ft1 fe vs1 (wipeD ρ vs) m i ys) (lcEnd fz) hc) Q (fun c d H' => Wx c d σ H'), ⟨wk.len h1 + 1, W1, h1, [], [], ex0, hr0, o0, .nil, p1⟩, ?_⟩
  rintro i m H' ⟨Wc, hc, acc, ys, ex, hr, own, ra, P⟩
  unfold Dn.bnd at P
  cases m with
  | zero => exact P.elim
  | succ m =>
    have key := rr Wc H' hc ex.le hr i
    unfold lcGo2 at P
    cases hi : wk.item i hc with
    | none => rw [hi] at P; exact P.elim
    | some oy =>
      rw [hi] at key P
      cases oy with
      | none => exact .inl ⟨key, lc_end P ex hr hD own ra⟩
      | some y =>
        refine .inr ⟨key.1, fun H'' => ∃ Wc hc acc ys, Ext W1 H1 Wc H'' ∧ HRel K g.T Wc H'' hc ∧ Own Wc H'' D acc ∧ RepVs K Wc acc ys ∧
          Post K g (RV K) W1 H1 (bnd (lcGo2 wk t ft fi1 t1 ft1 fe vs1 (wipeD ρ vs) m (i + 1) ys) (lcEnd fz) hc) Q (fun c d H' => Wx c d σ H'), fun H'' n => ⟨m, Nat.lt_succ_self _, n⟩, fun x H2 yl => ?_⟩
        obtain ⟨W2, ex2, hr2, rv2⟩ := key.2 x H2 yl
        have own2 := own.keep ex2
        have ra2 := ra.le ex2.le
        cases ha : asg t y (wipeD ρ vs) with
        | none => simp only [ha] at P; exact P.elim
        | some ρ' =>
          simp only [ha] at P
          refine ht g.T W2 H2 hc x y (L2.wipe σ vs) (wipeD ρ vs) ρ' _ hr2 rv2 ((er.le (ex.le.trans ex2.le)).wipe vs) ha fun σ2 er2 so2 => ?_
          refine ⟨by rw [(so2.mono hv).wipe, wipe_wipe], W2, ρ', hc, hr2, er2, ?_⟩
          cases hft : ft ρ' hc with
          | stk => rw [hft] at P; exact P.elim
          | err c pp h3 => rw [hft] at P; exact P.elim
          | ok b h3 =>
            rw [hft] at P
            intro W3 b' H3 ex3 hr3 eb
            subst eb
            have own3 := own2.keep ex3
            have ra3 := ra2.le ex3.le
            have exA := (ex.trans ex2).trans ex3
            cases b' with
            | false => exact ⟨W3, h3, acc, ys, exA, hr3, own3, ra3, P⟩
            | true =>
              refine ⟨W3, ρ', h3, hr3, er2.le ex3.le, ?_⟩
              have er3 := er2.le ex3.le
              cases hfi : fi1 ρ' h3 with
              | stk => simp only [hfi, onOk] at P; exact P.elim
              | err c pp h4 => simp only [hfi, onOk] at P; exact P.elim
              | ok wk1 h4 =>
                simp only [hfi] at P
                intro W4 J1 H4 ex4 hr4 rr4
                have own4 := own3.keep ex4
                have ra4 := ra3.le ex4.le
                have exB := exA.trans ex4
                have er4 := er3.le ex4.le
                refine ⟨fun j k H' => ∃ Wd hd acc1 ys1, Ext W1 H1 Wd H' ∧ WLe W4 Wd ∧ HRel K g.T Wd H' hd ∧ Own Wd H' D acc1 ∧ RepVs K Wd acc1 ys1 ∧
                  Post K g (RV K) W1 H1 (bnd (fun _ => onOk (lcGo wk1 t1 ft1 fe (wipeD ρ' vs1) k j ys1 hd) fun acc' h5 => lcGo2 wk t ft fi1 t1 ft1 fe vs1 (wipeD ρ vs) m (i + 1) acc' h5) (lcEnd fz) hd) Q (fun c d H' => Wx c d σ H'),
                  ⟨wk1.len h4 + 1, W4, h4, acc, ys, exB, WLe.refl _, hr4, own4, ra4, P⟩, ?_⟩
                rintro j k H5 ⟨Wd, hd, acc1, ys1, exd, wl, hrd, ownd, rad, P⟩
                cases k with
                | zero => unfold Dn.bnd at P; exact P.elim
                | succ k =>
                  have key1 := rr4 Wd H5 hd wl hrd j
                  unfold Dn.bnd lcGo at P
                  cases hj : wk1.item j hd with
                  | none => rw [hj] at P; exact P.elim
                  | some oz =>
                    rw [hj] at key1 P
                    cases oz with
                    | none => exact .inl ⟨key1, Wd, hd, acc1, ys1, exd, hrd, ownd, rad, P⟩
                    | some z =>
                      refine .inr ⟨key1.1, fun H' => ∃ Wd hd acc1 ys1, Ext W1 H1 Wd H' ∧ WLe W4 Wd ∧ HRel K g.T Wd H' hd ∧ Own Wd H' D acc1 ∧ RepVs K Wd acc1 ys1 ∧
                        Post K g (RV K) W1 H1 (bnd (fun _ => onOk (lcGo wk1 t1 ft1 fe (wipeD ρ' vs1) k (j + 1) ys1 hd) fun acc' h5 => lcGo2 wk t ft fi1 t1 ft1 fe vs1 (wipeD ρ vs) m (i + 1) acc' h5) (lcEnd fz) hd) Q (fun c d H' => Wx c d σ H'), fun H'' n => ⟨k, Nat.lt_succ_self _, n⟩, fun x1 H6 yl1 => ?_⟩
                      obtain ⟨W6, ex6, hr6, rv6⟩ := key1.2 x1 H6 yl1
                      have own6 := ownd.keep ex6
                      have ra6 := rad.le ex6.le
                      cases ha1 : asg t1 z (wipeD ρ' vs1) with
                      | none => simp only [ha1] at P; exact P.elim
                      | some ρ6 =>
                        simp only [ha1] at P
                        refine ht1 g.T W6 H6 hd x1 z (L2.wipe σ2 vs1) (wipeD ρ' vs1) ρ6 _ hr6 rv6 ((er4.le (wl.trans ex6.le)).wipe vs1) ha1 fun σ6 er6 so6 => ?_
                        refine ⟨by rw [(so6.mono hv1).wipe, wipe_wipe], W6, ρ6, hd, hr6, er6, ?_⟩
                        cases hft1 : ft1 ρ6 hd with
                        | stk => simp only [hft1] at P; exact P.elim
                        | err c pp h3 => simp only [hft1] at P; exact P.elim
                        | ok b h7 =>
                          simp only [hft1] at P
                          intro W7 b' H7 ex7 hr7 eb
                          subst eb
                          have own7 := own6.keep ex7
                          have ra7 := ra6.le ex7.le
                          have exE := (exd.trans ex6).trans ex7
                          have wl7 := (wl.trans ex6.le).trans ex7.le
                          cases b' with
                          | false => exact ⟨W7, h7, acc1, ys1, exE, wl7, hr7, own7, ra7, P⟩
                          | true =>
                            refine ⟨W7, ρ6, h7, hr7, er6.le ex7.le, ?_⟩
                            cases hfe : fe ρ6 h7 with
                            | stk => simp only [hfe] at P; exact P.elim
                            | err c pp h8 => simp only [hfe] at P; exact P.elim
                            | ok zz h8 =>
                              simp only [hfe] at P
                              by_cases hlen : ys1.length < 16777216
                              · rw [if_pos hlen] at P
                                intro W8 v H8 ex8 hr8 rz
                                have own8 := own7.keep ex8
                                obtain ⟨hr9, own9⟩ := hr8.own own8 (acc1 ++ [v])
                                refine ⟨acc1, own8.at_, by rw [rad.length, sizeLine_eq]; exact hlen, W8, h8, acc1 ++ [v], ys1 ++ [zz], (exE.trans ex8).touch hD, wl7.trans ex8.le, hr9, own9, (ra7.le ex8.le).append (.cons rz .nil), P⟩
                              · rw [if_neg hlen] at P; exact P.elim
end
end Dn
end
section
set_option Elab.async false
set_option linter.all false
set_option maxRecDepth 100000
set_option maxHeartbeats 2000000
/-! Dn11: statements. -/
namespace Dn
open PySem PySem.Spec PyProof.Rows L2

inductive Out where
  | nx | bk | ct | rt (y : Vx)
  deriving Inhabited
inductive OutV where
  | nx (σ : L2.St) | bk (σ : L2.St) | ct (σ : L2.St) | rt (v : V)
abbrev SF := DEnv → Mo (Out × DEnv)
def RO (K : PySem.W.Frag) (W : Wd) : OutV → Out × DEnv → Prop
  | .nx σ, (.nx, ρ) => ERel K W σ ρ
  | .bk σ, (.bk, ρ) => ERel K W σ ρ
  | .ct σ, (.ct, ρ) => ERel K W σ ρ
  | .rt v, (.rt y, _) => RepV K W v y
  | _, _ => False
def endQ (D : Ends) : OutV → Hp → Prop
  | .nx σ, H => D.nx σ H
  | .bk σ, H => D.bk σ H
  | .ct σ, H => D.ct σ H
  | .rt v, H => D.rt v H
abbrev LS (K : PySem.W.Frag) (g : Gp) (Wx : WX) (f : SF) : TS := fun D σ H => Lf K g (RO K) Wx f σ H (endQ D)
/-- what is raised is told alike wherever the names stand -/
def Ins (Wx : WX) : Prop := ∀ c d σ σ' H, Wx c d σ H → Wx c d σ' H
def sNil : SF := fun ρ => ret (.nx, ρ)
def sCons (f1 f2 : SF) : SF := fun ρ => bnd (f1 ρ) fun o => match o.1 with
  | .nx => f2 o.2
  | .bk => ret (.bk, o.2)
  | .ct => ret (.ct, o.2)
  | .rt y => ret (.rt y, o.2)
def sBk : SF := fun ρ => ret (.bk, ρ)
def sCt : SF := fun ρ => ret (.ct, ρ)
def sSet (t : MT) (fe : DEnv → Mo Vx) : SF := fun ρ => bnd (fe ρ) fun y h => match asg t y ρ with
  | some ρ' => .ok (.nx, ρ') h
  | none => .stk
def sExpr (fe : DEnv → Mo Vx) : SF := fun ρ => bnd (fe ρ) fun _ => ret (.nx, ρ)
def sRet (fe : DEnv → Mo Vx) : SF := fun ρ => bnd (fe ρ) fun y => ret (.rt y, ρ)
def sRetN : SF := fun ρ => ret (.rt (.d .non), ρ)
def sIf (ft : DEnv → Mo Bool) (fa fb : SF) : SF := fun ρ => bnd (ft ρ) fun b => match b with
  | true => fa ρ
  | false => fb ρ
def sPar (i j : Nat) (fs : DEnv → Mo (List Vx)) : SF := fun ρ => bnd (fs ρ) fun as h => match as with
  | [x, y] => .ok (.nx, (ρ.set i (some x)).set j (some y)) h
  | _ => .stk
def sAug (i : Nat) (fe : DEnv → Mo Vx) (dop : Vx → Vx → Mo Vx) : SF := fun ρ h => match ρ[i]? with
  | some (some x) => bnd (fe ρ) (fun y => bnd (dop x y) fun z => ret (.nx, ρ.set i (some z))) h
  | _ => .stk
def sPut (fo fi fe : DEnv → Mo Vx) (dput : Vx → Vx → Vx → Mo Unit) : SF := fun ρ => bnd (fe ρ) fun y => bnd (fo ρ) fun o => bnd (fi ρ) fun i => bnd (dput o i y) fun _ => ret (.nx, ρ)
def fGo (wk : Wk) (t : MT) (fb : SF) : Nat → Nat → SF
  | 0, _ => fun _ => stk
  | n + 1, i => fun ρ h => match wk.item i h with
    | none => .stk
    | some none => .ok (.nx, ρ) h
    | some (some y) => match asg t y ρ with
      | none => .stk
      | some ρ' => bnd (fb ρ') (fun o => match o.1 with
        | .nx => fGo wk t fb n (i + 1) o.2
        | .ct => fGo wk t fb n (i + 1) o.2
        | .bk => ret (.nx, o.2)
        | .rt y => ret (.rt y, o.2)) h
def sFor (fi : DEnv → Mo Wk) (t : MT) (fb : SF) : SF := fun ρ => bnd (fi ρ) fun wk h => fGo wk t fb (wk.len h + 1) 0 ρ h
def wGo (ft : DEnv → Mo Bool) (fb : SF) : Nat → SF
  | 0 => fun _ => stk
  | n + 1 => fun ρ => bnd (ft ρ) fun b => match b with
    | false => ret (.nx, ρ)
    | true => bnd (fb ρ) fun o => match o.1 with
      | .nx => wGo ft fb n o.2
      | .ct => wGo ft fb n o.2
      | .bk => ret (.nx, o.2)
      | .rt y => ret (.rt y, o.2)
section
variable {X : Cx} {g : Gp} {Wx : WX} {e : Expr} {st : Stmt} {rest : List Stmt} {fe : DEnv → Mo Vx} {ft : DEnv → Mo Bool} {fs : DEnv → Mo (List Vx)} {f1 f2 : SF} {pos : Pos}
theorem pds_nil : PSs X [] (LS X.K g Wx sNil) := pss_nil.imp fun D σ H p => by
  obtain ⟨W, ρ, h, hr, er, p⟩ := p
  exact Post.ret (v := OutV.nx σ) p hr er
theorem pds_cons (hi : Ins Wx) (h1 : PS X st (LS X.K g Wx f1)) (h2 : PSs X rest (LS X.K g Wx f2)) : PSs X (st :: rest) (LS X.K g Wx (sCons f1 f2)) := by
  refine (pss_cons h1 h2).imp fun D σ H p => ?_
  refine Lf.imp (Lf.bnd (R := RO X.K) p) fun v H1 ⟨W1, ρ, y, h1, hr1, er, rr, p1⟩ => ?_
  obtain ⟨o, ρ1⟩ := y
  cases v with
  | nx σ1 =>
    cases o with
    | nx => exact ⟨W1, ρ1, h1, hr1, rr, p1.imp (fun _ _ q => q) fun c d H' q => hi _ _ _ _ _ q⟩
    | _ => exact rr.elim
  | bk σ1 =>
    cases o with
    | bk => have z : endQ D (OutV.bk σ1) H1 := Post.ret (v := OutV.bk σ1) p1 hr1 rr; exact z
    | _ => exact rr.elim
  | ct σ1 =>
    cases o with
    | ct => have z : endQ D (OutV.ct σ1) H1 := Post.ret (v := OutV.ct σ1) p1 hr1 rr; exact z
    | _ => exact rr.elim
  | rt v =>
    cases o with
    | rt y => have z : endQ D (OutV.rt v) H1 := Post.ret (v := OutV.rt v) p1 hr1 rr; exact z
    | _ => exact rr.elim
/-- the last one as it is -/
theorem pds_one (h1 : PS X st (LS X.K g Wx f1)) : PSs X [st] (LS X.K g Wx f1) := pss_one h1
theorem pd_pass : PS X (.Pass pos) (LS X.K g Wx sNil) := ps_pass.imp fun D σ H p => by
  obtain ⟨W, ρ, h, hr, er, p⟩ := p
  exact Post.ret (v := OutV.nx σ) p hr er
theorem pd_brk : PS X (.Break pos) (LS X.K g Wx sBk) := ps_break.imp fun D σ H p => by
  obtain ⟨W, ρ, h, hr, er, p⟩ := p
  exact Post.ret (v := OutV.bk σ) p hr er
theorem pd_cont : PS X (.Continue pos) (LS X.K g Wx sCt) := ps_continue.imp fun D σ H p => by
  obtain ⟨W, ρ, h, hr, er, p⟩ := p
  exact Post.ret (v := OutV.ct σ) p hr er
theorem tAsg_of {t : MT} {q : TG} (ht : TgS X.K t q) {D : Ends} {σ : L2.St} {H : Hp} (p : LS X.K g Wx (sSet t fe) D σ H) : tAsg (LE X.K g Wx fe) q D σ H := by
  refine Lf.imp (Lf.bnd (R := RV X.K) p) fun v H1 ⟨W1, ρ, y, h1, hr1, er, rr, p1⟩ => ?_
  split at p1
  · rename_i ρ' e
    exact ht g.T W1 H1 h1 v y σ ρ ρ' _ hr1 rr er e fun σ' er' _ => Post.ret (v := OutV.nx σ') p1 hr1 er'
  · exact p1.elim
theorem pd_asg {tg : Expr} {t : MT} {q : TG} (ht : TgS X.K t q) (he : PE X e (LE X.K g Wx fe)) (hg : PG X tg q) (hs : swapsWithSole [tg] e pos.line X.env = pure false) (hw : swappedStores [tg] e X.env = pure none)
    (h1 : (assignEach [tg] X.env).map (·.2) = [assign tg X.env]) : PS X (.Assign [tg] e pos) (LS X.K g Wx (sSet t fe)) := (ps_asg he hg hs hw h1).imp fun D σ H p => tAsg_of ht p
theorem pd_set {i : Nat} {x : Str} {pos' : Pos} (hN : X.N.Nodup) (hi : X.N[i]? = some x) (hx : Loc X.env.scope x) (he : PE X e (LE X.K g Wx fe)) (hs : swapsWith e (some (.Name x pos')) pos.line X.env = pure false) (hf : X.fn x = true ∨ X.env.scope.names.lookup x = some .local) :
    PS X (.Assign [.Name x pos'] e pos) (LS X.K g Wx (sSet (.nm i) fe)) := (ps_set hN hi hx he hs hf).imp fun D σ H p => tAsg_of (tg_nm i) p
theorem pd_expr (he : PE X e (LE X.K g Wx fe)) (hs : swapsWith e none pos.line X.env = pure false) : PS X (.Expr e pos) (LS X.K g Wx (sExpr fe)) := (ps_expr he hs).imp fun D σ H p => by
  refine Lf.imp (Lf.bnd (R := RV X.K) p) fun v H1 ⟨W1, ρ, y, h1, hr1, er, rr, p1⟩ => ?_
  exact Post.ret (v := OutV.nx σ) p1 hr1 er
theorem pd_ret (he : PE X e (LE X.K g Wx fe)) : PS X (.Return (some e) pos) (LS X.K g Wx (sRet fe)) := (ps_ret he).imp fun D σ H p => by
  refine Lf.imp (Lf.bnd (R := RV X.K) p) fun v H1 ⟨W1, ρ, y, h1, hr1, er, rr, p1⟩ => ?_
  exact Post.ret (v := OutV.rt v) p1 hr1 rr
theorem pd_retN : PS X (.Return none pos) (LS X.K g Wx sRetN) := ps_retN.imp fun D σ H p => by
  obtain ⟨W, ρ, h, hr, er, p⟩ := p
  exact Post.ret (v := OutV.rt .non) p hr RepD.non
theorem pd_if {a b : List Stmt} (hc : PT X e (LT X.K g Wx ft)) (ha : PSs X a (LS X.K g Wx f1)) (hb : PSs X b (LS X.K g Wx f2)) : PS X (.If e a b pos) (LS X.K g Wx (sIf ft f1 f2)) := (ps_if hc ha hb).imp fun D σ H p => by
  refine Lf.imp (Lf.bnd (R := fun _ (b c : Bool) => b = c) p) fun v H1 ⟨W1, ρ, y, h1, hr1, er, rr, p1⟩ => ?_
  subst rr
  cases v with
  | true => exact ⟨W1, ρ, h1, hr1, er, p1⟩
  | false => exact ⟨W1, ρ, h1, hr1, er, p1⟩
theorem pd_par {i j : Nat} {x y : Str} {a b : Expr} {px py pt : Pos} {kt k2 pt2} (hc : X.calm = true) (hN : X.N.Nodup) (hi : X.N[i]? = some x) (hj : X.N[j]? = some y) (hij : i ≠ j)
    (hx : X.env.scope.names.lookup x = some .local) (hy : X.env.scope.names.lookup y = some .local) (ha : PA X [a, b] (LA X.K g Wx fs))
    (hw : swappedStores [.Tuple [.Name x px, .Name y py] kt pt] (.Tuple [a, b] k2 pt2) X.env = pure (some [x, y]))
    (hs : swapsWithSole [.Tuple [.Name x px, .Name y py] kt pt] (.Tuple [a, b] k2 pt2) pos.line X.env = pure false) :
    PS X (.Assign [.Tuple [.Name x px, .Name y py] kt pt] (.Tuple [a, b] k2 pt2) pos) (LS X.K g Wx (sPar i j fs)) := (ps_par hc hN hi hj hij hx hy ha hw hs).imp fun D σ H p => by
  refine Lf.imp (Lf.bnd (R := RVs X.K) p) fun vs H1 ⟨W1, ρ, y, h1, hr1, er, rr, p1⟩ => ?_
  split at p1
  · rename_i u w
    obtain ⟨v1, v2, rfl, r1, r2⟩ := rr.two
    exact ⟨v1, v2, rfl, Post.ret (v := OutV.nx _) p1 hr1 ((er.set r1).set r2)⟩
  · exact p1.elim
/-- a op= b on two values -/
def IpD (X : Cx) (g : Gp) (op : Operator) (dop : Vx → Vx → Mo Vx) : Prop :=
  ∃ r : TIp, PIp X op r ∧ ∀ (W : Wd) (H : Hp) (h : DH) (x y : V) (a b : Vx) (Q : VK) (E : XK), HRel X.K g.T W H h → RepV X.K W x a → RepV X.K W y b → Post X.K g (RV X.K) W H (dop a b h) Q E → r x y H Q
theorem pd_aug {i : Nat} {x : Str} {op : Operator} {dop : Vx → Vx → Mo Vx} {pos' : Pos} (hN : X.N.Nodup) (hi : X.N[i]? = some x) (hx : Loc X.env.scope x) (he : PE X e (LE X.K g Wx fe)) (ho : IpD X g op dop) (hf : X.fn x = true ∨ X.env.scope.names.lookup x = some .local) :
    PS X (.AugAssign (.Name x pos') op e pos) (LS X.K g Wx (sAug i fe dop)) := by
  obtain ⟨r, h1, h2⟩ := ho
  refine (ps_aug hN hi hx he h1 hf).imp fun D σ H p => ?_
  obtain ⟨W, ρ, h, hr, er, p⟩ := p
  unfold sAug at p
  split at p
  · rename_i y ey
    obtain ⟨v, e1, e2⟩ := er.at_ i y ey
    refine ⟨v, e1, W, ρ, h, hr, er, (Post.bnd (R := RV X.K) p).imp (fun w H1 ⟨W1, z, h1', ex, hr1, rr, p1⟩ => ?_) fun _ _ _ q => q⟩
    refine h2 W1 H1 h1' v w y z _ _ hr1 (RepV.le ex.le e2) rr ((Post.bnd (R := RV X.K) p1).imp (fun u H2 ⟨W2, zz, h2', ex2, hr2, rr2, p2⟩ => ?_) fun _ _ _ q => q)
    exact Post.ret (v := OutV.nx _) p2 hr2 (((er.le ex.le).le ex2.le).set rr2)
  · exact p.elim
/-- o[i] = v on three values -/
def PutD (X : Cx) (g : Gp) (dput : Vx → Vx → Vx → Mo Unit) : Prop :=
  ∃ r : TSet, PSet X r ∧ ∀ (W : Wd) (H : Hp) (h : DH) (o i v : V) (a b c : Vx) (Q : Hp → Prop) (E : XK), HRel X.K g.T W H h → RepV X.K W o a → RepV X.K W i b → RepV X.K W v c → Post X.K g (fun _ (_ _ : Unit) => True) W H (dput a b c h) (fun _ H' => Q H') E → r o i v H Q
theorem pd_put {o i : Expr} {fo fi : DEnv → Mo Vx} {dput : Vx → Vx → Vx → Mo Unit} {pos' : Pos} (hp : PutD X g dput) (ho : PE X o (LE X.K g Wx fo)) (hi : PE X i (LE X.K g Wx fi)) (he : PE X e (LE X.K g Wx fe))
    (ha : ∀ v, assign (.Subscript o i pos') X.env v = (do
      let ov ← holding [v] (eval o X.env)
      let iv ← holding [v, ov] (eval i X.env)
      standAt pos'
      holding [v, ov, iv] (setItem ov iv v)
      release [v, ov, iv] []))
    (hs : swapsWithSole [.Subscript o i pos'] e pos.line X.env = pure false) (hw : swappedStores [.Subscript o i pos'] e X.env = pure none) (h1 : (assignEach [.Subscript o i pos'] X.env).map (·.2) = [assign (.Subscript o i pos') X.env]) :
    PS X (.Assign [.Subscript o i pos'] e pos) (LS X.K g Wx (sPut fo fi fe dput)) := by
  obtain ⟨r, q1, q2⟩ := hp
  refine (ps_asg he (pg_sub ho hi q1 ha) hs hw h1).imp fun D σ H p => ?_
  refine Lf.imp (Lf.bnd (R := RV X.K) p) fun v H1 ⟨W1, ρ, y, h1', hr1, er, rr, p1⟩ => ?_
  refine ⟨W1, ρ, h1', hr1, er, (Post.bnd (R := RV X.K) p1).imp (fun ov H2 ⟨W2, y2, h2, ex2, hr2, rr2, p2⟩ => ?_) fun _ _ _ q => q⟩
  refine ⟨W2, ρ, h2, hr2, er.le ex2.le, (Post.bnd (R := RV X.K) p2).imp (fun iv H3 ⟨W3, y3, h3, ex3, hr3, rr3, p3⟩ => ?_) fun _ _ _ q => q⟩
  refine q2 W3 H3 h3 ov iv v y2 y3 y _ _ hr3 (RepV.le ex3.le rr2) rr3 (RepV.le (ex2.le.trans ex3.le) rr) ((Post.bnd (R := fun _ (_ _ : Unit) => True) p3).imp (fun _ H4 ⟨W4, _, h4, ex4, hr4, _, p4⟩ => ?_) fun _ _ _ q => q)
  exact Post.ret (v := OutV.nx σ) p4 hr4 (((er.le ex2.le).le ex3.le).le ex4.le)
theorem pd_for {iter tg : Expr} {body : List Stmt} {fi : DEnv → Mo Wk} {t : MT} {q : TG} {fb : SF} (hin : Ins Wx) (hp : PassesOwn (model X.prog X.w) X.A X.env X.xe) (hc : X.calm = true) (ht : TgS X.K t q) (hi : PI X tg iter (LI X.K g Wx fi)) (hg : PG X tg q) (hb : PSs X body (LS X.K g Wx fb))
    (hs : ∀ x, foldedSetIterable iter X.env x = pure x) : PS X (.For tg iter body [] pos) (LS X.K g Wx (sFor fi t fb)) := by
  refine (ps_for hp hc hi hg hb hs).imp fun D σ H p => ?_
  refine Lf.imp (Lf.bnd (R := fun W J wk => WkR X.K g.T W wk J) p) fun J H1 ⟨W1, ρ, wk, h1, hr1, er, rr, p1⟩ => ?_
  refine ⟨fun i m σ' H' => ∃ Wc ρ' hc, WLe W1 Wc ∧ HRel X.K g.T Wc H' hc ∧ ERel X.K Wc σ' ρ' ∧ Post X.K g (RO X.K) Wc H' (fGo wk t fb m i ρ' hc) (endQ D) (fun c d H' => Wx c d σ' H'), ⟨wk.len h1 + 1, W1, ρ, h1, WLe.refl _, hr1, er, p1⟩, ?_⟩
  rintro i m σ' H' ⟨Wc, ρ', hc, wl, hr, er', P⟩
  cases m with
  | zero => exact P.elim
  | succ m =>
    have key := rr Wc H' hc wl hr i
    unfold fGo at P
    cases hi : wk.item i hc with
    | none => rw [hi] at P; exact P.elim
    | some oy =>
      rw [hi] at key P
      cases oy with
      | none => exact .inl ⟨key, Post.ret (v := OutV.nx σ') P hr er'⟩
      | some y =>
        refine .inr ⟨key.1, fun σ' H' => ∃ Wc ρ' hc, WLe W1 Wc ∧ HRel X.K g.T Wc H' hc ∧ ERel X.K Wc σ' ρ' ∧ Post X.K g (RO X.K) Wc H' (fGo wk t fb m (i + 1) ρ' hc) (endQ D) (fun c d H' => Wx c d σ' H'), fun σ' H' n => ⟨m, Nat.lt_succ_self _, n⟩, fun x H2 yl => ?_⟩
        obtain ⟨W2, ex2, hr2, rv2⟩ := key.2 x H2 yl
        cases ha : asg t y ρ' with
        | none => simp only [ha] at P; exact P.elim
        | some ρ2 =>
          simp only [ha] at P
          refine ht g.T W2 H2 hc x y σ' ρ' ρ2 _ hr2 rv2 (er'.le ex2.le) ha fun σ2 er2 so2 => ?_
          refine ⟨W2, ρ2, hc, hr2, er2, (Post.bnd (R := RO X.K) (P.later ex2)).imp (fun v H3 ⟨W3, y3, h3, ex3, hr3, rr3, p3⟩ => ?_) fun c d H' q => hin _ _ _ _ _ q⟩
          obtain ⟨o, ρ3⟩ := y3
          have wl3 := (wl.trans ex2.le).trans ex3.le
          cases v with
          | nx σ3 =>
            cases o with
            | nx => exact ⟨W3, ρ3, h3, wl3, hr3, rr3, p3.imp (fun _ _ q => q) fun c d H' q => hin _ _ _ _ _ q⟩
            | _ => exact rr3.elim
          | ct σ3 =>
            cases o with
            | ct => exact ⟨W3, ρ3, h3, wl3, hr3, rr3, p3.imp (fun _ _ q => q) fun c d H' q => hin _ _ _ _ _ q⟩
            | _ => exact rr3.elim
          | bk σ3 =>
            cases o with
            | bk => have z : endQ D (OutV.nx σ3) H3 := Post.ret (v := OutV.nx σ3) p3 hr3 rr3; exact z
            | _ => exact rr3.elim
          | rt v =>
            cases o with
            | rt y => have z : endQ D (OutV.rt v) H3 := Post.ret (v := OutV.rt v) p3 hr3 rr3; exact z
            | _ => exact rr3.elim
theorem pd_while {body : List Stmt} {fb : SF} {fuel : Nat} (hin : Ins Wx) (hp : PassesOwn (model X.prog X.w) X.A X.env X.xe) (hc : PT X e (LT X.K g Wx ft)) (hb : PSs X body (LS X.K g Wx fb)) : PS X (.While e body [] pos) (LS X.K g Wx (wGo ft fb fuel)) := by
  refine (ps_while hp hc hb).imp fun D σ H p => ?_
  refine ⟨fun m σ' H' => LS X.K g Wx (wGo ft fb m) D σ' H', ⟨fuel, p⟩, ?_⟩
  intro m σ' H' p
  cases m with
  | zero =>
    obtain ⟨W, ρ, h, hr, er, p⟩ := p
    exact p.elim
  | succ m =>
    refine Lf.imp (Lf.bnd (R := fun _ (b c : Bool) => b = c) p) fun v H1 ⟨W1, ρ, y, h1, hr1, er, rr, p1⟩ => ?_
    subst rr
    cases v with
    | false => exact Post.ret (v := OutV.nx σ') p1 hr1 er
    | true =>
      rw [if_pos rfl]
      refine ⟨fun σ' H' => LS X.K g Wx (wGo ft fb m) D σ' H', fun σ' H' n => ⟨m, Nat.lt_succ_self _, n⟩, ?_⟩
      refine ⟨W1, ρ, h1, hr1, er, (Post.bnd (R := RO X.K) p1).imp (fun v H3 ⟨W3, y3, h3, ex3, hr3, rr3, p3⟩ => ?_) fun c d H' q => q⟩
      obtain ⟨o, ρ3⟩ := y3
      cases v with
      | nx σ3 =>
        cases o with
        | nx => exact ⟨W3, ρ3, h3, hr3, rr3, p3.imp (fun _ _ q => q) fun c d H' q => hin _ _ _ _ _ q⟩
        | _ => exact rr3.elim
      | ct σ3 =>
        cases o with
        | ct => exact ⟨W3, ρ3, h3, hr3, rr3, p3.imp (fun _ _ q => q) fun c d H' q => hin _ _ _ _ _ q⟩
        | _ => exact rr3.elim
      | bk σ3 =>
        cases o with
        | bk => have z : endQ D (OutV.nx σ3) H3 := Post.ret (v := OutV.nx σ3) p3 hr3 rr3; exact z
        | _ => exact rr3.elim
      | rt v =>
        cases o with
        | rt y => have z : endQ D (OutV.rt v) H3 := Post.ret (v := OutV.rt v) p3 hr3 rr3; exact z
        | _ => exact rr3.elim
end
end Dn
end
section
set_option Elab.async false
set_option linter.all false
set_option maxRecDepth 100000
set_option maxHeartbeats 2000000
/-! Dn12: tests, and, or, not, if-expressions, chains; o[i] = v; op=. -/
namespace Dn
open PySem PySem.Spec PyProof.Rows L2

abbrev LB (K : PySem.W.Frag) (g : Gp) (Wx : WX) (f : DEnv → Mo Bool) : TT := LT K g Wx f
def isBl : Vx → Mo Bool := fun y h => match y with
  | .d (.bl b) => .ok b h
  | _ => .stk
def tTst (fe : DEnv → Mo Vx) : DEnv → Mo Bool := fun ρ => bnd (fe ρ) isBl
def tAndD (f1 f2 : DEnv → Mo Bool) : DEnv → Mo Bool := fun ρ => bnd (f1 ρ) fun b => match b with
  | true => f2 ρ
  | false => ret false
def tOrD (f1 f2 : DEnv → Mo Bool) : DEnv → Mo Bool := fun ρ => bnd (f1 ρ) fun b => match b with
  | true => ret true
  | false => f2 ρ
def eAnd (fa fb : DEnv → Mo Vx) : DEnv → Mo Vx := fun ρ => bnd (fa ρ) fun x => bnd (truM x) fun b => match b with
  | true => fb ρ
  | false => ret x
def eOr (fa fb : DEnv → Mo Vx) : DEnv → Mo Vx := fun ρ => bnd (fa ρ) fun x => bnd (truM x) fun b => match b with
  | true => ret x
  | false => fb ρ
def eNot (fa : DEnv → Mo Vx) : DEnv → Mo Vx := fun ρ => bnd (fa ρ) fun x => bnd (truM x) fun b => ret (.d (.bl (!b)))
def eIf (ft : DEnv → Mo Bool) (fa fb : DEnv → Mo Vx) : DEnv → Mo Vx := fun ρ => bnd (ft ρ) fun b => match b with
  | true => fa ρ
  | false => fb ρ
def eChain (d1 d2 : Vx → Vx → Mo Vx) (fa fb fc : DEnv → Mo Vx) : DEnv → Mo Vx := fun ρ => bnd (fa ρ) fun x => bnd (fb ρ) fun y => bnd (d1 x y) fun z => bnd (isBl z) fun b => match b with
  | true => bnd (fc ρ) fun w => d2 y w
  | false => ret (.d (.bl false))
section
variable {X : Cx} {g : Gp} {Wx : WX} {a b c : Expr} {rest : List Expr} {fa fb fc : DEnv → Mo Vx} {f1 f2 : DEnv → Mo Bool} {pos : Pos}
theorem isBl_rep {K : PySem.W.Frag} {W : Wd} {H : Hp} {h : DH} {v : V} {y : Vx} {Q : Bool → Hp → Prop} {E : XK} (hr : HRel K g.T W H h) (r : RepV K W v y) (p : Post K g (fun _ (b c : Bool) => b = c) W H (isBl y h) Q E) : ∃ k, v = .bl k ∧ Q k H := by
  unfold isBl at p
  split at p
  · rename_i k
    have r : RepD K W.F v (.bl k) := r
    cases r
    exact ⟨k, rfl, p.ret hr rfl⟩
  · exact p.elim
theorem pdt_cmp {op : CmpOp} {dop : Vx → Vx → Mo Vx} (ho : OpD X g (compareOp op) dop) (ha : PE X a (LE X.K g Wx fa)) (hb : PE X b (LE X.K g Wx fb)) (hm : behindInMarks op b = false) : PT X (.Compare a [op] [b] pos) (LT X.K g Wx (tTst (eBin dop fa fb))) := by
  obtain ⟨r, h1, h2⟩ := ho
  refine (pt_cmpR h1 ha hb hm).imp fun σ H Q p => ?_
  show tOp r (LE X.K g Wx fa) (LE X.K g Wx fb) σ H (fun x H' => ∃ k, x = .bl k ∧ Q k H')
  refine two_ h2 ?_
  refine Lf.imp (Lf.bnd (R := RV X.K) p) fun v H1 ⟨W1, ρ, y, h1, hr1, er, rr, p1⟩ => isBl_rep hr1 rr p1
theorem pdw_and1 (h : PT X a (LT X.K g Wx f1)) : PW X (.BoolOp .And [a] pos) (LT X.K g Wx f1) := pw_and1 h
theorem pdw_or1 (h : PT X a (LT X.K g Wx f1)) : PW X (.BoolOp .Or [a] pos) (LT X.K g Wx f1) := pw_or1 h
theorem pdw_and (ha : PT X a (LT X.K g Wx f1)) (hb : PW X (.BoolOp .And (b :: rest) pos) (LT X.K g Wx f2)) : PW X (.BoolOp .And (a :: b :: rest) pos) (LT X.K g Wx (tAndD f1 f2)) := by
  refine (pw_and ha hb).imp fun σ H Q p => ?_
  refine Lf.imp (Lf.bnd (R := fun _ (b c : Bool) => b = c) p) fun v H1 ⟨W1, ρ, y, h1, hr1, er, rr, p1⟩ => ?_
  subst rr
  cases v with
  | true => exact ⟨W1, ρ, h1, hr1, er, p1⟩
  | false => exact p1.ret hr1 rfl
theorem pdw_or (ha : PT X a (LT X.K g Wx f1)) (hb : PW X (.BoolOp .Or (b :: rest) pos) (LT X.K g Wx f2)) : PW X (.BoolOp .Or (a :: b :: rest) pos) (LT X.K g Wx (tOrD f1 f2)) := by
  refine (pw_or ha hb).imp fun σ H Q p => ?_
  refine Lf.imp (Lf.bnd (R := fun _ (b c : Bool) => b = c) p) fun v H1 ⟨W1, ρ, y, h1, hr1, er, rr, p1⟩ => ?_
  subst rr
  cases v with
  | true => exact p1.ret hr1 rfl
  | false => exact ⟨W1, ρ, h1, hr1, er, p1⟩
theorem truM_rep {W : Wd} {H : Hp} {h : DH} {v : V} {y : Vx} {Q : Bool → Hp → Prop} {E : XK} (hr : HRel X.K g.T W H h) (r : RepV X.K W v y) (p : Post X.K g (fun _ (b c : Bool) => b = c) W H (truM y h) Q E) : ∃ k, TruV X.K v H k ∧ Q k H := by
  unfold truM at p
  split at p
  · rename_i b e
    exact ⟨b, tru_rep hr r e, p.ret hr rfl⟩
  · exact p.elim
theorem pd_one {op} (h : PE X a (LE X.K g Wx fa)) : PE X (.BoolOp op [a] pos) (LE X.K g Wx fa) := pe_one h
theorem pd_and (ha : PE X a (LE X.K g Wx fa)) (hb : PE X (.BoolOp .And (b :: rest) pos) (LE X.K g Wx fb)) : PE X (.BoolOp .And (a :: b :: rest) pos) (LE X.K g Wx (eAnd fa fb)) := by
  refine (pe_andT ha hb).imp fun σ H Q p => ?_
  refine Lf.imp (Lf.bnd (R := RV X.K) p) fun v H1 ⟨W1, ρ, y, h1, hr1, er, rr, p1⟩ => ?_
  obtain ⟨k, h1', W2, y2, h2, ex, hr2, e2, p2⟩ := truM_rep hr1 rr (Post.bnd (R := fun _ (b c : Bool) => b = c) p1)
  refine ⟨k, h1', ?_⟩
  subst e2
  cases k with
  | true => exact ⟨W2, ρ, h2, hr2, er.le ex.le, p2⟩
  | false => exact p2.ret hr2 (RepV.le ex.le rr)
theorem pd_or (ha : PE X a (LE X.K g Wx fa)) (hb : PE X (.BoolOp .Or (b :: rest) pos) (LE X.K g Wx fb)) : PE X (.BoolOp .Or (a :: b :: rest) pos) (LE X.K g Wx (eOr fa fb)) := by
  refine (pe_orT ha hb).imp fun σ H Q p => ?_
  refine Lf.imp (Lf.bnd (R := RV X.K) p) fun v H1 ⟨W1, ρ, y, h1, hr1, er, rr, p1⟩ => ?_
  obtain ⟨k, h1', W2, y2, h2, ex, hr2, e2, p2⟩ := truM_rep hr1 rr (Post.bnd (R := fun _ (b c : Bool) => b = c) p1)
  refine ⟨k, h1', ?_⟩
  subst e2
  cases k with
  | true => exact p2.ret hr2 (RepV.le ex.le rr)
  | false => exact ⟨W2, ρ, h2, hr2, er.le ex.le, p2⟩
theorem pd_not (ha : PE X a (LE X.K g Wx fa)) : PE X (.UnaryOp .Not a pos) (LE X.K g Wx (eNot fa)) := by
  refine (pe_notT ha).imp fun σ H Q p => ?_
  refine Lf.imp (Lf.bnd (R := RV X.K) p) fun v H1 ⟨W1, ρ, y, h1, hr1, er, rr, p1⟩ => ?_
  obtain ⟨k, h1', W2, y2, h2, ex, hr2, e2, p2⟩ := truM_rep hr1 rr (Post.bnd (R := fun _ (b c : Bool) => b = c) p1)
  subst e2
  exact ⟨k, h1', p2.ret hr2 (RepD.bl _)⟩
theorem pd_ifExp (hc : PT X c (LT X.K g Wx f1)) (ha : PE X a (LE X.K g Wx fa)) (hb : PE X b (LE X.K g Wx fb)) : PE X (.IfExp c a b pos) (LE X.K g Wx (eIf f1 fa fb)) := by
  refine (pe_ifExp hc ha hb).imp fun σ H Q p => ?_
  refine Lf.imp (Lf.bnd (R := fun _ (b c : Bool) => b = c) p) fun v H1 ⟨W1, ρ, y, h1, hr1, er, rr, p1⟩ => ?_
  subst rr
  cases v with
  | true => exact ⟨W1, ρ, h1, hr1, er, p1⟩
  | false => exact ⟨W1, ρ, h1, hr1, er, p1⟩
theorem chain_ {op op' : CmpOp} {r r' : R2} {d1 d2 : Vx → Vx → Mo Vx}
    (h1 : ∀ (W : Wd) (H : Hp) (h : DH) (x y : V) (a b : Vx) (Q : VK) (E : XK), HRel X.K g.T W H h → RepV X.K W x a → RepV X.K W y b → Post X.K g (RV X.K) W H (d1 a b h) Q E → r x y H Q)
    (h2 : ∀ (W : Wd) (H : Hp) (h : DH) (x y : V) (a b : Vx) (Q : VK) (E : XK), HRel X.K g.T W H h → RepV X.K W x a → RepV X.K W y b → Post X.K g (RV X.K) W H (d2 a b h) Q E → r' x y H Q) {σ : L2.St} {H : Hp} {Q : VK}
    (p : LE X.K g Wx (eChain d1 d2 fa fb fc) σ H Q) : tChain r r' (LE X.K g Wx fa) (LE X.K g Wx fb) (LE X.K g Wx fc) σ H Q := by
  refine Lf.imp (Lf.bnd (R := RV X.K) p) fun v H1 ⟨W1, ρ, y, h1', hr1, er, rr, p1⟩ => ?_
  refine ⟨W1, ρ, h1', hr1, er, (Post.bnd (R := RV X.K) p1).imp (fun v2 H2 ⟨W2, y2, h2', ex2, hr2, rr2, p2⟩ => ?_) fun _ _ _ q => q⟩
  refine h1 W2 H2 h2' v v2 y y2 _ _ hr2 (RepV.le ex2.le rr) rr2 ((Post.bnd (R := RV X.K) p2).imp (fun v3 H3 ⟨W3, y3, h3, ex3, hr3, rr3, p3⟩ => ?_) fun _ _ _ q => q)
  obtain ⟨k, e, W4, y4, h4, ex4, hr4, e4, p4⟩ := isBl_rep hr3 rr3 (Post.bnd (R := fun _ (b c : Bool) => b = c) p3)
  refine ⟨k, e, ?_⟩
  subst e4
  have er4 := ((er.le ex2.le).le ex3.le).le ex4.le
  cases k with
  | false => exact p4.ret hr4 (RepD.bl _)
  | true =>
    rw [if_pos rfl]
    refine ⟨W4, ρ, h4, hr4, er4, (Post.bnd (R := RV X.K) p4).imp (fun v5 H5 ⟨W5, y5, h5, ex5, hr5, rr5, p5⟩ => ?_) fun _ _ _ q => q⟩
    exact h2 W5 H5 h5 v2 v5 y2 y5 Q _ hr5 (RepV.le ((ex3.le.trans ex4.le).trans ex5.le) rr2) rr5 p5
theorem pd_chain {op op' : CmpOp} {d1 d2 : Vx → Vx → Mo Vx} (ho : OpD X g (compareOp op) d1) (ho' : OpD X g (compareOp op') d2) (ha : PE X a (LE X.K g Wx fa)) (hb : PE X b (LE X.K g Wx fb)) (hc : PE X c (LE X.K g Wx fc)) (hm : lastMarks [op, op'] [b, c] = false) :
    PE X (.Compare a [op, op'] [b, c] pos) (LE X.K g Wx (eChain d1 d2 fa fb fc)) := by
  obtain ⟨r, h1, h2⟩ := ho
  obtain ⟨r', h1', h2'⟩ := ho'
  exact (pe_chain h1 h1' ha hb hc hm).imp fun σ H Q p => chain_ (op := op) (op' := op') h2 h2' p
theorem pdt_chain {op op' : CmpOp} {d1 d2 : Vx → Vx → Mo Vx} (ho : OpD X g (compareOp op) d1) (ho' : OpD X g (compareOp op') d2) (ha : PE X a (LE X.K g Wx fa)) (hb : PE X b (LE X.K g Wx fb)) (hc : PE X c (LE X.K g Wx fc)) (hm : lastMarks [op, op'] [b, c] = false) :
    PT X (.Compare a [op, op'] [b, c] pos) (LT X.K g Wx (tTst (eChain d1 d2 fa fb fc))) := by
  obtain ⟨r, h1, h2⟩ := ho
  obtain ⟨r', h1', h2'⟩ := ho'
  refine (pt_chain h1 h1' ha hb hc hm).imp fun σ H Q p => ?_
  show tChain r r' (LE X.K g Wx fa) (LE X.K g Wx fb) (LE X.K g Wx fc) σ H (fun x H' => ∃ k, x = .bl k ∧ Q k H')
  refine chain_ (op := op) (op' := op') h2 h2' ?_
  exact Lf.imp (Lf.bnd (R := RV X.K) p) fun v H1 ⟨W1, ρ, y, h1, hr1, er, rr, p1⟩ => isBl_rep hr1 rr p1
/-! a list's place -/
def dPut : Vx → Vx → Vx → Mo Unit := fun o i y h => match o, i with
  | .r k, .d (.int j) => (match h[k]? with
    | some (.lst ys) => (match ixN ys.length j with
      | some n => .ok () (h.set k (.lst (ys.set n y)))
      | none => .stk)
    | _ => .stk)
  | _, _ => .stk
theorem pu_list : PutD X g dPut := by
  refine ⟨_, set_list, fun W H h o i v a b c Q E hr ra rb rc p => ?_⟩
  unfold dPut at p
  split at p
  · rename_i k j
    obtain ⟨a1, ea, rfl⟩ := ra
    split at p
    · rename_i ys hk
      split at p
      · rename_i n en
        obtain ⟨xs, hx, hv⟩ := hr.obj k a1 _ ea hk
        obtain ⟨h1, h2⟩ := hr.put ea hk hx (hv.set rc n)
        refine ⟨a1, xs, j, n, rfl, repInt rb, hx, by rw [hv.length]; exact en, ?_⟩
        exact p W () _ h2 h1 True.intro
      · exact p.elim
    · exact p.elim
  · exact p.elim
def ipInt (f : Int → Int → Int) : Vx → Vx → Mo Vx := fun x y h => match x, y with
  | .d (.int i), .d (.int j) => .ok (.d (.int (f i j))) h
  | _, _ => .stk
theorem ip_addD : IpD X g .Add (ipInt fun i j => i + j) := by
  refine ⟨_, ip_add, fun W H h x y a b Q E hr ra rb p => ?_⟩
  unfold ipInt at p
  split at p
  · exact ⟨_, _, repInt ra, repInt rb, p.ret hr (RepD.int _)⟩
  · exact p.elim
theorem ip_subD : IpD X g .Sub (ipInt fun i j => i - j) := by
  refine ⟨_, ip_sub, fun W H h x y a b Q E hr ra rb p => ?_⟩
  unfold ipInt at p
  split at p
  · exact ⟨_, _, repInt ra, repInt rb, p.ret hr (RepD.int _)⟩
  · exact p.elim
end
end Dn
end
section
set_option Elab.async false
set_option linter.all false
set_option maxRecDepth 100000
set_option maxHeartbeats 2000000
/-! Dn13: calls of the program's own functions. -/
namespace Dn
open PySem PySem.Spec PyProof.Rows L2

/-! ### what a function promises; a call -/
def spD (K : PySem.W.Frag) (g : Gp) (n : Nat) (f : List Vx → Mo Vx) : Sp := fun vs H Q E => vs.length = n ∧ ∃ W h ys, HRel K g.T W H h ∧ RepVs K W vs ys ∧ Post K g (RV K) W H (f ys h) Q E
mutual
def noLst : Dt → Bool
  | .lst _ => false
  | .tup ds => noLsts ds
  | _ => true
def noLsts : List Dt → Bool
  | [] => true
  | d :: ds => noLst d && noLsts ds
end
def reifyL (f : Vx → Option Dt) : List Vx → Option (List Dt)
  | [] => some []
  | y :: r => match f y, reifyL f r with
    | some d, some ds => some (d :: ds)
    | _, _ => none
/-- the data that a value is; ex: the objects that are not one's own -/
def reify (ex : Nat → Bool) (h : DH) : Nat → Vx → Option Dt
  | _, .d x => some x
  | 0, _ => none
  | n + 1, .r k => if ex k = true then none else (match (h[k]? : Option Ob) with
    | some (.lst ys) => (match reifyL (reify ex h n) ys with | some ds => some (.lst ds) | none => none)
    | _ => none)
  | _, _ => none
def isR : Vx → Bool
  | .r _ => true
  | _ => false
/-- the one list that is handed on to be changed -/
def passed : List Bool → List Vx → Option Nat
  | true :: _, .r k :: _ => some k
  | _ :: bs, _ :: ys => passed bs ys
  | _, _ => none
/-- a list is handed on to be read -/
def lent : List Bool → List Vx → Bool
  | false :: _, .r _ :: _ => true
  | [], .r _ :: _ => true
  | _ :: bs, _ :: ys => lent bs ys
  | [], _ :: ys => lent [] ys
  | _, [] => false
def prep (po : Option Nat) (h : DH) : List Bool → List Vx → Option (List Vx)
  | _, [] => some []
  | bs, y :: ys => match prep po h bs.tail ys with
    | none => none
    | some zs => match y with
      | .d x => some (.d x :: zs)
      | .s ns => some (.s ns :: zs)
      | .x _ _ _ => none
      | .r k => match bs.headD false with
        | true => if po = some k then some (.r 0 :: zs) else none
        | false => (match reify (fun j => po == some j) h 9 (.r k) with | some x => some (.d x :: zs) | none => none)
def subOf (po : Option Nat) (h : DH) : Option DH := match po with
  | none => some []
  | some k => match (h[k]? : Option Ob) with
    | some (.lst zs) => (match plains zs with | some _ => some [.lst zs] | none => none)
    | _ => none
def putBack (po : Option Nat) (h s : DH) : Option DH := match po with
  | none => some h
  | some k => match (s[0]? : Option Ob) with
    | some (.lst zs) => (match plains zs with | some ds => if noLsts ds = true then some (h.set k (.lst zs)) else none | none => none)
    | _ => none
def back (fz : Bool) (po : Option Nat) (h : DH) : Rz Vx → Rz Vx
  | .ok y s => (match reify (fun j => decide (j < (if po.isSome = true then 1 else 0))) s 9 y, putBack po h s with
    | some x, some h' => if fz = true → noLst x = true then .ok (.d x) h' else .stk
    | _, _ => .stk)
  | .err c p s => (match putBack po h s with
    | some h' => if noLst p = true then .err c p h' else .stk
    | none => .stk)
  | .stk => .stk
def callM (hy : List Bool) (f : List Vx → Mo Vx) : List Vx → Mo Vx := fun ys h => match subOf (passed hy ys) h, prep (passed hy ys) h hy ys with
  | some s, some zs => back (lent hy ys) (passed hy ys) h (f zs s)
  | _, _ => .stk

section
variable {K : PySem.W.Frag} {g : Gp} {W : Wd} {H : Hp} {h : DH}
theorem reifyL_rep {Fr : Hp} {f : Vx → Option Dt} (hf : ∀ v y x, RepV K W v y → f y = some x → RepD K Fr v x) : ∀ {vs : List V} {ys : List Vx} {ds : List Dt}, RepVs K W vs ys → reifyL f ys = some ds → RepDs K Fr vs ds
  | _, _, ds, .nil, e => by cases e; exact .nil
  | _, _, ds, .cons (y := y) (ys := ys) r1 r2, e => by
    unfold reifyL at e
    split at e
    · rename_i d ds' e1 e2
      cases e
      exact .cons (hf _ _ _ r1 e1) (reifyL_rep hf r2 e2)
    · cases e
theorem reify_rep {T : Tbs} {ex : Nat → Bool} {Fr : Hp} (hr : HRel K T W H h) (hF : HLe W.F Fr) (hθ : ∀ (k : Nat) (a : Addr) (ys : List Vx) (xs : List V), W.θ[k]? = some a → h[k]? = some (.lst ys) → ex k = false → H a = some (.lst xs) → Fr a = some (.lst xs)) :
    ∀ (n : Nat) (v : V) (y : Vx) (x : Dt), RepV K W v y → reify ex h n y = some x → RepD K Fr v x := by
  intro n
  induction n with
  | zero =>
    intro v y x r e
    cases y with
    | d z => cases e; exact RepD.le hF r
    | _ => cases e
  | succ n ih =>
    intro v y x r e
    cases y with
    | d z => cases e; exact RepD.le hF r
    | x _ _ _ => cases e
    | s _ => cases e
    | r k =>
      unfold reify at e
      split at e
      · cases e
      · rename_i hex
        split at e
        · rename_i ys hk
          split at e
          · rename_i ds e2
            cases e
            obtain ⟨a, ea, rfl⟩ := r
            obtain ⟨xs, hx, hv⟩ := hr.obj k a _ ea hk
            exact .lst (hθ k a ys xs ea hk (by simpa using hex) hx) (reifyL_rep (fun v y x r1 e1 => ih v y x r1 e1) hv e2)
          · cases e
        · cases e
/-- data without lists stand wherever the tuples stand -/
def TupLe (F F' : Hp) : Prop := ∀ a o, F a = some o → (∀ xs, o ≠ .lst xs) → F' a = some o
theorem SqT.tl {F F' : Hp} (le : TupLe F F') {a : Addr} {vs : List V} (h : SqT K F a vs) : SqT K F' a vs := by
  rcases h with (h | ⟨o, h⟩) | h
  · exact .inl (.inl (le _ _ h fun _ z => by cases z))
  · exact .inl (.inr ⟨o, le _ _ h fun _ z => by cases z⟩)
  · exact .inr h
mutual
theorem RepD.tl {F F' : Hp} (le : TupLe F F') : ∀ {d : Dt} {v : V}, noLst d = true → RepD K F v d → RepD K F' v d
  | .non, _, _, h => by cases h; exact .non
  | .bl _, _, _, h => by cases h; exact .bl _
  | .int _, _, _, h => by cases h; exact .int _
  | .str _, _, _, h => by cases h with | str _ h => exact .str _ h
  | .tup _, _, n, h => by cases h with | tup h1 h2 => exact .tup (SqT.tl le h1) (RepDs.tl le (by unfold noLst at n; exact n) h2)
  | .lst _, _, n, _ => by unfold noLst at n; cases n
theorem RepDs.tl {F F' : Hp} (le : TupLe F F') : ∀ {ds : List Dt} {vs : List V}, noLsts ds = true → RepDs K F vs ds → RepDs K F' vs ds
  | [], _, _, h => by cases h; exact .nil
  | _ :: _, _, n, h => by
    unfold noLsts at n
    simp only [Bool.and_eq_true] at n
    cases h with | cons h1 h2 => exact .cons (RepD.tl le n.1 h1) (RepDs.tl le n.2 h2)
end
theorem prep_rep {T : Tbs} {po : Option Nat} {fz : Bool} {Fp : Hp} {θs : List Addr} (hr : HRel K T W H h) (hF : HLe W.F Fp)
    (hθ : fz = true → ∀ (k : Nat) (a : Addr) (ys : List Vx) (xs : List V), W.θ[k]? = some a → h[k]? = some (.lst ys) → (po == some k) = false → H a = some (.lst xs) → Fp a = some (.lst xs))
    (hp : ∀ k a, po = some k → W.θ[k]? = some a → θs[0]? = some a) :
    ∀ {vs : List V} {ys : List Vx}, RepVs K W vs ys → ∀ {bs : List Bool} {zs : List Vx}, prep po h bs ys = some zs → (lent bs ys = true → fz = true) → RepVs K ⟨Fp, θs⟩ vs zs
  | _, _, .nil, bs, zs, e, _ => by unfold prep at e; cases e; exact .nil
  | _, _, .cons (v := v) (y := y) (vs := vs) (ys := ys) r1 r2, bs, zs, e, hl => by
    unfold prep at e
    split at e
    · cases e
    · rename_i zs' e1
      have hl' : lent bs.tail ys = true → fz = true := fun z => hl (by
        cases bs with
        | nil => cases y <;> first | exact z | rfl
        | cons b bs => cases b <;> cases y <;> first | exact z | rfl)
      have ih := prep_rep hr hF hθ hp r2 e1 hl'
      cases y with
      | d x => cases e; exact .cons (RepD.le hF r1) ih
      | s ns =>
        cases e
        obtain ⟨a, rfl, q⟩ := r1
        exact .cons ⟨a, rfl, SqL.le q hF⟩ ih
      | x _ _ _ => cases e
      | r k =>
        simp only at e
        cases hb : bs.headD false with
        | true =>
          rw [hb] at e
          simp only at e
          split at e
          · rename_i hk
            cases e
            obtain ⟨a, ea, rfl⟩ := r1
            exact .cons ⟨a, hp k a hk ea, rfl⟩ ih
          · cases e
        | false =>
          rw [hb] at e
          simp only at e
          split at e
          · rename_i x ex
            cases e
            have ft : fz = true := hl (by
              cases bs with
              | nil => rfl
              | cons b bs =>
                have : b = false := hb
                subst this; rfl)
            exact .cons (reify_rep (Fr := Fp) hr hF (hθ ft) 9 v (.r k) x r1 ex) ih
          · cases e
end
end Dn
end
section
set_option Elab.async false
set_option linter.all false
set_option maxRecDepth 100000
set_option maxHeartbeats 2000000
/-! Dn14: a call is sound. -/
namespace Dn
open PySem PySem.Spec PyProof.Rows L2

def lstAt (H : Hp) (a : Addr) : Option HO := match H a with
  | some (.lst xs) => some (.lst xs)
  | _ => none
theorem lstAt_some {H : Hp} {a : Addr} {o : HO} (e : lstAt H a = some o) : ∃ xs, o = .lst xs ∧ H a = some (.lst xs) := by
  unfold lstAt at e
  split at e
  · rename_i xs q; cases e; exact ⟨xs, rfl, q⟩
  · cases e
theorem lstAt_of {H : Hp} {a : Addr} {xs : List V} (e : H a = some (.lst xs)) : lstAt H a = some (.lst xs) := by
  unfold lstAt; rw [e]
/-- what is known to the callee -/
def FIn (fz : Bool) (F H : Hp) (θ θs : List Addr) : Hp := fun a => match F a with
  | some o => some o
  | none => if fz = true ∧ a ∈ θ ∧ a ∉ θs then lstAt H a else none
/-- what is known behind the call -/
def FOut (F F' H' : Hp) (θ θ' : List Addr) : Hp := fun a => match F a with
  | some o => some o
  | none => if a ∈ θ then none else match F' a with
    | some o => some o
    | none => if a ∈ θ' then lstAt H' a else none
section
variable {K : PySem.W.Frag} {T : Tbs} {g : Gp} {W W' : Wd} {H H' : Hp} {h : DH}
theorem HRel.has (r : HRel K T W H h) {a : Addr} (ha : a ∈ W.θ) : ∃ xs, H a = some (.lst xs) := by
  obtain ⟨k, hk⟩ := List.mem_iff_getElem?.mp ha
  have hlt := (List.getElem?_eq_some_iff.mp hk).1
  obtain ⟨o, ho⟩ : ∃ o, h[k]? = some o := ⟨h[k]'(by rw [← r.len]; exact hlt), by simp⟩
  have hh := r.obj k a o hk ho
  cases o with
  | lst zs => obtain ⟨xs, h1, _⟩ := hh; exact ⟨xs, h1⟩
  | dead => exact hh
theorem FIn.le {fz : Bool} {F : Hp} {θ θs : List Addr} : HLe F (FIn fz F H θ θs) := fun a o e => by unfold FIn; rw [e]
theorem FIn.not {F : Hp} {θ θs : List Addr} {a : Addr} : FIn false F H θ θs a = F a := by
  unfold FIn
  cases F a with
  | some o => rfl
  | none => simp
/-- the callee's world -/
theorem HRel.inner (r : HRel K T W H h) (fz : Bool) {θs : List Addr} {s : DH} (hs : ∀ a ∈ θs, a ∈ W.θ) (hl : θs.length = s.length) (hn : θs.Nodup)
    (ho : ∀ (k : Nat) (a : Addr) (o : Ob), θs[k]? = some a → s[k]? = some o → ∃ (zs : List Vx) (ds : List Dt) (j : Nat), o = .lst zs ∧ plains zs = some ds ∧ W.θ[j]? = some a ∧ h[j]? = some (.lst zs)) :
    HRel K T ⟨FIn fz W.F H W.θ θs, θs⟩ H s := by
  refine ⟨fun a o e => ?_, fun a o e => ?_, hl, fun k a o e1 e2 => ?_, fun k a o e1 e2 nd => ?_, hn, r.tab⟩
  · unfold FIn at e
    cases q : W.F a with
    | some u => simp only [q] at e; cases e; exact r.fro _ _ q
    | none =>
      simp only [q] at e
      split at e
      · obtain ⟨xs, rfl, z⟩ := lstAt_some e; exact z
      · cases e
  · unfold FIn at e
    cases q : W.F a with
    | some u => simp only [q] at e; cases e; exact r.ntb _ _ q
    | none =>
      simp only [q] at e
      split at e
      · obtain ⟨xs, rfl, z⟩ := lstAt_some e; exact notTbl_lst xs
      · cases e
  · obtain ⟨zs, ds, j, rfl, ep, ej, eh⟩ := ho k a o e1 e2
    obtain ⟨xs, hx, hv⟩ := r.obj j a _ ej eh
    have h1 := hv.plain ep
    have e3 : zs = ds.map Vx.d := by
      clear hv eh e2 e1 h1
      induction zs generalizing ds with
      | nil => cases ep; rfl
      | cons y r ih =>
        cases y with
        | d x =>
          unfold plains at ep
          split at ep
          · rename_i es e; cases ep; rw [List.map_cons, ← ih es e]
          · cases ep
        | r _ => cases ep
        | x _ _ _ => cases ep
        | s _ => cases ep
    refine ⟨xs, hx, ?_⟩
    rw [e3]
    exact .of_plain (RepDs.le FIn.le h1)
  · obtain ⟨zs, ds, j, rfl, ep, ej, eh⟩ := ho k a o e1 e2
    have q := r.liv j a _ ej eh (fun z => by cases z)
    show FIn fz W.F H W.θ θs a = none
    unfold FIn
    rw [q]
    have : a ∈ θs := List.mem_of_getElem? e1
    simp [this]
/-- behind the call -/
theorem call_out {fz : Bool} {θs : List Addr} {s' : DH} (r : HRel K T W H h) (hs : ∀ a ∈ θs, a ∈ W.θ) (ex : Ext ⟨FIn fz W.F H W.θ θs, θs⟩ H W' H') (r' : HRel K T W' H' s')
    (live : ∀ (k : Nat) (a : Addr), θs[k]? = some a → ∃ (zs : List Vx), s'[k]? = some (.lst zs)) {h' : DH} (hl : h'.length = h.length)
    (ho : ∀ (k : Nat) (a : Addr) (o : Ob), W.θ[k]? = some a → h'[k]? = some o → (a ∉ θs ∧ h[k]? = some o) ∨ ∃ (zs : List Vx) (ds : List Dt) (j : Nat), o = .lst zs ∧ plains zs = some ds ∧ noLsts ds = true ∧ θs[j]? = some a ∧ s'[j]? = some (.lst zs) ∧ ∃ zs0, h[k]? = some (.lst zs0)) :
    TupLe W'.F (FOut W.F W'.F H' W.θ W'.θ) ∧ (fz = false → HLe W'.F (FOut W.F W'.F H' W.θ W'.θ)) ∧
      HRel K T ⟨FOut W.F W'.F H' W.θ W'.θ, W.θ⟩ H' h' ∧ Ext W H ⟨FOut W.F W'.F H' W.θ W'.θ, W.θ⟩ H' := by
  obtain ⟨new, eθ, fnew⟩ := ex.θ
  have oldF : ∀ a o, W.F a = some o → W'.F a = some o := fun a o e => ex.F a o (FIn.le a o e)
  -- W' knows nothing more of the caller's lists but what was lent
  have key : ∀ a o, W'.F a = some o → W.F a = none → a ∈ W.θ → fz = true ∧ ∃ xs, o = .lst xs := fun a o e q m => by
    rcases ex.newF a o e with z | z | z
    · have z : FIn fz W.F H W.θ θs a = some o := z
      unfold FIn at z
      simp only [q] at z
      split at z
      · rename_i c
        obtain ⟨xs, e2, _⟩ := lstAt_some z
        exact ⟨c.1, xs, e2⟩
      · cases z
    · obtain ⟨xs, hx⟩ := r.has m
      rw [hx] at z; cases z
    · have z : a ∈ θs := z
      obtain ⟨k, hk⟩ := List.mem_iff_getElem?.mp z
      obtain ⟨zs, hz⟩ := live k a hk
      have hk' : W'.θ[k]? = some a := by
        rw [eθ]
        exact (List.getElem?_append_left (List.getElem?_eq_some_iff.mp hk).1).trans hk
      have := r'.liv k a _ hk' hz (fun z => by cases z)
      rw [this] at e; cases e
  have tl : TupLe W'.F (FOut W.F W'.F H' W.θ W'.θ) := fun a o e nl => by
    unfold FOut
    cases q : W.F a with
    | some u => have := oldF a u q; rw [e] at this; cases this; rfl
    | none =>
      simp only
      by_cases m : a ∈ W.θ
      · obtain ⟨_, xs, rfl⟩ := key a o e q m; exact absurd rfl (nl xs)
      · rw [if_neg m, e]
  have fl : fz = false → HLe W'.F (FOut W.F W'.F H' W.θ W'.θ) := fun ff a o e => by
    unfold FOut
    cases q : W.F a with
    | some u => have := oldF a u q; rw [e] at this; cases this; rfl
    | none =>
      simp only
      by_cases m : a ∈ W.θ
      · obtain ⟨c, _⟩ := key a o e q m; rw [ff] at c; cases c
      · rw [if_neg m, e]
  have wl : HLe W.F (FOut W.F W'.F H' W.θ W'.θ) := fun a o e => by unfold FOut; rw [e]
  have sub : ∀ a o, FOut W.F W'.F H' W.θ W'.θ a = some o → W.F a = some o ∨ (a ∉ W.θ ∧ (W'.F a = some o ∨ (a ∈ W'.θ ∧ ∃ xs, o = .lst xs ∧ H' a = some (.lst xs)))) := fun a o e => by
    unfold FOut at e
    cases q : W.F a with
    | some u => simp only [q] at e; exact .inl e
    | none =>
      simp only [q] at e
      split at e
      · cases e
      · rename_i m
        cases q2 : W'.F a with
        | some u => simp only [q2] at e; exact .inr ⟨m, .inl e⟩
        | none =>
          simp only [q2] at e
          split at e
          · rename_i m2; exact .inr ⟨m, .inr ⟨m2, lstAt_some e⟩⟩
          · cases e
  refine ⟨tl, fl, ⟨fun a o e => ?_, fun a o e => ?_, by rw [hl]; exact r.len, fun k a o e1 e2 => ?_, fun k a o e1 e2 nd => ?_, r.nd, r'.tab⟩, ⟨wl, ⟨[], by simp, by simp⟩, fun a o e n nt => ?_, ex.dom, fun a o e => ?_⟩⟩
  · rcases sub a o e with z | ⟨_, z | ⟨_, xs, rfl, z⟩⟩
    · exact r'.fro _ _ (oldF _ _ z)
    · exact r'.fro _ _ z
    · exact z
  · rcases sub a o e with z | ⟨_, z | ⟨_, xs, rfl, z⟩⟩
    · exact r.ntb _ _ z
    · exact r'.ntb _ _ z
    · exact notTbl_lst xs
  · rcases ho k a o e1 e2 with ⟨n, e3⟩ | ⟨zs, ds, j, rfl, ep, nl, ej, es, zs0, eh⟩
    · have hh := r.obj k a o e1 e3
      have hw : WLe W ⟨FOut W.F W'.F H' W.θ W'.θ, W.θ⟩ := ⟨wl, [], by simp⟩
      cases o with
      | lst ys => obtain ⟨xs, h1, h2⟩ := hh; exact ⟨xs, ex.frame _ _ h1 n (notTbl_lst _), h2.le hw⟩
      | dead => obtain ⟨xs, h1⟩ := hh; exact ⟨xs, ex.frame _ _ h1 n (notTbl_lst _)⟩
    · have hk' : W'.θ[j]? = some a := by
        rw [eθ]
        exact (List.getElem?_append_left (List.getElem?_eq_some_iff.mp ej).1).trans ej
      obtain ⟨xs, hx, hv⟩ := r'.obj j a _ hk' es
      refine ⟨xs, hx, ?_⟩
      have h1 := RepDs.tl tl nl (hv.plain ep)
      have e3 : ∀ (zs : List Vx) (ds : List Dt), plains zs = some ds → zs = ds.map Vx.d := by
        intro zs
        induction zs with
        | nil => intro ds ep; cases ep; rfl
        | cons y r ih =>
          intro ds ep
          cases y with
          | d x =>
            unfold plains at ep
            split at ep
            · rename_i es e; cases ep; rw [List.map_cons, ← ih es e]
            · cases ep
          | r _ => cases ep
          | x _ _ _ => cases ep
          | s _ => cases ep
      rw [e3 zs ds ep]
      exact .of_plain h1
  · have m : a ∈ W.θ := List.mem_of_getElem? e1
    have q : W.F a = none := by
      rcases ho k a o e1 e2 with ⟨n, e3⟩ | ⟨zs, ds, j, rfl, ep, nl, ej, es, zs0, eh⟩
      · exact r.liv k a o e1 e3 nd
      · exact r.liv k a _ e1 eh (fun z => by cases z)
    show FOut W.F W'.F H' W.θ W'.θ a = none
    unfold FOut
    rw [q]
    simp [m]
  · exact ex.frame a o e (fun z => n (hs a z)) nt
  · rcases sub a o e with z | ⟨m, z | ⟨m2, xs, rfl, z⟩⟩
    · exact .inl z
    · rcases ex.newF a o z with y | y | y
      · have y : FIn fz W.F H W.θ θs a = some o := y
        unfold FIn at y
        cases q : W.F a with
        | some u => rw [q] at y; exact .inl y
        | none =>
          simp only [q] at y
          split at y
          · rename_i c; exact absurd c.2.1 m
          · cases y
      · exact .inr (.inl y)
      · exact .inr (.inr (hs a y))
    · rw [eθ] at m2
      rcases List.mem_append.mp m2 with y | y
      · exact absurd (hs a y) m
      · exact .inr (.inl (fnew a y))
/-- the end of a call -/
theorem call_end {fz : Bool} {θs : List Addr} {po : Option Nat} {s s' : DH} (r : HRel K T W H h) (hθ : (po = none ∧ θs = []) ∨ ∃ k a zs, po = some k ∧ W.θ[k]? = some a ∧ h[k]? = some (.lst zs) ∧ θs = [a])
    (ex : Ext ⟨FIn fz W.F H W.θ θs, θs⟩ H W' H') (r' : HRel K T W' H' s') {h' : DH} (pb : putBack po h s' = some h') :
    TupLe W'.F (FOut W.F W'.F H' W.θ W'.θ) ∧ (fz = false → HLe W'.F (FOut W.F W'.F H' W.θ W'.θ)) ∧
      HRel K T ⟨FOut W.F W'.F H' W.θ W'.θ, W.θ⟩ H' h' ∧ Ext W H ⟨FOut W.F W'.F H' W.θ W'.θ, W.θ⟩ H' := by
  rcases hθ with ⟨rfl, rfl⟩ | ⟨k, a, zs, rfl, ea, ek, rfl⟩
  · have pb : some h = some h' := pb
    cases pb
    exact call_out r (fun a ha => by cases ha) ex r' (fun k a e => by cases e) rfl fun k a o e1 e2 => .inl ⟨by simp, e2⟩
  · unfold putBack at pb
    simp only at pb
    split at pb
    · rename_i zs' es
      split at pb
      · rename_i ds ep
        split at pb
        · rename_i nl
          cases pb
          refine call_out r (fun b hb => by rw [List.mem_singleton.mp hb]; exact List.mem_of_getElem? ea) ex r' (fun j b e => ?_) (by simp) fun j b o e1 e2 => ?_
          · cases j with
            | zero => exact ⟨zs', es⟩
            | succ j => cases e
          · by_cases hj : k = j
            · subst hj
              rw [ea] at e1
              cases e1
              rw [List.getElem?_set_self (by rw [← r.len]; exact (List.getElem?_eq_some_iff.mp ea).1)] at e2
              cases e2
              exact .inr ⟨zs', ds, 0, rfl, ep, nl, rfl, es, zs, ek⟩
            · rw [List.getElem?_set_ne hj] at e2
              refine .inl ⟨fun m => ?_, e2⟩
              have : b = a := List.mem_singleton.mp m
              subst this
              obtain ⟨l1, q1⟩ := List.getElem?_eq_some_iff.mp e1
              obtain ⟨l2, q2⟩ := List.getElem?_eq_some_iff.mp ea
              exact hj ((List.getElem_inj r.nd).mp (q2.trans q1.symm))
        · cases pb
      · cases pb
    · cases pb
theorem reify_r {ex : Nat → Bool} {s : DH} : ∀ {n k : Nat} {x : Dt}, reify ex s n (.r k) = some x → noLst x = false
  | 0, _, _, e => by cases e
  | n + 1, k, x, e => by
    have e : (if ex k = true then none else (match (s[k]? : Option Ob) with
      | some (.lst ys) => (match reifyL (reify ex s n) ys with | some ds => some (Dt.lst ds) | none => none)
      | _ => none)) = some x := e
    split at e
    · cases e
    · split at e
      · split at e
        · cases e; rfl
        · cases e
      · cases e
theorem call_sound {n : Nat} {f : List Vx → Mo Vx} {hy : List Bool} {vs : List V} {ys : List Vx} {Q : VK} {E : XK} (hr : HRel K g.T W H h) (rv : RepVs K W vs ys) (hl : vs.length = n)
    (P : Post K g (RV K) W H (callM hy f ys h) Q E) : spD K g n f vs H Q E := by
  refine ⟨hl, ?_⟩
  unfold callM at P
  split at P
  · rename_i s zs e1 e2
    generalize hpo : passed hy ys = po at e1 e2 P
    obtain ⟨θs, hθ, hin⟩ : ∃ θs, ((po = none ∧ θs = []) ∨ ∃ k a zs, po = some k ∧ W.θ[k]? = some a ∧ h[k]? = some (.lst zs) ∧ θs = [a]) ∧ HRel K g.T ⟨FIn (lent hy ys) W.F H W.θ θs, θs⟩ H s := by
      cases po with
      | none =>
        have e1 : some ([] : DH) = some s := e1
        cases e1
        exact ⟨[], .inl ⟨rfl, rfl⟩, hr.inner _ (fun a ha => by cases ha) rfl List.nodup_nil fun k a o e => by cases e⟩
      | some k =>
        unfold subOf at e1
        simp only at e1
        split at e1
        · rename_i ws hk
          split at e1
          · rename_i ds ep
            cases e1
            have hlt : k < W.θ.length := by rw [hr.len]; exact (List.getElem?_eq_some_iff.mp hk).1
            have ea : W.θ[k]? = some W.θ[k] := List.getElem?_eq_getElem hlt
            refine ⟨[W.θ[k]], .inr ⟨k, _, ws, rfl, ea, hk, rfl⟩, hr.inner _ (fun b hb => by rw [List.mem_singleton.mp hb]; exact List.mem_of_getElem? ea) rfl (List.nodup_cons.mpr ⟨by simp, List.nodup_nil⟩) fun j b o e3 e4 => ?_⟩
            cases j with
            | zero => cases e3; cases e4; exact ⟨ws, ds, k, rfl, ep, ea, hk⟩
            | succ j => cases e3
          · cases e1
        · cases e1
    have hs : ∀ a ∈ θs, a ∈ W.θ := fun a ha => by
      rcases hθ with ⟨_, rfl⟩ | ⟨k, b, zs, _, eb, _, rfl⟩
      · cases ha
      · rw [List.mem_singleton.mp ha]; exact List.mem_of_getElem? eb
    refine ⟨⟨FIn (lent hy ys) W.F H W.θ θs, θs⟩, s, zs, hin, ?_, ?_⟩
    · refine prep_rep (fz := lent hy ys) hr FIn.le (fun ft k a ys xs ea ek ne hx => ?_) (fun k a hk ea => ?_) rv e2 (fun z => z)
      · have q := hr.liv k a _ ea ek (fun z => by cases z)
        have nm : a ∉ θs := fun m => by
          rcases hθ with ⟨_, rfl⟩ | ⟨j, b, zs, rfl, eb, _, rfl⟩
          · cases m
          · have : a = b := List.mem_singleton.mp m
            subst this
            obtain ⟨l1, q1⟩ := List.getElem?_eq_some_iff.mp ea
            obtain ⟨l2, q2⟩ := List.getElem?_eq_some_iff.mp eb
            have : j = k := (List.getElem_inj hr.nd).mp (q2.trans q1.symm)
            subst this
            simp at ne
        unfold FIn
        rw [q]
        simp only
        rw [if_pos ⟨ft, List.mem_of_getElem? ea, nm⟩]
        exact lstAt_of hx
      · rcases hθ with ⟨e, _⟩ | ⟨j, b, zs, e, eb, _, rfl⟩
        · rw [e] at hk; cases hk
        · rw [e] at hk; cases hk
          rw [eb] at ea; cases ea; rfl
    · cases hf : f zs s with
      | stk => rw [hf] at P; exact P.elim
      | err c p s' =>
        rw [hf] at P
        intro W' cls dd H' ex r' rx
        unfold back at P
        simp only at P
        split at P
        · rename_i h' pb
          split at P
          · rename_i nl
            obtain ⟨tl, _, hr2, ex2⟩ := call_end (s := s) hr hθ ex r' pb
            obtain ⟨nm, fl, ex1, ec, d, v, ed, eh, rd⟩ := rx
            exact P _ cls dd H' ex2 hr2 ⟨nm, fl, ex1, ec, d, v, ed, eh, RepD.tl tl nl rd⟩
          · exact P.elim
        · exact P.elim
      | ok y s' =>
        rw [hf] at P
        intro W' v H' ex r' rv'
        unfold back at P
        simp only at P
        split at P
        · rename_i x h' er pb
          split at P
          · rename_i nl
            obtain ⟨tl, fl, hr2, ex2⟩ := call_end (s := s) hr hθ ex r' pb
            refine P _ v H' ex2 hr2 ?_
            show RepD K (FOut W.F W'.F H' W.θ W'.θ) v x
            cases hfz : lent hy ys with
            | true =>
              have nl := nl hfz
              cases y with
              | d z => cases er; exact RepD.tl tl nl rv'
              | r k => have := reify_r er; rw [this] at nl; cases nl
              | x _ _ _ => cases er
              | s _ => cases er
            | false =>
              refine reify_rep r' (fl hfz) (fun k a ys xs ea ek ne hx => ?_) 9 v y x rv' er
              obtain ⟨new, eθ, fnew⟩ := ex.θ
              have q : W'.F a = none := r'.liv k a _ ea ek (fun z => by cases z)
              have hk : θs.length ≤ k := by
                have ne : ¬ k < (if po.isSome = true then 1 else 0) := by simpa using ne
                rcases hθ with ⟨e, rfl⟩ | ⟨j, b, zs, e, eb, _, rfl⟩
                · exact Nat.zero_le _
                · rw [e] at ne
                  simp at ne
                  show 1 ≤ k
                  omega
              have m : a ∈ new := by
                have z : (θs ++ new)[k]? = some a := by rw [← eθ]; exact ea
                rw [List.getElem?_append_right hk] at z
                exact List.mem_of_getElem? z
              have hn := fnew a m
              have nθ : a ∉ W.θ := fun z => by
                obtain ⟨xs, hx⟩ := hr.has z
                rw [hx] at hn; cases hn
              have q0 : W.F a = none := by
                cases z : W.F a with
                | none => rfl
                | some o => have := hr.fro a o z; rw [hn] at this; cases this
              unfold FOut
              rw [q0]
              simp only
              rw [if_neg nθ, q]
              simp only
              rw [if_pos (List.mem_of_getElem? ea)]
              exact lstAt_of hx
          · exact P.elim
        · exact P.elim
  · exact P.elim
end
/-! ### the rule -/
section
variable {X : Cx} {g : Gp} {Wx : WX} {e : Expr} {es : List Expr} {fs : DEnv → Mo (List Vx)} {pos : Pos}
theorem pd_call {k : Nat} {fa : Addr} {fd : FuncData} {ps : List Str} {f : List Vx → Mo Vx} {hy : List Bool} {dvs : List V} {ds : List Value} {dd : List Dt} {x : Str} {p : Pos} (F : FnOk X.prog X.w X.K X.mg X.base (L2.CX X.prog X.w) k fa fd ps (spD X.K g ps.length f)) (hr : Room k X.A) (hg : Gl X x) (hm : X.mg x = some (.ref fa))
    (hk : PySem.W.keepIn X.K (.ref fa) = true) (hb : Binds X.K fd ps ds) (hd : Vals dvs ds) (rd : RepDs X.K (fun _ => none) dvs dd) (tk : Takes X Wx) (hin : Ins Wx) (hdb : (x == ("__debug__" : Str)) = false)
    (ha : PA X (e :: es) (LA X.K g Wx fs)) (he : starEach (e :: es) X.env = (false, eval e X.env) :: starEach es X.env) (hpl : (backTo pos (starEach es X.env)).any (·.1) = false) (hn : (e :: es).length + dd.length = ps.length)
    (hlen : ∀ ρ h ys h', fs ρ h = .ok ys h' → ys.length = (e :: es).length) :
    PE X (.Call (.Name x p) (e :: es) [] pos) (LE X.K g Wx (eCall (fun ys => callM hy f (ys ++ dd.map Vx.d)) fs)) := by
  refine (pe_call (E := fun c d H => ∃ σ, Wx c d σ H) F hr hg hm hk hb hd (passes_call (W := Wx) tk fun c d σ H ⟨σ', q⟩ => hin _ _ _ _ _ q) ha hdb he hpl).imp fun σ H Q p => ?_
  obtain ⟨W, ρ, h, hr0, er, p⟩ := p
  have hys : ∀ ys h', fs ρ h = .ok ys h' → ys.length = (e :: es).length := fun ys h' q => hlen ρ h ys h' q
  refine ⟨W, ρ, h, hr0, er, ?_⟩
  unfold eCall Dn.bnd at p
  cases hfs : fs ρ h with
  | stk => rw [hfs] at p; exact p.elim
  | err c pp h' =>
    rw [hfs] at p
    exact fun W' cls dd H' ex hr' rx => p W' cls dd H' ex hr' rx
  | ok ys h' =>
    rw [hfs] at p
    intro W' vs H' ex hr' rv
    have rdd : RepVs X.K W' dvs (dd.map Vx.d) := .of_plain (RepDs.le (fun _ o z => absurd (show (none : Option HO) = some o from z) (by simp)) rd)
    refine call_sound (g := g) (hy := hy) (f := f) hr' (rv.append rdd) ?_ ((p.later ex).imp (fun _ _ q => q) fun c d H' q => ⟨σ, q⟩)
    rw [List.length_append, rv.length, hys ys h' hfs, rd.length]
    exact hn
end
end Dn
end
section
set_option Elab.async false
set_option linter.all false
set_option maxRecDepth 100000
set_option maxHeartbeats 2000000
/-! Dn15: a def's body; the module's constants; isinstance; names in scopes. -/
namespace Dn
open PySem PySem.Spec PyProof.Rows L2

/-! ### a def -/
def bodyEnd (o : Out × DEnv) : Mo Vx := match o.1 with
  | .nx => ret (.d .non)
  | .rt y => ret y
  | .bk => stk
  | .ct => stk
def start0 (nl : Nat) (ys : List Vx) : DEnv := ys.map some ++ List.replicate (nl - ys.length) none
def fnM (nl : Nat) (fb : SF) (ys : List Vx) : Mo Vx := bnd (fb (start0 nl ys)) bodyEnd
theorem start_rel {K : PySem.W.Frag} {W : Wd} {N : List PySem.Str} {vs : List V} {ys : List Vx} (r : RepVs K W vs ys) : ERel K W (L2.start N vs) (start0 N.length ys) := by
  have hl := r.length
  refine ⟨by simp [L2.start, start0, hl], fun i y e => ?_⟩
  unfold start0 at e
  unfold L2.start
  by_cases hi : i < ys.length
  · rw [List.getElem?_append_left (by simpa using hi), List.getElem?_map] at e
    cases q : ys[i]? with
    | none => rw [q] at e; cases e
    | some z =>
      rw [q] at e; cases e
      obtain ⟨v, e1, e2⟩ := r.get q
      exact ⟨v, by rw [List.getElem?_append_left (by simpa [hl] using hi), List.getElem?_map, e1]; rfl, e2⟩
  · rw [List.getElem?_append_right (by simpa using hi)] at e
    rw [List.getElem?_replicate] at e
    split at e <;> cases e
section
variable {P : Program} {w : World} {K : PySem.W.Frag} {mg : PySem.Str → Option Value} {base : Heap} {g : Gp}
theorem fn_ok {x qual : PySem.Str} {params : Arguments} {body : List Stmt} {scope : Scope} {dvs : List V} {kws : List (PySem.Str × V)} {f : Addr} {fd : FuncData} {N ps : List PySem.Str} {k nl n : Nat} {fb : SF} (F : FunD K x qual params body scope dvs kws f fd) (S : FnScope N ps scope) (hn : N.length = nl) (hp : ps.length = n)
    (hb : ∀ (cdv : Value) (A : Around) (outer : List Env) (s : Shared) (H : Hp) (E : XK), Room k (A.deeper (envOfC qual scope s.heap.objs.size f cdv)) →
      Takes (cxOf (L2.CX P w) P w K mg base N qual scope f cdv A outer s H E) (fun c d _ H => E c d H) →
      PassesOwn (model P w) (cxOf (L2.CX P w) P w K mg base N qual scope f cdv A outer s H E).A (cxOf (L2.CX P w) P w K mg base N qual scope f cdv A outer s H E).env (cxOf (L2.CX P w) P w K mg base N qual scope f cdv A outer s H E).xe →
      PSs (cxOf (L2.CX P w) P w K mg base N qual scope f cdv A outer s H E) body (LS K g (fun c d _ H => E c d H) fb)) :
    FnOk P w K mg base (L2.CX P w) (k + 1) f fd ps (spD K g n (fnM nl fb)) := by
  subst hn hp
  refine F.ok S (fun vs H Q E h => h.1) fun cdv A outer s H vs Q E hr h => ⟨_, hb cdv A outer s H E hr (takes_of rfl rfl rfl rfl) (passes_of rfl), ?_⟩
  obtain ⟨hl, W, h0, ys, r, rv, p⟩ := h
  refine ⟨W, start0 N.length ys, h0, r, start_rel rv, (Post.bnd (R := RO K) p).imp (fun v H' ⟨W1, y, h1, ex, hr1, rr, p1⟩ => ?_) fun _ _ _ q => q⟩
  obtain ⟨o, ρ⟩ := y
  cases v with
  | nx σ =>
    cases o with
    | nx => exact Post.ret (v := V.non) p1 hr1 RepD.non
    | _ => exact rr.elim
  | rt v =>
    cases o with
    | rt y => exact Post.ret (v := v) p1 hr1 rr
    | _ => exact rr.elim
  | bk σ =>
    cases o with
    | bk => exact p1.elim
    | _ => exact rr.elim
  | ct σ =>
    cases o with
    | ct => exact p1.elim
    | _ => exact rr.elim
end
theorem insE {E : XK} : Ins (fun c d _ H => E c d H) := fun _ _ _ _ _ q => q
theorem ins0 : Ins NoX := fun _ _ _ _ _ q => q
/-! ### names -/
def visB (sc : Scope) (x : PySem.Str) : Bool := match sc.names.lookup x with
  | some .local => true
  | some .cell => true
  | some .free => true
  | _ => false
theorem visB_ok {sc : Scope} {x : PySem.Str} (h : visB sc x = true) : Vis sc x := by
  unfold visB at h
  split at h
  · rename_i e; exact .inl e
  · rename_i e; exact .inr (.inl e)
  · rename_i e; exact .inr (.inr e)
  · cases h
def locB (sc : Scope) (x : PySem.Str) : Bool := match sc.names.lookup x with
  | some .local => true
  | some .cell => true
  | _ => false
theorem locB_ok {sc : Scope} {x : PySem.Str} (h : locB sc x = true) : Loc sc x := by
  unfold locB at h
  split at h
  · rename_i e; exact .inl e
  · rename_i e; exact .inr e
  · cases h
def kEq : NameKind → NameKind → Bool := fun a b => decide (a = b)
def oEq : Option NameKind → NameKind → Bool
  | some a, b => decide (a = b)
  | none, _ => false
theorem oEq_ok {a : Option NameKind} {b : NameKind} (h : oEq a b = true) : a = some b := by
  cases a with
  | none => cases h
  | some a => exact congrArg some (of_decide_eq_true h)
def blkB (N : List PySem.Str) (sc scope : Scope) (own : List (PySem.Str × Nat)) : Bool :=
  decide (scope.kind = .function) && (scope.names.all fun y => oEq (scope.names.lookup y.1) y.2) && (own.all fun p => decide (N[p.2]? = some p.1)) &&
    (scope.names.all fun y => !decide (y.2 = .free) || (oEq (sc.names.lookup y.1) .cell || oEq (sc.names.lookup y.1) .free)) &&
    (scope.names.all fun y => !(decide (y.2 = .local) || decide (y.2 = .cell)) || ((own.map (·.1)).contains y.1 || !N.contains y.1))
theorem blkB_ok {N : List PySem.Str} {sc scope : Scope} {own : List (PySem.Str × Nat)} (h : blkB N sc scope own = true) : BlkOk N sc scope own := by
  unfold blkB at h
  simp only [Bool.and_eq_true] at h
  obtain ⟨⟨⟨⟨h1, h2⟩, h3⟩, h4⟩, h5⟩ := h
  refine ⟨of_decide_eq_true h1, fun y hy => oEq_ok (List.all_eq_true.mp h2 y hy), fun p hp => of_decide_eq_true (List.all_eq_true.mp h3 p hp), fun y hy e => ?_, fun y hy e => ?_⟩
  · have := List.all_eq_true.mp h4 y hy
    simp only [Bool.or_eq_true, Bool.not_eq_true', decide_eq_false_iff_not] at this
    rcases this with z | z | z
    · exact absurd e z
    · exact .inl (oEq_ok z)
    · exact .inr (oEq_ok z)
  · have := List.all_eq_true.mp h5 y hy
    simp only [Bool.or_eq_true, Bool.not_eq_true', Bool.or_eq_false_iff, decide_eq_false_iff_not] at this
    rcases this with z | z | z
    · rcases e with e | e
      · exact absurd e z.1
      · exact absurd e z.2
    · exact .inl (by simpa using z)
    · exact .inr (by simpa using z)
/-! ### constants of the module -/
mutual
def chk (K : PySem.W.Frag) : Dt → Value → Bool
  | .non, .none => true
  | .bl b, .bool c => b == c
  | .int i, .int j _ => decide (i = j)
  | .str s, .str y _ => decide (y = toStr s) && (decide (s.length ≤ 16777216) && s.all fun c => decide (c < 0x110000))
  | .tup ds, .ref a => (match K.lookup a with
    | some ⟨.type c, _, .seq its _, _⟩ => decide (c = "tuple") && (decide (its.size ≤ sizeLine) && chks K ds its.toList)
    | _ => false)
  | _, _ => false
def chks (K : PySem.W.Frag) : List Dt → List Value → Bool
  | [], [] => true
  | d :: ds, u :: us => chk K d u && chks K ds us
  | _, _ => false
end
mutual
theorem chk_ok {K : PySem.W.Frag} : ∀ {d : Dt} {u : Value}, chk K d u = true → ∃ v, RelV v u ∧ RepD K (fun _ => none) v d
  | .non, u, h => by
    cases u with
    | none => exact ⟨.non, rfl, .non⟩
    | _ => unfold chk at h; cases h
  | .bl b, u, h => by
    cases u with
    | bool c =>
      have e : b = c := by unfold chk at h; exact eq_of_beq h
      subst e
      exact ⟨.bl b, rfl, .bl b⟩
    | _ => unfold chk at h; cases h
  | .int i, u, h => by
    cases u with
    | int j t =>
      have e : i = j := by unfold chk at h; exact of_decide_eq_true h
      subst e
      exact ⟨.int i, ⟨t, rfl⟩, .int i⟩
    | _ => unfold chk at h; cases h
  | .str s, u, h => by
    cases u with
    | str y t =>
      unfold chk at h
      simp only [Bool.and_eq_true] at h
      have e := of_decide_eq_true h.1
      subst e
      exact ⟨.str (toStr s), ⟨t, rfl⟩, .str s ⟨by rw [sizeLine_eq]; exact of_decide_eq_true h.2.1, fun c hc => of_decide_eq_true (List.all_eq_true.mp h.2.2 c hc)⟩⟩
    | _ => unfold chk at h; cases h
  | .lst _, u, h => by cases u <;> (unfold chk at h; cases h)
  | .tup ds, u, h => by
    cases u with
    | ref a =>
      unfold chk at h
      cases q : K.lookup a with
      | none => rw [q] at h; cases h
      | some o =>
        obtain ⟨oc, od, dt, osl⟩ := o
        rw [q] at h
        cases oc with
        | type c =>
          cases dt with
          | seq its n =>
            simp only [Bool.and_eq_true] at h
            have e := of_decide_eq_true h.1
            subst e
            obtain ⟨vs, r1, r2⟩ := chks_ok h.2.2
            exact ⟨.ref a, rfl, .tup (.inr ⟨_, its, n, q, rfl, rfl, of_decide_eq_true h.2.1, r1⟩) r2⟩
          | _ => cases h
        | _ => cases h
    | _ => unfold chk at h; cases h
theorem chks_ok {K : PySem.W.Frag} : ∀ {ds : List Dt} {us : List Value}, chks K ds us = true → ∃ vs, Vals vs us ∧ RepDs K (fun _ => none) vs ds
  | [], us, h => by
    cases us with
    | nil => exact ⟨[], .nil, .nil⟩
    | cons _ _ => unfold chks at h; cases h
  | d :: ds, us, h => by
    cases us with
    | nil => unfold chks at h; cases h
    | cons u us =>
      unfold chks at h
      simp only [Bool.and_eq_true] at h
      obtain ⟨v, a1, a2⟩ := chk_ok h.1
      obtain ⟨vs, b1, b2⟩ := chks_ok h.2
      exact ⟨v :: vs, .cons a1 b1, .cons a2 b2⟩
end
def constB (K : PySem.W.Frag) (x : PySem.Str) (d : Dt) : Bool := match PySem.W.nsIn K mainGlobals x with
  | some (some u) => chk K d u
  | _ => false
theorem constB_ok {K : PySem.W.Frag} {h : Heap} {mg : PySem.Str → Option Value} (X : K.In h) (G : h.Ns mainGlobals mg) {x : PySem.Str} {d : Dt} (c : constB K x d = true) : ∃ u v, mg x = some u ∧ RelV v u ∧ RepD K (fun _ => none) v d := by
  unfold constB at c
  split at c
  · rename_i u e
    obtain ⟨v, a1, a2⟩ := chk_ok c
    exact ⟨u, v, PySem.W.mg_of X G e, a1, a2⟩
  · cases c
/-! ### isinstance -/
inductive Tn where
  | str | int | bool | list | tuple
def Tn.nm : Tn → String
  | .str => "str"
  | .int => "int"
  | .bool => "bool"
  | .list => "list"
  | .tuple => "tuple"
def tnOf : Vx → DH → Option String
  | .d .non, _ => some "NoneType"
  | .d (.bl _), _ => some "bool"
  | .d (.int _), _ => some "int"
  | .d (.str _), _ => some "str"
  | .d (.tup _), _ => some "tuple"
  | .d (.lst _), _ => some "list"
  | .r k, h => (match (h[k]? : Option Ob) with
    | some (.lst _) => some "list"
    | _ => none)
  | _, _ => none
/-- a type is of another -/
def isT (t : String) (c : Tn) : Bool := match c with
  | .str => t == "str"
  | .int => t == "int" || t == "bool"
  | .bool => t == "bool"
  | .list => t == "list"
  | .tuple => t == "tuple"
def eIsi (cs : List Tn) (fa : DEnv → Mo Vx) : DEnv → Mo Vx := fun ρ => bnd (fa ρ) fun y h => match tnOf y h with
  | some t => .ok (.d (.bl (cs.any (isT t)))) h
  | none => .stk
section
variable {X : Cx} {g : Gp} {Wx : WX} {a : Expr} {fa : DEnv → Mo Vx} {pos : Pos}
theorem SqT.tyx {K : PySem.W.Frag} {H : Hp} {b : Addr} {vs : List V} (h : SqT K H b vs) : TyX K H (.ref b) (.type "tuple") := by
  rcases h with (h | ⟨o, h⟩) | ⟨o, its, n, h, c, _⟩
  · exact .base (.tup h)
  · exact .fTuple h
  · exact .kTuple h c
theorem tnOf_ty {W : Wd} {H : Hp} {h : DH} {v : V} {y : Vx} {t : String} (hr : HRel X.K g.T W H h) (r : RepV X.K W v y) (e : tnOf y h = some t) : TyX X.K H v (.type t) := by
  cases y with
  | d x =>
    cases x with
    | non => cases e; cases r; exact .base .non
    | bl b => cases e; cases r; exact .base (.bl b)
    | int i => cases e; cases r; exact .base (.int i)
    | str s => cases e; cases r; exact .base (.str _)
    | tup ds =>
      cases e
      obtain ⟨a1, vs1, rfl, q1, _, _⟩ := repTup hr r
      exact SqT.tyx q1
    | lst ds =>
      cases e
      cases r with
      | lst h1 h2 => exact .base (.lst (hr.fro _ _ h1))
  | r k =>
    obtain ⟨b, e1, rfl⟩ := r
    have e : (match (h[k]? : Option Ob) with
      | some (.lst _) => some "list"
      | _ => none) = some t := e
    split at e
    · rename_i ys hk
      cases e
      obtain ⟨xs, hx, _⟩ := hr.obj k b _ e1 hk
      exact .base (.lst hx)
    · cases e
  | x _ _ _ => cases e
  | s _ => cases e
theorem kit_isT (K : PySem.W.Frag) {t : String} (h : t = "NoneType" ∨ t = "bool" ∨ t = "int" ∨ t = "str" ∨ t = "tuple" ∨ t = "list") (c : Tn) : PySem.W.kitOne K (.type t) (.type c.nm) = some (isT t c) := by
  refine kit_ty ?_
  rcases h with rfl | rfl | rfl | rfl | rfl | rfl <;> cases c <;> decide +kernel
theorem tnOf_in {y : Vx} {h : DH} {t : String} (e : tnOf y h = some t) : t = "NoneType" ∨ t = "bool" ∨ t = "int" ∨ t = "str" ∨ t = "tuple" ∨ t = "list" := by
  unfold tnOf at e
  split at e
  all_goals first
    | (cases e; simp; done)
    | (cases e; done)
    | (split at e <;> cases e; simp)
theorem kit_any (K : PySem.W.Frag) {t : String} (h : t = "NoneType" ∨ t = "bool" ∨ t = "int" ∨ t = "str" ∨ t = "tuple" ∨ t = "list") : ∀ cs : List Tn, PySem.W.kitAny K (.type t) (cs.map fun c => .type c.nm) = some (cs.any (isT t))
  | [] => kitAny_nil
  | c :: cs => by
    refine kitAny_cons (b := isT t c) (kit_isT K h c) (fun e => ?_) fun e => ?_
    · rw [kit_any K h cs, List.any_cons, e, Bool.false_or]
    · rw [List.any_cons, e, Bool.true_or]
/-- a built-in type as a value -/
theorem pe_tyn {x : PySem.Str} {n : String} {p : Pos} (hg : Gl X x) (hm : X.mg x = none) (hv : bootBuiltins x = some (.type n)) (hn : x ≠ "__name__") (hdb : (x == ("__debug__" : PySem.Str)) = false) : PE X (.Name x p) (fun _ H Q => Q (.ty n) H) :=
  ⟨fun pins s σ H Q I h => ld_blt I hg hm hv ⟨V.ty n, H, I, rfl, h⟩ hn hdb⟩
/-- isinstance(e, T) -/
theorem pd_isi {x : PySem.Str} {c : Tn} {p p1 : Pos} (hg : Gl X "isinstance") (hm : X.mg "isinstance" = none) (ha : PE X a (LE X.K g Wx fa)) (ht : PE X (.Name x p1) (fun _ H Q => Q (.ty c.nm) H))
    (hs : starEach [a, .Name x p1] X.env = (false, eval a X.env) :: starEach [.Name x p1] X.env) (hs2 : starEach [.Name x p1] X.env = (false, eval (.Name x p1) X.env) :: starEach [] X.env) (hpl : (backTo pos (starEach [.Name x p1] X.env)).any (·.1) = false) :
    PE X (.Call (.Name "isinstance" p) [a, .Name x p1] [] pos) (LE X.K g Wx (eIsi [c] fa)) := by
  refine (pe_callB call_isi hg hm boot_isinstance (pa_cons ha (pa_cons ht pa_nil hs2) hs) (by decide) (by decide) hs hpl).imp fun σ H Q p => ?_
  refine Lf.imp (Lf.bnd (R := RV X.K) p) fun v H1 ⟨W1, ρ, y, h1, hr1, er, rr, p1⟩ => ?_
  split at p1
  · rename_i t e
    refine ⟨v, .ty c.nm, .type t, .type c.nm, isT t c, rfl, .ty _, tnOf_ty hr1 rr e, kit_isT X.K (tnOf_in e) c, ?_⟩
    have := p1.ret hr1 (RepD.bl _)
    simpa using this
  · exact p1.elim
/-- isinstance(e, (list, tuple)) -/
theorem pd_isi2 {x z : PySem.Str} {c d : Tn} {p p1 p2 p3 : Pos} {k : Nat} (hg : Gl X "isinstance") (hm : X.mg "isinstance" = none) (ha : PE X a (LE X.K g Wx fa)) (ht : PE X (.Name x p1) (fun _ H Q => Q (.ty c.nm) H)) (hu : PE X (.Name z p2) (fun _ H Q => Q (.ty d.nm) H))
    (hs : starEach [a, .Tuple [.Name x p1, .Name z p2] k p3] X.env = (false, eval a X.env) :: starEach [.Tuple [.Name x p1, .Name z p2] k p3] X.env) (hs2 : starEach [.Tuple [.Name x p1, .Name z p2] k p3] X.env = (false, eval (.Tuple [.Name x p1, .Name z p2] k p3) X.env) :: starEach [] X.env)
    (hs3 : starEach [.Name x p1, .Name z p2] X.env = (false, eval (.Name x p1) X.env) :: starEach [.Name z p2] X.env) (hs4 : starEach [.Name z p2] X.env = (false, eval (.Name z p2) X.env) :: starEach [] X.env) (hpl : (backTo pos (starEach [.Tuple [.Name x p1, .Name z p2] k p3] X.env)).any (·.1) = false) :
    PE X (.Call (.Name "isinstance" p) [a, .Tuple [.Name x p1, .Name z p2] k p3] [] pos) (LE X.K g Wx (eIsi [c, d] fa)) := by
  refine (pe_callB call_isiT hg hm boot_isinstance (pa_cons ha (pa_cons (pe_tup (pa_cons ht (pa_cons hu pa_nil hs4) hs3)) pa_nil hs2) hs) (by decide) (by decide) hs hpl).imp fun σ H Q p => ?_
  refine Lf.imp (Lf.bnd (R := RV X.K) p) fun v H1 ⟨W1, ρ, y, h1, hr1, er, rr, p1⟩ => ?_
  split at p1
  · rename_i t e
    refine ⟨by rw [sizeLine_eq]; exact (by decide : 2 ≤ 16777216), fun q np => ?_⟩
    obtain ⟨hr2, ex2⟩ := hr1.new np (o := .tup [V.ty c.nm, V.ty d.nm]) (fun ps z => by cases z)
    refine ⟨v, q, [V.ty c.nm, V.ty d.nm], .type t, [.type c.nm, .type d.nm], [c, d].any (isT t), rfl, upd_same, .cons (.ty _) (.cons (.ty _) .nil), tnOf_ty hr2 (RepV.le ex2.le rr) e, kit_any X.K (tnOf_in e) [c, d], ?_⟩
    exact (p1.later ex2).ret hr2 (RepD.bl _)
  · exact p1.elim
end
end Dn
end
section
set_option Elab.async false
set_option linter.all false
set_option maxRecDepth 100000
set_option maxHeartbeats 2000000
/-! Dn16: comprehensions as rules; enumerate over lists. -/
namespace Dn
open PySem PySem.Spec PyProof.Rows L2

section
variable {X : Cx} {g : Gp} {Wx : WX} {elt tg iter tg1 iter1 : Expr} {ifs ifs1 : List Expr} {scope : Scope} {own : List (PySem.Str × Nat)} {pos spos : Pos} {fz : Bool} {fi fi1 : DEnv → Mo Wk} {t t1 : MT} {q q1 : TG} {ft ft1 : DEnv → Mo Bool} {fe : DEnv → Mo Vx} {vs vs1 : List Nat}
theorem inAll {t : List Nat} {vs : List Nat} (h : (t.all fun i => vs.contains i) = true) : ∀ i ∈ t, i ∈ vs := fun i hi => by simpa using List.all_eq_true.mp h i hi
theorem pd_lc (own : List (PySem.Str × Nat)) (hc : X.calm = true) (hN : X.N.Nodup) (hi : PI X tg iter (LI X.K g Wx fi)) (ok : blkB X.N X.env.scope scope own = true) (ev : own.map (·.2) = vs) (ht : TgS X.K t q) (hv : (t.slots.all fun i => vs.contains i) = true)
    (hg : ∀ (s : Shared) (H : Hp) (C : Addr) (cl : List (PySem.Str × Addr)) (fp : List Addr), PG (X.blk s H scope (compEnvC scope cl C X.env) fp) tg q)
    (htt : ∀ (s : Shared) (H : Hp) (C : Addr) (cl : List (PySem.Str × Addr)) (fp : List Addr), PTs (X.blk s H scope (compEnvC scope cl C X.env) fp) ifs (LT X.K g NoX ft))
    (he : ∀ (s : Shared) (H : Hp) (C : Addr) (cl : List (PySem.Str × Addr)) (fp : List Addr), PE (X.blk s H scope (compEnvC scope cl C X.env) fp) elt (LE X.K g NoX fe))
    (hs : ∀ x, foldedSetIterable iter X.env x = pure x) : PE X (.ListComp elt [⟨tg, iter, ifs, 0⟩] scope pos) (LE X.K g Wx (eLc fz fi t ft fe vs)) := by
  subst ev
  exact (pe_lc hc hN hi (blkB_ok ok) hg htt he hs).imp fun σ H Q p => lc_tLc ht (inAll hv) p
theorem pd_setLc {i : Nat} {y : PySem.Str} {py : Pos} (own : List (PySem.Str × Nat)) (hc : X.calm = true) (hN : X.N.Nodup) (hy : X.N[i]? = some y) (hyl : X.env.scope.names.lookup y = some .local)
    (hsw : swapsWith (.ListComp elt [⟨tg, iter, ifs, 0⟩] scope pos) (some (.Name y py)) spos.line X.env = pure true) (hi : PI X tg iter (LI X.K g Wx fi)) (ok : blkB X.N X.env.scope scope own = true) (ev : own.map (·.2) = vs) (ht : TgS X.K t q) (hv : (t.slots.all fun i => vs.contains i) = true)
    (hg : ∀ (s : Shared) (H : Hp) (C : Addr) (cl : List (PySem.Str × Addr)) (fp : List Addr), PG (X.blk s H scope (compEnvC scope cl C X.env) fp) tg q)
    (htt : ∀ (s : Shared) (H : Hp) (C : Addr) (cl : List (PySem.Str × Addr)) (fp : List Addr), PTs (X.blk s H scope (compEnvC scope cl C X.env) fp) ifs (LT X.K g NoX ft))
    (he : ∀ (s : Shared) (H : Hp) (C : Addr) (cl : List (PySem.Str × Addr)) (fp : List Addr), PE (X.blk s H scope (compEnvC scope cl C X.env) fp) elt (LE X.K g NoX fe))
    (hs : ∀ x, foldedSetIterable iter X.env x = pure x) : PS X (.Assign [.Name y py] (.ListComp elt [⟨tg, iter, ifs, 0⟩] scope pos) spos) (LS X.K g Wx (sSet (.nm i) (eLc fz fi t ft fe vs))) := by
  subst ev
  refine (ps_setLc hc hN hy hyl hsw hi (blkB_ok ok) hg htt he hs).imp fun D σ H p => ?_
  refine lc_tLc (fz := fz) ht (inAll hv) ?_
  exact tAsg_of (tg_nm i) p
theorem pd_lc2 (own : List (PySem.Str × Nat)) (hc : X.calm = true) (hN : X.N.Nodup) (hi : PI X tg iter (LI X.K g Wx fi)) (ok : blkB X.N X.env.scope scope own = true) (ev : own.map (·.2) = vs) (hvv : (vs1.all fun i => vs.contains i) = true) (ht : TgS X.K t q) (hv : (t.slots.all fun i => vs.contains i) = true) (ht1 : TgS X.K t1 q1) (hv1 : (t1.slots.all fun i => vs1.contains i) = true)
    (hg : ∀ (s : Shared) (H : Hp) (C : Addr) (cl : List (PySem.Str × Addr)) (fp : List Addr), PG (X.blk s H scope (compEnvC scope cl C X.env) fp) tg q)
    (htt : ∀ (s : Shared) (H : Hp) (C : Addr) (cl : List (PySem.Str × Addr)) (fp : List Addr), PTs (X.blk s H scope (compEnvC scope cl C X.env) fp) ifs (LT X.K g NoX ft))
    (hi1 : ∀ (s : Shared) (H : Hp) (C : Addr) (cl : List (PySem.Str × Addr)) (fp : List Addr), PI (X.blk s H scope (compEnvC scope cl C X.env) fp) tg1 iter1 (LI X.K g NoX fi1))
    (hg1 : ∀ (s : Shared) (H : Hp) (C : Addr) (cl : List (PySem.Str × Addr)) (fp : List Addr), PG (X.blk s H scope (compEnvC scope cl C X.env) fp) tg1 q1)
    (htt1 : ∀ (s : Shared) (H : Hp) (C : Addr) (cl : List (PySem.Str × Addr)) (fp : List Addr), PTs (X.blk s H scope (compEnvC scope cl C X.env) fp) ifs1 (LT X.K g NoX ft1))
    (he : ∀ (s : Shared) (H : Hp) (C : Addr) (cl : List (PySem.Str × Addr)) (fp : List Addr), PE (X.blk s H scope (compEnvC scope cl C X.env) fp) elt (LE X.K g NoX fe))
    (hs : ∀ x, foldedSetIterable iter X.env x = pure x) (hs1 : ∀ env x, foldedSetIterable iter1 env x = pure x) : PE X (.ListComp elt [⟨tg, iter, ifs, 0⟩, ⟨tg1, iter1, ifs1, 0⟩] scope pos) (LE X.K g Wx (eLc2 fz fi t ft fi1 t1 ft1 fe vs vs1)) := by
  subst ev
  exact (pe_lc2 hc hN hi (blkB_ok ok) (inAll hvv) hg htt hi1 hg1 htt1 he hs hs1).imp fun σ H Q p => lc2_tLc ht (inAll hv) ht1 (inAll hv1) p
theorem pd_setLc2 {i : Nat} {y : PySem.Str} {py : Pos} (own : List (PySem.Str × Nat)) (hc : X.calm = true) (hN : X.N.Nodup) (hy : X.N[i]? = some y) (hyl : X.env.scope.names.lookup y = some .local)
    (hsw : swapsWith (.ListComp elt [⟨tg, iter, ifs, 0⟩, ⟨tg1, iter1, ifs1, 0⟩] scope pos) (some (.Name y py)) spos.line X.env = pure true) (hi : PI X tg iter (LI X.K g Wx fi)) (ok : blkB X.N X.env.scope scope own = true) (ev : own.map (·.2) = vs) (hvv : (vs1.all fun i => vs.contains i) = true) (ht : TgS X.K t q) (hv : (t.slots.all fun i => vs.contains i) = true) (ht1 : TgS X.K t1 q1) (hv1 : (t1.slots.all fun i => vs1.contains i) = true)
    (hg : ∀ (s : Shared) (H : Hp) (C : Addr) (cl : List (PySem.Str × Addr)) (fp : List Addr), PG (X.blk s H scope (compEnvC scope cl C X.env) fp) tg q)
    (htt : ∀ (s : Shared) (H : Hp) (C : Addr) (cl : List (PySem.Str × Addr)) (fp : List Addr), PTs (X.blk s H scope (compEnvC scope cl C X.env) fp) ifs (LT X.K g NoX ft))
    (hi1 : ∀ (s : Shared) (H : Hp) (C : Addr) (cl : List (PySem.Str × Addr)) (fp : List Addr), PI (X.blk s H scope (compEnvC scope cl C X.env) fp) tg1 iter1 (LI X.K g NoX fi1))
    (hg1 : ∀ (s : Shared) (H : Hp) (C : Addr) (cl : List (PySem.Str × Addr)) (fp : List Addr), PG (X.blk s H scope (compEnvC scope cl C X.env) fp) tg1 q1)
    (htt1 : ∀ (s : Shared) (H : Hp) (C : Addr) (cl : List (PySem.Str × Addr)) (fp : List Addr), PTs (X.blk s H scope (compEnvC scope cl C X.env) fp) ifs1 (LT X.K g NoX ft1))
    (he : ∀ (s : Shared) (H : Hp) (C : Addr) (cl : List (PySem.Str × Addr)) (fp : List Addr), PE (X.blk s H scope (compEnvC scope cl C X.env) fp) elt (LE X.K g NoX fe))
    (hs : ∀ x, foldedSetIterable iter X.env x = pure x) (hs1 : ∀ env x, foldedSetIterable iter1 env x = pure x) : PS X (.Assign [.Name y py] (.ListComp elt [⟨tg, iter, ifs, 0⟩, ⟨tg1, iter1, ifs1, 0⟩] scope pos) spos) (LS X.K g Wx (sSet (.nm i) (eLc2 fz fi t ft fi1 t1 ft1 fe vs vs1))) := by
  subst ev
  refine (ps_setLc2 hc hN hy hyl hsw hi (blkB_ok ok) (inAll hvv) hg htt hi1 hg1 htt1 he hs hs1).imp fun D σ H p => ?_
  refine lc2_tLc (fz := fz) ht (inAll hv) ht1 (inAll hv1) ?_
  exact tAsg_of (tg_nm i) p
theorem room64 {k : Nat} {A : Around} (r : Room k A) : A.units + 64 < cLine := by
  have := r.un
  omega
theorem room0 {k : Nat} {A : Around} (r : Room k A) : A.units < cLine := by
  have := r.un
  omega
/-! how many arguments -/
def ALen (fs : DEnv → Mo (List Vx)) (n : Nat) : Prop := ∀ ρ h ys h', fs ρ h = .ok ys h' → ys.length = n
theorem alen_nil : ALen aNil 0 := fun ρ h ys h' e => by cases e; rfl
theorem alen_cons {fa : DEnv → Mo Vx} {fs : DEnv → Mo (List Vx)} {n : Nat} (a : ALen fs n) : ALen (aCons fa fs) (n + 1) := fun ρ h ys h' e => by
  unfold aCons Dn.bnd at e
  cases hf : fa ρ h with
  | stk => rw [hf] at e; cases e
  | err c p h1 => rw [hf] at e; cases e
  | ok y h1 =>
    rw [hf] at e
    simp only at e
    cases hg : fs ρ h1 with
    | stk => rw [hg] at e; cases e
    | err c p h2 => rw [hg] at e; cases e
    | ok zs h2 =>
      rw [hg] at e
      cases e
      rw [List.length_cons, a ρ h1 zs _ hg]
theorem pd_never {st : Stmt} : PS X st (LS X.K g Wx (fun _ => stk)) := ps_never.imp fun D σ H p => by
  obtain ⟨W, ρ, h, hr, er, p⟩ := p
  exact p.elim
/-! enumerate over a list -/
def wEnL (fa : DEnv → Mo Vx) : DEnv → Mo Wk := fun ρ => bnd (fa ρ) fun y h => match y with
  | .d (.lst ds) => .ok (.en (.ds ds)) h
  | _ => .stk
theorem pd_enL {elts : List Expr} {kk : Nat} {tpos : Pos} {e : Expr} {fa : DEnv → Mo Vx} {p : Pos} (hg : Gl X "enumerate") (hm : X.mg "enumerate" = none) (he : PE X e (LE X.K g Wx fa)) (hs : starEach [e] X.env = (false, eval e X.env) :: starEach [] X.env) :
    PI X (.Tuple elts kk tpos) (.Call (.Name "enumerate" p) [e] [] pos) (LI X.K g Wx (wEnL fa)) := by
  refine ⟨fun pins s σ H R I h => (pi_enum hg hm (pda_cons he pda_nil hs) hs).run pins s σ H R I ?_⟩
  have h : Lf X.K g (fun W J wk => WkR X.K g.T W wk J) Wx (wEnL fa) σ H R := h
  obtain ⟨W, ρ, h0, hr, er, p⟩ := h
  refine ⟨W, ρ, h0, hr, er, ?_⟩
  unfold wEnL Dn.bnd at p
  unfold aCons aNil Dn.bnd
  cases hf : fa ρ h0 with
  | stk => rw [hf] at p; exact p.elim
  | err c pp h' => rw [hf] at p; exact p
  | ok y h' =>
    rw [hf] at p
    simp only at p
    intro W' vs H' ex hr' rv
    obtain ⟨v, rfl, r1⟩ := rv.one
    split at p
    · rename_i ds
      cases r1 with
      | @lst a xs _ h1 h2 =>
        refine ⟨a, xs, rfl, SqL.of (hr'.fro _ _ h1), ?_⟩
        refine p W' _ H' ex hr' fun W1 H1 h1' le hr1 i => ?_
        have hf := hr1.fro _ _ (le.F _ _ h1)
        have r2 := h2.le le.F
        show (match (if i ≤ ds.length then pair1 (.int i) (some (match ds[i]? with | some x => some (Vx.d x) | none => none)) else none) with | some (some y) => _ | some none => _ | none => True)
        by_cases hle : i ≤ ds.length
        case neg => rw [if_neg hle]; trivial
        rw [if_pos hle]
        cases hd : ds[i]? with
        | some x =>
          obtain ⟨v, e1, e2⟩ := r2.get hd
          refine ⟨⟨xs, v, SqL.of hf, e1⟩, fun z H2 y => ?_⟩
          obtain ⟨T, w, rfl, hT, rfl, y⟩ := y
          have := y xs (SqL.of hf)
          rw [e1] at this
          cases this
          obtain ⟨hr2, ex2⟩ := hr1.new hT (o := .tup [.int (i : Nat), v]) (fun ps z => by cases z)
          exact ⟨_, ex2, hr2, RepD.tup (.inl (.inl upd_same)) (.cons (.int _) (.cons (RepD.le ex2.F e2) .nil))⟩
        | none => exact ⟨xs, SqL.of hf, by rw [r2.length]; exact List.getElem?_eq_none_iff.mp hd⟩
    · exact p.elim
end
end Dn
end
section
set_option Elab.async false
set_option linter.all false
set_option maxRecDepth 100000
set_option maxHeartbeats 4000000
/-! Dn17: own exceptions over Exception whose __init__ stores one field. -/
namespace Dn
open PySem PySem.Spec PyProof.Rows PySem.W PySem.Calls L2

abbrev exT : List Value := [.type "Exception", .type "BaseException", .type "object"]
/-- own classes, then Exception's mro -/
def refsE : List Value → Bool
  | .ref _ :: r => refsE r
  | l => l == exT
theorem refsE_of : ∀ l : List Value, refsE l = true → ∃ cs : List Addr, l = cs.map Value.ref ++ exT
  | [], e => ⟨[], beq_iff_eq.mp e⟩
  | a :: r, e => by
    cases a with
    | ref c =>
      obtain ⟨cs, h⟩ := refsE_of r e
      exact ⟨c :: cs, by rw [h]; rfl⟩
    | _ => exact ⟨[], beq_iff_eq.mp e⟩
theorem refsE_pass (self : Value) {l : List Value} (e : refsE l = true) : refuseLoop self "__setattr__" l = pure () := by
  obtain ⟨cs, rfl⟩ := refsE_of l e
  clear e
  induction cs with
  | nil => exact F.store_Exception.passes self
  | cons c cs ih => show refuseLoop self "__setattr__" (.ref c :: (cs.map Value.ref ++ exT)) = _; rw [refuseLoop_ref]; exact ih
theorem refsE_has (Y : String) {l : List Value} (e : refsE l = true) : l.contains (.type Y) = exT.contains (.type Y) := by
  obtain ⟨cs, rfl⟩ := refsE_of l e
  clear e
  induction cs with
  | nil => rfl
  | cons c cs ih => show (Value.ref c :: (cs.map Value.ref ++ exT)).contains (.type Y) = _; rw [List.contains_cons, ih]; rfl
theorem refsE_ne {l : List Value} (e : refsE l = true) : l.isEmpty = false := by
  cases l with
  | nil => exact absurd e (by decide)
  | cons _ _ => rfl
/-- what the written part says of such a class at C, its __init__ at fI, its field f -/
structure OexE (K : Frag) (C fI : Addr) (f : PySem.Str) : Prop where
  cls : ∃ nm q N bs bm sn sub ab col dd k0 k1 k2 k3 k5, K.lookup C = some (excClassObj nm q C N bs bm true sn sub ab col dd k0 k1 k2 k3 k5 "Exception.__new__") ∧ refsE bm = true
  sa : findIn K (.ref C) "__setattr__" = some (some (.builtin "object.__setattr__"))
  ga : findIn K (.ref C) "__getattribute__" = some (some (.builtin "BaseException.__getattribute__"))
  gg : findIn K (.ref C) "__getattr__" = some none
  noN : findIn K (.ref C) f = some none
  iC : findIn K (.ref C) "__init__" = some (some (.ref fI))
  tI : typeIn K (.ref fI) = some (.type "function")
  kC : keepIn K (.ref C) = true
  exC : subIn K (.ref C) (.type "BaseException") = some true
  tyC : typeIn K (.ref C) = some (.type "type")
  hdC : hasDictIn K C = true
def clsB (K : Frag) (C : Addr) : Bool := match K.lookup C with
  | some ⟨.type c, _, .cls cd, sl⟩ => (match cd.mro, sl.toList with
    | .ref C' :: bm, [_, _, _, _, some (.builtin n), _] => decide (c = "type") && (decide (C' = C) && (decide (n = "Exception.__new__") && (!cd.hasDel && (cd.hasDict && refsE bm))))
    | _, _ => false)
  | _ => false
theorem clsB_ok {K : Frag} {C : Addr} (h : clsB K C = true) : ∃ nm q N bs bm sn sub ab col dd k0 k1 k2 k3 k5, K.lookup C = some (excClassObj nm q C N bs bm true sn sub ab col dd k0 k1 k2 k3 k5 "Exception.__new__") ∧ refsE bm = true := by
  unfold clsB at h
  split at h
  · rename_i c dd cd sl ho
    split at h
    · rename_i C' bm k0 k1 k2 k3 n k5 hm hs
      simp only [Bool.and_eq_true, decide_eq_true_eq, Bool.not_eq_true'] at h
      obtain ⟨rfl, rfl, rfl, hdel, hhd, hr⟩ := h
      obtain ⟨nm, bs, mro, ns, qn, hd, sn, sub, ab, col, del⟩ := cd
      dsimp only at hm hdel hhd
      subst hm hdel hhd
      have hsl : sl = #[k0, k1, k2, k3, some (.builtin "Exception.__new__"), k5] := by
        obtain ⟨l⟩ := sl
        simp only at hs
        rw [hs]
      subst hsl
      exact ⟨nm, qn, ns, bs, bm, sn, sub, ab, col, dd, k0, k1, k2, k3, k5, ho, hr⟩
    · cases h
  · cases h
def oexB (K : Frag) (C fI : Addr) (f : PySem.Str) : Bool :=
  clsB K C && (decide (findIn K (.ref C) "__setattr__" = some (some (.builtin "object.__setattr__"))) && (decide (findIn K (.ref C) "__getattribute__" = some (some (.builtin "BaseException.__getattribute__"))) &&
    (decide (findIn K (.ref C) "__getattr__" = some none) && (decide (findIn K (.ref C) f = some none) && (decide (findIn K (.ref C) "__init__" = some (some (.ref fI))) && (decide (typeIn K (.ref fI) = some (.type "function")) &&
      (keepIn K (.ref C) && (decide (subIn K (.ref C) (.type "BaseException") = some true) && (decide (typeIn K (.ref C) = some (.type "type")) && hasDictIn K C)))))))))
theorem oexB_ok {K : Frag} {C fI : Addr} {f : PySem.Str} (h : oexB K C fI f = true) : OexE K C fI f := by
  unfold oexB at h
  simp only [Bool.and_eq_true, decide_eq_true_eq] at h
  obtain ⟨h1, h2, h3, h4, h5, h6, h7, h8, h9, h10, h11⟩ := h
  exact ⟨clsB_ok h1, h2, h3, h4, h5, h6, h7, h8, h9, h10, h11⟩
section
open Builtin Builtin.ObjectAttr
variable {prog : Program} {w : World} {A : Around} {R : Result → Shared → Prop} {hq : Heap} {gs : Array GenState} {dr : Drawn} {tt : Nat} {os : OsState}
theorem osaE {K : Frag} {fn : PySem.Str} {tk : Tok} {v : Value} {x C : Addr} {fv : Array Value} {cd : ClassData}
    (KX : K.In hq) (hx : hq.get? x = some { cls := .ref C, data := .fields fv }) (hcd : clsIn K C = some cd) (hm : refsE cd.mro = true) (hh : cd.hasDict = true) (ha : findIn K (.ref C) fn = some none)
    (fin : ∀ h2 t2 dx, (∀ b o, b ≠ x → hq.get? b = some o → h2.get? b = some o) → hq.objs.size ≤ dx → dx ≠ x → h2.get? x = some { cls := .ref C, dict := some dx, data := .fields fv } →
      h2.Ns1 dx (fun y => if y = fn then some v else none) → R (.ok (.ret .none)) ⟨h2, gs, dr, t2, os⟩) :
    codeAny (model prog w) A (.call (.builtin "object.__setattr__") ⟨[.ref x, .str fn tk, v], []⟩) R ⟨hq, gs, dr, tt, os⟩ := by
  have IA : InstAt hq x { cls := .ref C, data := .fields fv } C none := ⟨hx, rfl, rfl, trivial⟩
  have so := F.store_object
  have nemp := refsE_ne hm
  have hob : cd.mro.contains (.type "object") = true := by rw [refsE_has "object" hm]; decide +kernel
  have xne : x ≠ hq.objs.size := Nat.ne_of_lt (Heap.lt_size hx)
  have sub : Looks (model prog w) hq (isInstance (.ref x) (.type "object")) true := IA.type.andThen (looks_mroIn KX (by unfold mroIn; rw [hcd, Option.bind_some, if_neg (by rw [nemp]; decide), hob]))
  refine codeAny_call_builtin so.slot.plain so.entry (@check_slot (model prog w) _ _ ⟨hq, gs, dr, tt, os⟩ "object.__setattr__" "object" "__setattr__" (.ref x) [.str fn tk, v] [] _ so.kind so.split sub (so.args (.ref x) (.str fn tk) v) ?_)
  have lm : Looks (model prog w) hq (mroOf (.ref C)) cd.mro := (looks_clsIn KX hcd).andThen .now
  have l3 : Looks (model prog w) hq (storeTaker? none) none := .now
  have lc : Looks (model prog w) hq (classData C) cd := looks_clsIn KX hcd
  rw [osa_eq, refuse_eq]
  refine wpAny_bind (wpAny_bind (IA.type.at (wpAny_bind (lm.at ?_))))
  rw [refsE_pass _ hm]
  refine wpAny_pure (wpAny_bind (IA.type.at (wpAny_bind ((looks_findIn KX ha).at (wpAny_bind (l3.at ?_))))))
  show wpAny _ _ (storeInOwnDict (.ref x) (.ref C) (.str fn tk) fn v false) _ _ _
  obtain ⟨nm, bs, mro, ns, qn, hd, sn, sb, ab, col, del⟩ := cd
  dsimp only at hh
  subst hh
  unfold storeInOwnDict ownDictForStores
  repeat (first | with_reducible refine HandSPX.store_in_new ?_ ?_ | with_reducible refine wpAny_loadPart_at hx ?_ | with_reducible refine lc.at ?_ | wp_step)
  · exact ⟨_, #[], _, (Heap.get?_update_ne _ _ _ _ xne.symm).trans (Heap.get?_push_at rfl rfl), rfl, fun en he => absurd he (by simp), fun _ => rfl⟩
  · intro h2 t2 hn2 hs2
    have hx1 : (hq.push { cls := .type "dict", data := .dict #[] }).get? x = some { cls := .ref C, data := .fields fv } := Heap.get?_push_of_some _ hx
    refine fin h2 t2 hq.objs.size (fun b o hb ho => ?_) (Nat.le_refl _) xne.symm ?_ hn2
    · exact (hs2.2 b (Nat.ne_of_lt (Heap.lt_size ho))).trans ((Heap.get?_update_ne _ _ _ _ hb).trans (Heap.get?_push_of_some _ ho))
    · exact (hs2.2 x xne).trans (Heap.get?_update_self _ hx1 rfl)
end
section
variable {X : Cx} {pins : List (Addr × Obj)} {σ : L2.St} {H : Hp} {s : Shared} {a C fI : Addr} {f : PySem.Str} {y : V} {u : Value} {Q : Unit → Shared → Prop} {E : Value → Shared → Prop} {A : Around}
theorem ostE (T : OexE X.K C fI f) (I : Inv X pins σ H s) (ea : H a = some (exo a C none)) (ry : RelV y u)
    (fin : ∀ dx s2, H dx = none → dx ≠ a → Inv X pins σ (upd (upd H dx (exd dx [(f, y)])) a (exo a C (some dx))) s2 → Q () s2) : wpAny (model X.prog X.w) A (setAttr (.ref a) f u) Q E s := by
  obtain ⟨nm, q, N, bs, bm, sn, sub, ab, col, dd, k0, k1, k2, k3, k5, hC, hbm⟩ := T.cls
  have hcl : clsIn X.K C = some { name := nm, bases := bs, mro := .ref C :: bm, ns := N, qualname := q, hasDict := true, slotNames := sn, subclasses := sub, abstract := ab, collection := col, hasDel := false } := by
    unfold clsIn
    rw [hC] <;> rfl
  obtain ⟨t1, ho⟩ := exo_at I.hok ea
  obtain ⟨hq, gs, dr, tt, os⟩ := s
  refine set_plain I.kIn (ox := { cls := .ref C, dict := none, data := .fields #[.ref t1, .none, .none, .none, .bool false, .none] }) (od := none) ⟨ho, rfl, rfl, trivial⟩ T.sa ?_
  refine osaE I.kIn ho hcl (show refsE (.ref C :: bm) = true from hbm) rfl T.noN (fun h2 t2 dx kp big dne hx hn => ?_)
  have fresh : H dx = none := I.hok.fresh big
  have ndx : ∀ {z : Addr} {o : Obj}, hq.get? z = some o → z ≠ dx := fun {z o} e => Nat.ne_of_lt (Nat.lt_of_lt_of_le (Heap.lt_size e) big)
  have na : ∀ {z : Addr}, H z = none → z ≠ a := fun {z} n e => by
    rw [e, ea] at n
    cases n
  have U : Un X.fs [] H (upd (upd H dx (exd dx [(f, y)])) a (exo a C (some dx))) hq h2 := {
    keep := fun z o e n _ _ => kp z o (na n) e
    slot := fun z o e n _ _ => ⟨o.slots, kp z o (na n) e⟩
    free := fun z o e n _ => by rw [upd_ne (na n), upd_ne (ndx e)]; exact n
    there := fun z o e _ => by
      by_cases hz : z = a
      · exact ⟨_, by rw [hz]; exact hx⟩
      · exact ⟨o, kp z o hz e⟩
    tups := fun z xs e => by rw [upd_ne (at_ne ea e exo_tup), upd_ne (ne_of_none e fresh)]; exact e
    frzs := fun z o v e => by rw [upd_ne (at_ne ea e exo_frz), upd_ne (ne_of_none e fresh)]; exact e
    tbls := fun z ps e => ⟨#[], by rw [upd_ne (at_ne ea e exo_tbl), upd_ne (ne_of_none e fresh), e]; simp⟩ }
  refine fin dx _ fresh dne (I.un (t' := t2) U fun z o e => ?_)
  by_cases hz : z = a
  · subst hz
    rw [upd_same] at e
    cases e
    exact exo_ok hx
  · rw [upd_ne hz] at e
    by_cases hd : z = dx
    · subst hd
      rw [upd_same] at e
      cases e
      exact exd_ok hn (relO_put (fs := []) ry fun g => True.intro)
    · rw [upd_ne hd] at e
      refine (I.hok z o e).stay (fun c v hc k => kp c v ?_ k) (fun c hc => ?_) (fun c xs hc => ?_)
      · rcases hc with hc | hc
        · rw [hc]; exact hz
        · exact at_ne ea hc exo_own
      · rw [upd_ne (at_ne ea hc exo_own), upd_ne (ne_of_none hc fresh)]; exact hc
      · rw [upd_ne (at_ne ea hc exo_tup), upd_ne (ne_of_none hc fresh)]; exact hc
end
end Dn
end
section
set_option Elab.async false
set_option linter.all false
set_option maxRecDepth 100000
set_option maxHeartbeats 4000000
/-! Dn18: raise X(e). -/
namespace Dn
open PySem PySem.Spec PyProof.Rows L2

section
variable {X : Cx} {C fI : Addr} {f : PySem.Str} {e : Expr} {te : TE} {p1 p2 pos : Pos}
/-- self.f = e, the first field -/
def tOstE (C : Addr) (f : PySem.Str) (te : TE) : TS := fun D σ H => te σ H fun y H1 => ∃ a : Addr, σ[0]? = some (some (.ref a)) ∧ H1 a = some (exo a C none) ∧ ∀ dx, H1 dx = none → dx ≠ a → D.nx σ (upd (upd H1 dx (exd dx [(f, y)])) a (exo a C (some dx)))
theorem ps_ostE (T : OexE X.K C fI f) (h0 : X.N[0]? = some ("self" : PySem.Str)) (v0 : Vis X.env.scope "self") (he : PE X e te) (hs : swapsWith e (some (.Attribute (.Name "self" p1) f p2)) pos.line X.env = pure false) : PS X (.Assign [.Attribute (.Name "self" p1) f p2] e pos) (tOstE C f te) := by
  refine ⟨fun pins s σ H D I h => ?_⟩
  refine plainObj_wpAny_Assign_Attribute (thn (he.run pins s σ H _ I h) fun v s1 ⟨y, H1, I1, r1, a, e0, ea, q⟩ => ?_) hs
  refine thn ((pe_var (i := 0) h0 v0).run pins s1 σ H1 (fun x H2 => x = .ref a ∧ H2 = H1) I1 ⟨.ref a, e0, rfl, rfl⟩) fun u s2 ⟨x, H2, I2, r2, ex, eH⟩ => ?_
  subst ex
  subst eH
  obtain rfl : u = Value.ref a := r2
  exact ostE T I2 ea r1 fun dx s3 n ne J => ⟨σ, _, J, q dx n ne⟩
end
/-- what such an __init__ promises: D makes its argument plain -/
def spI (K : PySem.W.Frag) (g : Gp) (C : Addr) (f : PySem.Str) (D : List Vx → Mo Vx) : Sp := fun vs H Q E => ∃ (a : Addr) (v : V) (W : Wd) (h : DH) (y : Vx), vs = [.ref a, v] ∧ H a = some (exo a C none) ∧ HRel K g.T W H h ∧ RepV K W v y ∧
  Post K g (RV K) W H (callM [false] D [y] h) (fun v' H1 => ∀ dx, H1 dx = none → dx ≠ a → Q .non (upd (upd H1 dx (exd dx [(f, v')])) a (exo a C (some dx)))) E
theorem exo_not_lst {a C : Addr} {d : Option Addr} {xs : List V} : exo a C d ≠ .lst xs := fun z => by
  have z' : HO.ext _ = HO.lst xs := z
  cases z'
theorem HRel.notθ {K : PySem.W.Frag} {T : Tbs} {W : Wd} {H : Hp} {h : DH} (r : HRel K T W H h) {a C : Addr} {d : Option Addr} (ea : H a = some (exo a C d)) : a ∉ W.θ := fun m => by
  obtain ⟨xs, hx⟩ := r.has m
  rw [ea] at hx
  exact exo_not_lst (Option.some.inj hx)
theorem init_ok {P : Program} {w : World} {K : PySem.W.Frag} {mg : PySem.Str → Option Value} {base : Heap} {g : Gp} {x qual pn : PySem.Str} {params : Arguments} {body : List Stmt} {scope : Scope} {dvs : List V} {kws : List (PySem.Str × V)} {fI C : Addr} {fd : FuncData} {k : Nat} {f : PySem.Str} {D : List Vx → Mo Vx}
    (F : FunD K x qual params body scope dvs kws fI fd) (S : FnScope ["self", pn] ["self", pn] scope)
    (hb : ∀ (cdv : Value) (A : Around) (outer : List Env) (s : Shared) (H : Hp) (E : XK), Room k (A.deeper (envOfC qual scope s.heap.objs.size fI cdv)) →
      Takes (cxOf (L2.CX P w) P w K mg base ["self", pn] qual scope fI cdv A outer s H E) (fun c d _ H => E c d H) →
      PSs (cxOf (L2.CX P w) P w K mg base ["self", pn] qual scope fI cdv A outer s H E) body (tOstE C f (LE K g (fun c d _ H => E c d H) (eCall (fun ys => callM [false] D (ys ++ ([] : List Dt).map Vx.d)) (aCons (eVar 1) aNil))))) :
    FnOk P w K mg base (L2.CX P w) (k + 1) fI fd ["self", pn] (spI K g C f D) := by
  refine F.ok S (fun vs H Q E h => ?_) fun cdv A outer s H vs Q E hr h => ⟨_, hb cdv A outer s H E hr (takes_of rfl rfl rfl rfl), ?_⟩
  · obtain ⟨a, v, W, h0, y, rfl, _⟩ := h
    rfl
  · obtain ⟨a, v, W, h0, y, rfl, ea, r, rv, p⟩ := h
    refine ⟨W, [none, some y], h0, r, ⟨rfl, fun i z ez => ?_⟩, ?_⟩
    · match i, ez with
      | 1, ez => cases ez; exact ⟨v, rfl, rv⟩
    · have na := r.notθ ea
      have e0 : eCall (fun ys => callM [false] D (ys ++ ([] : List Dt).map Vx.d)) (aCons (eVar 1) aNil) [none, some y] h0 = callM [false] D [y] h0 := rfl
      rw [e0]
      have key : ∀ (rz : Rz Vx), Post K g (RV K) W H rz (fun v' H1 => ∀ dx, H1 dx = none → dx ≠ a → Q .non (upd (upd H1 dx (exd dx [(f, v')])) a (exo a C (some dx)))) E →
          Post K g (RV K) W H rz (fun y H1 => ∃ b : Addr, (L2.start ["self", pn] [V.ref a, v])[0]? = some (some (.ref b)) ∧ H1 b = some (exo b C none) ∧ ∀ dx, H1 dx = none → dx ≠ b → Q .non (upd (upd H1 dx (exd dx [(f, y)])) b (exo b C (some dx)))) E := by
        intro rz pz
        cases rz with
        | stk => exact pz
        | err c pp h1 => exact pz
        | ok z h1 => exact fun W' v' H' ex hr' rr => ⟨a, rfl, ex.frame _ _ ea na (fun ps => exo_tbl), pz W' v' H' ex hr' rr⟩
      exact key _ p
/-! ### the object that is being made -/
theorem heap_to : ∀ n : Nat, ∃ h : Heap, h.objs.size = n
  | 0 => ⟨{ objs := #[] }, rfl⟩
  | n + 1 => by
    obtain ⟨h, e⟩ := heap_to n
    exact ⟨h.push { cls := .none, data := .fields #[] }, by rw [Heap.size_push, e]⟩
theorem exo_ne_code {a C : Addr} {d : Option Addr} {q : PySem.Str} : exo a C d ≠ LamX.CodeO a q := fun z => by
  obtain ⟨h, eh⟩ := heap_to a
  have g1 : (h.push ({ cls := .ref C, dict := d, data := .fields #[.ref 0, .none, .none, .none, .bool false, .none] } : Obj)).get? a = some ({ cls := .ref C, dict := d, data := .fields #[.ref 0, .none, .none, .none, .bool false, .none] } : Obj) := by
    have := Heap.get?_push_size h (o := ({ cls := .ref C, dict := d, data := .fields #[.ref 0, .none, .none, .none, .bool false, .none] } : Obj)) rfl
    rw [eh] at this
    exact this
  unfold exo LamX.CodeO at z
  have z2 := HO.ext.inj z
  have z3 := congrFun z2 (h.push ({ cls := .ref C, dict := d, data := .fields #[.ref 0, .none, .none, .none, .bool false, .none] } : Obj))
  have l : ∃ t1 : Addr, (h.push ({ cls := .ref C, dict := d, data := .fields #[.ref 0, .none, .none, .none, .bool false, .none] } : Obj)).get? a = some ({ cls := .ref C, dict := d, data := .fields #[.ref t1, .none, .none, .none, .bool false, .none] } : Obj) := ⟨0, g1⟩
  rw [z3] at l
  obtain ⟨oc, vs, t, e1, e2, e3⟩ := l
  rw [g1] at e1
  cases e1
  cases e2
  cases e3
section
variable {K : PySem.W.Frag} {T : Tbs} {g : Gp} {W W2 : Wd} {H H2 : Hp} {h h2 : DH}
/-- something new that the world does not know -/
theorem HRel.add (r : HRel K T W H h) {p : Addr} {o : HO} (np : H p = none) : HRel K T W (upd H p o) h ∧ Ext W H W (upd H p o) := by
  have leH : HLe H (upd H p o) := fun a u e => by rw [upd_ne (ne_of_none e np)]; exact e
  refine ⟨⟨fun a u e => leH a u (r.fro a u e), r.ntb, r.len, fun k a u e1 e2 => ?_, r.liv, r.nd, r.tab.ext leH⟩, HLe.refl _, ⟨[], by simp, by simp⟩, fun a u e _ _ => leH a u e, fun a e => ?_, fun a u e => .inl e⟩
  · have hh := r.obj k a u e1 e2
    cases u with
    | lst zs => obtain ⟨ws, h1, h3⟩ := hh; exact ⟨ws, leH _ _ h1, h3⟩
    | dead => obtain ⟨ws, h1⟩ := hh; exact ⟨ws, leH _ _ h1⟩
  · by_cases q : a = p
    · subst q; rw [upd_same] at e; cases e
    · rw [upd_ne q] at e; exact e
/-- the exception is let go, its dict stands -/
theorem HRel.raised (r : HRel K T W H h) {a C dx : Addr} (na : H a = none) {o : HO} (ex : Ext W (upd H a (exo a C none)) W2 H2) (r2 : HRel K T W2 H2 h2) (ndx : H2 dx = none) (hda : dx ≠ a) (ho : notTbl o) {fs : List (PySem.Str × V)} :
    let Hf := upd (del (upd (upd H2 dx (exd dx fs)) a (exo a C (some dx))) a) dx o
    HRel K T W2 Hf h2 ∧ Ext W H W2 Hf := by
  intro Hf
  have ea : H2 a = some (exo a C none) := ex.frame a _ upd_same ((r.add na (o := exo a C none)).1.notθ upd_same) (fun ps => exo_tbl)
  have at_ : ∀ b, b ≠ dx → b ≠ a → Hf b = H2 b := fun b h1 h3 => by
    show upd (del (upd (upd H2 dx (exd dx fs)) a (exo a C (some dx))) a) dx o b = _
    rw [upd_ne h1, del_ne h3, upd_ne h3, upd_ne h1]
  have ata : Hf a = none := by
    show upd (del (upd (upd H2 dx (exd dx fs)) a (exo a C (some dx))) a) dx o a = _
    rw [upd_ne (Ne.symm hda), del_same]
  have n2 : ∀ b u, H2 b = some u → b ≠ dx := fun b u e => ne_of_none e ndx
  have fa2 : W2.F a = none := by
    cases q : W2.F a with
    | none => rfl
    | some u =>
      rcases ex.newF a u q with z | z | z
      · have := r.fro a u z; rw [na] at this; cases this
      · rw [upd_same] at z; cases z
      · exact absurd z ((r.add na (o := exo a C none)).1.notθ upd_same)
  have up : ∀ b, upd H a (exo a C none) b = none → H b = none := fun b e => by
    by_cases q : b = a
    · subst q; exact na
    · rw [upd_ne q] at e; exact e
  have nθ : ∀ (k : Nat) (b : Addr), W2.θ[k]? = some b → b ≠ dx ∧ b ≠ a := fun k b e => by
    obtain ⟨xs, hx⟩ := r2.has (List.mem_of_getElem? e)
    exact ⟨n2 b _ hx, fun z => by rw [z, ea] at hx; exact exo_not_lst (Option.some.inj hx)⟩
  refine ⟨⟨fun b u e => ?_, r2.ntb, r2.len, fun k b u e1 e2 => ?_, r2.liv, r2.nd, fun p hp => ?_⟩, ex.F, ?_, fun b u e n nt => ?_, fun b e => ?_, fun b u e => ?_⟩
  · have q := r2.fro b u e
    rw [at_ b (n2 b u q) (fun z => by rw [z, fa2] at e; cases e)]; exact q
  · have hh := r2.obj k b u e1 e2
    obtain ⟨m1, m2⟩ := nθ k b e1
    cases u with
    | lst zs => obtain ⟨ws, h1, h3⟩ := hh; exact ⟨ws, (at_ b m1 m2).trans h1, h3⟩
    | dead => obtain ⟨ws, h1⟩ := hh; exact ⟨ws, (at_ b m1 m2).trans h1⟩
  · obtain ⟨ps, h1, h3, h4⟩ := r2.tab p hp
    have pa : p.1 ≠ a := fun z => by
      rw [z, ea] at h1
      exact exo_tbl (Option.some.inj h1)
    refine ⟨ps, (at_ p.1 (n2 _ _ h1) pa).trans h1, h3, fun pos cv hc => ?_⟩
    obtain ⟨c, e1, e2⟩ := h4 pos cv hc
    have ca : c ≠ a := fun z => by
      subst z
      rw [ea] at e2
      exact exo_ne_code (Option.some.inj e2)
    exact ⟨c, e1, (at_ c (n2 _ _ e2) ca).trans e2⟩
  · obtain ⟨new, e1, e2⟩ := ex.θ
    exact ⟨new, e1, fun b hb => up b (e2 b hb)⟩
  · have hba : b ≠ a := fun z => by rw [z, na] at e; cases e
    have q := ex.frame b u (by rw [upd_ne hba]; exact e) n nt
    rw [at_ b (n2 b u q) hba]; exact q
  · by_cases q : b = a
    · subst q; exact na
    · by_cases q2 : b = dx
      · subst q2
        have : Hf b = some o := upd_same
        rw [this] at e; cases e
      · rw [at_ b q2 q] at e
        exact up b (ex.dom b e)
  · rcases ex.newF b u e with z | z | z
    · exact .inl z
    · exact .inr (.inl (up b z))
    · exact .inr (.inr z)
end
/-! ### X(e) is made -/
def tMkE (K : PySem.W.Frag) (g : Gp) (C : Addr) (f : PySem.Str) (D : List Vx → Mo Vx) (ta : TA) : L2.St → Hp → XK → Prop := fun σ H Q => ta σ H fun vs H1 => ∀ a, H1 a = none → spI K g C f D (.ref a :: vs) (upd H1 a (exo a C none))
  (fun v H2 => v = .non ∧ ∃ (d : Addr) (fs : List (PySem.Str × V)), H2 a = some (exo a C (some d)) ∧ H2 d = some (exd d fs) ∧ H1 d = none ∧ Q (.ref C) (some d) (upd (del H2 a) d (.xd fs))) (fun _ _ _ => False)
section
variable {X : Cx} {g : Gp} {Wx : WX} {C fI : Addr} {f x pn : PySem.Str} {D : List Vx → Mo Vx} {e : Expr} {ta : TA} {p pos : Pos} {k : Nat} {fd : FuncData}
theorem pmkE (T : OexE X.K C fI f) (F1 : FnOk X.prog X.w X.K X.mg X.base (L2.CX X.prog X.w) k fI fd ["self", pn] (spI X.K g C f D)) (hr : Room (k + 1) X.A) (hb : Binds X.K fd ["self", pn] []) (hg : Gl X x) (hm : X.mg x = some (.ref C)) (ha : PA X [e] ta)
    (hdb : (x == ("__debug__" : PySem.Str)) = false) (he : starEach [e] X.env = (false, eval e X.env) :: starEach [] X.env) (hpl : (backTo pos (starEach [] X.env)).any (·.1) = false) : PMk X (.Call (.Name x p) [e] [] pos) (tMkE X.K g C f D ta) := by
  intro pins s σ H Q I hw
  obtain ⟨nm, q, N, bs, bm, sn, sub, ab, col, dd, k0, k1, k2, k3, k5, hC, hbm⟩ := T.cls
  refine wpAny_Call_Name_kw (ld_glob I hg hm ?_ hdb)
  refine PySem.W.callWith_K (h₀ := X.base) I.ok.mod.kin T.kC (thn (ha.run pos pins s σ H _ I hw) fun us s1 ⟨vs, H1, I1, r1, q1⟩ => ⟨I1.kIn, ?_⟩) he hpl
  show wpAny _ _ (call (.ref C) us) _ _ _
  obtain ⟨hq, gs, dr, tk, os⟩ := s1
  have big : hq.objs.size ≤ hq.objs.size + 1 := Nat.le_succ _
  have hn : H1 (hq.objs.size + 1) = none := I1.hok.fresh big
  have hsp := q1 (hq.objs.size + 1) hn
  have kk : ∀ z o, hq.get? z = some o → ((hq.push (PySem.W.kdv_tup us)).push (PySem.HandSPX.excO C hq.objs.size)).get? z = some o := fun z o e => Heap.get?_push_of_some _ (Heap.get?_push_of_some _ e)
  have hget : ((hq.push (PySem.W.kdv_tup us)).push (PySem.HandSPX.excO C hq.objs.size)).get? (hq.objs.size + 1) = some (PySem.HandSPX.excO C hq.objs.size) := by heap_get
  have I2 : Inv X pins σ (upd H1 (hq.objs.size + 1) (exo (hq.objs.size + 1) C none)) ⟨(hq.push (PySem.W.kdv_tup us)).push (PySem.HandSPX.excO C hq.objs.size), gs, dr, tk, os⟩ :=
    I1.laid (t' := tk) (a := hq.objs.size + 1) (o := exo (hq.objs.size + 1) C none) kk big (exo_ok hget)
  have r2 : Vals (V.ref (hq.objs.size + 1) :: vs) (Value.ref (hq.objs.size + 1) :: us) := .cons rfl r1
  have hl : (Value.ref (hq.objs.size + 1) :: us ++ []).length = (["self", pn] : List PySem.Str).length := by
    have e1 := r2.length
    rw [F1.len _ _ _ _ hsp] at e1
    simpa using e1.symm
  have hus : us.length ≤ sizeLine := by
    have e2 : us.length = 1 := by simpa using hl
    rw [e2, sizeLine_eq]
    exact (by decide : 1 ≤ 16777216)
  have b1 := hb _ (Value.ref (hq.objs.size + 1) :: us) I2.kIn hl
  refine wpAny_call (PySem.HandSPX.call_own F.excBase_Exception (fun Y => refsE_has Y hbm) (I1.kIn _ _ hC) (PySem.W.looks_findIn I1.kIn T.iC) (fun self => PySem.W.bind_fn I1.kIn self T.tI) hus
    (codeAny_mono (F1.run _ X.stack _ _ ⟨Value.ref (hq.objs.size + 1) :: us, []⟩ (Value.ref (hq.objs.size + 1) :: us ++ []) _ _ (fun _ _ _ => False) (hr.make C us []) (I2.env0.make C us []) b1 (by rw [List.append_nil]; exact r2) hsp) fun r s2 hq2 => ?_))
  cases r with
  | error er =>
    have hq2 : L2.CX X.prog X.w X.stack _ _ (fun _ _ _ => False) er s2 := hq2
    obtain ⟨_, _, _, _, _, _, _, _, _, _, _, _, z⟩ := hq2
    exact z.elim
  | ok fl =>
    cases fl with
    | ret u =>
      obtain ⟨v, H2, os2, bare2, un2, hok2, rv, ev, d, fs, ea, ed, hd1, q2⟩ := hq2
      subst ev
      obtain ⟨h2, g2, d2, t2, os'⟩ := s2
      exact ⟨rv, mk_end (raises_own T.exC T.tyC) I1 big kk un2 hok2 os2 bare2 ea ed hd1 q2⟩
    | next => exact False.elim hq2
    | brk => exact False.elim hq2
    | cont => exact False.elim hq2
/-- nothing raised -/
def noErr {α : Type} (m : Mo α) : Mo α := fun h => match m h with
  | .ok a h' => .ok a h'
  | .err _ _ _ => .stk
  | .stk => .stk
def sRaise (c : Nat) (D : List Vx → Mo Vx) (fa : DEnv → Mo Vx) : SF := fun ρ => bnd (fa ρ) fun y => bnd (noErr (callM [false] D [y])) fun z h => match z with
  | .d p => .err c p h
  | _ => .stk
theorem pd_raise {fa : DEnv → Mo Vx} {c : Nat} {pos2 : Pos} (hc : X.calm = true) (tk : Takes X Wx) (hx : g.xs[c]? = some (x, f)) (T : OexE X.K (He.ga X.K x) fI f) (F1 : FnOk X.prog X.w X.K X.mg X.base (L2.CX X.prog X.w) k fI fd ["self", pn] (spI X.K g (He.ga X.K x) f D)) (hr : Room (k + 1) X.A) (hb : Binds X.K fd ["self", pn] []) (hg : Gl X x) (hm : X.mg x = some (.ref (He.ga X.K x)))
    (ha : PE X e (LE X.K g Wx fa)) (hdb : (x == ("__debug__" : PySem.Str)) = false) (he : starEach [e] X.env = (false, eval e X.env) :: starEach [] X.env) (hpl : (backTo pos (starEach [] X.env)).any (·.1) = false) :
    PS X (.Raise (some (.Call (.Name x p) [e] [] pos)) none pos2) (LS X.K g Wx (sRaise c D fa)) := by
  refine (ps_raise hc tk (pmkE (D := D) T F1 hr hb hg hm (pa_cons ha pa_nil he) hdb he hpl)).imp fun D0 σ H0 q => ?_
  refine Lf.imp (Lf.bnd (R := RV X.K) q) fun v H1 ⟨W1, ρ, y, h1, hr1, er, rr, p1⟩ => ?_
  intro a na
  obtain ⟨hrA, exA⟩ := hr1.add na (o := exo a (He.ga X.K x) none)
  refine ⟨a, v, W1, h1, y, rfl, upd_same, hrA, rr, ?_⟩
  unfold Dn.bnd noErr at p1
  cases hm2 : callM [false] D [y] h1 with
  | stk => rw [hm2] at p1; exact p1.elim
  | err c pp h2 => rw [hm2] at p1; exact p1.elim
  | ok z h2 =>
    rw [hm2] at p1
    intro W2 v' H2 ex2 hr2 rz dx ndx hda
    refine ⟨rfl, dx, [(f, v')], upd_same, ?_, ?_, ?_⟩
    · rw [upd_ne hda, upd_same]
    · have q1 := ex2.dom dx ndx
      rw [upd_ne hda] at q1
      exact q1
    · obtain ⟨hf1, hf2⟩ := hr1.raised (C := He.ga X.K x) na (o := .xd [(f, v')]) (fs := [(f, v')]) ex2 hr2 ndx hda (fun ps z => by cases z)
      cases z with
      | d pp => exact p1 W2 _ _ _ hf2 hf1 ⟨x, f, hx, rfl, dx, v', rfl, upd_same, rz⟩
      | _ => exact p1.elim
end
end Dn
end
section
set_option Elab.async false
set_option linter.all false
set_option maxRecDepth 100000
set_option maxHeartbeats 4000000
/-! Dn19: try with several clauses that name the exception. -/
namespace Dn
open PySem PySem.Spec PyProof.Rows L2

/-- what such clauses wish of an exception of the body, one after the other; slot i is the name's -/
def wAsL (K : PySem.W.Frag) (i : Nat) (Wout : WX) (D : Ends) : List (Value × (Addr → Value → Option Addr → TS)) → WX
  | [] => Wout
  | (c, ts) :: r => fun cls d σ H => ∃ b, PySem.W.exmOne K cls c = some b ∧
      (b = true → ∀ a, H a = none → ts a cls d { nx := fun σ' H' => D.nx (σ'.set i none) H', rt := D.rt, bk := fun σ' H' => D.bk (σ'.set i none) H', ct := fun σ' H' => D.ct (σ'.set i none) H' } (σ.set i (some (.ref a))) H) ∧
      (b = false → wAsL K i Wout D r cls d σ H)
inductive HdsAs (X : Cx) (n : PySem.Str) : List ExceptHandler → List (Value × (Addr → Value → Option Addr → TS)) → Prop
  | nil : HdsAs X n [] []
  | cons {x : PySem.Str} {c : Value} {ts : Addr → Value → Option Addr → TS} {b₀ : Stmt} {suite : List Stmt} {np hpos : Pos} {hds : List ExceptHandler} {l : List (Value × (Addr → Value → Option Addr → TS))} (hc : Names X x c)
      (hsu : ∀ (a : Addr) (oe : Obj) (cls : Value) (d : Option Addr) (pn : List (Addr × Obj)), Zc cls d oe → (∃ vs, oe.data = .fields vs) → PSs (X.suite a ((a, oe) :: pn)) (b₀ :: suite) (ts a cls d)) (r : HdsAs X n hds l) :
      HdsAs X n (.ExceptHandler (some (.Name x np)) (some n) (b₀ :: suite) hpos :: hds) ((c, ts) :: l)
section
variable {X : Cx} {n : PySem.Str} {i : Nat} {body : List Stmt} {h₀ : ExceptHandler} {hds : List ExceptHandler} {l : List (Value × (Addr → Value → Option Addr → TS))} {pos : Pos} {tb : WX → TS} {Wout : WX}
theorem ps_try_asL (hst : X.stack = X.env :: X.outer) (hfr : X.env.frame = some X.env.locals) (hN : X.N.Nodup) (hi : X.N[i]? = some n) (hln : X.env.kindOf n = some .local) (tk : Takes X Wout)
    (hb : ∀ (W : WX) (pn : List (Addr × Obj)) (xe : Value → Shared → Prop), Takes (X.tr pn xe) W → PassesOwn (model X.prog X.w) X.A X.env xe → PSs (X.tr pn xe) body (tb W))
    (hh : HdsAs X n (h₀ :: hds) l) : PS X (.Try body (h₀ :: hds) [] [] pos) (fun D σ H => tb (wAsL X.K i Wout D l) D σ H) := by
  refine ⟨fun pins s σ H D I hw => ?_⟩
  have okX := I.ok
  have frs1 : X.A.frames = some (X.env :: X.outer) := by rw [okX.frames, hst]
  have hloc : Loc X.env.scope n := .inl hln
  refine wpAny_Try_except ?_
  refine wpAny_mono ((hb (wAsL X.K i Wout D l) (X.pn ++ pins) (fun ev sa => wpAny (model X.prog X.w) X.A (noteFrame ev X.env) (fun _ sb => wpAny (model X.prog X.w) X.A (setFlight ev none) (fun _ sc =>
    wpAny (model X.prog X.w) X.A (handleBy ev X.env (h₀ :: hds)) (SP X pins D) X.xe sc) X.xe sb) X.xe sa) (fun u s1 xx => ?_) PassesOwn.looking).run [] s σ H D (I.toTry _) hw) (fun fl s1 hsp => ?_) (fun ev s1 he => he)
  · obtain ⟨ax, B, sI, pins1, σ1, H1, cls, dd, rfl, J0, nb, up, sky, na, os, ag, ww⟩ := xx
    have J : Inv X pins σ1 H1 sI := J0.ofTry okX
    have sky1 : Sky B (X.env :: X.outer) ax (Zc cls dd) X.env.locals s1.heap := by rw [← hst]; exact sky
    show wpAny (model X.prog X.w) X.A (noteFrame (.ref ax) X.env) _ _ _
    refine Sky.land Zc.steady frs1 hfr sky1 fun h3 fly3 up3 => ?_
    have J3 : Inv X pins σ1 H1 { s1 with heap := h3 } := J.landed nb fly3.1 (up.trans up3) os ag
    obtain ⟨oe3, vs3, at3, z3, dt3⟩ := fly3.there
    have noFr : ∀ {h : Heap} {o : Obj} {vs : Array Value}, h.FunFrames B (X.env :: X.outer) → h.get? ax = some o → o.data = .fields vs → ax ∉ frs (X.env :: X.outer) := fun {h o vs} ff e1 e2 hm => by
      obtain ⟨_, o2, e3, hnf⟩ := ff.mem hm
      rw [e1] at e3; cases e3
      exact hnf _ e2
    have nfr := noFr fly3.2.2.1 at3 dt3
    have nL : ax ≠ X.env.locals := fun z => nfr (List.mem_filterMap.mpr ⟨X.env, List.mem_cons_self, by rw [hfr, z]⟩)
    have nF : ax ∉ X.fs := fun hm => by
      obtain ⟨en, he, q⟩ := List.mem_filterMap.mp hm
      exact nfr (List.mem_filterMap.mpr ⟨en, List.mem_cons_of_mem _ he, q⟩)
    have S3 := J3.suite at3 dt3 na nL nF
    have go : ∀ {hds2 : List ExceptHandler} {l2 : List (Value × (Addr → Value → Option Addr → TS))}, HdsAs X n hds2 l2 → wAsL X.K i Wout D l2 cls dd σ1 H1 →
        wpAny (model X.prog X.w) X.A (handleBy (.ref ax) X.env hds2) (SP X pins D) X.xe { s1 with heap := h3 } := by
      intro hds2 l2 hk
      induction hk with
      | nil =>
        intro ww
        refine wpAny_handleBy_nil ?_
        obtain ⟨k1, k2, k3, oe, vs, Tr, oT, ts2, he, hz, hd, h1, hr⟩ := id fly3
        unfold PySem.passOn
        refine wpAny_bind (wpAny_field he hd h1 ?_)
        rw [if_neg (show ¬ ((Value.ref Tr == Value.none) = true) from by simp)]
        have fin : wpAny (model X.prog X.w) X.A (setFlight (.ref ax) X.env.frame) (fun _ s4 => wpAny (model X.prog X.w) X.A (throw (.ref ax) : Sem Flow) (SP X pins D) X.xe s4) X.xe { s1 with heap := h3 } := by
          rw [hfr]
          refine HandSPX.setFlight_upZ fly3 fun h4 hh4 up4 => wpAny_throw (tk _ _ ?_)
          exact ⟨ax, B, sI, pins, σ1, H1, cls, dd, rfl, J, nb, (up.trans up3).trans up4, .inr (.inr (by rw [hst]; exact hh4)), na, os, ag, ww⟩
        first
          | exact wpAny_bind (wpAny_pure (wpAny_bind fin))
          | exact wpAny_bind fin
      | @cons x c ts b₀ suite np hpos hds3 l3 hc hsu r ih =>
        intro ww
        obtain ⟨b, hb1, hyes, hno⟩ := ww
        refine wpAny_handleBy_cons (codeAny_handlers_test ?_) (by intro q; cases q)
        have LT : PySem.W.Looks (model X.prog X.w) h3 (typeOf (.ref ax)) cls := fun A Q E s k q => wpAny_typeOf_ref (k _ _ at3) (by rw [z3.1]; exact q)
        have LM := PySem.W.exm_one (M := model X.prog X.w) (J3.kIn) LT hb1
        have test : ∀ {Q : Value → Shared → Prop} {E : Value → Shared → Prop}, Q c { s1 with heap := h3 } → wpAny (model X.prog X.w) (X.A.mark (some (.ref ax))) (eval (.Name x np) X.env) Q E { s1 with heap := h3 } := fun {Q E} q => by
          obtain ⟨hg, hdbg, hm | ⟨hm, hv, hnn⟩⟩ := hc
          · exact ld_glob (X := X.suite ax ((ax, oe3) :: (X.pn ++ pins))) S3 hg hm q hdbg
          · exact ld_blt (X := X.suite ax ((ax, oe3) :: (X.pn ++ pins))) S3 hg hm hv q hnn hdbg
        refine test (LM.here ?_)
        cases b with
        | true =>
          refine codeAny_handlers_suite_as ?_
          refine HandSPX.lands_againZ fly3 fun h4 fly4 up4 => ?_
          have J4 : Inv X pins σ1 H1 { s1 with heap := h4 } := J.landed nb fly4.1 ((up.trans up3).trans up4) os ag
          obtain ⟨oe4, vs4, at4, z4, dt4⟩ := fly4.there
          have S4 := J4.suite at4 dt4 na nL nF
          refine store_ok (X := X.suite ax ((ax, oe4) :: (X.pn ++ pins))) (v := .ref ax) S4 hN hi hloc rfl (fun s5 S5 => ?_) (.inr hln)
          refine wpAny_mono ((hsu ax oe4 cls dd (X.pn ++ pins) z4 ⟨_, dt4⟩).run [] s5 _ H1 _ S5 (hyes rfl ax na)) (fun fl s6 hsp => ?_) (fun _ _ z => False.elim z)
          have gone : ∀ {σ6 : L2.St} {H6 : Hp} {Q : Shared → Prop}, Inv (X.suite ax ((ax, oe4) :: (X.pn ++ pins))) [] σ6 H6 s6 → (∀ s7, Inv X pins (σ6.set i none) H6 s7 → Q s7) →
              wpAny (model X.prog X.w) X.A (do bindName X.env n .none; unbindBehindTheSuite X.env n hpos) (fun _ s7 => Q s7) X.xe s6 := fun {σ6 H6 Q} S6 hq => gone_ok (S6.unsuite okX) hN hi hln hq
          cases fl with
          | next =>
            obtain ⟨σ6, H6, S6, q6⟩ := hsp
            exact gone S6 fun s7 J7 => ⟨_, _, J7, q6⟩
          | brk =>
            obtain ⟨σ6, H6, S6, q6⟩ := hsp
            exact gone S6 fun s7 J7 => ⟨_, _, J7, q6⟩
          | cont =>
            obtain ⟨σ6, H6, S6, q6⟩ := hsp
            exact gone S6 fun s7 J7 => ⟨_, _, J7, q6⟩
          | ret u =>
            obtain ⟨v6, σ6, H6, S6, r6, q6⟩ := hsp
            exact gone S6 fun s7 J7 => ⟨_, _, _, J7, r6, q6⟩
        | false =>
          show wpAny _ X.A (handleBy (.ref ax) X.env hds3) _ _ _
          exact ih (hno rfl)
    exact go hh ww
  · cases fl with
    | next =>
      obtain ⟨σ2, H2, J2, q⟩ := hsp
      exact wpAny_execs_nil ⟨σ2, H2, J2.ofTry okX, q⟩
    | brk =>
      obtain ⟨σ2, H2, J2, q⟩ := hsp
      exact ⟨σ2, H2, J2.ofTry okX, q⟩
    | cont =>
      obtain ⟨σ2, H2, J2, q⟩ := hsp
      exact ⟨σ2, H2, J2.ofTry okX, q⟩
    | ret u =>
      obtain ⟨v2, σ2, H2, J2, r2, q⟩ := hsp
      exact ⟨v2, σ2, H2, J2.ofTry okX, r2, q⟩
end
end Dn
end
section
set_option Elab.async false
set_option linter.all false
set_option maxRecDepth 100000
set_option maxHeartbeats 4000000
/-! Dn20: x(lambda: e). -/
namespace Dn
open PySem PySem.Spec PyProof.Rows LamX L2

section
variable {X : Cx} {pins : List (Addr × Obj)} {σ : L2.St} {H : Hp} {s : Shared}
theorem lam_make3 {T : List (Addr × PySem.Str)} {c P : Addr} {params : Arguments} {body : Expr} {scope : Scope} {pos : Pos} {E : Value → Shared → Prop} {Q : Value → Shared → Prop} (I : Inv X pins σ H s) (TB : TabB X.base X.mg c P) (hcode : X.env.code = .ref c)
    (hm : (P, X.env.qual ++ "<lambda>") ∈ T) (hu : ∀ p ∈ T, p.1 = P → p.2 = X.env.qual ++ "<lambda>") (hT : Tabs T H) (hdef : defaultsOf params X.env = ([], [])) (hfree : ∀ y ∈ scope.names, y.2 = .free → ∃ c, X.env.cells.lookup y.1 = some c)
    (fin : ∀ (f c2 : Addr) (pm ctv : Value) (H1 : Hp) (s2 : Shared), Inv X pins σ H1 s2 → ExtN H H1 → (∀ b, H1 b = none → H b = none) → Tabs T H1 →
      s2.heap.get? f = some (PySem.W.kla_obj "<lambda>" (X.env.qual ++ "<lambda>") params body scope (cloFrom X.env.cells scope.names []) pm c2 ctv) → H1 f = none → f ∉ frs X.stack → H1 c2 = some (CodeO c2 (X.env.qual ++ "<lambda>")) → Q (.ref f) s2) :
    wpAny (model X.prog X.w) X.A (eval (.Lambda params body scope pos) X.env) Q E s := by
  obtain ⟨ps, hP, ht, ha⟩ := hT _ hm
  refine PySem.W.kla_eval hdef ?_
  have bP : s.heap.BuiltinsAt X.mg P := TB.bm.keeps I.bk
  have hPh : s.heap.get? P = some { cls := .none, data := .fields ps } := I.hok P _ hP
  have nofr : ∀ f, s.heap.objs.size ≤ f → f ∉ frs X.stack := fun f hf z => by
    rcases List.mem_cons.mp (I.stkSub _ z) with e | e
    · have h1 := I.lt
      rw [← e] at h1
      exact Nat.lt_irrefl _ (Nat.lt_of_lt_of_le h1 hf)
    · exact I.nofs hf e
  cases hc : codeAmong pos ps.toList with
  | none =>
    refine PySem.W.kla_makeFunction (mg := X.mg) (c := c) (P := P) (ps := ps) (closure_ok hfree) I.ok.glob (I.mod.glob.keeps I.bk) hcode (TB.code.keeps I.bk) hPh ht hc TB.gP bP fun c1 ctv h2 tk hx hge hlt hrec htb => ?_
    obtain ⟨c3, oc, vs, t, e2, hoc, hd, hv⟩ := hrec
    cases e2
    have hsz : s.heap.objs.size ≤ h2.objs.size := Nat.le_trans hge (Nat.le_of_lt hlt)
    have nC : H c1 = none := I.hok.fresh hge
    have I1 := inv_table (t' := tk) (more := #[rawInt pos.line, rawInt pos.col, .ref c1]) (h' := h2.push (PySem.W.kla_obj "<lambda>" (X.env.qual ++ "<lambda>") params body scope (cloFrom X.env.cells scope.names []) ((X.mg "__name__").getD .none) c1 ctv)) I hP
      (fun b o hb e => Heap.get?_push_of_some _ (hx b o hb e)) (Heap.get?_push_of_some _ htb) hge ⟨oc, vs, t, Heap.get?_push_of_some _ hoc, hd, hv⟩
    have hE : ExtN H (upd (upd H P (.tbl (ps ++ #[rawInt pos.line, rawInt pos.col, .ref c1]))) c1 (CodeO c1 (X.env.qual ++ "<lambda>"))) := fun b o e n => by
      rw [upd_ne (ne_of_none e nC), upd_ne (fun z => n ps (Option.some.inj (e.symm.trans (by rw [z]; exact hP))))]
      exact e
    have dom : ∀ b, upd (upd H P (.tbl (ps ++ #[rawInt pos.line, rawInt pos.col, .ref c1]))) c1 (CodeO c1 (X.env.qual ++ "<lambda>")) b = none → H b = none := fun b e => by
      by_cases q1 : b = c1
      · rw [q1]; exact nC
      · rw [upd_ne q1] at e
        by_cases q2 : b = P
        · rw [q2, upd_same] at e; cases e
        · rw [upd_ne q2] at e; exact e
    have eL : (ps ++ #[rawInt pos.line, rawInt pos.col, .ref c1]).toList = ps.toList ++ [rawInt pos.line, rawInt pos.col, .ref c1] := by simp
    refine fin h2.objs.size c1 ((X.mg "__name__").getD .none) ctv _ _ I1 hE dom (fun p hp => ?_) (Heap.get?_push_size _ rfl) ?_ (nofr _ hsz) upd_same
    · by_cases hb : p.1 = P
      · rw [hu p hp hb, hb]
        refine ⟨_, by rw [upd_ne (ne_of_none hP nC), upd_same], by rw [eL]; exact PySem.TriplesOk_snoc _ _ _ _ ht, fun p2 cv hcv => ?_⟩
        rw [eL] at hcv
        rcases among_app _ ht hcv with z | z
        · obtain ⟨c0, e1, e2⟩ := ha p2 cv z
          exact ⟨c0, e1, hE _ _ e2 codeO_ne⟩
        · exact ⟨c1, z, upd_same⟩
      · obtain ⟨ps2, a1, a2, a3⟩ := hT p hp
        refine ⟨ps2, by rw [upd_ne (ne_of_none a1 nC), upd_ne hb]; exact a1, a2, fun p2 cv hcv => ?_⟩
        obtain ⟨c0, e1, e2⟩ := a3 p2 cv hcv
        exact ⟨c0, e1, hE _ _ e2 codeO_ne⟩
    · have n1 : h2.objs.size ≠ c1 := Nat.ne_of_gt hlt
      have n2 : h2.objs.size ≠ P := Nat.ne_of_gt (Nat.lt_of_lt_of_le (Heap.lt_size hPh) hsz)
      rw [upd_ne n1, upd_ne n2]
      exact I.hok.fresh hsz
  | some cv =>
    obtain ⟨c1, e, hco⟩ := ha pos cv hc
    subst e
    refine PySem.W.kla_makeFunctionHit (mg := X.mg) (c := c) (P := P) (ps := ps) (closure_ok hfree) I.ok.glob (I.mod.glob.keeps I.bk) hcode (TB.code.keeps I.bk) hPh ht hc bP fun ctv h2 tk hx hsz => ?_
    have I1 : Inv X pins σ H { s with heap := h2.push (PySem.W.kla_obj "<lambda>" (X.env.qual ++ "<lambda>") params body scope (cloFrom X.env.cells scope.names []) ((X.mg "__name__").getD .none) c1 ctv), toks := tk } := I.kept fun b o e => Heap.get?_push_of_some _ (hx b o e)
    exact fin h2.objs.size c1 ((X.mg "__name__").getD .none) ctv H _ I1 (ExtN.refl H) (fun _ h => h) hT (Heap.get?_push_size _ rfl) (I.hok.fresh hsz) (nofr _ hsz) hco
end
def tLamD (T : List (Addr × PySem.Str)) (TT : (XK → Hp → VK → Prop) → Hp → VK → Prop) (t : XK → TE) : TE := fun σ H Q => Tabs T H ∧ ∀ H1, ExtN H H1 → (∀ b, H1 b = none → H b = none) → Tabs T H1 → TT (fun E H' Q' => t E σ H' Q') H1 Q
section
variable {X : Cx}
theorem pe_lamD {T : List (Addr × PySem.Str)} {TT : (XK → Hp → VK → Prop) → Hp → VK → Prop} {x a : PySem.Str} {g c P : Addr} {k : Nat} {pg : Arguments} {bg : List Stmt} {sg : Scope} {dV kV doc pm cdv ct oc : Value} {an od : Option Addr} {osl : Array (Option Value)} {Ng : List PySem.Str}
    {params : Arguments} {body : Expr} {scope : Scope} {t : XK → TE} {p lpos pos : Pos} (hg : Gl X x) (hm : X.mg x = some (.ref g)) (hk : PySem.W.keepIn X.K (.ref g) = true)
    (lk : X.K.lookup g = some ⟨oc, od, .func (PySem.W.fnOf x x pg bg sg dV kV doc pm an cdv ct), osl⟩) (hcg : PySem.W.codeIn X.K cdv x = true) (hb : L2.Binds X.K (PySem.W.fnOf x x pg bg sg dV kV doc pm an cdv ct) [a] []) (Sg : FnScope Ng [a] sg) (hNg : Ng[0]? = some a) (hva : Vis sg a)
    (hG : GivesTo X Ng x sg g cdv bg a (X.env.qual ++ "<lambda>") TT)
    (TB : TabB X.base X.mg c P) (hcode : X.env.code = .ref c) (hmT : (P, X.env.qual ++ "<lambda>") ∈ T) (hu : ∀ p ∈ T, p.1 = P → p.2 = X.env.qual ++ "<lambda>") (hr : Room (k + 2) X.A) (L : LamS X.env.scope scope) (hdef : defaultsOf params X.env = ([], []))
    (hbind : ∀ (q : PySem.Str) (cl : List (PySem.Str × Addr)) (pm cv ctv : Value), bindArgs (PySem.W.kla_fn "<lambda>" q params body scope cl pm cv ctv) ⟨[], []⟩ = pure [])
    (hbody : ∀ (A : Around) (outer : List Env) (s : Shared) (H : Hp) (E : XK) (f c2 : Addr), Room k (A.deeper (lamEnv X scope s.heap.objs.size f c2)) → PE (lamCx X A outer s H E scope f c2) body (t E))
    (hdb : (x == ("__debug__" : PySem.Str)) = false) (hd : (a == ("__debug__" : PySem.Str)) = false) (hcd : (a == ("__classdict__" : PySem.Str)) = false) :
    PE X (.Call (.Name x p) [.Lambda params body scope lpos] [] pos) (tLamD T TT t) := by
  refine ⟨fun pins s σ H Q I hw => ?_⟩
  obtain ⟨hT, hw⟩ := hw
  refine wpAny_Call_Name_kw (ld_glob I hg hm ?_ hdb)
  refine PySem.W.callWith_K (h₀ := X.base) I.ok.mod.kin hk ?_ (by rfl) (by rfl)
  show wpAny _ _ (spliced ((false, eval (.Lambda params body scope lpos) X.env) :: backTo pos (starEach [] X.env))) _ _ s
  refine Calls.spliced_cons (lam_make3 I TB hcode hmT hu hT hdef (L.has I.ok) fun f c2 pm2 ctv H1 s2 I1 eN dm T1 hf hfn hfr hco => ?_)
  refine Calls.spliced_nil ⟨I1.kIn, ?_⟩
  have rc : codeAny (model X.prog X.w) X.A (.call (.ref g) ⟨[.ref f], []⟩) (CR C8.CX0 X.stack X.prog X.w H1 s2 Q C8.E0) s2 := by
    refine run_ofS (N := Ng) (ps := [a]) (us := [.ref f]) (vs := [.ref f]) lk hcg Sg hr I1.env0 (hb s2 [.ref f] I1.kIn rfl) (.cons rfl .nil) rfl fun hr1 => ?_
    obtain ⟨t2, ht2, hq2⟩ := hG f c2 s2 H1 Q (fun E H' Q' => t E σ H' Q') (fun W pn xe E p1 p2 tk hW => pe_act (i := 0) I1 L hf hfn hfr (hbind _ _ _ _ _) tk hW hr1 (fun A outer s H hr2 => hbody A outer s H E f c2 hr2) hNg hva hd hcd) hco (hw H1 eN dm T1)
    exact ⟨t2, ht2.nox, hq2⟩
  refine wpAny_call (codeAny_mono rc fun r s3 hq => ?_)
  cases r with
  | error e => exact (show False from hq).elim
  | ok fl =>
    cases fl with
    | ret u => exact I1.after hq
    | next => exact False.elim hq
    | brk => exact False.elim hq
    | cont => exact False.elim hq
end
/-! ### e.f, e the exception that a suite holds -/
def tFldE (C : Addr) (f : PySem.Str) (a : Addr) (cls : Value) (d : Option Addr) (te : TE) : TE := fun σ H Q => te σ H fun x H1 => x = .ref a ∧ cls = .ref C ∧ ∃ (dd : Addr) (v : V), d = some dd ∧ H1 dd = some (.xd [(f, v)]) ∧ Q v H1
theorem pe_fldE {X : Cx} {C fI : Addr} {f : PySem.Str} {a : Addr} {oe : Obj} {cls : Value} {d : Option Addr} {pn : List (Addr × Obj)} {e : Expr} {te : TE} {pos : Pos} (T : OexE X.K C fI f) (hz : Zc cls d oe) (hf : ∃ vs, oe.data = .fields vs) (he : PE (X.suite a ((a, oe) :: pn)) e te)
    (hb : attributeBase e f X.env (eval e X.env) = eval e X.env) : PE (X.suite a ((a, oe) :: pn)) (.Attribute e f pos) (tFldE C f a cls d te) := by
  refine ⟨fun pins s σ H Q I hw => ?_⟩
  refine attr_of hb (thn (he.run pins s σ H _ I hw) fun u s1 hh => ?_)
  obtain ⟨x, H1, I1, rx, ex, ec, dd, v, ed, ea, q⟩ := hh
  subst ex
  obtain rfl : u = Value.ref a := rx
  subst ec
  subst ed
  obtain ⟨ha, _⟩ := I1.pin (a, oe) (List.mem_append_left _ List.mem_cons_self)
  obtain ⟨vs, hd⟩ := hf
  have hx : ObjOk X.prog X.w H1 s1.heap dd (.xd [(f, v)]) := I1.hok dd _ ea
  obtain ⟨mA, hns, hr⟩ := hx
  obtain ⟨od, ho, hl⟩ := lookIn_ns hns
  have l1 : List.lookup f [(f, v)] = some v := by simp [List.lookup]
  obtain ⟨u, hu, ru⟩ := RelO.some_of (v := v) (o := mA f) (by rw [← l1]; exact hr f)
  have J : PySem.W.InstAt s1.heap a oe C (some od) := ⟨ha, hz.1, by unfold PySem.W.notCls; rw [hd] <;> rfl, by rw [hz.2]; exact ho⟩
  exact HandSPX.exc_get I1.kIn J T.ga T.gg T.exC (PySem.W.findObj_own T.hdC T.noN rfl (by rw [hl, hu])) (handed_of ru) ⟨v, H1, I1.tok _, ru, q⟩
end Dn
end
section
set_option Elab.async false
set_option linter.all false
set_option maxRecDepth 100000
set_option maxHeartbeats 4000000
/-! Dn21: told(lambda: e): the value, or the name of what was raised and its field. -/
namespace Dn
open PySem PySem.Spec PyProof.Rows LamX L2

def valS : List Nat := [118, 97, 108, 117, 101]
def eTold (nms : List (List Nat)) (fe : DEnv → Mo Vx) : DEnv → Mo Vx := fun ρ h => match fe ρ h with
  | .ok y h2 => (match y with
    | .d x => .ok (.d (.tup [.str valS, x])) h2
    | _ => .stk)
  | .err c p h2 => (match nms[c]? with
    | some nm => .ok (.d (.tup [.str nm, p])) h2
    | none => .stk)
  | .stk => .stk
theorem pss_len {X : Cx} {b : List Stmt} {t : TS} (h : PSs X b t) : PSs X b (fun D σ H => σ.length = X.N.length → t D σ H) := ⟨fun pins s σ H D I w => h.run pins s σ H D I (w I.len)⟩
/-- what the clause of a class does: return (nm, why.f) -/
def tsH (n i : Nat) (nm : List Nat) (C : Addr) (f : PySem.Str) : Addr → Value → Option Addr → TS := fun a cls d D σ H => σ.length = n → tRet (tTup (tCons (tC (.str (toStr nm))) (tCons (tFldE C f a cls d (tVar i)) tNil))) D σ H
def toldL (K : PySem.W.Frag) (n i : Nat) : Exs → List (List Nat) → List (Value × (Addr → Value → Option Addr → TS))
  | (x, f) :: r, nm :: ms => (.ref (He.ga K x), tsH n i nm (He.ga K x) f) :: toldL K n i r ms
  | _, _ => []
/-- told, as a reading of what the lambda does -/
def TToldD (K : PySem.W.Frag) (i : Nat) (l : List (Value × (Addr → Value → Option Addr → TS))) : (XK → Hp → VK → Prop) → Hp → VK → Prop := fun tl H Q =>
  tl (fun cls d H1 => ∀ σ, wAsL K i (fun _ _ _ _ => False) { nx := fun _ H' => Q .non H', rt := Q } l cls d σ H1) H (fun v H1 => ∀ T, H1 T = none → Q (.ref T) (upd H1 T (.tup [.str (toStr valS), v])))
section
variable {X : Cx}
theorem told_givesD {Ng : List PySem.Str} {x a q n vw : PySem.Str} {sg : Scope} {g : Addr} {cdg : Value} {i j k1 : Nat} {p0 p1 p2 p3 p4 p8 : Pos} {h₀ : ExceptHandler} {hds : List ExceptHandler} {l : List (Value × (Addr → Value → Option Addr → TS))}
    (hv : vw = toStr valS) (hN : Ng.Nodup) (hi : Ng[i]? = some n) (hln : sg.names.lookup n = some .local) (h0 : ∀ f : Addr, (L2.start Ng [V.ref f])[0]? = some (some (V.ref f)))
    (hst : ∀ (X2 : Cx), starEach [.Constant (.str vw) j p0, .Call (.Name a p1) [] [] p2] X2.env = (false, eval (.Constant (.str vw) j p0) X2.env) :: starEach [.Call (.Name a p1) [] [] p2] X2.env)
    (hst2 : ∀ (X2 : Cx), starEach [.Call (.Name a p1) [] [] p2] X2.env = (false, eval (.Call (.Name a p1) [] [] p2) X2.env) :: starEach [] X2.env)
    (hh : ∀ (s : Shared) (H : Hp), HdsAs (cxOf C8.CX0 X.prog X.w X.K X.mg X.base Ng x sg g cdg X.A X.stack s H C8.E0).nox n (h₀ :: hds) l) :
    GivesTo X Ng x sg g cdg [.Try [.Return (some (.Tuple [.Constant (.str vw) j p0, .Call (.Name a p1) [] [] p2] k1 p3)) p4] (h₀ :: hds) [] [] p8] a q (TToldD X.K i l) := by
  intro f c2 s H Q tl act hc hw
  subst hv
  refine ⟨_, pss_one (ps_try_asL (X := (cxOf C8.CX0 X.prog X.w X.K X.mg X.base Ng x sg g cdg X.A X.stack s H C8.E0).nox) (i := i) (Wout := fun _ _ _ _ => False)
      (tb := fun W D σ H => ∃ Ech : XK, (∀ cls d σ2 H2, Ech cls d H2 → W cls d σ2 H2) ∧ σ[0]? = some (some (.ref f)) ∧ H c2 = some (CodeO c2 q) ∧ tl Ech H (fun v H1 => ∀ T, H1 T = none → D.rt (.ref T) (upd H1 T (.tup [.str (toStr valS), v]))))
      rfl rfl hN hi hln L2.takes0 (fun W pn xe tk _ => ?_) (hh s H)), ?_⟩
  · refine ⟨fun pins s2 σ H2 D I hw2 => ?_⟩
    obtain ⟨Ech, hW, h1, h2, h3⟩ := hw2
    have hp := act W pn xe Ech p1 p2 tk hW
    have hq := pss_one (ps_ret (pos := p4) (pe_tup (x1 := k1) (pos := p3) (pa_cons (pe_str (x := toStr valS) (j := j) (pos := p0)) (pa_cons hp pa_nil (hst2 _)) (hst _))))
    refine hq.run pins s2 σ H2 D I ?_
    show σ[0]? = some (some (.ref f)) ∧ H2 c2 = some (CodeO c2 q) ∧ tl Ech H2 _
    refine ⟨h1, h2, ?_⟩
    have e : (fun (v : V) (H1 : Hp) => ∀ T, H1 T = none → D.rt (.ref T) (upd H1 T (.tup [.str (toStr valS), v]))) = (fun (v : V) (H1 : Hp) => [V.str (toStr valS), v].length ≤ sizeLine ∧ ∀ p, H1 p = none → D.rt (.ref p) (upd H1 p (.tup [.str (toStr valS), v]))) := by
      funext v H1
      refine propext ⟨fun z => ⟨?_, z⟩, fun z => z.2⟩
      rw [sizeLine_eq]
      exact (by decide : 2 ≤ 16777216)
    rw [e] at h3
    exact h3
  · exact ⟨_, fun cls d σ2 H2 z => z σ2, h0 f, hc, hw⟩
end
/-- no class takes another's -/
def exmB (K : PySem.W.Frag) (xs : Exs) : Bool := (List.range xs.length).all fun i => (List.range xs.length).all fun j => match xs[i]?, xs[j]? with
  | some a, some b => decide (PySem.W.exmOne K (.ref (He.ga K a.1)) (.ref (He.ga K b.1)) = some (decide (i = j)))
  | _, _ => true
theorem exmB_ok {K : PySem.W.Frag} {xs : Exs} (h : exmB K xs = true) {i j : Nat} {a b : PySem.Str × PySem.Str} (ei : xs[i]? = some a) (ej : xs[j]? = some b) : PySem.W.exmOne K (.ref (He.ga K a.1)) (.ref (He.ga K b.1)) = some (decide (i = j)) := by
  unfold exmB at h
  have h1 := List.all_eq_true.mp h i (List.mem_range.mpr (List.getElem?_eq_some_iff.mp ei).1)
  have h2 := List.all_eq_true.mp h1 j (List.mem_range.mpr (List.getElem?_eq_some_iff.mp ej).1)
  rw [ei, ej] at h2
  exact of_decide_eq_true h2
/-- the clauses, from the j-th on -/
theorem told_at {K : PySem.W.Frag} {g : Gp} {W2 : Wd} {H2 : Hp} {h2 : DH} {n i c : Nat} {pp : Dt} {nm : List Nat} {all : List (List Nat)} {Q : VK} {cls : Value} {dd : Option Addr} (hx : exmB K g.xs = true) (hn : i < n) (hr : HRel K g.T W2 H2 h2) (rx : RepX K g.xs W2 H2 cls dd c pp) (hnm : all[c]? = some nm) (hok : okS nm)
    (q : ∀ (W3 : Wd) (v : V) (H3 : Hp), Ext W2 H2 W3 H3 → HRel K g.T W3 H3 h2 → RepV K W3 v (.d (.tup [.str nm, pp])) → Q v H3) (σ : L2.St) :
    ∀ (j : Nat) (xs : Exs) (ms : List (List Nat)), j ≤ c → g.xs.drop j = xs → all.drop j = ms → wAsL K i (fun _ _ _ _ => False) { nx := fun _ H' => Q .non H', rt := Q } (toldL K n i xs ms) cls dd σ H2 := by
  obtain ⟨x, f, ex, rfl, d, v, rfl, eh, rd⟩ := rx
  intro j xs
  induction xs generalizing j with
  | nil =>
    intro ms hj e1 e2
    have : g.xs.length ≤ j := by
      have := congrArg List.length e1
      simp at this; omega
    have := (List.getElem?_eq_some_iff.mp ex).1
    omega
  | cons y xs ih =>
    intro ms hj e1 e2
    cases ms with
    | nil =>
      have : all.length ≤ j := by
        have := congrArg List.length e2
        simp at this; omega
      have := (List.getElem?_eq_some_iff.mp hnm).1
      omega
    | cons m ms =>
      obtain ⟨y1, y2⟩ := y
      have ey : g.xs[j]? = some (y1, y2) := by
        have : (g.xs.drop j)[0]? = some (y1, y2) := by rw [e1]; rfl
        simpa using this
      have em : all[j]? = some m := by
        have : (all.drop j)[0]? = some m := by rw [e2]; rfl
        simpa using this
      have e3 : g.xs.drop (j + 1) = xs := by
        have := congrArg (List.drop 1) e1
        simpa using this
      have e4 : all.drop (j + 1) = ms := by
        have := congrArg (List.drop 1) e2
        simpa using this
      refine ⟨decide (c = j), exmB_ok hx ex ey, fun hb a na => ?_, fun hb => ih (j + 1) ms (by have := of_decide_eq_false hb; omega) e3 e4⟩
      have cj : c = j := of_decide_eq_true hb
      subst cj
      rw [ex] at ey
      cases ey
      rw [hnm] at em
      cases em
      intro hl
      have hi : i < σ.length := by
        have : (σ.set i (some (V.ref a))).length = n := hl
        rw [List.length_set] at this
        omega
      show tFldE (He.ga K x) f a (.ref (He.ga K x)) (some d) (tVar i) (σ.set i (some (V.ref a))) H2 _
      refine ⟨V.ref a, by rw [List.getElem?_set_self hi], rfl, rfl, d, v, rfl, eh, ?_⟩
      refine ⟨by rw [sizeLine_eq]; exact (by decide : 2 ≤ 16777216), fun T nT => ?_⟩
      obtain ⟨hr3, ex3⟩ := hr.new nT (o := .tup [V.str (toStr nm), v]) (fun ps z => by cases z)
      exact q _ _ _ ex3 hr3 (RepD.tup (.inl (.inl upd_same)) (.cons (.str nm hok) (.cons (RepD.le ex3.F rd) .nil)))
/-! ### the rule -/
def tabsOf (l : List (Addr × PySem.Str)) : Tbs := l.map fun p => (p.1, fun _ _ => p.2)
theorem tabs_of {l : List (Addr × PySem.Str)} {H : Hp} (t : NdefX.TabsN (tabsOf l) H) : Tabs l H := fun p hp => by
  have := t (p.1, fun _ _ => p.2) (List.mem_map.mpr ⟨p, hp, rfl⟩)
  exact NdefX.TabN.to this
theorem of_tabs {l : List (Addr × PySem.Str)} {H : Hp} (t : Tabs l H) : NdefX.TabsN (tabsOf l) H := fun p hp => by
  obtain ⟨q, hq, rfl⟩ := List.mem_map.mp hp
  exact NdefX.TabN.of (t q hq)
section
variable {K : PySem.W.Frag} {T : Tbs} {W : Wd} {H H1 : Hp} {h : DH}
theorem HRel.tabbed (r : HRel K T W H h) (e : ExtN H H1) (dm : ∀ b, H1 b = none → H b = none) (t : NdefX.TabsN T H1) : HRel K T W H1 h ∧ Ext W H W H1 := by
  refine ⟨⟨fun a o q => e a o (r.fro a o q) (r.ntb a o q), r.ntb, r.len, fun k a o e1 e2 => ?_, r.liv, r.nd, t⟩, HLe.refl _, ⟨[], by simp, by simp⟩, fun a o q _ nt => e a o q nt, dm, fun a o q => .inl q⟩
  have hh := r.obj k a o e1 e2
  cases o with
  | lst zs => obtain ⟨ws, h1, h2⟩ := hh; exact ⟨ws, e _ _ h1 (notTbl_lst _), h2⟩
  | dead => obtain ⟨ws, h1⟩ := hh; exact ⟨ws, e _ _ h1 (notTbl_lst _)⟩
end
theorem okS_val : okS valS := ⟨by rw [sizeLine_eq]; decide, by decide⟩
section
variable {X : Cx} {g : Gp} {Wx : WX}
theorem pd_told {Tl : List (Addr × PySem.Str)} {nms : List (List Nat)} {n i : Nat} {x a q : PySem.Str} {ga c P : Addr} {k : Nat} {pg : Arguments} {bg : List Stmt} {sg : Scope} {dV kV doc pm cdv ct oc : Value} {an od : Option Addr} {osl : Array (Option Value)} {Ng : List PySem.Str}
    {params : Arguments} {body : Expr} {scope : Scope} {fe : DEnv → Mo Vx} {p lpos pos : Pos} (hT : g.T = tabsOf Tl) (hx : exmB X.K g.xs = true) (hi : i < n) (hok : ∀ nm ∈ nms, okS nm) (hq : X.env.qual ++ "<lambda>" = q) (hg : Gl X x) (hm : X.mg x = some (.ref ga)) (hk : PySem.W.keepIn X.K (.ref ga) = true)
    (lk : X.K.lookup ga = some ⟨oc, od, .func (PySem.W.fnOf x x pg bg sg dV kV doc pm an cdv ct), osl⟩) (hcg : PySem.W.codeIn X.K cdv x = true) (hb : L2.Binds X.K (PySem.W.fnOf x x pg bg sg dV kV doc pm an cdv ct) [a] []) (Sg : FnScope Ng [a] sg) (hNg : Ng[0]? = some a) (hva : Vis sg a)
    (hG : GivesTo X Ng x sg ga cdv bg a q (TToldD X.K i (toldL X.K n i g.xs nms)))
    (TB : TabB X.base X.mg c P) (hcode : X.env.code = .ref c) (hmT : (P, q) ∈ Tl) (hu : ∀ p ∈ Tl, p.1 = P → p.2 = q) (hr : Room (k + 2) X.A) (L : LamS X.env.scope scope) (hdef : defaultsOf params X.env = ([], []))
    (hbind : ∀ (q : PySem.Str) (cl : List (PySem.Str × Addr)) (pm cv ctv : Value), bindArgs (PySem.W.kla_fn "<lambda>" q params body scope cl pm cv ctv) ⟨[], []⟩ = pure [])
    (hbody : ∀ (A : Around) (outer : List Env) (s : Shared) (H : Hp) (E : XK) (f c2 : Addr), Room k (A.deeper (lamEnv X scope s.heap.objs.size f c2)) →
      Takes (lamCx X A outer s H E scope f c2) (fun c d _ H => E c d H) → PE (lamCx X A outer s H E scope f c2) body (LE X.K g (fun c d _ H => E c d H) fe))
    (hdb : (x == ("__debug__" : PySem.Str)) = false) (hd : (a == ("__debug__" : PySem.Str)) = false) (hcd : (a == ("__classdict__" : PySem.Str)) = false) :
    PE X (.Call (.Name x p) [.Lambda params body scope lpos] [] pos) (LE X.K g Wx (eTold nms fe)) := by
  subst hq
  refine (pe_lamD (T := Tl) (TT := TToldD X.K i (toldL X.K n i g.xs nms)) (t := fun E => LE X.K g (fun c d _ H => E c d H) fe) hg hm hk lk hcg hb Sg hNg hva hG TB hcode hmT hu hr L hdef hbind (fun A outer s H E f c2 hr2 => hbody A outer s H E f c2 hr2 (takes_of rfl rfl rfl rfl)) hdb hd hcd).imp fun σ H Q p => ?_
  obtain ⟨W, ρ, h, hrr, er, p⟩ := p
  refine ⟨tabs_of (by rw [← hT]; exact hrr.tab), fun H1 eN dm T1 => ?_⟩
  obtain ⟨hr1, ex1⟩ := hrr.tabbed eN dm (by rw [hT]; exact of_tabs T1)
  refine ⟨W, ρ, h, hr1, er, ?_⟩
  unfold eTold at p
  cases hf : fe ρ h with
  | stk => rw [hf] at p; exact p.elim
  | ok y h2 =>
    rw [hf] at p
    simp only at p
    split at p
    · rename_i x
      intro W2 v H2 ex2 hr2 rv T nT
      obtain ⟨hr3, ex3⟩ := hr2.new nT (o := .tup [V.str (toStr valS), v]) (fun ps z => by cases z)
      exact p _ _ _ ((ex1.trans ex2).trans ex3) hr3 (RepD.tup (.inl (.inl upd_same)) (.cons (.str valS okS_val) (.cons (RepD.le ex3.F rv) .nil)))
    · exact p.elim
  | err c pp h2 =>
    rw [hf] at p
    simp only at p
    split at p
    · rename_i nm hnm
      intro W2 cls dd H2 ex2 hr2 rx σ2
      exact told_at hx hi hr2 rx hnm (hok nm (List.mem_of_getElem? hnm)) (fun W3 v H3 ex3 hr3 rv => p W3 v H3 ((ex1.trans ex2).trans ex3) hr3 rv) σ2 0 g.xs nms (Nat.zero_le _) rfl rfl
    · exact p.elim
end
end Dn
end
section
set_option Elab.async false
set_option linter.all false
set_option maxRecDepth 100000
set_option maxHeartbeats 4000000
/-! Dn22: defs whose code object is known; an exception class's __init__. -/
namespace Dn
open PySem PySem.Spec PyProof.Rows L2

def clsInit (s : Stmt) : Stmt := match s with
  | .ClassDef _ _ _ b _ _ _ _ _ _ _ => b.getD 0 (.Pass ⟨0, 0, 0, 0⟩)
  | _ => .Pass ⟨0, 0, 0, 0⟩
section
variable {P : Program} {w : World} {K : PySem.W.Frag} {mg : PySem.Str → Option Value} {base : Heap} {g : Gp}
theorem fn_okC {pth : PySem.Str × Option PySem.Str} {x qual : PySem.Str} {params : Arguments} {body : List Stmt} {scope : Scope} {dvs : List V} {kws : List (PySem.Str × V)} {fd : FuncData} {N ps : List PySem.Str} {k nl n : Nat} {fb : SF} (F : FunD K x qual params body scope dvs kws (He.fAd K pth) fd) (S : FnScope N ps scope) (hn : N.length = nl) (hp : ps.length = n)
    (hb : ∀ (A : Around) (outer : List Env) (s : Shared) (H : Hp) (E : XK), Room k (A.deeper (envOfC qual scope s.heap.objs.size (He.fAd K pth) (.ref (He.codeOf K pth)))) →
      Takes (cxOf (L2.CX P w) P w K mg base N qual scope (He.fAd K pth) (.ref (He.codeOf K pth)) A outer s H E) (fun c d _ H => E c d H) →
      PassesOwn (model P w) (cxOf (L2.CX P w) P w K mg base N qual scope (He.fAd K pth) (.ref (He.codeOf K pth)) A outer s H E).A (cxOf (L2.CX P w) P w K mg base N qual scope (He.fAd K pth) (.ref (He.codeOf K pth)) A outer s H E).env (cxOf (L2.CX P w) P w K mg base N qual scope (He.fAd K pth) (.ref (He.codeOf K pth)) A outer s H E).xe →
      PSs (cxOf (L2.CX P w) P w K mg base N qual scope (He.fAd K pth) (.ref (He.codeOf K pth)) A outer s H E) body (LS K g (fun c d _ H => E c d H) fb)) :
    FnOk P w K mg base (L2.CX P w) (k + 1) (He.fAd K pth) fd ps (spD K g n (fnM nl fb)) := by
  have hcode : ∀ cdv : Value, (∃ (oc : Value) (od : Option Addr) (dV kV doc pm : Value) (an : Option Addr) (ct : Value) (osl : Array (Option Value)), fd = PySem.W.fnOf x qual params body scope dV kV doc pm an cdv ct ∧ K.lookup (He.fAd K pth) = some ⟨oc, od, .func fd, osl⟩ ∧ PySem.W.codeIn K cdv qual = true) → cdv = .ref (He.codeOf K pth) := by
    rintro cdv ⟨oc, od, dV, kV, doc, pm, an, ct, osl, rfl, lk, hc⟩
    obtain ⟨c, rfl⟩ := He.codeIn_ref hc
    rw [He.codeOf_eq lk rfl]
  subst hn hp
  obtain ⟨oc, od, dV, kV, doc, pm, an, cdv, ct, osl, rfl, lk, hcd, h1, h2⟩ := F.ex
  have ec := hcode cdv ⟨oc, od, dV, kV, doc, pm, an, ct, osl, rfl, lk, hcd⟩
  subst ec
  refine fn_of lk hcd S (fun vs H Q E h => h.1) fun A outer s H vs Q E hr h => ⟨_, hb A outer s H E hr (takes_of rfl rfl rfl rfl) (passes_of rfl), ?_⟩
  obtain ⟨hl, W, h0, ys, r, rv, p⟩ := h
  refine ⟨W, start0 N.length ys, h0, r, start_rel rv, (Post.bnd (R := RO K) p).imp (fun v H' ⟨W1, y, h1, ex, hr1, rr, p1⟩ => ?_) fun _ _ _ q => q⟩
  obtain ⟨o, ρ⟩ := y
  cases v with
  | nx σ =>
    cases o with
    | nx => exact Post.ret (v := V.non) p1 hr1 RepD.non
    | _ => exact rr.elim
  | rt v =>
    cases o with
    | rt y => exact Post.ret (v := v) p1 hr1 rr
    | _ => exact rr.elim
  | bk σ =>
    cases o with
    | bk => exact p1.elim
    | _ => exact rr.elim
  | ct σ =>
    cases o with
    | ct => exact p1.elim
    | _ => exact rr.elim
end
theorem okSs_of {l : List (List Nat)} (h : (l.all fun s => decide (s.length ≤ 16777216) && s.all fun c => decide (c < 0x110000)) = true) : ∀ s ∈ l, okS s := fun s hs => by
  have h1 := List.all_eq_true.mp h s hs
  simp only [Bool.and_eq_true] at h1
  exact ⟨by rw [sizeLine_eq]; exact of_decide_eq_true h1.1, fun c hc => of_decide_eq_true (List.all_eq_true.mp h1.2 c hc)⟩
theorem pe_strT {X : Cx} {s : List Nat} {x : PySem.Str} {j : Nat} {pos : Pos} (e : x = toStr s) : PE X (.Constant (.str x) j pos) (tC (.str (toStr s))) := by
  subst e
  exact pe_str
theorem nodup_u : ∀ {l : List (Addr × PySem.Str)}, (l.map (·.1)).Nodup → ∀ {a p : Addr × PySem.Str}, a ∈ l → p ∈ l → p.1 = a.1 → p.2 = a.2
  | y :: l, h, a, p, ha, hp, e => by
    obtain ⟨h1, h2⟩ := List.nodup_cons.mp (show (y.1 :: l.map (·.1)).Nodup from h)
    rcases List.mem_cons.mp ha with q | q
    · rcases List.mem_cons.mp hp with z | z
      · rw [q, z]
      · exact absurd (List.mem_map.mpr ⟨p, z, by rw [e, q]⟩) h1
    · rcases List.mem_cons.mp hp with z | z
      · exact absurd (List.mem_map.mpr ⟨a, q, by rw [← e, z]⟩) h1
      · exact nodup_u h2 q z e
end Dn
end
section
set_option Elab.async false
set_option linter.all false
set_option maxRecDepth 100000
set_option maxHeartbeats 4000000
/-! Dn23: the law's promise from the reading's answer. -/
namespace Dn
open PySem PySem.Spec PyProof.Rows L2

def seqOf : Option HO → Option HO
  | some (.lst xs) => some (.lst xs)
  | some (.frz o u) => some (.frz o u)
  | _ => none
def onlyAt (H : Hp) (a : Addr) : Hp := fun b => if b = a then seqOf (H a) else none
theorem spD_true {K : PySem.W.Frag} {g : Gp} {f : List Vx → Mo Vx} {H : Hp} {a : Addr} {ns : List Int} (hT : ∀ p ∈ g.T, H p.1 = some (.tbl #[])) (hS : SqL K H a (ns.map V.int)) (hf : ∃ h', f [.s ns] [] = .ok (.d (.bl true)) h') :
    spD K g 1 f [.ref a] H (fun v _ => v = .bl true) (fun _ _ _ => False) := by
  obtain ⟨h', e⟩ := hf
  have hF : ∀ b o, onlyAt H a b = some o → H b = some o ∧ notTbl o := fun b o q => by
    unfold onlyAt at q
    split at q
    · rename_i eb
      subst eb
      unfold seqOf at q
      split at q
      · rename_i xs z; cases q; exact ⟨z, notTbl_lst xs⟩
      · rename_i o u z; cases q; exact ⟨z, fun ps y => by cases y⟩
      · cases q
    · cases q
  have hSF : SqL K (onlyAt H a) a (ns.map V.int) := by
    rcases hS with (z | ⟨o, z⟩) | z
    · exact .inl (.inl (by unfold onlyAt seqOf; rw [if_pos rfl, z]))
    · exact .inl (.inr ⟨o, by unfold onlyAt seqOf; rw [if_pos rfl, z]⟩)
    · exact .inr z
  refine ⟨rfl, ⟨onlyAt H a, []⟩, [], [.s ns], ⟨fun b o q => (hF b o q).1, fun b o q => (hF b o q).2, rfl, fun k b o q => (by cases q), fun k b o q => (by cases q), List.nodup_nil, fun p hp => NdefX.TabN.nil (hT p hp)⟩, .cons ⟨a, rfl, hSF⟩ .nil, ?_⟩
  rw [e]
  intro W' v H' ex hr rv
  have rv : RepD K W'.F v (.bl true) := rv
  cases rv
  rfl
theorem cx_none {P : Program} {w : World} {H : Hp} {s : Shared} {e : Value} {s' : Shared} (h : L2.CX P w [] H s (fun _ _ _ => False) e s') : False := by
  obtain ⟨_, _, _, _, _, _, _, _, _, _, _, _, z⟩ := h
  exact z
theorem fd_same {K : PySem.W.Frag} {x x2 qual qual2 : PySem.Str} {params params2 : Arguments} {body body2 : List Stmt} {scope scope2 : Scope} {dvs dvs2 : List V} {kws kws2 : List (PySem.Str × V)} {f : Addr} {fd fd2 : FuncData} (F : FunD K x qual params body scope dvs kws f fd) (F2 : FunD K x2 qual2 params2 body2 scope2 dvs2 kws2 f fd2) : fd = fd2 := by
  obtain ⟨_, _, _, _, _, _, _, _, _, _, _, lk, _⟩ := F.ex
  obtain ⟨_, _, _, _, _, _, _, _, _, _, _, lk2, _⟩ := F2.ex
  rw [lk] at lk2
  cases lk2
  rfl
theorem tab_of_cs {H : Hp} {tl : List (Addr × PySem.Str)} {cs : List (Addr × Addr)} (e : tl.map (·.1) = cs.map (·.2)) (hH : ∀ p ∈ cs, H p.2 = some (.tbl #[])) : ∀ p ∈ tabsOf tl, H p.1 = some (.tbl #[]) := fun p hp => by
  obtain ⟨q, hq, rfl⟩ := List.mem_map.mp hp
  have m : q.1 ∈ cs.map (·.2) := by rw [← e]; exact List.mem_map.mpr ⟨q, hq, rfl⟩
  obtain ⟨z, hz, ez⟩ := List.mem_map.mp m
  show H q.1 = _
  rw [← ez]
  exact hH z hz
end Dn
end
section
set_option Elab.async false
set_option linter.all false
set_option maxRecDepth 100000
set_option maxHeartbeats 4000000
/-! Dn24: plain: loops; the numbers of a script; draws. -/
namespace Dn
open PySem PySem.Spec PyProof.Rows L2

/-- a loop over L, as a walk that gives L's items whatever the heap; P holds at each turn; it may break off into B -/
theorem fGo_list {wk : Wk} {t : MT} {fb : SF} {L : List Vx} {P : Nat → DEnv → DH → Prop} {B : DEnv → DH → Prop} (hL : ∀ i h, wk.item i h = some L[i]?)
    (step : ∀ (i : Nat) (y : Vx) (ρ : DEnv) (h : DH), L[i]? = some y → P i ρ h → ∃ ρ1, asg t y ρ = some ρ1 ∧ ∃ ρ2 h2, (fb ρ1 h = .ok (.nx, ρ2) h2 ∧ P (i + 1) ρ2 h2) ∨ (fb ρ1 h = .ok (.ct, ρ2) h2 ∧ P (i + 1) ρ2 h2) ∨ (fb ρ1 h = .ok (.bk, ρ2) h2 ∧ B ρ2 h2)) :
    ∀ (n i : Nat) (ρ : DEnv) (h : DH), L.length < i + n → i ≤ L.length → P i ρ h → ∃ ρ2 h2, fGo wk t fb n i ρ h = .ok (.nx, ρ2) h2 ∧ (P L.length ρ2 h2 ∨ B ρ2 h2)
  | 0, i, ρ, h, hn, hi, p => by omega
  | n + 1, i, ρ, h, hn, hi, p => by
    unfold fGo
    rw [hL i h]
    by_cases hlt : i < L.length
    · have e : L[i]? = some L[i] := List.getElem?_eq_getElem hlt
      rw [e]
      obtain ⟨ρ1, ea, ρ2, h2, q⟩ := step i _ ρ h e p
      simp only [ea]
      rcases q with ⟨eb, q⟩ | ⟨eb, q⟩ | ⟨eb, q⟩
      · obtain ⟨ρ3, h3, e3, q3⟩ := fGo_list hL step n (i + 1) ρ2 h2 (by omega) hlt q
        exact ⟨ρ3, h3, by unfold bnd; rw [eb]; exact e3, q3⟩
      · obtain ⟨ρ3, h3, e3, q3⟩ := fGo_list hL step n (i + 1) ρ2 h2 (by omega) hlt q
        exact ⟨ρ3, h3, by unfold bnd; rw [eb]; exact e3, q3⟩
      · exact ⟨ρ2, h2, by unfold bnd; rw [eb], .inr q⟩
    · have e : i = L.length := by omega
      subst e
      rw [List.getElem?_eq_none (Nat.le_refl _)]
      exact ⟨ρ, h, rfl, .inl p⟩
theorem item_ds (l : List Dt) (i : Nat) (h : DH) : (Wk.s (.ds l)).item i h = some (l.map Vx.d)[i]? := by
  show some (match l[i]? with | some x => some (Vx.d x) | none => none) = _
  rw [List.getElem?_map]
  cases l[i]? <;> rfl
theorem item_rg (lo : Int) (n : Nat) (i : Nat) (h : DH) : (Wk.rg lo n).item i h = some ((List.range n).map fun j => Vx.d (.int (lo + (j : Nat))))[i]? := by
  show some (if i < n then some (Vx.d (.int (lo + i))) else none) = _
  rw [List.getElem?_map]
  by_cases hi : i < n
  · rw [if_pos hi, List.getElem?_range hi]; rfl
  · rw [if_neg hi, List.getElem?_eq_none (by simpa using hi)]; rfl
/-! ### the numbers of a script -/
def nB1 : SF := sCons (sIf (tTst (eBin dEq (eVar 3) (eC (.int 0)))) (sCons sBk sNil) sNil) (sCons (sExpr (eMt .list mAppend (eVar 1) (aCons (eBin dMod (eCall bInt (aCons (eVar 3) aNil)) (eC (.int 997))) aNil))) (sCons (sSet (.nm 3) (eBin dFdiv (eVar 3) (eC (.int 997)))) sNil))
def nB2 : SF := sCons (sSet (.nm 5) (eBin dMod (eCall bInt (aCons (eBin dAdd (eBin dAdd (eBin dMul (eVar 2) (eC (.int 48271))) (eBin dMul (eVar 4) (eC (.int 69621)))) (eC (.int 11))) aNil)) (eC (.int 2147483647)))) (sCons (sExpr (eMt .list mAppend (eVar 1) (aCons (eBin dMod (eCall bInt (aCons (eBin dAdd (eBin dMul (eVar 5) (eC (.int 16807))) (eVar 4)) aNil)) (eC (.int 2147483629))) aNil))) sNil)
def nB : SF := sCons (sIf (tTst (eBin dGe (eVar 2) (eBin dPow (eC (.int 10)) (eC (.int 18))))) (sCons (sSet (.nm 3) (eVar 2)) (sCons (sFor (wRng1 (aCons (eC (.int 60)) aNil)) (.nm 4) nB1) sNil)) (sCons (sFor (wRng1 (aCons (eC (.int 4)) aNil)) (.nm 4) nB2) sNil)) sNil
def numbersB : SF := sCons (sSet (.nm 1) (eNew aNil)) (sCons (sFor (wVal (eSl (eVar 0) oNone (oSome (eC (.int 63))))) (.nm 2) nB) (sCons (sIf (tTst (eBin dEq (eCall bLen (aCons (eVar 1) aNil)) (eC (.int 0)))) (sCons (sExpr (eMt .list mAppend (eVar 1) (aCons (eC (.int 0)) aNil))) sNil) sNil) (sCons (sRet (eVar 1)) sNil)))
def numbersM : List Vx → Mo Vx := fun ys => fnM 6 numbersB ys
def zL (rs : List Int) : List Vx := rs.map fun r => Vx.d (.int r)
theorem zL_len (rs : List Int) : (zL rs).length = rs.length := List.length_map ..
theorem zL_app (rs : List Int) (r : Int) : zL rs ++ [Vx.d (.int r)] = zL (rs ++ [r]) := by simp [zL]
def NSt (s : Option Vx) (k : Nat) (ρ : DEnv) (h : DH) : Prop := ∃ (x2 x3 x4 x5 : Option Vx) (rs : List Int), ρ = [s, some (.r 0), x2, x3, x4, x5] ∧ h = [.lst (zL rs)] ∧ rs.length ≤ k
theorem mul_c (i j : Int) (h : j.natAbs < 18446744073709551616) : mulOk i j = true := by
  unfold mulOk
  rw [decide_eq_true h]
  simp
theorem mul_d (i j : Int) (h : i.natAbs < 18446744073709551616) : mulOk i j = true := by
  unfold mulOk
  rw [decide_eq_true h]
  simp
theorem app_z (rs : List Int) (r : Int) (hl : rs.length < 16777216) : mAppend (.r 0) [.d (.int r)] [.lst (zL rs)] = .ok (.d .non) [.lst (zL (rs ++ [r]))] := by
  have h2 : (zL rs).length < 16777216 := by rw [zL_len]; exact hl
  show (if (zL rs).length < 16777216 then _ else _) = _
  rw [if_pos h2, ← zL_app]
  rfl
theorem fdiv_c (i j : Int) (h : DH) (hc : 0 < j ∧ j.natAbs.log2 < 9000) : dFdiv (.d (.int i)) (.d (.int j)) h = .ok (.d (.int (i / j))) h := if_pos hc
theorem mod_c (i j : Int) (h : DH) (hc : 0 < j) : dMod (.d (.int i)) (.d (.int j)) h = .ok (.d (.int (i % j))) h := if_pos hc
theorem mul_r (i j : Int) (h : DH) (hc : j.natAbs < 18446744073709551616) : dMul (.d (.int i)) (.d (.int j)) h = .ok (.d (.int (i * j))) h := if_pos (mul_c i j hc)
theorem pow_c (i j : Int) (h : DH) (hc : 0 ≤ j ∧ j ≤ 1000 ∧ i.natAbs < 1000000) : dPow (.d (.int i)) (.d (.int j)) h = .ok (.d (.int (i ^ j.toNat))) h := if_pos hc
theorem bnd_ok {α β : Type} {m : Mo α} {k : α → Mo β} {a : α} {h h' : DH} (e : m h = .ok a h') : bnd m k h = k a h' := by
  unfold bnd; rw [e]
theorem nB1_run (s x2 x5 : Option Vx) (l k : Int) (rs : List Int) (hl : rs.length < 16777216) :
    nB1 [s, some (.r 0), x2, some (.d (.int l)), some (.d (.int k)), x5] [.lst (zL rs)] = if l = 0 then .ok (.bk, [s, some (.r 0), x2, some (.d (.int l)), some (.d (.int k)), x5]) [.lst (zL rs)]
      else .ok (.nx, [s, some (.r 0), x2, some (.d (.int (l / 997))), some (.d (.int k)), x5]) [.lst (zL (rs ++ [l % 997]))] := by
  by_cases h0 : l = 0
  · rw [if_pos h0]
    subst h0
    rfl
  · rw [if_neg h0]
    have e : deq (.int l) (.int 0) = false := by
      show decide (l = 0) = false
      exact decide_eq_false h0
    have e1 := app_z rs (l % 997) hl
    have e2 := fun h => fdiv_c l 997 h ⟨by decide, by decide +kernel⟩
    simp [nB1, sCons, sIf, tTst, eBin, bnd, ret, eVar, eC, dEq, asD, dep, e, isBl, sNil, sExpr, eMt, tyD, asL, aCons, aNil, eCall, bInt, mod_c, e1, sSet, e2, asg]
theorem nB2_run (s x3 x5 : Option Vx) (a k : Int) (rs : List Int) (hl : rs.length < 16777216) :
    ∃ r1 r2 : Int, nB2 [s, some (.r 0), some (.d (.int a)), x3, some (.d (.int k)), x5] [.lst (zL rs)] = .ok (.nx, [s, some (.r 0), some (.d (.int a)), x3, some (.d (.int k)), some (.d (.int r1))]) [.lst (zL (rs ++ [r2]))] := by
  refine ⟨(a * 48271 + k * 69621 + 11) % 2147483647, ((a * 48271 + k * 69621 + 11) % 2147483647 * 16807 + k) % 2147483629, ?_⟩
  have e1 := app_z rs (((a * 48271 + k * 69621 + 11) % 2147483647 * 16807 + k) % 2147483629) hl
  simp [nB2, sCons, eBin, bnd, ret, eVar, eC, sNil, sExpr, eMt, tyD, asL, aCons, aNil, eCall, bInt, mod_c, mul_r, dAdd, e1, sSet, asg]
theorem rg_item (lo : Int) (n i : Nat) (y : Vx) (e : ((List.range n).map fun j => Vx.d (.int (lo + (j : Nat))))[i]? = some y) : ∃ k : Int, y = .d (.int k) := by
  rw [List.getElem?_map] at e
  cases e2 : (List.range n)[i]? with
  | none => rw [e2] at e; cases e
  | some j => rw [e2] at e; exact ⟨_, (Option.some.inj e).symm⟩
theorem nB_run (s x3 x4 x5 : Option Vx) (a : Int) (rs : List Int) (hl : rs.length + 60 < 16777216) :
    ∃ (y3 y4 y5 : Option Vx) (rs' : List Int), nB [s, some (.r 0), some (.d (.int a)), x3, x4, x5] [.lst (zL rs)] = .ok (.nx, [s, some (.r 0), some (.d (.int a)), y3, y4, y5]) [.lst (zL rs')] ∧ rs'.length ≤ rs.length + 60 := by
  have hp : (10 : Int) ^ (18 : Int).toNat = 1000000000000000000 := rfl
  by_cases hc : 1000000000000000000 ≤ a
  · have L := fGo_list (wk := .rg 0 60) (t := .nm 4) (fb := nB1) (L := (List.range 60).map fun j => Vx.d (.int (0 + (j : Nat)))) (item_rg 0 60)
      (P := fun i ρ h => ∃ (l : Int) (x4 : Option Vx) (rs' : List Int), ρ = [s, some (.r 0), some (.d (.int a)), some (.d (.int l)), x4, x5] ∧ h = [.lst (zL rs')] ∧ rs'.length = rs.length + i)
      (B := fun ρ h => ∃ (l : Int) (x4 : Option Vx) (rs' : List Int), ρ = [s, some (.r 0), some (.d (.int a)), some (.d (.int l)), x4, x5] ∧ h = [.lst (zL rs')] ∧ rs'.length ≤ rs.length + 60)
      (by
        rintro i y ρ h ey ⟨l, x4, rs', rfl, rfl, hr⟩
        obtain ⟨k, rfl⟩ := rg_item _ _ _ _ ey
        have hi : i < 60 := by
          rw [List.getElem?_eq_some_iff] at ey
          obtain ⟨q, _⟩ := ey
          simpa using q
        have := nB1_run s (some (.d (.int a))) x5 l k rs' (by omega)
        refine ⟨_, rfl, ?_⟩
        by_cases h0 : l = 0
        · rw [if_pos h0] at this
          exact ⟨_, _, .inr (.inr ⟨this, _, _, _, rfl, rfl, by omega⟩)⟩
        · rw [if_neg h0] at this
          exact ⟨_, _, .inl ⟨this, _, _, _, rfl, rfl, by simp; omega⟩⟩)
    obtain ⟨ρ2, h2, e, q⟩ := L 61 0 [s, some (.r 0), some (.d (.int a)), some (.d (.int a)), x4, x5] [.lst (zL rs)] (by simp) (by simp) ⟨_, _, _, rfl, rfl, rfl⟩
    have q : ∃ (l : Int) (x4 : Option Vx) (rs' : List Int), ρ2 = [s, some (.r 0), some (.d (.int a)), some (.d (.int l)), x4, x5] ∧ h2 = [.lst (zL rs')] ∧ rs'.length ≤ rs.length + 60 := by
      rcases q with ⟨l, x4, rs', q1, q2, q3⟩ | q
      · exact ⟨l, x4, rs', q1, q2, by simp at q3; omega⟩
      · exact q
    obtain ⟨l, x4', rs', rfl, rfl, q3⟩ := q
    refine ⟨some (.d (.int l)), x4', x5, rs', ?_, q3⟩
    simp [nB, sCons, sIf, tTst, eBin, bnd, ret, eVar, eC, dGe, pow_c, hp, hc, isBl, sNil, sSet, asg, sFor, wRng1, aCons, aNil, Wk.len]
    rw [e]
  · have L := fGo_list (wk := .rg 0 4) (t := .nm 4) (fb := nB2) (L := (List.range 4).map fun j => Vx.d (.int (0 + (j : Nat)))) (item_rg 0 4)
      (P := fun i ρ h => ∃ (x4 x5 : Option Vx) (rs' : List Int), ρ = [s, some (.r 0), some (.d (.int a)), x3, x4, x5] ∧ h = [.lst (zL rs')] ∧ rs'.length = rs.length + i)
      (B := fun ρ h => False)
      (by
        rintro i y ρ h ey ⟨x4, x5, rs', rfl, rfl, hr⟩
        obtain ⟨k, rfl⟩ := rg_item _ _ _ _ ey
        have hi : i < 4 := by
          rw [List.getElem?_eq_some_iff] at ey
          obtain ⟨q, _⟩ := ey
          simpa using q
        obtain ⟨r1, r2, this⟩ := nB2_run s x3 x5 a k rs' (by omega)
        exact ⟨_, rfl, _, _, .inl ⟨this, _, _, _, rfl, rfl, by simp; omega⟩⟩)
    obtain ⟨ρ2, h2, e, q⟩ := L 5 0 [s, some (.r 0), some (.d (.int a)), x3, x4, x5] [.lst (zL rs)] (by simp) (by simp) ⟨_, _, _, rfl, rfl, rfl⟩
    rcases q with ⟨x4', x5', rs', rfl, rfl, q3⟩ | q
    · refine ⟨x3, x4', x5', rs', ?_, by simp at q3; omega⟩
      simp [nB, sCons, sIf, tTst, eBin, bnd, ret, eVar, eC, dGe, pow_c, hp, hc, isBl, sNil, sFor, wRng1, aCons, aNil, Wk.len]
      rw [e]
    · exact q.elim
theorem cut63 (ns : List Int) (h : ns.length ≤ 63) : cutD ns none (some 63) = ns := by
  apply cutD_whole
  constructor
  · simp [HT.sIx]
  · simp [HT.sIx]; omega
theorem intL_item (ns : List Int) (i : Nat) (y : Vx) (e : ((ns.map Dt.int).map Vx.d)[i]? = some y) : ∃ a : Int, y = .d (.int a) := by
  rw [List.getElem?_map, List.getElem?_map] at e
  cases e2 : ns[i]? with
  | none => rw [e2] at e; cases e
  | some j => rw [e2] at e; exact ⟨_, (Option.some.inj e).symm⟩
theorem numbers_run (ns : List Int) (hn : ns.length ≤ 63) : ∃ rs : List Int, numbersM [.s ns] [] = .ok (.r 0) [.lst (zL rs)] ∧ rs ≠ [] ∧ rs.length ≤ 3780 := by
  have L := fGo_list (wk := .s (.ds (ns.map Dt.int))) (t := .nm 2) (fb := nB) (L := (ns.map Dt.int).map Vx.d) (item_ds _)
    (P := fun i ρ h => ∃ (x2 x3 x4 x5 : Option Vx) (rs' : List Int), ρ = [some (.s ns), some (.r 0), x2, x3, x4, x5] ∧ h = [.lst (zL rs')] ∧ rs'.length ≤ 60 * i)
    (B := fun ρ h => False)
    (by
      rintro i y ρ h ey ⟨x2, x3, x4, x5, rs', rfl, rfl, hr⟩
      obtain ⟨a, rfl⟩ := intL_item _ _ _ ey
      have hi : i < ns.length := by
        rw [List.getElem?_eq_some_iff] at ey
        obtain ⟨q, _⟩ := ey
        simpa using q
      obtain ⟨y3, y4, y5, rs2, e, q⟩ := nB_run (some (.s ns)) x3 x4 x5 a rs' (by omega)
      exact ⟨_, rfl, _, _, .inl ⟨e, _, _, _, _, _, rfl, rfl, by omega⟩⟩)
  obtain ⟨ρ2, h2, e, q⟩ := L (ns.length + 1) 0 [some (.s ns), some (.r 0), none, none, none, none] [.lst (zL [])] (by simp) (by simp) ⟨_, _, _, _, _, rfl, rfl, by simp⟩
  rcases q with ⟨x2, x3, x4, x5, rs', rfl, rfl, hr⟩ | q
  · have hr : rs'.length ≤ 3780 := by simp at hr; omega
    have e0 : numbersM [.s ns] [] = bnd (sCons (sIf (tTst (eBin dEq (eCall bLen (aCons (eVar 1) aNil)) (eC (.int 0)))) (sCons (sExpr (eMt .list mAppend (eVar 1) (aCons (eC (.int 0)) aNil))) sNil) sNil) (sCons (sRet (eVar 1)) sNil) [some (.s ns), some (.r 0), x2, x3, x4, x5]) bodyEnd [.lst (zL rs')] := by
      have e' : fGo (.s (.ds (ns.map Dt.int))) (.nm 2) nB (ns.length + 1) 0 [some (.s ns), some (.r 0), none, none, none, none] [.lst []] = _ := e
      simp [numbersM, fnM, numbersB, start0, sCons, sSet, eNew, aNil, bnd, ret, asg, sFor, wVal, eSl, eVar, oNone, oSome, eC, dSl, cut63 ns hn, srcOf, Src.item, Wk.len, Src.len, e']
    rw [e0]
    by_cases hz : rs' = []
    · subst hz
      exact ⟨[0], rfl, by simp, by simp⟩
    · refine ⟨rs', ?_, hz, hr⟩
      have hz : ¬ rs'.length = 0 := by simpa using hz
      have eq : deq (.int (rs'.length : Int)) (.int 0) = false := by
        show decide ((rs'.length : Int) = 0) = false
        exact decide_eq_false (by omega)
      simp [sCons, sIf, tTst, eBin, eCall, bLen, aCons, eVar, aNil, ret, bnd, eC, dEq, asD, dep, isBl, sNil, sRet, bodyEnd, asL, zL_len, eq]
  · exact q.elim
end Dn
end
section
set_option Elab.async false
set_option linter.all false
set_option maxRecDepth 100000
set_option maxHeartbeats 4000000
/-! Dn25: plain: draws and takes from a row. -/
namespace Dn
open PySem PySem.Spec PyProof.Rows L2
theorem reifyL_z (ex : Nat → Bool) (h : DH) (n : Nat) : ∀ rs : List Int, reifyL (reify ex h n) (zL rs) = some (rs.map Dt.int)
  | [] => rfl
  | r :: rs => by
    show (match reify ex h n (.d (.int r)), reifyL (reify ex h n) (zL rs) with | some d, some ds => some (d :: ds) | _, _ => none) = _
    rw [reifyL_z ex h n rs]
    cases n <;> rfl
/-- the numbers, as the caller gets them -/
theorem numbers_call (ns : List Int) (hn : ns.length ≤ 63) : ∃ rs : List Int, (∀ h, callM [false] numbersM [.s ns] h = .ok (.d (.lst (rs.map Dt.int))) h) ∧ rs ≠ [] ∧ rs.length ≤ 3780 := by
  obtain ⟨rs, e, h0, h1⟩ := numbers_run ns hn
  refine ⟨rs, fun h => ?_, h0, h1⟩
  show back false none h (numbersM [.s ns] []) = _
  rw [e]
  simp [back, reify, reifyL_z, putBack]
def drawB : SF := sCons (sIf (tTst (eBin dLt (eVar 1) (eCall bLen (aCons (eVar 0) aNil)))) (sCons (sRet (eBin dMod (eCall bInt (aCons (eBin dIx (eVar 0) (eVar 1)) aNil)) (eVar 2))) sNil) sNil) (sCons (sSet (.nm 3) (eBin dMod (eCall bInt (aCons (eBin dAdd (eBin dAdd (eBin dMul (eBin dIx (eVar 0) (eBin dMod (eCall bInt (aCons (eVar 1) aNil)) (eCall bLen (aCons (eVar 0) aNil)))) (eC (.int 40692))) (eBin dMul (eVar 1) (eC (.int 7919)))) (eC (.int 3))) aNil)) (eC (.int 2147483399)))) (sCons (sRet (eBin dMod (eCall bInt (aCons (eBin dMod (eCall bInt (aCons (eBin dAdd (eBin dMul (eVar 3) (eC (.int 48271))) (eVar 1)) aNil)) (eC (.int 2147483647))) aNil)) (eVar 2))) sNil))
def drawM : List Vx → Mo Vx := fun ys => fnM 4 drawB ys
def takeB : SF := sCons (sPut (eVar 1) (eC (.int 0)) (eBin dAdd (eBin dIx (eVar 1) (eC (.int 0))) (eC (.int 1))) dPut) (sCons (sRet (eCall (fun ys => callM [false, false, false] drawM (ys ++ ([] : List Dt).map Vx.d)) (aCons (eVar 0) (aCons (eBin dSub (eBin dIx (eVar 1) (eC (.int 0))) (eC (.int 1))) (aCons (eVar 2) aNil))))) sNil)
def takeM : List Vx → Mo Vx := fun ys => fnM 3 takeB ys
theorem ix_row (rs : List Int) (i : Int) (h : DH) (h0 : 0 ≤ i) (h1 : i < rs.length) : ∃ r, dIx (.d (.lst (rs.map Dt.int))) (.d (.int i)) h = .ok (.d (.int r)) h := by
  obtain ⟨n, rfl⟩ := Int.eq_ofNat_of_zero_le h0
  have hn : n < rs.length := by omega
  refine ⟨rs[n], ?_⟩
  have e : ((rs.map Dt.int).map Vx.d)[n]? = some (.d (.int rs[n])) := by simp [hn]
  have e2 : atI ((rs.map Dt.int).map Vx.d) (n : Int) = some (.d (.int rs[n])) := by
    unfold atI ixN
    simp [hn]
  show (match atI ((rs.map Dt.int).map Vx.d) (n : Int) with | some y => (Rz.ok y h : Rz Vx) | none => Rz.stk) = _
  rw [e2]
theorem add_i (i j : Int) (h : DH) : dAdd (.d (.int i)) (.d (.int j)) h = .ok (.d (.int (i + j))) h := rfl
theorem draw_run (rs : List Int) (hr : rs ≠ []) (at' lim : Int) (ha : 0 ≤ at') (hl : 0 < lim) (h : DH) : ∃ p, drawM [.d (.lst (rs.map Dt.int)), .d (.int at'), .d (.int lim)] h = .ok (.d (.int p)) h ∧ 0 ≤ p ∧ p < lim := by
  have hz : 0 < rs.length := List.length_pos_iff.2 hr
  by_cases hc : at' < rs.length
  · obtain ⟨r, e⟩ := ix_row rs at' h ha hc
    refine ⟨r % lim, ?_, Int.emod_nonneg _ (by omega), Int.emod_lt_of_pos _ hl⟩
    simp [drawM, drawB, fnM, start0, sCons, sIf, tTst, eBin, bnd, ret, eVar, eC, dLt, isBl, eCall, bLen, aCons, aNil, asL, hc, sRet, bInt, bodyEnd, e, mod_c, hl]
  · obtain ⟨r, e⟩ := ix_row rs (at' % rs.length) h (Int.emod_nonneg _ (by omega)) (Int.emod_lt_of_pos _ (by omega))
    refine ⟨((((r * 40692 + at' * 7919 + 3) % 2147483399) * 48271 + at') % 2147483647) % lim, ?_, Int.emod_nonneg _ (by omega), Int.emod_lt_of_pos _ hl⟩
    have em := mod_c at' rs.length h (by omega)
    simp [drawM, drawB, fnM, start0, sCons, sIf, tTst, eBin, bnd, ret, eVar, eC, dLt, isBl, eCall, bLen, aCons, aNil, asL, hc, sRet, bInt, bodyEnd, e, mod_c, hl, em, mul_r, add_i, sNil, sSet, asg]
theorem draw_call (rs : List Int) (hr : rs ≠ []) (at' lim : Int) (ha : 0 ≤ at') (hl : 0 < lim) (h : DH) : ∃ p, callM [false, false, false] drawM [.d (.lst (rs.map Dt.int)), .d (.int at'), .d (.int lim)] h = .ok (.d (.int p)) h ∧ 0 ≤ p ∧ p < lim := by
  obtain ⟨p, e, q⟩ := draw_run rs hr at' lim ha hl []
  refine ⟨p, ?_, q⟩
  show back false none h (drawM [.d (.lst (rs.map Dt.int)), .d (.int at'), .d (.int lim)] []) = _
  rw [e]
  rfl
/-- a draw from a row, the spot k moved on -/
theorem take_call (rs : List Int) (hr : rs ≠ []) (k : Nat) (n lim : Int) (hn : 0 ≤ n) (hl : 0 < lim) (h : DH) (hk : h[k]? = some (.lst [.d (.int n)])) :
    ∃ p, callM [false, true, false] takeM [.d (.lst (rs.map Dt.int)), .r k, .d (.int lim)] h = .ok (.d (.int p)) (h.set k (.lst [.d (.int (n + 1))])) ∧ 0 ≤ p ∧ p < lim := by
  obtain ⟨p, e, q⟩ := draw_call rs hr n lim hn hl [.lst [.d (.int (n + 1))]]
  refine ⟨p, ?_, q⟩
  have et : takeM [.d (.lst (rs.map Dt.int)), .r 0, .d (.int lim)] [.lst [.d (.int n)]] = .ok (.d (.int p)) [.lst [.d (.int (n + 1))]] := by
    simp [takeM, takeB, fnM, start0, sCons, sPut, eBin, bnd, ret, eVar, eC, eCall, aCons, aNil, asL, sRet, bodyEnd, dIx, atI, ixN, dAdd, dPut, dSub, e]
  simp [callM, passed, subOf, hk, plains, prep, lent, et, back, reify, putBack, noLsts, noLst]
end Dn
end
section
set_option Elab.async false
set_option linter.all false
set_option maxRecDepth 100000
set_option maxHeartbeats 4000000
/-! Dn26: plain: a piece of code looks at some slots only, and changes some slots only. -/
namespace Dn
open PySem PySem.Spec PyProof.Rows L2
def Sim (R : List Nat) (a b : DEnv) : Prop := ∀ i ∈ R, a[i]? = b[i]?
def Rd {α : Type} (R : List Nat) (f : DEnv → α) : Prop := ∀ a b, Sim R a b → f a = f b
section
variable {R : List Nat} {fa fb fc : DEnv → Mo Vx} {fs fr : DEnv → Mo (List Vx)} {ft fu : DEnv → Mo Bool}
theorem rd_var {i : Nat} (h : i ∈ R) : Rd R (eVar i) := fun a b s => by unfold eVar; rw [s i h]
theorem rd_c {d : Dt} : Rd R (eC d) := fun a b s => rfl
theorem rd_bin {dop : Vx → Vx → Mo Vx} (ha : Rd R fa) (hb : Rd R fb) : Rd R (eBin dop fa fb) := fun a b s => by unfold eBin; rw [ha a b s, hb a b s]
theorem rd_un {dop : Vx → Mo Vx} (ha : Rd R fa) : Rd R (eUn dop fa) := fun a b s => by unfold eUn; rw [ha a b s]
theorem rd_call {dop : List Vx → Mo Vx} (ha : Rd R fs) : Rd R (eCall dop fs) := fun a b s => by unfold eCall; rw [ha a b s]
theorem rd_mt {T : Ty} {dop : Vx → List Vx → Mo Vx} (ha : Rd R fa) (hb : Rd R fs) : Rd R (eMt T dop fa fs) := fun a b s => by unfold eMt; rw [ha a b s, hb a b s]
theorem rd_nil : Rd R aNil := fun a b s => rfl
theorem rd_cons (ha : Rd R fa) (hb : Rd R fs) : Rd R (aCons fa fs) := fun a b s => by unfold aCons; rw [ha a b s, hb a b s]
theorem rd_tup (ha : Rd R fs) : Rd R (eTup fs) := fun a b s => by unfold eTup; rw [ha a b s]
theorem rd_lst (ha : Rd R fs) : Rd R (eLst fs) := fun a b s => by unfold eLst; rw [ha a b s]
theorem rd_new (ha : Rd R fs) : Rd R (eNew fs) := fun a b s => by unfold eNew; rw [ha a b s]
theorem rd_if (ht : Rd R ft) (ha : Rd R fa) (hb : Rd R fb) : Rd R (eIf ft fa fb) := fun a b s => by unfold eIf; rw [ht a b s, ha a b s, hb a b s]
theorem rd_and (ha : Rd R fa) (hb : Rd R fb) : Rd R (eAnd fa fb) := fun a b s => by unfold eAnd; rw [ha a b s, hb a b s]
theorem rd_or (ha : Rd R fa) (hb : Rd R fb) : Rd R (eOr fa fb) := fun a b s => by unfold eOr; rw [ha a b s, hb a b s]
theorem rd_not (ha : Rd R fa) : Rd R (eNot fa) := fun a b s => by unfold eNot; rw [ha a b s]
theorem rd_isi {cs : List Tn} (ha : Rd R fa) : Rd R (eIsi cs fa) := fun a b s => by unfold eIsi; rw [ha a b s]
theorem rd_chain {d1 d2 : Vx → Vx → Mo Vx} (ha : Rd R fa) (hb : Rd R fb) (hc : Rd R fc) : Rd R (eChain d1 d2 fa fb fc) := fun a b s => by unfold eChain; rw [ha a b s, hb a b s, hc a b s]
theorem rd_tst (ha : Rd R fa) : Rd R (tTst fa) := fun a b s => by unfold tTst; rw [ha a b s]
theorem rd_val (ha : Rd R fa) : Rd R (tVal fa) := fun a b s => by unfold tVal; rw [ha a b s]
theorem rd_notD (ha : Rd R ft) : Rd R (tNotD ft) := fun a b s => by unfold tNotD; rw [ha a b s]
theorem rd_andD (ha : Rd R ft) (hb : Rd R fu) : Rd R (tAndD ft fu) := fun a b s => by unfold tAndD; rw [ha a b s, hb a b s]
theorem rd_orD (ha : Rd R ft) (hb : Rd R fu) : Rd R (tOrD ft fu) := fun a b s => by unfold tOrD; rw [ha a b s, hb a b s]
theorem rd_told {nms : List (List Nat)} (ha : Rd R fa) : Rd R (eTold nms fa) := fun a b s => by unfold eTold; rw [ha a b s]
theorem rd_sl {fl fh : DEnv → Mo (Option Int)} (ha : Rd R fa) (hb : Rd R fl) (hc : Rd R fh) : Rd R (eSl fa fl fh) := fun a b s => by unfold eSl; rw [ha a b s, hb a b s, hc a b s]
theorem rd_oN : Rd R oNone := fun a b s => rfl
theorem rd_oS (ha : Rd R fa) : Rd R (oSome fa) := fun a b s => by unfold oSome; rw [ha a b s]
end
/-- results alike: on a plain end the slots of R are alike, and the first differs from a in D only -/
def SRel (D R : List Nat) (a b : DEnv) : Rz (Out × DEnv) → Rz (Out × DEnv) → Prop
  | .ok (o, a1) h, .ok (o', b1) h' => o = o' ∧ h = h' ∧ (o = .nx → Sim R a1 b1 ∧ a1.length = a.length ∧ b1.length = b.length ∧ ∀ i, i ∉ D → a1[i]? = a[i]?)
  | .err c p h, .err c' p' h' => c = c' ∧ p = p' ∧ h = h'
  | .stk, .stk => True
  | _, _ => False
def SRd (D R R' : List Nat) (f : SF) : Prop := ∀ a b h, Sim R a b → a.length = b.length → SRel D R' a b (f a h) (f b h)
section
variable {D R R1 R2 : List Nat} {fa : DEnv → Mo Vx} {ft : DEnv → Mo Bool} {f1 f2 : SF}
theorem SRel.same {a b : DEnv} {o : Out} {h : DH} (s : o = .nx → Sim R a b) : SRel D R a b (.ok (o, a) h) (.ok (o, b) h) := ⟨rfl, rfl, fun e => ⟨s e, rfl, rfl, fun _ _ => rfl⟩⟩
theorem sr_nil : SRd D R R sNil := fun a b h s l => SRel.same fun _ => s
theorem sr_set {i : Nat} (ha : Rd R fa) (hd : i ∈ D) : SRd D R (i :: R) (sSet (.nm i) fa) := fun a b h s l => by
  unfold sSet bnd
  rw [ha a b s]
  cases fa b h with
  | stk => trivial
  | err c p h1 => exact ⟨rfl, rfl, rfl⟩
  | ok y h1 =>
    refine ⟨rfl, rfl, fun _ => ⟨fun j hj => ?_, List.length_set .., List.length_set .., fun j hj => ?_⟩⟩
    · rw [List.getElem?_set, List.getElem?_set]
      by_cases e : i = j
      · rw [if_pos e, if_pos e, l]
      · rw [if_neg e, if_neg e]
        exact s j ((List.mem_cons.1 hj).resolve_left fun q => e q.symm)
    · rw [List.getElem?_set_ne]
      intro e
      exact hj (e ▸ hd)
theorem sr_ret (ha : Rd R fa) : SRd D R R1 (sRet fa) := fun a b h s l => by
  unfold sRet bnd
  rw [ha a b s]
  cases fa b h with
  | stk => trivial
  | err c p h1 => exact ⟨rfl, rfl, rfl⟩
  | ok y h1 => exact SRel.same fun e => nomatch e
theorem sr_expr (ha : Rd R fa) : SRd D R R (sExpr fa) := fun a b h s l => by
  unfold sExpr bnd
  rw [ha a b s]
  cases fa b h with
  | stk => trivial
  | err c p h1 => exact ⟨rfl, rfl, rfl⟩
  | ok y h1 => exact SRel.same fun _ => s
theorem sr_if (ht : Rd R ft) (h1 : SRd D R R1 f1) (h2 : SRd D R R1 f2) : SRd D R R1 (sIf ft f1 f2) := fun a b h s l => by
  unfold sIf bnd
  rw [ht a b s]
  cases ft b h with
  | stk => trivial
  | err c p h1 => exact ⟨rfl, rfl, rfl⟩
  | ok y hh => cases y with
    | true => exact h1 a b hh s l
    | false => exact h2 a b hh s l
theorem sr_sub (h1 : SRd D R R1 f1) (q : ∀ i ∈ R2, i ∈ R1) : SRd D R R2 f1 := fun a b h s l => by
  have := h1 a b h s l
  revert this
  cases f1 a h with
  | stk => cases f1 b h with
    | stk => exact id
    | err _ _ _ => exact id
    | ok _ _ => exact id
  | err _ _ _ => cases f1 b h with
    | stk => exact id
    | err _ _ _ => exact id
    | ok _ _ => exact id
  | ok x _ => cases f1 b h with
    | stk => exact id
    | err _ _ _ => exact id
    | ok y _ => exact fun ⟨e1, e2, e3⟩ => ⟨e1, e2, fun e => ⟨fun i hi => (e3 e).1 i (q i hi), (e3 e).2⟩⟩
theorem sr_cons (h1 : SRd D R R1 f1) (h2 : SRd D R1 R2 f2) : SRd D R R2 (sCons f1 f2) := fun a b h s l => by
  have q := h1 a b h s l
  unfold sCons bnd
  revert q
  cases f1 a h with
  | stk => cases f1 b h with
    | stk => exact fun _ => trivial
    | err _ _ _ => exact False.elim
    | ok _ _ => exact False.elim
  | err _ _ _ => cases f1 b h with
    | stk => exact False.elim
    | err _ _ _ => exact id
    | ok _ _ => exact False.elim
  | ok x hx => cases f1 b h with
    | stk => exact False.elim
    | err _ _ _ => exact False.elim
    | ok y hy =>
      obtain ⟨o, a1⟩ := x
      obtain ⟨o', b1⟩ := y
      rintro ⟨rfl, rfl, e3⟩
      cases o with
      | nx =>
        obtain ⟨s1, l1, l2, k1⟩ := e3 rfl
        have q2 := h2 a1 b1 hx s1 (l1.trans (l.trans l2.symm))
        show SRel D R2 a b (f2 a1 hx) (f2 b1 hx)
        revert q2
        cases f2 a1 hx with
        | stk => cases f2 b1 hx with
          | stk => exact id
          | err _ _ _ => exact id
          | ok _ _ => exact id
        | err _ _ _ => cases f2 b1 hx with
          | stk => exact id
          | err _ _ _ => exact id
          | ok _ _ => exact id
        | ok x2 hx2 => cases f2 b1 hx with
          | stk => exact id
          | err _ _ _ => exact id
          | ok y2 hy2 => exact fun ⟨e1, e2, e4⟩ => ⟨e1, e2, fun e => ⟨(e4 e).1, (e4 e).2.1.trans l1, (e4 e).2.2.1.trans l2, fun i hi => ((e4 e).2.2.2 i hi).trans (k1 i hi)⟩⟩
      | bk => exact ⟨rfl, rfl, fun e => nomatch e⟩
      | ct => exact ⟨rfl, rfl, fun e => nomatch e⟩
      | rt _ => exact ⟨rfl, rfl, fun e => nomatch e⟩
/-- a run at b is a run at a -/
theorem SRd.run (hf : SRd D R R1 f1) {a b b1 : DEnv} {h h1 : DH} (s : Sim R a b) (l : a.length = b.length) (e : f1 b h = .ok (.nx, b1) h1) :
    ∃ a1, f1 a h = .ok (.nx, a1) h1 ∧ Sim R1 a1 b1 ∧ a1.length = a.length ∧ ∀ i, i ∉ D → a1[i]? = a[i]? := by
  have q := hf a b h s l
  rw [e] at q
  revert q
  cases f1 a h with
  | stk => exact False.elim
  | err _ _ _ => exact False.elim
  | ok x hx =>
    obtain ⟨o, a1⟩ := x
    rintro ⟨rfl, rfl, e3⟩
    exact ⟨a1, rfl, (e3 rfl).1, (e3 rfl).2.1, (e3 rfl).2.2.2⟩
end
/-- ends plainly with the heap as it was: one spot drawn once -/
def plain1 : Rz (Out × DEnv) → Bool
  | .ok (.nx, _) [.lst [.d (.int 1)]] => true
  | _ => false
theorem plain1_eq {r : Rz (Out × DEnv)} (h : plain1 r = true) : ∃ a, r = .ok (.nx, a) [.lst [.d (.int 1)]] := by
  unfold plain1 at h
  split at h
  · exact ⟨_, rfl⟩
  · cases h
theorem sIf_and {t1 t2 : DEnv → Mo Bool} {fa fb : SF} {a : DEnv} {h : DH} {b : Bool} (e : t1 a h = .ok b h) : sIf (tAndD t1 t2) fa fb a h = if b = true then sIf t2 fa fb a h else fb a h := by
  unfold sIf tAndD bnd
  rw [e]
  cases b <;> rfl
end Dn
end
section
set_option Elab.async false
set_option linter.all false
set_option maxRecDepth 100000
set_option maxHeartbeats 4000000
/-! Dn27: readings of the small parts, by themselves. -/
namespace Dn
open PySem PySem.Spec PyProof.Rows L2
def M_in_tuples : Nat → List Vx → Mo Vx
  | 0, _ => stk
  | n + 1, ys => fnM 2 (sCons (sIf (tVal (eIsi [.list, .tuple] (eVar 0))) (sCons (sRet (eCall bTuple (aCons (eLc true (wVal (eVar 0)) (.nm 1) tYesD (eCall (fun ys => callM [false] (M_in_tuples n) (ys ++ ([] : List Dt).map Vx.d)) (aCons (eVar 1) aNil)) [1]) aNil))) sNil) sNil) (sCons (sRet (eVar 0)) sNil)) ys
def M_demand : List Vx → Mo Vx := fun ys => fnM 2 (sCons (sIf (tNotD (tVal (eVar 0))) (sCons (sRaise 0 (M_in_tuples 24) (eVar 1)) sNil) sNil) sNil) ys
def M_is_integer : List Vx → Mo Vx := fun ys => fnM 1 (sCons (sRet (eAnd (eIsi [.int] (eVar 0)) (eNot (eIsi [.bool] (eVar 0))))) sNil) ys
def M_is_between : List Vx → Mo Vx := fun ys => fnM 3 (sCons (sRet (eAnd (eCall (fun ys => callM [false] M_is_integer (ys ++ ([] : List Dt).map Vx.d)) (aCons (eVar 0) aNil)) (eChain dLe dLe (eVar 1) (eVar 0) (eVar 2)))) sNil) ys
def M_is_sequence : List Vx → Mo Vx := fun ys => fnM 1 (sCons (sRet (eIsi [.list, .tuple] (eVar 0))) sNil) ys
def M_is_fraction : List Vx → Mo Vx := fun ys => fnM 4 (sCons (sIf (tOrD (tNotD (tVal (eCall (fun ys => callM [false] M_is_sequence (ys ++ ([] : List Dt).map Vx.d)) (aCons (eVar 0) aNil)))) (tTst (eBin dNe (eCall bLen (aCons (eVar 0) aNil)) (eC (.int 2))))) (sCons (sRet (eC (.bl false))) sNil) sNil) (sCons (sSet (.tup [(.nm 2), (.nm 3)]) (eVar 0)) (sCons (sRet (eAnd (eCall (fun ys => callM [false, false, false] M_is_between (ys ++ ([] : List Dt).map Vx.d)) (aCons (eVar 2) (aCons (eUn dNeg (eVar 1)) (aCons (eVar 1) aNil)))) (eAnd (eCall (fun ys => callM [false, false, false] M_is_between (ys ++ ([] : List Dt).map Vx.d)) (aCons (eVar 3) (aCons (eC (.int 1)) (aCons (eVar 1) aNil)))) (eBin dEq (eCall bGcd (aCons (eVar 2) (aCons (eVar 3) aNil))) (eC (.int 1)))))) sNil))) ys
def M_is_point : List Vx → Mo Vx := fun ys => fnM 2 (sCons (sRet (eAnd (eCall (fun ys => callM [false] M_is_sequence (ys ++ ([] : List Dt).map Vx.d)) (aCons (eVar 0) aNil)) (eAnd (eBin dEq (eCall bLen (aCons (eVar 0) aNil)) (eC (.int 2))) (eCall bAll (aCons (eLc true (wVal (eVar 0)) (.nm 1) tYesD (eCall (fun ys => callM [false, false] M_is_fraction (ys ++ ([.int 1000000000000] : List Dt).map Vx.d)) (aCons (eVar 1) aNil)) [1]) aNil))))) sNil) ys
def M_is_matrix : List Vx → Mo Vx := fun ys => fnM 2 (sCons (sRet (eAnd (eCall (fun ys => callM [false] M_is_sequence (ys ++ ([] : List Dt).map Vx.d)) (aCons (eVar 0) aNil)) (eAnd (eBin dEq (eCall bLen (aCons (eVar 0) aNil)) (eC (.int 6))) (eCall bAll (aCons (eLc true (wVal (eVar 0)) (.nm 1) tYesD (eCall (fun ys => callM [false, false] M_is_fraction (ys ++ ([.int 1000000000000] : List Dt).map Vx.d)) (aCons (eVar 1) aNil)) [1]) aNil))))) sNil) ys
def M_fraction : List Vx → Mo Vx := fun ys => fnM 3 (sCons (sSet (.nm 2) (eCall bGcd (aCons (eVar 0) (aCons (eVar 1) aNil)))) (sCons (sIf (tTst (eBin dLt (eVar 1) (eC (.int 0)))) (sCons (sSet (.nm 2) (eUn dNeg (eVar 2))) sNil) sNil) (sCons (sRet (eTup (aCons (eBin dFdiv (eVar 0) (eVar 2)) (aCons (eBin dFdiv (eVar 1) (eVar 2)) aNil)))) sNil))) ys
def M_plus : List Vx → Mo Vx := fun ys => fnM 2 (sCons (sRet (eCall (fun ys => callM [false, false] M_fraction (ys ++ ([] : List Dt).map Vx.d)) (aCons (eBin dAdd (eBin dMul (eBin dIx (eVar 0) (eC (.int 0))) (eBin dIx (eVar 1) (eC (.int 1)))) (eBin dMul (eBin dIx (eVar 1) (eC (.int 0))) (eBin dIx (eVar 0) (eC (.int 1))))) (aCons (eBin dMul (eBin dIx (eVar 0) (eC (.int 1))) (eBin dIx (eVar 1) (eC (.int 1)))) aNil)))) sNil) ys
def M_minus : List Vx → Mo Vx := fun ys => fnM 2 (sCons (sRet (eCall (fun ys => callM [false, false] M_fraction (ys ++ ([] : List Dt).map Vx.d)) (aCons (eBin dSub (eBin dMul (eBin dIx (eVar 0) (eC (.int 0))) (eBin dIx (eVar 1) (eC (.int 1)))) (eBin dMul (eBin dIx (eVar 1) (eC (.int 0))) (eBin dIx (eVar 0) (eC (.int 1))))) (aCons (eBin dMul (eBin dIx (eVar 0) (eC (.int 1))) (eBin dIx (eVar 1) (eC (.int 1)))) aNil)))) sNil) ys
def M_product : List Vx → Mo Vx := fun ys => fnM 2 (sCons (sRet (eCall (fun ys => callM [false, false] M_fraction (ys ++ ([] : List Dt).map Vx.d)) (aCons (eBin dMul (eBin dIx (eVar 0) (eC (.int 0))) (eBin dIx (eVar 1) (eC (.int 0)))) (aCons (eBin dMul (eBin dIx (eVar 0) (eC (.int 1))) (eBin dIx (eVar 1) (eC (.int 1)))) aNil)))) sNil) ys
def M_quotient : List Vx → Mo Vx := fun ys => fnM 2 (sCons (sRet (eCall (fun ys => callM [false, false] M_fraction (ys ++ ([] : List Dt).map Vx.d)) (aCons (eBin dMul (eBin dIx (eVar 0) (eC (.int 0))) (eBin dIx (eVar 1) (eC (.int 1)))) (aCons (eBin dMul (eBin dIx (eVar 0) (eC (.int 1))) (eBin dIx (eVar 1) (eC (.int 0)))) aNil)))) sNil) ys
def M_negative : List Vx → Mo Vx := fun ys => fnM 1 (sCons (sRet (eTup (aCons (eUn dNeg (eBin dIx (eVar 0) (eC (.int 0)))) (aCons (eBin dIx (eVar 0) (eC (.int 1))) aNil)))) sNil) ys
def M_linear : List Vx → Mo Vx := fun ys => fnM 8 (sCons (sSet (.tup [(.nm 2), (.nm 3), (.nm 4), (.nm 5)]) (eSl (eVar 0) (oSome (eC (.int 0))) (oSome (eC (.int 4))))) (sCons (sSet (.tup [(.nm 6), (.nm 7)]) (eVar 1)) (sCons (sRet (eTup (aCons (eCall (fun ys => callM [false, false] M_plus (ys ++ ([] : List Dt).map Vx.d)) (aCons (eCall (fun ys => callM [false, false] M_product (ys ++ ([] : List Dt).map Vx.d)) (aCons (eVar 2) (aCons (eVar 6) aNil))) (aCons (eCall (fun ys => callM [false, false] M_product (ys ++ ([] : List Dt).map Vx.d)) (aCons (eVar 4) (aCons (eVar 7) aNil))) aNil))) (aCons (eCall (fun ys => callM [false, false] M_plus (ys ++ ([] : List Dt).map Vx.d)) (aCons (eCall (fun ys => callM [false, false] M_product (ys ++ ([] : List Dt).map Vx.d)) (aCons (eVar 3) (aCons (eVar 6) aNil))) (aCons (eCall (fun ys => callM [false, false] M_product (ys ++ ([] : List Dt).map Vx.d)) (aCons (eVar 5) (aCons (eVar 7) aNil))) aNil))) aNil)))) sNil))) ys
def M_taken : List Vx → Mo Vx := fun ys => fnM 4 (sCons (sSet (.tup [(.nm 2), (.nm 3)]) (eCall (fun ys => callM [false, false] M_linear (ys ++ ([] : List Dt).map Vx.d)) (aCons (eVar 0) (aCons (eVar 1) aNil)))) (sCons (sRet (eTup (aCons (eCall (fun ys => callM [false, false] M_plus (ys ++ ([] : List Dt).map Vx.d)) (aCons (eVar 2) (aCons (eBin dIx (eVar 0) (eC (.int 4))) aNil))) (aCons (eCall (fun ys => callM [false, false] M_plus (ys ++ ([] : List Dt).map Vx.d)) (aCons (eVar 3) (aCons (eBin dIx (eVar 0) (eC (.int 5))) aNil))) aNil)))) sNil)) ys
def M_combined : List Vx → Mo Vx := fun ys => fnM 2 (sCons (sRet (eBin dAdd (eBin dAdd (eCall (fun ys => callM [false, false] M_linear (ys ++ ([] : List Dt).map Vx.d)) (aCons (eVar 1) (aCons (eSl (eVar 0) (oSome (eC (.int 0))) (oSome (eC (.int 2)))) aNil))) (eCall (fun ys => callM [false, false] M_linear (ys ++ ([] : List Dt).map Vx.d)) (aCons (eVar 1) (aCons (eSl (eVar 0) (oSome (eC (.int 2))) (oSome (eC (.int 4)))) aNil)))) (eCall (fun ys => callM [false, false] M_taken (ys ++ ([] : List Dt).map Vx.d)) (aCons (eVar 1) (aCons (eSl (eVar 0) (oSome (eC (.int 4))) (oSome (eC (.int 6)))) aNil))))) sNil) ys
def M_determinant : List Vx → Mo Vx := fun ys => fnM 5 (sCons (sSet (.tup [(.nm 1), (.nm 2), (.nm 3), (.nm 4)]) (eSl (eVar 0) (oSome (eC (.int 0))) (oSome (eC (.int 4))))) (sCons (sRet (eCall (fun ys => callM [false, false] M_minus (ys ++ ([] : List Dt).map Vx.d)) (aCons (eCall (fun ys => callM [false, false] M_product (ys ++ ([] : List Dt).map Vx.d)) (aCons (eVar 1) (aCons (eVar 4) aNil))) (aCons (eCall (fun ys => callM [false, false] M_product (ys ++ ([] : List Dt).map Vx.d)) (aCons (eVar 2) (aCons (eVar 3) aNil))) aNil)))) sNil)) ys
def M_inverted : List Vx → Mo Vx := fun ys => fnM 10 (sCons (sSet (.nm 1) (eCall (fun ys => callM [false] M_determinant (ys ++ ([] : List Dt).map Vx.d)) (aCons (eVar 0) aNil))) (sCons (sIf (tTst (eBin dEq (eVar 1) (eC (.tup [.int 0, .int 1])))) (sCons (sRet (eC .non)) sNil) sNil) (sCons (sSet (.tup [(.nm 2), (.nm 3), (.nm 4), (.nm 5)]) (eLc true (wVal (eSl (eVar 0) (oSome (eC (.int 0))) (oSome (eC (.int 4))))) (.nm 6) tYesD (eCall (fun ys => callM [false, false] M_quotient (ys ++ ([] : List Dt).map Vx.d)) (aCons (eVar 6) (aCons (eVar 1) aNil))) [6])) (sCons (sSet (.nm 7) (eTup (aCons (eVar 5) (aCons (eCall (fun ys => callM [false] M_negative (ys ++ ([] : List Dt).map Vx.d)) (aCons (eVar 3) aNil)) (aCons (eCall (fun ys => callM [false] M_negative (ys ++ ([] : List Dt).map Vx.d)) (aCons (eVar 4) aNil)) (aCons (eVar 2) aNil)))))) (sCons (sSet (.tup [(.nm 8), (.nm 9)]) (eCall (fun ys => callM [false, false] M_linear (ys ++ ([] : List Dt).map Vx.d)) (aCons (eVar 7) (aCons (eSl (eVar 0) (oSome (eC (.int 4))) (oSome (eC (.int 6)))) aNil)))) (sCons (sRet (eBin dAdd (eVar 7) (eTup (aCons (eCall (fun ys => callM [false] M_negative (ys ++ ([] : List Dt).map Vx.d)) (aCons (eVar 8) aNil)) (aCons (eCall (fun ys => callM [false] M_negative (ys ++ ([] : List Dt).map Vx.d)) (aCons (eVar 9) aNil)) aNil))))) sNil)))))) ys
def M_applied : List Vx → Mo Vx := fun ys => fnM 2 (sCons (sExpr (eCall (fun ys => callM [false, false] M_demand (ys ++ ([] : List Dt).map Vx.d)) (aCons (eCall (fun ys => callM [false] M_is_matrix (ys ++ ([] : List Dt).map Vx.d)) (aCons (eVar 0) aNil)) (aCons (eC (.int 0)) aNil)))) (sCons (sExpr (eCall (fun ys => callM [false, false] M_demand (ys ++ ([] : List Dt).map Vx.d)) (aCons (eCall (fun ys => callM [false] M_is_point (ys ++ ([] : List Dt).map Vx.d)) (aCons (eVar 1) aNil)) (aCons (eC (.int 1)) aNil)))) (sCons (sRet (eCall (fun ys => callM [false, false] M_taken (ys ++ ([] : List Dt).map Vx.d)) (aCons (eCall (fun ys => callM [false] (M_in_tuples 24) (ys ++ ([] : List Dt).map Vx.d)) (aCons (eVar 0) aNil)) (aCons (eCall (fun ys => callM [false] (M_in_tuples 24) (ys ++ ([] : List Dt).map Vx.d)) (aCons (eVar 1) aNil)) aNil)))) sNil))) ys
def M_times : List Vx → Mo Vx := fun ys => fnM 2 (sCons (sExpr (eCall (fun ys => callM [false, false] M_demand (ys ++ ([] : List Dt).map Vx.d)) (aCons (eCall (fun ys => callM [false] M_is_matrix (ys ++ ([] : List Dt).map Vx.d)) (aCons (eVar 0) aNil)) (aCons (eC (.int 0)) aNil)))) (sCons (sExpr (eCall (fun ys => callM [false, false] M_demand (ys ++ ([] : List Dt).map Vx.d)) (aCons (eCall (fun ys => callM [false] M_is_matrix (ys ++ ([] : List Dt).map Vx.d)) (aCons (eVar 1) aNil)) (aCons (eC (.int 1)) aNil)))) (sCons (sRet (eCall (fun ys => callM [false, false] M_combined (ys ++ ([] : List Dt).map Vx.d)) (aCons (eCall (fun ys => callM [false] (M_in_tuples 24) (ys ++ ([] : List Dt).map Vx.d)) (aCons (eVar 0) aNil)) (aCons (eCall (fun ys => callM [false] (M_in_tuples 24) (ys ++ ([] : List Dt).map Vx.d)) (aCons (eVar 1) aNil)) aNil)))) sNil))) ys
def M_inverse : List Vx → Mo Vx := fun ys => fnM 1 (sCons (sExpr (eCall (fun ys => callM [false, false] M_demand (ys ++ ([] : List Dt).map Vx.d)) (aCons (eCall (fun ys => callM [false] M_is_matrix (ys ++ ([] : List Dt).map Vx.d)) (aCons (eVar 0) aNil)) (aCons (eC (.int 0)) aNil)))) (sCons (sRet (eCall (fun ys => callM [false] M_inverted (ys ++ ([] : List Dt).map Vx.d)) (aCons (eCall (fun ys => callM [false] (M_in_tuples 24) (ys ++ ([] : List Dt).map Vx.d)) (aCons (eVar 0) aNil)) aNil))) sNil)) ys
def M_order_of : List Vx → Mo Vx := fun ys => fnM 4 (sCons (sExpr (eCall (fun ys => callM [false, false] M_demand (ys ++ ([] : List Dt).map Vx.d)) (aCons (eCall (fun ys => callM [false] M_is_matrix (ys ++ ([] : List Dt).map Vx.d)) (aCons (eVar 0) aNil)) (aCons (eC (.int 0)) aNil)))) (sCons (sSet (.nm 1) (eCall (fun ys => callM [false] (M_in_tuples 24) (ys ++ ([] : List Dt).map Vx.d)) (aCons (eVar 0) aNil))) (sCons (sSet (.nm 2) (eVar 1)) (sCons (sFor (wRng2 (aCons (eC (.int 1)) (aCons (eBin dAdd (eC (.int 12)) (eC (.int 1))) aNil))) (.nm 3) (sCons (sIf (tTst (eBin dEq (eVar 2) (eC (.tup [.tup [.int 1, .int 1], .tup [.int 0, .int 1], .tup [.int 0, .int 1], .tup [.int 1, .int 1], .tup [.int 0, .int 1], .tup [.int 0, .int 1]])))) (sCons (sRet (eVar 3)) sNil) sNil) (sCons (sSet (.nm 2) (eCall (fun ys => callM [false, false] M_combined (ys ++ ([] : List Dt).map Vx.d)) (aCons (eVar 2) (aCons (eVar 1) aNil)))) sNil))) (sCons (sRet (eC .non)) sNil))))) ys
def M__law_so : Nat → List Vx → Mo Vx
  | 0, _ => stk
  | n + 1, ys => fnM 3 (sCons (sIf (tTst (eBin dIs (eVar 1) (eC .non))) (sCons (sRet (eBin dIs (eVar 0) (eC .non))) sNil) sNil) (sCons (sIf (tVal (eIsi [.tuple] (eVar 1))) (sCons (sIf (tOrD (tNotD (tVal (eIsi [.tuple] (eVar 0)))) (tTst (eBin dNe (eCall bLen (aCons (eVar 0) aNil)) (eCall bLen (aCons (eVar 1) aNil))))) (sCons (sRet (eC (.bl false))) sNil) sNil) (sCons (sFor (wRng1 (aCons (eCall bLen (aCons (eVar 1) aNil)) aNil)) (.nm 2) (sCons (sIf (tNotD (tVal (eCall (fun ys => callM [false, false] (M__law_so n) (ys ++ ([] : List Dt).map Vx.d)) (aCons (eBin dIx (eVar 0) (eVar 2)) (aCons (eBin dIx (eVar 1) (eVar 2)) aNil))))) (sCons (sRet (eC (.bl false))) sNil) sNil) sNil)) (sCons (sRet (eC (.bl true))) sNil))) sNil) (sCons (sIf (tOrD (tVal (eIsi [.bool] (eVar 1))) (tVal (eIsi [.bool] (eVar 0)))) (sCons (sRet (eAnd (eIsi [.bool] (eVar 1)) (eAnd (eIsi [.bool] (eVar 0)) (eBin dEq (eVar 0) (eVar 1))))) sNil) sNil) (sCons (sIf (tVal (eIsi [.int] (eVar 1))) (sCons (sRet (eAnd (eIsi [.int] (eVar 0)) (eBin dEq (eVar 0) (eVar 1)))) sNil) sNil) (sCons (sRet (eAnd (eIsi [.str] (eVar 1)) (eAnd (eIsi [.str] (eVar 0)) (eBin dEq (eVar 0) (eVar 1))))) sNil))))) ys
def M__law_listed : Nat → List Vx → Mo Vx
  | 0, _ => stk
  | n + 1, ys => fnM 2 (sCons (sIf (tVal (eIsi [.tuple] (eVar 0))) (sCons (sRet (eLc true (wVal (eVar 0)) (.nm 1) tYesD (eCall (fun ys => callM [false] (M__law_listed n) (ys ++ ([] : List Dt).map Vx.d)) (aCons (eVar 1) aNil)) [1])) sNil) sNil) (sCons (sRet (eVar 0)) sNil)) ys
def M__law_handed : List Vx → Mo Vx := fun ys => fnM 3 (sCons (sRet (eIf (tTst (eBin dEq (eCall (fun ys => callM [false, true, false] takeM (ys ++ ([] : List Dt).map Vx.d)) (aCons (eVar 0) (aCons (eVar 1) (aCons (eC (.int 2)) aNil)))) (eC (.int 0)))) (eCall (fun ys => callM [false] (M__law_listed 24) (ys ++ ([] : List Dt).map Vx.d)) (aCons (eVar 2) aNil)) (eVar 2))) sNil) ys
def M__law_pick : List Vx → Mo Vx := fun ys => fnM 3 (sCons (sRet (eBin dIx (eVar 2) (eCall (fun ys => callM [false, true, false] takeM (ys ++ ([] : List Dt).map Vx.d)) (aCons (eVar 0) (aCons (eVar 1) (aCons (eCall bLen (aCons (eVar 2) aNil)) aNil)))))) sNil) ys
def M__law_gcd : List Vx → Mo Vx := fun ys => fnM 6 (sCons (sSet (.nm 2) (eIf (tTst (eBin dGe (eVar 0) (eC (.int 0)))) (eVar 0) (eUn dNeg (eVar 0)))) (sCons (sSet (.nm 3) (eIf (tTst (eBin dGe (eVar 1) (eC (.int 0)))) (eVar 1) (eUn dNeg (eVar 1)))) (sCons (sFor (wRng1 (aCons (eC (.int 20000)) aNil)) (.nm 4) (sCons (sIf (tTst (eBin dEq (eVar 3) (eC (.int 0)))) (sCons sBk sNil) sNil) (sCons (sSet (.nm 5) (eBin dMod (eCall bInt (aCons (eVar 2) aNil)) (eVar 3))) (sCons (sSet (.nm 2) (eVar 3)) (sCons (sSet (.nm 3) (eVar 5)) sNil))))) (sCons (sRet (eVar 2)) sNil)))) ys
def M__law_red : Nat → List Vx → Mo Vx
  | 0, _ => stk
  | n + 1, ys => fnM 3 (sCons (sIf (tTst (eBin dLt (eVar 1) (eC (.int 0)))) (sCons (sRet (eCall (fun ys => callM [false, false] (M__law_red n) (ys ++ ([] : List Dt).map Vx.d)) (aCons (eUn dNeg (eVar 0)) (aCons (eUn dNeg (eVar 1)) aNil)))) sNil) sNil) (sCons (sSet (.nm 2) (eCall (fun ys => callM [false, false] M__law_gcd (ys ++ ([] : List Dt).map Vx.d)) (aCons (eVar 0) (aCons (eVar 1) aNil)))) (sCons (sIf (tTst (eBin dEq (eVar 2) (eC (.int 0)))) (sCons (sRet (eTup (aCons (eC (.int 0)) (aCons (eC (.int 1)) aNil)))) sNil) sNil) (sCons (sRet (eTup (aCons (eBin dFdiv (eVar 0) (eVar 2)) (aCons (eBin dFdiv (eVar 1) (eVar 2)) aNil)))) sNil)))) ys
def M__law_add : List Vx → Mo Vx := fun ys => fnM 2 (sCons (sRet (eCall (fun ys => callM [false, false] (M__law_red 24) (ys ++ ([] : List Dt).map Vx.d)) (aCons (eBin dAdd (eBin dMul (eBin dIx (eVar 0) (eC (.int 0))) (eBin dIx (eVar 1) (eC (.int 1)))) (eBin dMul (eBin dIx (eVar 1) (eC (.int 0))) (eBin dIx (eVar 0) (eC (.int 1))))) (aCons (eBin dMul (eBin dIx (eVar 0) (eC (.int 1))) (eBin dIx (eVar 1) (eC (.int 1)))) aNil)))) sNil) ys
def M__law_sub : List Vx → Mo Vx := fun ys => fnM 2 (sCons (sRet (eCall (fun ys => callM [false, false] (M__law_red 24) (ys ++ ([] : List Dt).map Vx.d)) (aCons (eBin dSub (eBin dMul (eBin dIx (eVar 0) (eC (.int 0))) (eBin dIx (eVar 1) (eC (.int 1)))) (eBin dMul (eBin dIx (eVar 1) (eC (.int 0))) (eBin dIx (eVar 0) (eC (.int 1))))) (aCons (eBin dMul (eBin dIx (eVar 0) (eC (.int 1))) (eBin dIx (eVar 1) (eC (.int 1)))) aNil)))) sNil) ys
def M__law_mul : List Vx → Mo Vx := fun ys => fnM 2 (sCons (sRet (eCall (fun ys => callM [false, false] (M__law_red 24) (ys ++ ([] : List Dt).map Vx.d)) (aCons (eBin dMul (eBin dIx (eVar 0) (eC (.int 0))) (eBin dIx (eVar 1) (eC (.int 0)))) (aCons (eBin dMul (eBin dIx (eVar 0) (eC (.int 1))) (eBin dIx (eVar 1) (eC (.int 1)))) aNil)))) sNil) ys
def M__law_div : List Vx → Mo Vx := fun ys => fnM 2 (sCons (sRet (eCall (fun ys => callM [false, false] M__law_mul (ys ++ ([] : List Dt).map Vx.d)) (aCons (eVar 0) (aCons (eIf (tTst (eBin dGt (eBin dIx (eVar 1) (eC (.int 0))) (eC (.int 0)))) (eTup (aCons (eBin dIx (eVar 1) (eC (.int 1))) (aCons (eBin dIx (eVar 1) (eC (.int 0))) aNil))) (eTup (aCons (eUn dNeg (eBin dIx (eVar 1) (eC (.int 1)))) (aCons (eUn dNeg (eBin dIx (eVar 1) (eC (.int 0)))) aNil)))) aNil)))) sNil) ys
def M__law_apply : List Vx → Mo Vx := fun ys => fnM 4 (sCons (sSet (.nm 2) (eCall (fun ys => callM [false, false] M__law_add (ys ++ ([] : List Dt).map Vx.d)) (aCons (eCall (fun ys => callM [false, false] M__law_add (ys ++ ([] : List Dt).map Vx.d)) (aCons (eCall (fun ys => callM [false, false] M__law_mul (ys ++ ([] : List Dt).map Vx.d)) (aCons (eBin dIx (eVar 0) (eC (.int 0))) (aCons (eBin dIx (eVar 1) (eC (.int 0))) aNil))) (aCons (eCall (fun ys => callM [false, false] M__law_mul (ys ++ ([] : List Dt).map Vx.d)) (aCons (eBin dIx (eVar 0) (eC (.int 2))) (aCons (eBin dIx (eVar 1) (eC (.int 1))) aNil))) aNil))) (aCons (eBin dIx (eVar 0) (eC (.int 4))) aNil)))) (sCons (sSet (.nm 3) (eCall (fun ys => callM [false, false] M__law_add (ys ++ ([] : List Dt).map Vx.d)) (aCons (eCall (fun ys => callM [false, false] M__law_add (ys ++ ([] : List Dt).map Vx.d)) (aCons (eCall (fun ys => callM [false, false] M__law_mul (ys ++ ([] : List Dt).map Vx.d)) (aCons (eBin dIx (eVar 0) (eC (.int 1))) (aCons (eBin dIx (eVar 1) (eC (.int 0))) aNil))) (aCons (eCall (fun ys => callM [false, false] M__law_mul (ys ++ ([] : List Dt).map Vx.d)) (aCons (eBin dIx (eVar 0) (eC (.int 3))) (aCons (eBin dIx (eVar 1) (eC (.int 1))) aNil))) aNil))) (aCons (eBin dIx (eVar 0) (eC (.int 5))) aNil)))) (sCons (sRet (eTup (aCons (eVar 2) (aCons (eVar 3) aNil)))) sNil))) ys
def M__law_times : List Vx → Mo Vx := fun ys => fnM 7 (sCons (sSet (.nm 2) (eCall (fun ys => callM [false, false] M__law_apply (ys ++ ([] : List Dt).map Vx.d)) (aCons (eVar 1) (aCons (eTup (aCons (eBin dIx (eVar 0) (eC (.int 4))) (aCons (eBin dIx (eVar 0) (eC (.int 5))) aNil))) aNil)))) (sCons (sSet (.nm 3) (eCall (fun ys => callM [false, false] M__law_add (ys ++ ([] : List Dt).map Vx.d)) (aCons (eCall (fun ys => callM [false, false] M__law_mul (ys ++ ([] : List Dt).map Vx.d)) (aCons (eBin dIx (eVar 1) (eC (.int 0))) (aCons (eBin dIx (eVar 0) (eC (.int 0))) aNil))) (aCons (eCall (fun ys => callM [false, false] M__law_mul (ys ++ ([] : List Dt).map Vx.d)) (aCons (eBin dIx (eVar 1) (eC (.int 2))) (aCons (eBin dIx (eVar 0) (eC (.int 1))) aNil))) aNil)))) (sCons (sSet (.nm 4) (eCall (fun ys => callM [false, false] M__law_add (ys ++ ([] : List Dt).map Vx.d)) (aCons (eCall (fun ys => callM [false, false] M__law_mul (ys ++ ([] : List Dt).map Vx.d)) (aCons (eBin dIx (eVar 1) (eC (.int 1))) (aCons (eBin dIx (eVar 0) (eC (.int 0))) aNil))) (aCons (eCall (fun ys => callM [false, false] M__law_mul (ys ++ ([] : List Dt).map Vx.d)) (aCons (eBin dIx (eVar 1) (eC (.int 3))) (aCons (eBin dIx (eVar 0) (eC (.int 1))) aNil))) aNil)))) (sCons (sSet (.nm 5) (eCall (fun ys => callM [false, false] M__law_add (ys ++ ([] : List Dt).map Vx.d)) (aCons (eCall (fun ys => callM [false, false] M__law_mul (ys ++ ([] : List Dt).map Vx.d)) (aCons (eBin dIx (eVar 1) (eC (.int 0))) (aCons (eBin dIx (eVar 0) (eC (.int 2))) aNil))) (aCons (eCall (fun ys => callM [false, false] M__law_mul (ys ++ ([] : List Dt).map Vx.d)) (aCons (eBin dIx (eVar 1) (eC (.int 2))) (aCons (eBin dIx (eVar 0) (eC (.int 3))) aNil))) aNil)))) (sCons (sSet (.nm 6) (eCall (fun ys => callM [false, false] M__law_add (ys ++ ([] : List Dt).map Vx.d)) (aCons (eCall (fun ys => callM [false, false] M__law_mul (ys ++ ([] : List Dt).map Vx.d)) (aCons (eBin dIx (eVar 1) (eC (.int 1))) (aCons (eBin dIx (eVar 0) (eC (.int 2))) aNil))) (aCons (eCall (fun ys => callM [false, false] M__law_mul (ys ++ ([] : List Dt).map Vx.d)) (aCons (eBin dIx (eVar 1) (eC (.int 3))) (aCons (eBin dIx (eVar 0) (eC (.int 3))) aNil))) aNil)))) (sCons (sRet (eTup (aCons (eVar 3) (aCons (eVar 4) (aCons (eVar 5) (aCons (eVar 6) (aCons (eBin dIx (eVar 2) (eC (.int 0))) (aCons (eBin dIx (eVar 2) (eC (.int 1))) aNil)))))))) sNil)))))) ys
def M__law_inverse : List Vx → Mo Vx := fun ys => fnM 7 (sCons (sSet (.nm 1) (eCall (fun ys => callM [false, false] M__law_sub (ys ++ ([] : List Dt).map Vx.d)) (aCons (eCall (fun ys => callM [false, false] M__law_mul (ys ++ ([] : List Dt).map Vx.d)) (aCons (eBin dIx (eVar 0) (eC (.int 0))) (aCons (eBin dIx (eVar 0) (eC (.int 3))) aNil))) (aCons (eCall (fun ys => callM [false, false] M__law_mul (ys ++ ([] : List Dt).map Vx.d)) (aCons (eBin dIx (eVar 0) (eC (.int 1))) (aCons (eBin dIx (eVar 0) (eC (.int 2))) aNil))) aNil)))) (sCons (sIf (tTst (eBin dEq (eVar 1) (eTup (aCons (eC (.int 0)) (aCons (eC (.int 1)) aNil))))) (sCons (sRet (eC .non)) sNil) sNil) (sCons (sSet (.nm 2) (eCall (fun ys => callM [false, false] M__law_div (ys ++ ([] : List Dt).map Vx.d)) (aCons (eBin dIx (eVar 0) (eC (.int 3))) (aCons (eVar 1) aNil)))) (sCons (sSet (.nm 3) (eCall (fun ys => callM [false, false] M__law_div (ys ++ ([] : List Dt).map Vx.d)) (aCons (eCall (fun ys => callM [false, false] M__law_sub (ys ++ ([] : List Dt).map Vx.d)) (aCons (eTup (aCons (eC (.int 0)) (aCons (eC (.int 1)) aNil))) (aCons (eBin dIx (eVar 0) (eC (.int 1))) aNil))) (aCons (eVar 1) aNil)))) (sCons (sSet (.nm 4) (eCall (fun ys => callM [false, false] M__law_div (ys ++ ([] : List Dt).map Vx.d)) (aCons (eCall (fun ys => callM [false, false] M__law_sub (ys ++ ([] : List Dt).map Vx.d)) (aCons (eTup (aCons (eC (.int 0)) (aCons (eC (.int 1)) aNil))) (aCons (eBin dIx (eVar 0) (eC (.int 2))) aNil))) (aCons (eVar 1) aNil)))) (sCons (sSet (.nm 5) (eCall (fun ys => callM [false, false] M__law_div (ys ++ ([] : List Dt).map Vx.d)) (aCons (eBin dIx (eVar 0) (eC (.int 0))) (aCons (eVar 1) aNil)))) (sCons (sSet (.nm 6) (eCall (fun ys => callM [false, false] M__law_apply (ys ++ ([] : List Dt).map Vx.d)) (aCons (eTup (aCons (eVar 2) (aCons (eVar 3) (aCons (eVar 4) (aCons (eVar 5) (aCons (eTup (aCons (eC (.int 0)) (aCons (eC (.int 1)) aNil))) (aCons (eTup (aCons (eC (.int 0)) (aCons (eC (.int 1)) aNil))) aNil))))))) (aCons (eTup (aCons (eBin dIx (eVar 0) (eC (.int 4))) (aCons (eBin dIx (eVar 0) (eC (.int 5))) aNil))) aNil)))) (sCons (sRet (eTup (aCons (eVar 2) (aCons (eVar 3) (aCons (eVar 4) (aCons (eVar 5) (aCons (eCall (fun ys => callM [false, false] M__law_sub (ys ++ ([] : List Dt).map Vx.d)) (aCons (eTup (aCons (eC (.int 0)) (aCons (eC (.int 1)) aNil))) (aCons (eBin dIx (eVar 6) (eC (.int 0))) aNil))) (aCons (eCall (fun ys => callM [false, false] M__law_sub (ys ++ ([] : List Dt).map Vx.d)) (aCons (eTup (aCons (eC (.int 0)) (aCons (eC (.int 1)) aNil))) (aCons (eBin dIx (eVar 6) (eC (.int 1))) aNil))) aNil)))))))) sNil)))))))) ys
def M__law_some_matrix : List Vx → Mo Vx := fun ys => fnM 8 (sCons (sSet (.nm 2) (eCall (fun ys => callM [false, true, false] takeM (ys ++ ([] : List Dt).map Vx.d)) (aCons (eVar 0) (aCons (eVar 1) (aCons (eC (.int 6)) aNil))))) (sCons (sSet (.nm 3) (eTup (aCons (eC (.int 0)) (aCons (eC (.int 1)) aNil)))) (sCons (sSet (.nm 4) (eTup (aCons (eC (.int 1)) (aCons (eC (.int 1)) aNil)))) (sCons (sSet (.nm 5) (eCall (fun ys => callM [false, false] (M__law_red 24) (ys ++ ([] : List Dt).map Vx.d)) (aCons (eBin dSub (eCall (fun ys => callM [false, true, false] takeM (ys ++ ([] : List Dt).map Vx.d)) (aCons (eVar 0) (aCons (eVar 1) (aCons (eC (.int 9)) aNil)))) (eC (.int 4))) (aCons (eBin dAdd (eC (.int 1)) (eCall (fun ys => callM [false, true, false] takeM (ys ++ ([] : List Dt).map Vx.d)) (aCons (eVar 0) (aCons (eVar 1) (aCons (eC (.int 4)) aNil))))) aNil)))) (sCons (sSet (.nm 6) (eCall (fun ys => callM [false, false] (M__law_red 24) (ys ++ ([] : List Dt).map Vx.d)) (aCons (eBin dSub (eCall (fun ys => callM [false, true, false] takeM (ys ++ ([] : List Dt).map Vx.d)) (aCons (eVar 0) (aCons (eVar 1) (aCons (eC (.int 9)) aNil)))) (eC (.int 4))) (aCons (eBin dAdd (eC (.int 1)) (eCall (fun ys => callM [false, true, false] takeM (ys ++ ([] : List Dt).map Vx.d)) (aCons (eVar 0) (aCons (eVar 1) (aCons (eC (.int 4)) aNil))))) aNil)))) (sCons (sIf (tTst (eBin dEq (eVar 2) (eC (.int 0)))) (sCons (sRet (eTup (aCons (eVar 4) (aCons (eVar 3) (aCons (eVar 3) (aCons (eVar 4) (aCons (eVar 5) (aCons (eVar 6) aNil)))))))) sNil) sNil) (sCons (sIf (tTst (eBin dEq (eVar 2) (eC (.int 1)))) (sCons (sRet (eTup (aCons (eVar 5) (aCons (eVar 3) (aCons (eVar 3) (aCons (eVar 6) (aCons (eVar 3) (aCons (eVar 3) aNil)))))))) sNil) sNil) (sCons (sIf (tTst (eBin dEq (eVar 2) (eC (.int 2)))) (sCons (sRet (eCall (fun ys => callM [false, true, false] M__law_pick (ys ++ ([] : List Dt).map Vx.d)) (aCons (eVar 0) (aCons (eVar 1) (aCons (eLst (aCons (eTup (aCons (eVar 3) (aCons (eVar 4) (aCons (eTup (aCons (eUn dNeg (eC (.int 1))) (aCons (eC (.int 1)) aNil))) (aCons (eVar 3) (aCons (eVar 5) (aCons (eVar 6) aNil))))))) (aCons (eTup (aCons (eTup (aCons (eUn dNeg (eC (.int 1))) (aCons (eC (.int 1)) aNil))) (aCons (eVar 3) (aCons (eVar 3) (aCons (eTup (aCons (eUn dNeg (eC (.int 1))) (aCons (eC (.int 1)) aNil))) (aCons (eVar 5) (aCons (eVar 6) aNil))))))) (aCons (eTup (aCons (eVar 3) (aCons (eVar 4) (aCons (eTup (aCons (eUn dNeg (eC (.int 1))) (aCons (eC (.int 1)) aNil))) (aCons (eTup (aCons (eC (.int 1)) (aCons (eC (.int 1)) aNil))) (aCons (eVar 5) (aCons (eVar 6) aNil))))))) (aCons (eTup (aCons (eVar 3) (aCons (eVar 4) (aCons (eTup (aCons (eUn dNeg (eC (.int 1))) (aCons (eC (.int 1)) aNil))) (aCons (eTup (aCons (eUn dNeg (eC (.int 1))) (aCons (eC (.int 1)) aNil))) (aCons (eVar 5) (aCons (eVar 6) aNil))))))) (aCons (eTup (aCons (eVar 3) (aCons (eVar 4) (aCons (eVar 4) (aCons (eVar 3) (aCons (eVar 3) (aCons (eVar 3) aNil))))))) (aCons (eTup (aCons (eVar 4) (aCons (eVar 5) (aCons (eVar 3) (aCons (eTup (aCons (eUn dNeg (eC (.int 1))) (aCons (eC (.int 1)) aNil))) (aCons (eVar 3) (aCons (eVar 6) aNil))))))) aNil))))))) aNil))))) sNil) sNil) (sCons (sIf (tTst (eBin dEq (eVar 2) (eC (.int 3)))) (sCons (sRet (eTup (aCons (eVar 4) (aCons (eVar 6) (aCons (eVar 5) (aCons (eVar 4) (aCons (eVar 3) (aCons (eVar 3) aNil)))))))) sNil) sNil) (sCons (sRet (eCall bTuple (aCons (eLc true (wRng1 (aCons (eC (.int 6)) aNil)) (.nm 7) tYesD (eCall (fun ys => callM [false, false] (M__law_red 24) (ys ++ ([] : List Dt).map Vx.d)) (aCons (eBin dSub (eCall (fun ys => callM [false, true, false] takeM (ys ++ ([] : List Dt).map Vx.d)) (aCons (eVar 0) (aCons (eVar 1) (aCons (eC (.int 7)) aNil)))) (eC (.int 3))) (aCons (eBin dAdd (eC (.int 1)) (eCall (fun ys => callM [false, true, false] takeM (ys ++ ([] : List Dt).map Vx.d)) (aCons (eVar 0) (aCons (eVar 1) (aCons (eC (.int 3)) aNil))))) aNil))) [7]) aNil))) sNil)))))))))) ys
end Dn
end
section
set_option Elab.async false
set_option linter.all false
set_option maxRecDepth 100000
set_option maxHeartbeats 4000000
set_option profiler true
set_option profiler.threshold 2000
set_option exponentiation.threshold 2000
/-! Dn28: plain: fractions are rationals. -/
namespace Dn
open PySem PySem.Spec PyProof.Rows L2
theorem call1 {f : List Vx → Mo Vx} {a r : Dt} (e : f [.d a] [] = .ok (.d r) []) (h : DH) : callM [false] f [.d a] h = .ok (.d r) h := by
  show back false none h (f [.d a] []) = _
  rw [e]; rfl
theorem call2 {f : List Vx → Mo Vx} {a b r : Dt} (e : f [.d a, .d b] [] = .ok (.d r) []) (h : DH) : callM [false, false] f [.d a, .d b] h = .ok (.d r) h := by
  show back false none h (f [.d a, .d b] []) = _
  rw [e]; rfl
theorem call3 {f : List Vx → Mo Vx} {a b c r : Dt} (e : f [.d a, .d b, .d c] [] = .ok (.d r) []) (h : DH) : callM [false, false, false] f [.d a, .d b, .d c] h = .ok (.d r) h := by
  show back false none h (f [.d a, .d b, .d c] []) = _
  rw [e]; rfl
def qD (r : Rat) : Dt := .tup [.int r.num, .int r.den]
theorem fdiv_n (i j : Int) (h : DH) (hc : j < 0 ∧ -1073741824 < j) : dFdiv (.d (.int i)) (.d (.int j)) h = .ok (.d (.int (i.fdiv j))) h := by
  show (if 0 < j ∧ j.natAbs.log2 < 9000 then _ else if j < 0 ∧ -1073741824 < j then _ else _) = _
  rw [if_neg (by omega), if_pos hc]
theorem log2_mono {a b : Nat} (h : a ≤ b) : a.log2 ≤ b.log2 := by
  by_cases ha : a = 0
  · subst ha; simp
  · exact (Nat.le_log2 (by omega)).2 (Nat.le_trans (Nat.log2_self_le ha) h)
/-- small enough to be divided by -/
def divOk (d : Int) : Prop := (0 < d ∧ d.natAbs.log2 < 9000) ∨ (d < 0 ∧ -1073741824 < d)
theorem gcd_le (n d : Int) (hd : d ≠ 0) : 0 < Nat.gcd n.natAbs d.natAbs ∧ Nat.gcd n.natAbs d.natAbs ≤ d.natAbs := by
  have h : 0 < d.natAbs := by omega
  exact ⟨Nat.gcd_pos_of_pos_right _ h, Nat.gcd_le_right _ h⟩
theorem fraction_run (n d : Int) (hd : divOk d) (h : DH) : M_fraction [.d (.int n), .d (.int d)] h = .ok (.d (qD (Rat.divInt n d))) h := by
  have hd0 : d ≠ 0 := by unfold divOk at hd; omega
  obtain ⟨g0, g1⟩ := gcd_le n d hd0
  have gn : ((Nat.gcd n.natAbs d.natAbs : Nat) : Int) ∣ n := by
    have := Nat.gcd_dvd_left n.natAbs d.natAbs
    exact Int.ofNat_dvd_left.2 this
  have gd : ((Nat.gcd n.natAbs d.natAbs : Nat) : Int) ∣ d := by
    have := Nat.gcd_dvd_right n.natAbs d.natAbs
    exact Int.ofNat_dvd_left.2 this
  have e1 : (Rat.divInt n d).num = d.sign * n / (Nat.gcd n.natAbs d.natAbs : Nat) := by
    rw [Rat.num_divInt, Int.gcd_comm]; rfl
  have e2 : ((Rat.divInt n d).den : Int) = (d.natAbs : Int) / (Nat.gcd n.natAbs d.natAbs : Nat) := by
    rw [Rat.den_divInt, if_neg hd0, Int.gcd_comm]; rfl
  generalize hg : Nat.gcd n.natAbs d.natAbs = c at *
  have q : qD (Rat.divInt n d) = .tup [.int (d.sign * n / c), .int ((d.natAbs : Int) / c)] := by
    unfold qD; rw [e1, e2]
  rw [q]
  rcases hd with ⟨hp, hl⟩ | ⟨hp, hl⟩
  · have hs : d.sign = 1 := Int.sign_eq_one_of_pos hp
    have ha : (d.natAbs : Int) = d := by omega
    have hc : (0 : Int) < c ∧ (c : Int).natAbs.log2 < 9000 := ⟨by omega, Nat.lt_of_le_of_lt (log2_mono (by simpa using g1)) hl⟩
    have f1 := fdiv_c n c h hc
    have f2 := fdiv_c d c h hc
    have hn : ¬ d < 0 := by omega
    rw [hs, ha, Int.one_mul]
    simp [M_fraction, fnM, start0, sCons, sSet, eCall, bGcd, aCons, aNil, eVar, bnd, ret, asg, hg, sIf, tTst, eBin, eC, dLt, isBl, hn, sNil, sRet, eTup, f1, f2, plains, bodyEnd]
  · have hs : d.sign = -1 := Int.sign_eq_neg_one_of_neg hp
    have ha : (d.natAbs : Int) = -d := by omega
    have hc : -(c : Int) < 0 ∧ -1073741824 < -(c : Int) := ⟨by omega, by omega⟩
    have f1 := fdiv_n n (-c) h hc
    have f2 := fdiv_n d (-c) h hc
    have x1 : n.fdiv (-(c : Int)) = -1 * n / c := by
      rw [Int.fdiv_eq_ediv_of_dvd (by simpa using gn), Int.ediv_neg, Int.neg_mul, Int.one_mul, Int.neg_ediv_of_dvd gn]
    have x2 : d.fdiv (-(c : Int)) = -d / c := by
      rw [Int.fdiv_eq_ediv_of_dvd (by simpa using gd), Int.ediv_neg, Int.neg_ediv_of_dvd gd]
    rw [x1] at f1
    rw [x2] at f2
    rw [hs, ha]
    simp [M_fraction, fnM, start0, sCons, sSet, eCall, bGcd, aCons, aNil, eVar, bnd, ret, asg, hg, sIf, tTst, eBin, eC, dLt, isBl, hp, sNil, sRet, eTup, eUn, dNeg, f1, f2, plains, bodyEnd]
/-- sizes -/
def Sm (r : Rat) : Prop := r.num.natAbs < 2 ^ 400 ∧ r.den < 2 ^ 400
theorem log2_lt' {a k : Nat} (h : a < 2 ^ k) (hk : 0 < k) : a.log2 < k := by
  by_cases ha : a = 0
  · subst ha; simpa using hk
  · exact (Nat.log2_lt ha).2 h
theorem mul_sm {a b : Int} (ha : a.natAbs < 2 ^ 400) (hb : b.natAbs < 2 ^ 400) (h : DH) : dMul (.d (.int a)) (.d (.int b)) h = .ok (.d (.int (a * b))) h := by
  refine if_pos ?_
  unfold mulOk
  have h1 := log2_lt' ha (by decide)
  have h2 := log2_lt' hb (by decide)
  have : a.natAbs.log2 + b.natAbs.log2 < 1000000 := by omega
  rw [decide_eq_true this]
  simp
theorem den_abs (r : Rat) : ((r.den : Int)).natAbs = r.den := rfl
theorem div_sm {a b : Nat} (ha : a < 2 ^ 400) (hb : b < 2 ^ 400) (ha0 : a ≠ 0) (hb0 : b ≠ 0) : divOk ((a : Int) * (b : Int)) := by
  have hp : 0 < a * b := Nat.mul_pos (by omega) (by omega)
  refine .inl ⟨by exact_mod_cast hp, ?_⟩
  have e : ((a : Int) * (b : Int)).natAbs = a * b := by
    rw [Int.natAbs_mul]; rfl
  rw [e]
  have : a * b < 2 ^ 800 := by
    have := Nat.mul_lt_mul'' ha hb
    calc a * b < 2 ^ 400 * 2 ^ 400 := this
      _ = 2 ^ 800 := by rw [← Nat.pow_add]
  have := log2_lt' this (by decide)
  omega
theorem plus_run {a b : Rat} (ha : Sm a) (hb : Sm b) (h : DH) : M_plus [.d (qD a), .d (qD b)] h = .ok (.d (qD (a + b))) h := by
  have m1 := mul_sm (a := a.num) (b := b.den) ha.1 hb.2 h
  have m2 := mul_sm (a := b.num) (b := a.den) hb.1 ha.2 h
  have m3 := mul_sm (a := a.den) (b := b.den) ha.2 hb.2 h
  have f := fraction_run (a.num * b.den + b.num * a.den) (a.den * b.den) (div_sm ha.2 hb.2 a.den_nz b.den_nz) []
  have f := call2 f h
  have e : Rat.divInt (a.num * b.den + b.num * a.den) (a.den * b.den) = a + b := by
    rw [Rat.add_def', ← Rat.divInt_ofNat, Int.natCast_mul]
  rw [e] at f
  simp [M_plus, fnM, start0, sCons, sRet, sNil, eCall, aCons, aNil, eVar, bnd, ret, eBin, eC, dIx, qD, atI, ixN, m1, m2, m3, add_i, bodyEnd]
  simp [qD] at f
  rw [f]
theorem minus_run {a b : Rat} (ha : Sm a) (hb : Sm b) (h : DH) : M_minus [.d (qD a), .d (qD b)] h = .ok (.d (qD (a - b))) h := by
  have m1 := mul_sm (a := a.num) (b := b.den) ha.1 hb.2 h
  have m2 := mul_sm (a := b.num) (b := a.den) hb.1 ha.2 h
  have m3 := mul_sm (a := a.den) (b := b.den) ha.2 hb.2 h
  have f := fraction_run (a.num * b.den - b.num * a.den) (a.den * b.den) (div_sm ha.2 hb.2 a.den_nz b.den_nz) []
  have f := call2 f h
  have e : Rat.divInt (a.num * b.den - b.num * a.den) (a.den * b.den) = a - b := by
    rw [Rat.sub_def', ← Rat.divInt_ofNat, Int.natCast_mul]
  rw [e] at f
  simp [M_minus, fnM, start0, sCons, sRet, sNil, eCall, aCons, aNil, eVar, bnd, ret, eBin, eC, dIx, qD, atI, ixN, m1, m2, m3, dSub, bodyEnd]
  simp [qD] at f
  rw [f]
theorem product_run {a b : Rat} (ha : Sm a) (hb : Sm b) (h : DH) : M_product [.d (qD a), .d (qD b)] h = .ok (.d (qD (a * b))) h := by
  have m1 := mul_sm (a := a.num) (b := b.num) ha.1 hb.1 h
  have m3 := mul_sm (a := a.den) (b := b.den) ha.2 hb.2 h
  have f := fraction_run (a.num * b.num) (a.den * b.den) (div_sm ha.2 hb.2 a.den_nz b.den_nz) []
  have f := call2 f h
  have e : Rat.divInt (a.num * b.num) (a.den * b.den) = a * b := by
    rw [Rat.mul_def', ← Rat.divInt_ofNat, Int.natCast_mul]
  rw [e] at f
  simp [M_product, fnM, start0, sCons, sRet, sNil, eCall, aCons, aNil, eVar, bnd, ret, eBin, eC, dIx, qD, atI, ixN, m1, m3, bodyEnd]
  simp [qD] at f
  rw [f]
theorem quot_eq (a b : Rat) : Rat.divInt (a.num * b.den) (a.den * b.num) = a / b := by
  rw [Rat.div_def, Rat.inv_def]
  conv => rhs; lhs; rw [← Rat.num_divInt_den a]
  rw [Rat.divInt_mul_divInt]
theorem quotient_run {a b : Rat} (ha : Sm a) (hb : Sm b) (hd : divOk (a.den * b.num)) (h : DH) : M_quotient [.d (qD a), .d (qD b)] h = .ok (.d (qD (a / b))) h := by
  have m1 := mul_sm (a := a.num) (b := b.den) ha.1 hb.2 h
  have m3 := mul_sm (a := a.den) (b := b.num) ha.2 hb.1 h
  have f := fraction_run (a.num * b.den) (a.den * b.num) hd []
  have f := call2 f h
  rw [quot_eq] at f
  simp [M_quotient, fnM, start0, sCons, sRet, sNil, eCall, aCons, aNil, eVar, bnd, ret, eBin, eC, dIx, qD, atI, ixN, m1, m3, bodyEnd]
  simp [qD] at f
  rw [f]
theorem negative_run (a : Rat) (h : DH) : M_negative [.d (qD a)] h = .ok (.d (qD (-a))) h := rfl
/-! ### the law's own divisor -/
def gB : SF := sCons (sIf (tTst (eBin dEq (eVar 3) (eC (.int 0)))) (sCons sBk sNil) sNil) (sCons (sSet (.nm 5) (eBin dMod (eCall bInt (aCons (eVar 2) aNil)) (eVar 3))) (sCons (sSet (.nm 2) (eVar 3)) (sCons (sSet (.nm 3) (eVar 5)) sNil)))
theorem gB_run (a b x4 x5 : Option Vx) (l r : Nat) (h : DH) : gB [a, b, some (.d (.int l)), some (.d (.int r)), x4, x5] h = if r = 0 then .ok (.bk, [a, b, some (.d (.int l)), some (.d (.int r)), x4, x5]) h else .ok (.nx, [a, b, some (.d (.int r)), some (.d (.int (l % r : Nat))), x4, some (.d (.int (l % r : Nat)))]) h := by
  by_cases h0 : r = 0
  · subst h0; rfl
  · rw [if_neg h0]
    have e : deq (.int (r : Int)) (.int 0) = false := by
      show decide ((r : Int) = 0) = false
      exact decide_eq_false (by omega)
    have em := mod_c l r h (by omega)
    simp [gB, sCons, sIf, tTst, eBin, bnd, ret, eVar, eC, dEq, asD, dep, e, isBl, sNil, eCall, aCons, aNil, bInt, em, sSet, asg]
theorem fGo_next {wk : Wk} {t : MT} {fb : SF} {n i : Nat} {a a1 a2 : DEnv} {h h2 : DH} {y : Vx} (e : wk.item i h = some (some y)) (ea : asg t y a = some a1) (eb : fb a1 h = .ok (.nx, a2) h2) : fGo wk t fb (n + 1) i a h = fGo wk t fb n (i + 1) a2 h2 := by
  show (match wk.item i h with | none => Rz.stk | some none => _ | some (some y) => _) = _
  rw [e]
  simp only [ea]
  unfold bnd
  rw [eb]
theorem fGo_brk {wk : Wk} {t : MT} {fb : SF} {n i : Nat} {a a1 a2 : DEnv} {h h2 : DH} {y : Vx} (e : wk.item i h = some (some y)) (ea : asg t y a = some a1) (eb : fb a1 h = .ok (.bk, a2) h2) : fGo wk t fb (n + 1) i a h = .ok (.nx, a2) h2 := by
  show (match wk.item i h with | none => Rz.stk | some none => _ | some (some y) => _) = _
  rw [e]
  simp only [ea]
  unfold bnd
  rw [eb]
theorem rg_at {lo : Int} {m i : Nat} (hi : i < m) (h : DH) : (Wk.rg lo m).item i h = some (some (.d (.int (lo + i)))) := by
  show some (if i < m then some (Vx.d (.int (lo + i))) else none) = _
  rw [if_pos hi]
theorem gl (a b : Option Vx) (h : DH) : ∀ (k l r : Nat) (x4 x5 : Option Vx) (i n : Nat), r < 2 ^ k → i + 2 * k < 20000 → 20000 < i + n →
    ∃ y4 y5, fGo (.rg 0 20000) (.nm 4) gB n i [a, b, some (.d (.int l)), some (.d (.int r)), x4, x5] h = .ok (.nx, [a, b, some (.d (.int (Nat.gcd l r : Nat))), some (.d (.int 0)), y4, y5]) h
  | k, l, r, x4, x5, i, 0, hr, hi, hn => by omega
  | k, l, r, x4, x5, i, n + 1, hr, hi, hn => by
    have e := rg_at (lo := 0) (m := 20000) (i := i) (by omega) h
    by_cases h0 : r = 0
    · subst h0
      refine ⟨some (.d (.int (0 + i))), x5, ?_⟩
      rw [fGo_brk e rfl (gB_run a b _ x5 l 0 h), Nat.gcd_zero_right]
      rfl
    · have q := gB_run a b (some (.d (.int (0 + i)))) x5 l r h
      rw [if_neg h0] at q
      rw [fGo_next e rfl q]
      have hlt : l % r < r := Nat.mod_lt _ (by omega)
      match k, n with
      | 0, _ => exact absurd hr (by simp; omega)
      | k + 1, 0 => omega
      | k + 1, n + 1 =>
        have e2 := rg_at (lo := 0) (m := 20000) (i := i + 1) (by omega) h
        by_cases h1 : l % r = 0
        · refine ⟨some (.d (.int (0 + (i + 1 : Nat)))), some (.d (.int (l % r : Nat))), ?_⟩
          have q2 := gB_run a b (some (.d (.int (0 + (i + 1 : Nat))))) (some (.d (.int (l % r : Nat)))) r (l % r) h
          rw [if_pos h1] at q2
          rw [fGo_brk e2 rfl q2, h1]
          have : Nat.gcd l r = r := by
            rw [Nat.gcd_comm, Nat.gcd_rec, h1, Nat.gcd_zero_left]
          rw [this]
          rfl
        · have q2 := gB_run a b (some (.d (.int (0 + (i + 1 : Nat))))) (some (.d (.int (l % r : Nat)))) r (l % r) h
          rw [if_neg h1] at q2
          rw [fGo_next e2 rfl q2]
          have hb : r % (l % r) < 2 ^ k := by
            have h2 : r % (l % r) < l % r := Nat.mod_lt _ (by omega)
            have h3 := Nat.div_add_mod r (l % r)
            have h4 : 1 ≤ r / (l % r) := Nat.div_pos (by omega) (by omega)
            have h5 : (l % r) * 1 ≤ (l % r) * (r / (l % r)) := Nat.mul_le_mul_left _ h4
            have h6 : 2 ^ (k + 1) = 2 * 2 ^ k := by rw [Nat.pow_succ]; omega
            omega
          obtain ⟨y4, y5, e3⟩ := gl a b h k (l % r) (r % (l % r)) (some (.d (.int (0 + (i + 1 : Nat))))) (some (.d (.int (r % (l % r) : Nat)))) (i + 1 + 1) n hb (by omega) (by omega)
          refine ⟨y4, y5, e3.trans ?_⟩
          have : Nat.gcd (l % r) (r % (l % r)) = Nat.gcd l r := by
            rw [Nat.gcd_comm (l % r), ← Nat.gcd_rec (l % r) r, ← Nat.gcd_rec r l, Nat.gcd_comm]
          rw [this]
theorem lgcd_run (n d : Int) (hd : d.natAbs < 2 ^ 800) (h : DH) : M__law_gcd [.d (.int n), .d (.int d)] h = .ok (.d (.int (Nat.gcd n.natAbs d.natAbs : Nat))) h := by
  obtain ⟨y4, y5, e⟩ := gl (some (.d (.int n))) (some (.d (.int d))) h 800 n.natAbs d.natAbs none none 0 20001 hd (by omega) (by omega)
  have ab : ∀ (z : Int) (i : Nat) (a : DEnv), a[i]? = some (some (.d (.int z))) → eIf (tTst (eBin dGe (eVar i) (eC (.int 0)))) (eVar i) (eUn dNeg (eVar i)) a h = .ok (.d (.int (z.natAbs : Int))) h := by
    intro z i a ea
    by_cases hz : 0 ≤ z
    · have : (z.natAbs : Int) = z := by omega
      simp [eIf, tTst, eBin, eVar, ea, bnd, eC, ret, dGe, isBl, hz, this]
    · have : (z.natAbs : Int) = -z := by omega
      simp [eIf, tTst, eBin, eVar, ea, bnd, eC, ret, dGe, isBl, hz, eUn, dNeg, this]
  have e0 := ab n 0 [some (.d (.int n)), some (.d (.int d)), none, none, none, none] rfl
  have e1 := ab d 1 [some (.d (.int n)), some (.d (.int d)), some (.d (.int n.natAbs)), none, none, none] rfl
  show bnd (sCons (sSet (.nm 2) _) (sCons (sSet (.nm 3) _) (sCons (sFor (wRng1 (aCons (eC (.int 20000)) aNil)) (.nm 4) gB) (sCons (sRet (eVar 2)) sNil))) [some (.d (.int n)), some (.d (.int d)), none, none, none, none]) bodyEnd h = _
  have s0 : sSet (.nm 2) (eIf (tTst (eBin dGe (eVar 0) (eC (.int 0)))) (eVar 0) (eUn dNeg (eVar 0))) [some (.d (.int n)), some (.d (.int d)), none, none, none, none] h = .ok (.nx, [some (.d (.int n)), some (.d (.int d)), some (.d (.int n.natAbs)), none, none, none]) h := by
    unfold sSet; rw [bnd_ok e0]; rfl
  have s1 : sSet (.nm 3) (eIf (tTst (eBin dGe (eVar 1) (eC (.int 0)))) (eVar 1) (eUn dNeg (eVar 1))) [some (.d (.int n)), some (.d (.int d)), some (.d (.int n.natAbs)), none, none, none] h = .ok (.nx, [some (.d (.int n)), some (.d (.int d)), some (.d (.int n.natAbs)), some (.d (.int d.natAbs)), none, none]) h := by
    unfold sSet; rw [bnd_ok e1]; rfl
  have s2 : sFor (wRng1 (aCons (eC (.int 20000)) aNil)) (.nm 4) gB [some (.d (.int n)), some (.d (.int d)), some (.d (.int n.natAbs)), some (.d (.int d.natAbs)), none, none] h = .ok (.nx, [some (.d (.int n)), some (.d (.int d)), some (.d (.int (Nat.gcd n.natAbs d.natAbs : Nat))), some (.d (.int 0)), y4, y5]) h := by
    unfold sFor
    rw [bnd_ok (m := wRng1 (aCons (eC (.int 20000)) aNil) _) (a := Wk.rg 0 20000) (h' := h) rfl]
    have el : (Wk.rg 0 20000).len h = 20000 := rfl
    rw [el]
    exact e
  unfold sCons
  rw [bnd_ok (a := (.rt (.d (.int (Nat.gcd n.natAbs d.natAbs : Nat))), [some (.d (.int n)), some (.d (.int d)), some (.d (.int (Nat.gcd n.natAbs d.natAbs : Nat))), some (.d (.int 0)), y4, y5])) (h' := h)]
  · rfl
  · rw [bnd_ok s0]
    show bnd (sSet (.nm 3) _ _) _ h = _
    rw [bnd_ok s1]
    show bnd (sFor (wRng1 (aCons (eC (.int 20000)) aNil)) (.nm 4) gB _) _ h = _
    rw [bnd_ok s2]
    rfl
theorem red_run (n d : Int) (hd : 0 < d) (hb : d.natAbs < 2 ^ 800) (h : DH) : M__law_red 24 [.d (.int n), .d (.int d)] h = .ok (.d (qD (Rat.divInt n d))) h := by
  have g := call2 (lgcd_run n d hb []) h
  have hd0 : d ≠ 0 := by omega
  obtain ⟨g0, g1⟩ := gcd_le n d hd0
  have e1 : (Rat.divInt n d).num = d.sign * n / (Nat.gcd n.natAbs d.natAbs : Nat) := by
    rw [Rat.num_divInt, Int.gcd_comm]; rfl
  have e2 : ((Rat.divInt n d).den : Int) = (d.natAbs : Int) / (Nat.gcd n.natAbs d.natAbs : Nat) := by
    rw [Rat.den_divInt, if_neg hd0, Int.gcd_comm]; rfl
  generalize hg : Nat.gcd n.natAbs d.natAbs = c at *
  have q : qD (Rat.divInt n d) = .tup [.int (d.sign * n / c), .int ((d.natAbs : Int) / c)] := by
    unfold qD; rw [e1, e2]
  rw [q]
  have hs : d.sign = 1 := Int.sign_eq_one_of_pos hd
  have ha : (d.natAbs : Int) = d := by omega
  have hl : d.natAbs.log2 < 800 := log2_lt' hb (by decide)
  have hc : (0 : Int) < c ∧ (c : Int).natAbs.log2 < 9000 := ⟨by omega, Nat.lt_of_le_of_lt (log2_mono (by simpa using g1)) (by omega)⟩
  have f1 := fdiv_c n c h hc
  have f2 := fdiv_c d c h hc
  have hn : ¬ d < 0 := by omega
  have ez : deq (.int (c : Int)) (.int 0) = false := by
    show decide ((c : Int) = 0) = false
    exact decide_eq_false (by omega)
  rw [hs, ha, Int.one_mul]
  simp [M__law_red, fnM, start0, sCons, sSet, eCall, aCons, aNil, eVar, bnd, ret, asg, sIf, tTst, eBin, eC, dLt, isBl, hn, sNil, sRet, eTup, f1, f2, plains, bodyEnd, g, dEq, asD, dep, ez]
theorem nat800 {a b : Nat} (ha : a < 2 ^ 400) (hb : b < 2 ^ 400) : a * b < 2 ^ 800 := by
  have := Nat.mul_lt_mul'' ha hb
  calc a * b < 2 ^ 400 * 2 ^ 400 := this
    _ = 2 ^ 800 := by rw [← Nat.pow_add]
theorem red2 (n : Int) {a b : Nat} (ha : a < 2 ^ 400) (hb : b < 2 ^ 400) (ha0 : a ≠ 0) (hb0 : b ≠ 0) (h : DH) : callM [false, false] (M__law_red 24) [.d (.int n), .d (.int ((a : Int) * (b : Int)))] h = .ok (.d (qD (Rat.divInt n ((a : Int) * (b : Int))))) h := by
  have hp : 0 < a * b := Nat.mul_pos (by omega) (by omega)
  refine call2 (red_run n _ (by exact_mod_cast hp) ?_ []) h
  have e : ((a : Int) * (b : Int)).natAbs = a * b := by
    rw [Int.natAbs_mul]; rfl
  rw [e]
  exact nat800 ha hb
theorem ladd_run {a b : Rat} (ha : Sm a) (hb : Sm b) (h : DH) : M__law_add [.d (qD a), .d (qD b)] h = .ok (.d (qD (a + b))) h := by
  have m1 := mul_sm (a := a.num) (b := b.den) ha.1 hb.2 h
  have m2 := mul_sm (a := b.num) (b := a.den) hb.1 ha.2 h
  have m3 := mul_sm (a := a.den) (b := b.den) ha.2 hb.2 h
  have f := red2 (a.num * b.den + b.num * a.den) ha.2 hb.2 a.den_nz b.den_nz h
  have e : Rat.divInt (a.num * b.den + b.num * a.den) (a.den * b.den) = a + b := by
    rw [Rat.add_def', ← Rat.divInt_ofNat, Int.natCast_mul]
  rw [e] at f
  simp [M__law_add, fnM, start0, sCons, sRet, sNil, eCall, aCons, aNil, eVar, bnd, ret, eBin, eC, dIx, qD, atI, ixN, m1, m2, m3, add_i, bodyEnd]
  simp [qD] at f
  rw [f]
theorem lsub_run {a b : Rat} (ha : Sm a) (hb : Sm b) (h : DH) : M__law_sub [.d (qD a), .d (qD b)] h = .ok (.d (qD (a - b))) h := by
  have m1 := mul_sm (a := a.num) (b := b.den) ha.1 hb.2 h
  have m2 := mul_sm (a := b.num) (b := a.den) hb.1 ha.2 h
  have m3 := mul_sm (a := a.den) (b := b.den) ha.2 hb.2 h
  have f := red2 (a.num * b.den - b.num * a.den) ha.2 hb.2 a.den_nz b.den_nz h
  have e : Rat.divInt (a.num * b.den - b.num * a.den) (a.den * b.den) = a - b := by
    rw [Rat.sub_def', ← Rat.divInt_ofNat, Int.natCast_mul]
  rw [e] at f
  simp [M__law_sub, fnM, start0, sCons, sRet, sNil, eCall, aCons, aNil, eVar, bnd, ret, eBin, eC, dIx, qD, atI, ixN, m1, m2, m3, dSub, bodyEnd]
  simp [qD] at f
  rw [f]
theorem lmul_run {a b : Rat} (ha : Sm a) (hb : Sm b) (h : DH) : M__law_mul [.d (qD a), .d (qD b)] h = .ok (.d (qD (a * b))) h := by
  have m1 := mul_sm (a := a.num) (b := b.num) ha.1 hb.1 h
  have m3 := mul_sm (a := a.den) (b := b.den) ha.2 hb.2 h
  have f := red2 (a.num * b.num) ha.2 hb.2 a.den_nz b.den_nz h
  have e : Rat.divInt (a.num * b.num) (a.den * b.den) = a * b := by
    rw [Rat.mul_def', ← Rat.divInt_ofNat, Int.natCast_mul]
  rw [e] at f
  simp [M__law_mul, fnM, start0, sCons, sRet, sNil, eCall, aCons, aNil, eVar, bnd, ret, eBin, eC, dIx, qD, atI, ixN, m1, m3, bodyEnd]
  simp [qD] at f
  rw [f]
end Dn
end
section
set_option Elab.async false
set_option linter.all false
set_option maxRecDepth 100000
set_option maxHeartbeats 4000000
set_option exponentiation.threshold 2000
/-! Dn29: plain: matrices of fractions. -/
namespace Dn
open PySem PySem.Spec PyProof.Rows L2
/-- below 2 ^ k -/
def Lg (k : Nat) (r : Rat) : Prop := r.num.natAbs < 2 ^ k ∧ r.den < 2 ^ k
section
variable {a b : Rat} {j k : Nat}
theorem Lg.mono (h : Lg j a) (e : j ≤ k) : Lg k a := ⟨Nat.lt_of_lt_of_le h.1 (Nat.pow_le_pow_right (by decide) e), Nat.lt_of_lt_of_le h.2 (Nat.pow_le_pow_right (by decide) e)⟩
theorem Lg.sm (h : Lg j a) (e : j ≤ 400) : Sm a := h.mono e
theorem pow_mul_lt {x y : Nat} (hx : x < 2 ^ j) (hy : y < 2 ^ k) : x * y < 2 ^ (j + k) := by
  rw [Nat.pow_add]; exact Nat.mul_lt_mul'' hx hy
theorem Lg.mul (h : Lg j a) (g : Lg k b) : Lg (j + k) (a * b) := by
  refine ⟨?_, ?_⟩
  · rw [Rat.num_mul]
    refine Nat.lt_of_le_of_lt (Int.natAbs_ediv_le_natAbs _ _) ?_
    rw [Int.natAbs_mul]
    exact pow_mul_lt h.1 g.1
  · rw [Rat.den_mul]
    exact Nat.lt_of_le_of_lt (Nat.div_le_self _ _) (pow_mul_lt h.2 g.2)
theorem Lg.add (h : Lg j a) (g : Lg k b) : Lg (j + k + 1) (a + b) := by
  have e : 2 ^ (j + k + 1) = 2 ^ (j + k) + 2 ^ (j + k) := by rw [Nat.pow_succ]; omega
  refine ⟨?_, ?_⟩
  · rw [Rat.num_add]
    refine Nat.lt_of_le_of_lt (Int.natAbs_ediv_le_natAbs _ _) ?_
    refine Nat.lt_of_le_of_lt (Int.natAbs_add_le _ _) ?_
    rw [Int.natAbs_mul, Int.natAbs_mul, e]
    have h1 : a.num.natAbs * (b.den : Int).natAbs < 2 ^ (j + k) := pow_mul_lt h.1 g.2
    have h2 : b.num.natAbs * (a.den : Int).natAbs < 2 ^ (k + j) := pow_mul_lt g.1 h.2
    rw [Nat.add_comm k j] at h2
    omega
  · rw [Rat.den_add]
    have := pow_mul_lt h.2 g.2
    exact Nat.lt_of_le_of_lt (Nat.div_le_self _ _) (by omega)
theorem Lg.neg (h : Lg j a) : Lg j (-a) := ⟨by rw [Rat.neg_num, Int.natAbs_neg]; exact h.1, h.2⟩
theorem Lg.sub (h : Lg j a) (g : Lg k b) : Lg (j + k + 1) (a - b) := by
  rw [Rat.sub_eq_add_neg]; exact h.add g.neg
theorem Lg.div (h : Lg j a) (g : Lg k b) : Lg (j + k) (a / b) := by
  rw [← quot_eq]
  refine ⟨?_, ?_⟩
  · rw [Rat.num_divInt]
    refine Nat.lt_of_le_of_lt (Int.natAbs_ediv_le_natAbs _ _) ?_
    rw [Int.natAbs_mul, Int.natAbs_mul]
    have h1 : a.num.natAbs * (b.den : Int).natAbs < 2 ^ (j + k) := pow_mul_lt h.1 g.2
    have h2 : (((a.den : Int) * b.num).sign).natAbs ≤ 1 := by
      rw [Int.natAbs_sign]; split <;> omega
    calc _ ≤ 1 * (a.num.natAbs * (b.den : Int).natAbs) := Nat.mul_le_mul_right _ h2
      _ < _ := by rw [Nat.one_mul]; exact h1
  · rw [Rat.den_divInt]
    split
    · exact Nat.one_lt_two_pow (by
        intro e
        have e1 : j = 0 := by omega
        subst e1
        have := h.2
        have := a.den_pos
        simp at *
        omega)
    · refine Nat.lt_of_le_of_lt (Nat.div_le_self _ _) ?_
      rw [Int.natAbs_mul]
      exact pow_mul_lt h.2 g.1
end
structure Mx where
  (a b c d e f : Rat)
def mD (m : Mx) : Dt := .tup [qD m.a, qD m.b, qD m.c, qD m.d, qD m.e, qD m.f]
def pD (x y : Rat) : Dt := .tup [qD x, qD y]
def MxL (k : Nat) (m : Mx) : Prop := Lg k m.a ∧ Lg k m.b ∧ Lg k m.c ∧ Lg k m.d ∧ Lg k m.e ∧ Lg k m.f
theorem linear_run (a b c d x y : Rat) (rest : List Dt) (hc : cutD (qD a :: qD b :: qD c :: qD d :: rest) (some 0) (some 4) = [qD a, qD b, qD c, qD d]) (sa : Sm a) (sb : Sm b) (sc : Sm c) (sd : Sm d) (sx : Sm x) (sy : Sm y) (s1 : Sm (a * x)) (s2 : Sm (c * y)) (s3 : Sm (b * x)) (s4 : Sm (d * y)) (h : DH) :
    M_linear [.d (.tup (qD a :: qD b :: qD c :: qD d :: rest)), .d (pD x y)] h = .ok (.d (pD (a * x + c * y) (b * x + d * y))) h := by
  have p1 := call2 (product_run sa sx []) h
  have p2 := call2 (product_run sc sy []) h
  have p3 := call2 (product_run sb sx []) h
  have p4 := call2 (product_run sd sy []) h
  have q1 := call2 (plus_run s1 s2 []) h
  have q2 := call2 (plus_run s3 s4 []) h
  simp [M_linear, fnM, start0, sCons, sSet, sRet, sNil, eCall, aCons, aNil, eVar, bnd, ret, eSl, oSome, eC, dSl, hc, asg, asgs, pD, p1, p2, p3, p4, q1, q2, eTup, plains, bodyEnd]
theorem taken_run (m : Mx) (x y : Rat) (k j : Nat) (hk : MxL k m) (hx : Lg j x) (hy : Lg j y) (hs : 3 * k + 2 * j + 2 ≤ 400) (h : DH) :
    M_taken [.d (mD m), .d (pD x y)] h = .ok (.d (pD (m.a * x + m.c * y + m.e) (m.b * x + m.d * y + m.f))) h := by
  obtain ⟨ha, hb, hc, hd, he, hf⟩ := hk
  have l := call2 (linear_run m.a m.b m.c m.d x y [qD m.e, qD m.f] rfl (ha.sm (by omega)) (hb.sm (by omega)) (hc.sm (by omega)) (hd.sm (by omega)) (hx.sm (by omega)) (hy.sm (by omega)) ((ha.mul hx).sm (by omega)) ((hc.mul hy).sm (by omega)) ((hb.mul hx).sm (by omega)) ((hd.mul hy).sm (by omega)) []) h
  have q1 := call2 (plus_run (((ha.mul hx).add (hc.mul hy)).sm (by omega)) (he.sm (by omega)) []) h
  have q2 := call2 (plus_run (((hb.mul hx).add (hd.mul hy)).sm (by omega)) (hf.sm (by omega)) []) h
  have l : callM [false, false] M_linear [.d (mD m), .d (pD x y)] h = _ := l
  simp [M_taken, fnM, start0, sCons, sSet, sRet, sNil, eCall, aCons, aNil, eVar, bnd, ret, l]
  simp [pD, asg, asgs, mD, eBin, eC, dIx, atI, ixN, aCons, aNil, eCall, eVar, q1, q2, eTup, plains, bodyEnd, ret, bnd]
def Mx.mul (o n : Mx) : Mx := ⟨n.a * o.a + n.c * o.b, n.b * o.a + n.d * o.b, n.a * o.c + n.c * o.d, n.b * o.c + n.d * o.d, n.a * o.e + n.c * o.f + n.e, n.b * o.e + n.d * o.f + n.f⟩
theorem combined_run (o n : Mx) (k j : Nat) (hk : MxL k n) (hj : MxL j o) (hs : 3 * k + 2 * j + 2 ≤ 400) (h : DH) : M_combined [.d (mD o), .d (mD n)] h = .ok (.d (mD (o.mul n))) h := by
  obtain ⟨ha, hb, hc, hd, he, hf⟩ := hk
  obtain ⟨ga, gb, gc, gd, ge, gf⟩ := hj
  have l1 : callM [false, false] M_linear [.d (mD n), .d (pD o.a o.b)] h = _ := call2 (linear_run n.a n.b n.c n.d o.a o.b [qD n.e, qD n.f] rfl (ha.sm (by omega)) (hb.sm (by omega)) (hc.sm (by omega)) (hd.sm (by omega)) (ga.sm (by omega)) (gb.sm (by omega)) ((ha.mul ga).sm (by omega)) ((hc.mul gb).sm (by omega)) ((hb.mul ga).sm (by omega)) ((hd.mul gb).sm (by omega)) []) h
  have l2 : callM [false, false] M_linear [.d (mD n), .d (pD o.c o.d)] h = _ := call2 (linear_run n.a n.b n.c n.d o.c o.d [qD n.e, qD n.f] rfl (ha.sm (by omega)) (hb.sm (by omega)) (hc.sm (by omega)) (hd.sm (by omega)) (gc.sm (by omega)) (gd.sm (by omega)) ((ha.mul gc).sm (by omega)) ((hc.mul gd).sm (by omega)) ((hb.mul gc).sm (by omega)) ((hd.mul gd).sm (by omega)) []) h
  have l3 := call2 (taken_run n o.e o.f k j ⟨ha, hb, hc, hd, he, hf⟩ ge gf hs []) h
  have c1 : dSl (.d (mD o)) (some 0) (some 2) h = .ok (.d (pD o.a o.b)) h := rfl
  have c2 : dSl (.d (mD o)) (some 2) (some 4) h = .ok (.d (pD o.c o.d)) h := rfl
  have c3 : dSl (.d (mD o)) (some 4) (some 6) h = .ok (.d (pD o.e o.f)) h := rfl
  have d1 : dAdd (.d (pD (n.a * o.a + n.c * o.b) (n.b * o.a + n.d * o.b))) (.d (pD (n.a * o.c + n.c * o.d) (n.b * o.c + n.d * o.d))) h = .ok (.d (.tup [qD (n.a * o.a + n.c * o.b), qD (n.b * o.a + n.d * o.b), qD (n.a * o.c + n.c * o.d), qD (n.b * o.c + n.d * o.d)])) h := rfl
  have d2 : dAdd (.d (.tup [qD (n.a * o.a + n.c * o.b), qD (n.b * o.a + n.d * o.b), qD (n.a * o.c + n.c * o.d), qD (n.b * o.c + n.d * o.d)])) (.d (pD (n.a * o.e + n.c * o.f + n.e) (n.b * o.e + n.d * o.f + n.f))) h = .ok (.d (mD (o.mul n))) h := rfl
  simp [M_combined, fnM, start0, sCons, sRet, sNil, eCall, aCons, aNil, eVar, bnd, ret, eSl, oSome, eC, eBin, c1, c2, c3, l1, l2, l3, d1, d2, bodyEnd]
end Dn
end
section
set_option Elab.async false
set_option linter.all false
set_option maxRecDepth 100000
set_option maxHeartbeats 4000000
set_option exponentiation.threshold 2000
/-! Dn30: plain: comprehensions; inverses. -/
namespace Dn
open PySem PySem.Spec PyProof.Rows L2
theorem lcGo_list {L : List Dt} {i : Nat} {fe : DEnv → Mo Vx} {a : DEnv} {h : DH} {φ : Dt → Dt} (hl : L.length ≤ 16777216) (e : ∀ y ∈ L, fe (a.set i (some (.d y))) h = .ok (.d (φ y)) h) :
    ∀ (n k : Nat) (acc : List Vx), L.length < k + n → k ≤ L.length → acc.length = k → lcGo (.s (.ds L)) (.nm i) tYesD fe a n k acc h = .ok (acc ++ (L.drop k).map fun y => Vx.d (φ y)) h
  | 0, k, acc, h1, h2, h3 => by omega
  | n + 1, k, acc, h1, h2, h3 => by
    unfold lcGo
    rw [item_ds L k h]
    by_cases hk : k < L.length
    · have e1 : (L.map Vx.d)[k]? = some (.d L[k]) := by simp [hk]
      rw [e1]
      simp only [asg, tYesD, ret]
      rw [e _ (List.getElem_mem hk)]
      simp only []
      rw [if_pos (by omega), lcGo_list hl e n (k + 1) _ (by omega) hk (by simp; omega)]
      rw [List.drop_eq_getElem_cons hk, List.map_cons, List.append_assoc]
      rfl
    · have : k = L.length := by omega
      subst this
      rw [List.getElem?_eq_none (by simp)]
      simp
theorem lc_run {fi : DEnv → Mo Wk} {L : List Dt} {i : Nat} {vs : List Nat} {fe : DEnv → Mo Vx} {a : DEnv} {h : DH} {φ : Dt → Dt} (ew : fi a h = .ok (.s (.ds L)) h) (hl : L.length ≤ 16777216) (e : ∀ y ∈ L, fe ((wipeD a vs).set i (some (.d y))) h = .ok (.d (φ y)) h) :
    eLc true fi (.nm i) tYesD fe vs a h = .ok (.d (.lst (L.map φ))) h := by
  unfold eLc
  rw [bnd_ok ew]
  have el : (Wk.s (.ds L)).len h = L.length := rfl
  rw [el, bnd_ok (lcGo_list hl e (L.length + 1) 0 [] (by omega) (by omega) rfl)]
  have : ([] ++ (L.drop 0).map fun y => Vx.d (φ y)) = (L.map φ).map Vx.d := by simp
  rw [this]
  show (match plains ((L.map φ).map Vx.d) with | some ds => (Rz.ok (Vx.d (.lst ds)) h : Rz Vx) | none => .stk) = _
  rw [plains_map]
theorem deq_q (a b : Rat) : deq (qD a) (qD b) = decide (a = b) := by
  have e : deq (qD a) (qD b) = (decide (a.num = b.num) && (decide ((a.den : Int) = b.den) && true)) := rfl
  rw [e]
  by_cases h : a = b
  · subst h; simp
  · rw [decide_eq_false h]
    by_cases h1 : a.num = b.num
    · have : ¬ ((a.den : Int) = b.den) := fun q => h (Rat.ext h1 (by omega))
      simp [this]
    · simp [h1]
theorem determinant_run (m : Mx) (k : Nat) (hk : MxL k m) (hs : 4 * k + 1 ≤ 400) (h : DH) : M_determinant [.d (mD m)] h = .ok (.d (qD (m.a * m.d - m.b * m.c))) h := by
  obtain ⟨ha, hb, hc, hd, he, hf⟩ := hk
  have p1 := call2 (product_run (ha.sm (by omega)) (hd.sm (by omega)) []) h
  have p2 := call2 (product_run (hb.sm (by omega)) (hc.sm (by omega)) []) h
  have p3 := call2 (minus_run ((ha.mul hd).sm (by omega)) ((hb.mul hc).sm (by omega)) []) h
  have c1 : dSl (.d (mD m)) (some 0) (some 4) h = .ok (.d (.tup [qD m.a, qD m.b, qD m.c, qD m.d])) h := rfl
  simp [M_determinant, fnM, start0, sCons, sSet, sRet, sNil, eCall, aCons, aNil, eVar, bnd, ret, eSl, oSome, eC, c1, asg, asgs, p1, p2, p3, bodyEnd]
def Mx.det (m : Mx) : Rat := m.a * m.d - m.b * m.c
def Mx.inv (m : Mx) : Mx := ⟨m.d / m.det, -(m.b / m.det), -(m.c / m.det), m.a / m.det, -(m.d / m.det * m.e + -(m.c / m.det) * m.f), -(-(m.b / m.det) * m.e + m.a / m.det * m.f)⟩
theorem divOk_lg {a b : Rat} {j k : Nat} (ha : Lg j a) (hb : Lg k b) (h0 : b ≠ 0) (hs : j + k ≤ 30) : divOk (a.den * b.num) := by
  have h1 : ((a.den : Int) * b.num).natAbs < 2 ^ (j + k) := by
    rw [Int.natAbs_mul]; exact pow_mul_lt ha.2 hb.1
  have h2 : 2 ^ (j + k) ≤ 2 ^ 30 := Nat.pow_le_pow_right (by decide) hs
  have hn : b.num ≠ 0 := fun e => h0 (Rat.num_eq_zero.1 e)
  have h3 : (a.den : Int) * b.num ≠ 0 := Int.mul_ne_zero (by have := a.den_nz; omega) hn
  have h4 : ((a.den : Int) * b.num).natAbs.log2 < 30 := log2_lt' (by omega) (by decide)
  have h5 : ((a.den : Int) * b.num).natAbs < 1073741824 := by omega
  generalize (a.den : Int) * b.num = z at *
  unfold divOk
  omega
theorem inverted_run (m : Mx) (k : Nat) (hk : MxL k m) (hs : 6 * k + 1 ≤ 30) (h : DH) :
    M_inverted [.d (mD m)] h = .ok (.d (if m.det = 0 then .non else mD m.inv)) h := by
  have hdet := call1 (determinant_run m k hk (by omega) []) h
  obtain ⟨ha, hb, hc, hd, he, hf⟩ := hk
  have hg : Lg (4 * k + 1) m.det := ((ha.mul hd).sub (hb.mul hc)).mono (by omega)
  have hdet : callM [false] M_determinant [.d (mD m)] h = .ok (.d (qD m.det)) h := hdet
  have eq0 : dEq (.d (qD m.det)) (.d (.tup [.int 0, .int 1])) h = .ok (.d (.bl (decide (m.det = 0)))) h := by
    have : dEq (.d (qD m.det)) (.d (qD 0)) h = .ok (.d (.bl (deq (qD m.det) (qD 0)))) h := rfl
    rw [deq_q] at this
    exact this
  by_cases h0 : m.det = 0
  · rw [if_pos h0]
    rw [decide_eq_true h0] at eq0
    clear h0 hg
    generalize m.det = t at *
    simp [M_inverted, fnM, start0, sCons, sSet, sRet, eCall, aCons, aNil, eVar, bnd, ret, hdet, asg, sIf, tTst, eBin, eC, eq0, isBl, bodyEnd]
  · rw [if_neg h0]
    rw [decide_eq_false h0] at eq0
    have q : ∀ r : Rat, Lg k r → callM [false, false] M_quotient [.d (qD r), .d (qD m.det)] h = .ok (.d (qD (r / m.det))) h := fun r hr =>
      call2 (quotient_run (hr.sm (by omega)) (hg.sm (by omega)) (divOk_lg hr hg h0 (by omega)) []) h
    have lb := (hb.div hg).neg
    have lc := (hc.div hg).neg
    have la := ha.div hg
    have ld := hd.div hg
    have l := call2 (linear_run (m.d / m.det) (-(m.b / m.det)) (-(m.c / m.det)) (m.a / m.det) m.e m.f [] rfl (ld.sm (by omega)) (lb.sm (by omega)) (lc.sm (by omega)) (la.sm (by omega)) (he.sm (by omega)) (hf.sm (by omega)) ((ld.mul he).sm (by omega)) ((lc.mul hf).sm (by omega)) ((lb.mul he).sm (by omega)) ((la.mul hf).sm (by omega)) []) h
    have c1 : dSl (.d (mD m)) (some 0) (some 4) h = .ok (.d (.tup [qD m.a, qD m.b, qD m.c, qD m.d])) h := rfl
    have c2 : dSl (.d (mD m)) (some 4) (some 6) h = .ok (.d (pD m.e m.f)) h := rfl
    have lc1 : ∀ a : DEnv, a[0]? = some (some (.d (mD m))) → a[1]? = some (some (.d (qD m.det))) → a.length = 10 → eLc true (wVal (eSl (eVar 0) (oSome (eC (.int 0))) (oSome (eC (.int 4))))) (.nm 6) tYesD (eCall (fun ys => callM [false, false] M_quotient (ys ++ ([] : List Dt).map Vx.d)) (aCons (eVar 6) (aCons (eVar 1) aNil))) [6] a h
        = .ok (.d (.lst [qD (m.a / m.det), qD (m.b / m.det), qD (m.c / m.det), qD (m.d / m.det)])) h := by
      intro a e0 e1 e2
      have ew : wVal (eSl (eVar 0) (oSome (eC (.int 0))) (oSome (eC (.int 4)))) a h = .ok (.s (.ds [qD m.a, qD m.b, qD m.c, qD m.d])) h := by
        simp [wVal, eSl, eVar, e0, bnd, oSome, eC, ret, c1, srcOf, Src.item]
      have key := lc_run (i := 6) (vs := [6]) (fe := eCall (fun ys => callM [false, false] M_quotient (ys ++ ([] : List Dt).map Vx.d)) (aCons (eVar 6) (aCons (eVar 1) aNil))) (φ := fun y => match y with | .tup [.int n, .int d] => qD (Rat.divInt n d / m.det) | _ => .non) ew (by simp) (by
        have base : ∀ r : Rat, Lg k r → eCall (fun ys => callM [false, false] M_quotient (ys ++ ([] : List Dt).map Vx.d)) (aCons (eVar 6) (aCons (eVar 1) aNil)) ((wipeD a [6]).set 6 (some (.d (qD r)))) h = .ok (.d (qD (Rat.divInt r.num r.den / m.det))) h := by
          intro r hr
          have f1 : ((wipeD a [6]).set 6 (some (.d (qD r))))[6]? = some (some (.d (qD r))) := by
            rw [List.getElem?_set_self]; simp [wipeD, e2]
          have f2 : ((wipeD a [6]).set 6 (some (.d (qD r))))[1]? = some (some (.d (qD m.det))) := by
            rw [List.getElem?_set_ne (by decide)]; simp [wipeD, e1]
          rw [Rat.num_divInt_den]
          simp [eCall, aCons, aNil, eVar, f1, f2, bnd, ret, q r hr]
        intro y hy
        simp only [List.mem_cons, List.not_mem_nil, or_false] at hy
        rcases hy with rfl | rfl | rfl | rfl
        · exact base _ ha
        · exact base _ hb
        · exact base _ hc
        · exact base _ hd)
      rw [key]
      simp [qD, Rat.num_divInt_den]
    have d1 : dAdd (.d (.tup [qD (m.d / m.det), qD (-(m.b / m.det)), qD (-(m.c / m.det)), qD (m.a / m.det)])) (.d (pD (-(m.d / m.det * m.e + -(m.c / m.det) * m.f)) (-(-(m.b / m.det) * m.e + m.a / m.det * m.f)))) h = .ok (.d (mD m.inv)) h := rfl
    have n : ∀ r : Rat, callM [false] M_negative [.d (qD r)] h = .ok (.d (qD (-r))) h := fun r => call1 (negative_run r []) h
    simp [M_inverted, fnM, start0, sCons, sSet, sRet, sNil, eCall, aCons, aNil, eVar, bnd, ret, hdet, asg, sIf, tTst, eBin, eC, eq0, isBl]
    have lc2 := lc1 [some (.d (mD m)), some (.d (qD m.det)), none, none, none, none, none, none, none, none] rfl rfl rfl
    simp at lc2
    rw [lc2]
    simp [asgs, asg, eTup, n, plains, eSl, oSome, eC, c2, l, pD, eVar, bnd, ret, aCons, aNil, eCall, bodyEnd]
    simp [pD] at d1 l c2
    simp [c2, l, asgs, asg, n, bnd, eVar, ret, aCons, aNil, eCall, eTup, plains, d1, bodyEnd]
end Dn
end
section
set_option Elab.async false
set_option linter.all false
set_option maxRecDepth 100000
set_option maxHeartbeats 4000000
set_option exponentiation.threshold 2000
/-! Dn31: plain: the law's own matrices. -/
namespace Dn
open PySem PySem.Spec PyProof.Rows L2
section
variable {a a1 : DEnv} {h h1 : DH} {f1 f2 fb : SF} {fe : DEnv → Mo Vx} {ft : DEnv → Mo Bool} {y : Vx} {t : MT} {ys : List Vx} {nl : Nat}
theorem sCons_nx (e : f1 a h = .ok (.nx, a1) h1) : sCons f1 f2 a h = f2 a1 h1 := by unfold sCons; rw [bnd_ok e]
theorem sCons_rt (e : f1 a h = .ok (.rt y, a1) h1) : sCons f1 f2 a h = .ok (.rt y, a1) h1 := by unfold sCons; rw [bnd_ok e]
theorem sSet_ok (e : fe a h = .ok y h1) (ea : asg t y a = some a1) : sSet t fe a h = .ok (.nx, a1) h1 := by unfold sSet; rw [bnd_ok e]; simp only [ea]
theorem sRet_ok (e : fe a h = .ok y h1) : sRet fe a h = .ok (.rt y, a) h1 := by unfold sRet; rw [bnd_ok e]
theorem sExpr_ok (e : fe a h = .ok y h1) : sExpr fe a h = .ok (.nx, a) h1 := by unfold sExpr; rw [bnd_ok e]
theorem sIf_t (e : ft a h = .ok true h1) : sIf ft f1 f2 a h = f1 a h1 := by unfold sIf; rw [bnd_ok e]
theorem sIf_f (e : ft a h = .ok false h1) : sIf ft f1 f2 a h = f2 a h1 := by unfold sIf; rw [bnd_ok e]
theorem fnM_rt (e : fb (start0 nl ys) h = .ok (.rt y, a1) h1) : fnM nl fb ys h = .ok y h1 := by unfold fnM; rw [bnd_ok e]; rfl
end
/-! a call within a call: what the parts give -/
theorem eCall_ok {dop : List Vx → Mo Vx} {fs : DEnv → Mo (List Vx)} {a : DEnv} {h h1 h2 : DH} {as : List Vx} {y : Vx} (e : fs a h = .ok as h1) (e2 : dop as h1 = .ok y h2) : eCall dop fs a h = .ok y h2 := by unfold eCall; rw [bnd_ok e]; exact e2
theorem aCons_ok {fa : DEnv → Mo Vx} {fs : DEnv → Mo (List Vx)} {a : DEnv} {h h1 h2 : DH} {as : List Vx} {y : Vx} (e : fa a h = .ok y h1) (e2 : fs a h1 = .ok as h2) : aCons fa fs a h = .ok (y :: as) h2 := by unfold aCons; rw [bnd_ok e, bnd_ok e2]
theorem aNil_ok {a : DEnv} {h : DH} : aNil a h = .ok [] h := rfl
theorem eBin_ok {dop : Vx → Vx → Mo Vx} {fa fb : DEnv → Mo Vx} {a : DEnv} {h h1 h2 h3 : DH} {x y z : Vx} (e : fa a h = .ok x h1) (e2 : fb a h1 = .ok y h2) (e3 : dop x y h2 = .ok z h3) : eBin dop fa fb a h = .ok z h3 := by unfold eBin; rw [bnd_ok e, bnd_ok e2]; exact e3
theorem lapply_run (m : Mx) (x y : Rat) (k j : Nat) (hk : MxL k m) (hx : Lg j x) (hy : Lg j y) (hs : 3 * k + 2 * j + 2 ≤ 400) (h : DH) :
    M__law_apply [.d (mD m), .d (pD x y)] h = .ok (.d (pD (m.a * x + m.c * y + m.e) (m.b * x + m.d * y + m.f))) h := by
  obtain ⟨ha, hb, hc, hd, he, hf⟩ := hk
  have p1 := call2 (lmul_run (ha.sm (by omega)) (hx.sm (by omega)) []) h
  have p2 := call2 (lmul_run (hc.sm (by omega)) (hy.sm (by omega)) []) h
  have p3 := call2 (lmul_run (hb.sm (by omega)) (hx.sm (by omega)) []) h
  have p4 := call2 (lmul_run (hd.sm (by omega)) (hy.sm (by omega)) []) h
  have q1 := call2 (ladd_run ((ha.mul hx).sm (by omega)) ((hc.mul hy).sm (by omega)) []) h
  have q2 := call2 (ladd_run ((hb.mul hx).sm (by omega)) ((hd.mul hy).sm (by omega)) []) h
  have q3 := call2 (ladd_run (((ha.mul hx).add (hc.mul hy)).sm (by omega)) (he.sm (by omega)) []) h
  have q4 := call2 (ladd_run (((hb.mul hx).add (hd.mul hy)).sm (by omega)) (hf.sm (by omega)) []) h
  refine fnM_rt (a1 := [some (.d (mD m)), some (.d (pD x y)), some (.d (qD (m.a * x + m.c * y + m.e))), some (.d (qD (m.b * x + m.d * y + m.f)))]) ?_
  refine Eq.trans (sCons_nx (sSet_ok (eCall_ok (aCons_ok (eCall_ok (aCons_ok (eCall_ok (aCons_ok rfl (aCons_ok rfl aNil_ok)) p1) (aCons_ok (eCall_ok (aCons_ok rfl (aCons_ok rfl aNil_ok)) p2) aNil_ok)) q1) (aCons_ok rfl aNil_ok)) q3) rfl)) ?_
  refine Eq.trans (sCons_nx (sSet_ok (eCall_ok (aCons_ok (eCall_ok (aCons_ok (eCall_ok (aCons_ok rfl (aCons_ok rfl aNil_ok)) p3) (aCons_ok (eCall_ok (aCons_ok rfl (aCons_ok rfl aNil_ok)) p4) aNil_ok)) q2) (aCons_ok rfl aNil_ok)) q4) rfl)) ?_
  rfl
theorem ltimes_run (o n : Mx) (k j : Nat) (hk : MxL k n) (hj : MxL j o) (hs : 3 * k + 2 * j + 2 ≤ 400) (h : DH) : M__law_times [.d (mD o), .d (mD n)] h = .ok (.d (mD (o.mul n))) h := by
  obtain ⟨ga, gb, gc, gd, ge, gf⟩ := hj
  have s0 := call2 (lapply_run n o.e o.f k j hk ge gf hs []) h
  obtain ⟨ha, hb, hc, hd, he, hf⟩ := hk
  have m : ∀ {u v : Rat}, Lg k u → Lg j v → callM [false, false] M__law_mul [.d (qD u), .d (qD v)] h = .ok (.d (qD (u * v))) h := fun hu hv => call2 (lmul_run (hu.sm (by omega)) (hv.sm (by omega)) []) h
  have p : ∀ {u v w z : Rat}, Lg k u → Lg j v → Lg k w → Lg j z → callM [false, false] M__law_add [.d (qD (u * v)), .d (qD (w * z))] h = .ok (.d (qD (u * v + w * z))) h := fun hu hv hw hz => call2 (ladd_run ((hu.mul hv).sm (by omega)) ((hw.mul hz).sm (by omega)) []) h
  refine fnM_rt (a1 := [some (.d (mD o)), some (.d (mD n)), some (.d (pD (n.a * o.e + n.c * o.f + n.e) (n.b * o.e + n.d * o.f + n.f))), some (.d (qD (n.a * o.a + n.c * o.b))), some (.d (qD (n.b * o.a + n.d * o.b))), some (.d (qD (n.a * o.c + n.c * o.d))), some (.d (qD (n.b * o.c + n.d * o.d)))]) ?_
  refine Eq.trans (sCons_nx (sSet_ok (eCall_ok (as := [.d (mD n), .d (pD o.e o.f)]) rfl s0) rfl)) ?_
  refine Eq.trans (sCons_nx (sSet_ok (eCall_ok (aCons_ok (eCall_ok (as := [.d (qD n.a), .d (qD o.a)]) rfl (m ha ga)) (aCons_ok (eCall_ok (as := [.d (qD n.c), .d (qD o.b)]) rfl (m hc gb)) aNil_ok)) (p ha ga hc gb)) rfl)) ?_
  refine Eq.trans (sCons_nx (sSet_ok (eCall_ok (aCons_ok (eCall_ok (as := [.d (qD n.b), .d (qD o.a)]) rfl (m hb ga)) (aCons_ok (eCall_ok (as := [.d (qD n.d), .d (qD o.b)]) rfl (m hd gb)) aNil_ok)) (p hb ga hd gb)) rfl)) ?_
  refine Eq.trans (sCons_nx (sSet_ok (eCall_ok (aCons_ok (eCall_ok (as := [.d (qD n.a), .d (qD o.c)]) rfl (m ha gc)) (aCons_ok (eCall_ok (as := [.d (qD n.c), .d (qD o.d)]) rfl (m hc gd)) aNil_ok)) (p ha gc hc gd)) rfl)) ?_
  refine Eq.trans (sCons_nx (sSet_ok (eCall_ok (aCons_ok (eCall_ok (as := [.d (qD n.b), .d (qD o.c)]) rfl (m hb gc)) (aCons_ok (eCall_ok (as := [.d (qD n.d), .d (qD o.d)]) rfl (m hd gd)) aNil_ok)) (p hb gc hd gd)) rfl)) ?_
  rfl
/-- a fraction whose parts are turned: den / num, the sign on top -/
theorem ldiv_run {a b : Rat} {j k : Nat} (ha : Lg j a) (hb : Lg k b) (h0 : b ≠ 0) (hs : j + k ≤ 400) (h : DH) : M__law_div [.d (qD a), .d (qD b)] h = .ok (.d (qD (a / b))) h := by
  have hn : b.num ≠ 0 := fun e => h0 (Rat.num_eq_zero.1 e)
  -- b⁻¹ stands as a pair (s * den, |num|)
  have i1 : (b⁻¹).num = b.num.sign * b.den := Rat.num_inv b
  have i2 : ((b⁻¹).den : Int) = b.num.natAbs := by rw [Rat.den_inv, if_neg hn]
  have hi : Sm b⁻¹ := by
    refine ⟨?_, ?_⟩
    · rw [i1, Int.natAbs_mul]
      have h2 : (b.num.sign).natAbs ≤ 1 := by rw [Int.natAbs_sign]; split <;> omega
      have h3 : (b.num.sign).natAbs * (b.den : Int).natAbs ≤ 1 * b.den := Nat.mul_le_mul_right _ h2
      have h4 := (hb.sm (by omega) : Sm b).2
      omega
    · have h4 := (hb.sm (by omega) : Sm b).1
      omega
  have m := call2 (lmul_run (ha.sm (by omega)) hi []) h
  have m : callM [false, false] M__law_mul [.d (qD a), .d (qD b⁻¹)] h = .ok (.d (qD (a / b))) h := by rw [Rat.div_def]; exact m
  have arg : eIf (tTst (eBin dGt (eBin dIx (eVar 1) (eC (.int 0))) (eC (.int 0)))) (eTup (aCons (eBin dIx (eVar 1) (eC (.int 1))) (aCons (eBin dIx (eVar 1) (eC (.int 0))) aNil))) (eTup (aCons (eUn dNeg (eBin dIx (eVar 1) (eC (.int 1)))) (aCons (eUn dNeg (eBin dIx (eVar 1) (eC (.int 0)))) aNil))) [some (.d (qD a)), some (.d (qD b))] h = .ok (.d (qD b⁻¹)) h := by
    unfold qD at *
    rw [i1, i2]
    rcases Int.lt_or_gt_of_ne hn with hc | hc
    · have e1 : b.num.sign = -1 := Int.sign_eq_neg_one_of_neg hc
      have e2 : (b.num.natAbs : Int) = -b.num := by omega
      have e3 : ¬ 0 < b.num := by omega
      rw [e1, e2]
      simp [eIf, tTst, eBin, eVar, eC, bnd, ret, dIx, atI, ixN, dGt, e3, isBl, eTup, aCons, aNil, eUn, dNeg, plains]
    · have e1 : b.num.sign = 1 := Int.sign_eq_one_of_pos hc
      have e2 : (b.num.natAbs : Int) = b.num := by omega
      have e3 : 0 < b.num := hc
      rw [e1, e2]
      simp [eIf, tTst, eBin, eVar, eC, bnd, ret, dIx, atI, ixN, dGt, e3, isBl, eTup, aCons, aNil, plains]
  refine fnM_rt (a1 := [some (.d (qD a)), some (.d (qD b))]) ?_
  exact sCons_rt (sRet_ok (eCall_ok (aCons_ok rfl (aCons_ok arg aNil_ok)) m))
end Dn
end
section
set_option Elab.async false
set_option linter.all false
set_option maxRecDepth 100000
set_option maxHeartbeats 4000000
set_option exponentiation.threshold 2000
/-! Dn32: plain: the law's own inverse; what is handed; what is a matrix. -/
namespace Dn
open PySem PySem.Spec PyProof.Rows L2
theorem eTup_ok {fs : DEnv → Mo (List Vx)} {a : DEnv} {h h1 : DH} {as : List Vx} {ds : List Dt} (e : fs a h = .ok as h1) (ep : plains as = some ds) (hl : ds.length ≤ 16777216) : eTup fs a h = .ok (.d (.tup ds)) h1 := by
  unfold eTup
  rw [bnd_ok e]
  simp only [ep, if_pos hl]
theorem lg0 : Lg 1 0 := ⟨by decide, by decide⟩
theorem zsub_div (b t : Rat) : (0 - b) / t = -(b / t) := by
  rw [Rat.div_def, Rat.div_def, Rat.sub_eq_add_neg, Rat.zero_add, Rat.neg_mul]
theorem zsub (x : Rat) : 0 - (x + 0) = -x := by
  rw [Rat.add_zero, Rat.sub_eq_add_neg, Rat.zero_add]
theorem linverse_run (m : Mx) (k : Nat) (hk : MxL k m) (hs : 6 * k + 4 ≤ 80) (h : DH) :
    M__law_inverse [.d (mD m)] h = .ok (.d (if m.det = 0 then .non else mD m.inv)) h := by
  obtain ⟨ha, hb, hc, hd, he, hf⟩ := hk
  have hg : Lg (4 * k + 1) m.det := ((ha.mul hd).sub (hb.mul hc)).mono (by omega)
  have m1 := call2 (lmul_run (ha.sm (by omega)) (hd.sm (by omega)) []) h
  have m2 := call2 (lmul_run (hb.sm (by omega)) (hc.sm (by omega)) []) h
  have m3 : callM [false, false] M__law_sub [.d (qD (m.a * m.d)), .d (qD (m.b * m.c))] h = .ok (.d (qD m.det)) h := call2 (lsub_run ((ha.mul hd).sm (by omega)) ((hb.mul hc).sm (by omega)) []) h
  have eq0 : dEq (.d (qD m.det)) (.d (.tup [.int 0, .int 1])) h = .ok (.d (.bl (decide (m.det = 0)))) h := by
    have : dEq (.d (qD m.det)) (.d (qD 0)) h = .ok (.d (.bl (deq (qD m.det) (qD 0)))) h := rfl
    rw [deq_q] at this
    exact this
  have s1 : ∀ r : List (Option Vx), sSet (.nm 1) (eCall (fun ys => callM [false, false] M__law_sub (ys ++ ([] : List Dt).map Vx.d)) (aCons (eCall (fun ys => callM [false, false] M__law_mul (ys ++ ([] : List Dt).map Vx.d)) (aCons (eBin dIx (eVar 0) (eC (.int 0))) (aCons (eBin dIx (eVar 0) (eC (.int 3))) aNil))) (aCons (eCall (fun ys => callM [false, false] M__law_mul (ys ++ ([] : List Dt).map Vx.d)) (aCons (eBin dIx (eVar 0) (eC (.int 1))) (aCons (eBin dIx (eVar 0) (eC (.int 2))) aNil))) aNil))) (some (.d (mD m)) :: none :: r) h = .ok (.nx, some (.d (mD m)) :: some (.d (qD m.det)) :: r) h := fun r =>
    sSet_ok (eCall_ok (aCons_ok (eCall_ok (as := [.d (qD m.a), .d (qD m.d)]) rfl m1) (aCons_ok (eCall_ok (as := [.d (qD m.b), .d (qD m.c)]) rfl m2) aNil_ok)) m3) rfl
  by_cases h0 : m.det = 0
  · rw [if_pos h0]
    rw [decide_eq_true h0] at eq0
    refine fnM_rt (a1 := [some (.d (mD m)), some (.d (qD m.det)), none, none, none, none, none]) ?_
    refine Eq.trans (sCons_nx (s1 _)) ?_
    refine sCons_rt (Eq.trans (sIf_t (h1 := h) ?_) ?_)
    · show bnd (dEq (.d (qD m.det)) (.d (.tup [.int 0, .int 1]))) isBl h = _
      rw [bnd_ok eq0]
      rfl
    · rfl
  · rw [if_neg h0]
    rw [decide_eq_false h0] at eq0
    have z : ∀ {r : Rat}, Lg k r → callM [false, false] M__law_sub [.d (qD 0), .d (qD r)] h = .ok (.d (qD (0 - r))) h := fun hr => call2 (lsub_run (lg0.sm (by omega)) (hr.sm (by omega)) []) h
    have dv : ∀ {r : Rat}, Lg (k + 2) r → callM [false, false] M__law_div [.d (qD r), .d (qD m.det)] h = .ok (.d (qD (r / m.det))) h := fun hr => call2 (ldiv_run hr hg h0 (by omega) []) h
    have zl : ∀ {r : Rat}, Lg k r → Lg (k + 2) (0 - r) := fun hr => (lg0.sub hr).mono (by omega)
    let t : Mx := ⟨m.d / m.det, (0 - m.b) / m.det, (0 - m.c) / m.det, m.a / m.det, 0, 0⟩
    have ld := ((hd.mono (by omega) : Lg (k + 2) m.d).div hg)
    have lb := (zl hb).div hg
    have lc := (zl hc).div hg
    have la := ((ha.mono (by omega) : Lg (k + 2) m.a).div hg)
    have tl : MxL (k + 2 + (4 * k + 1)) t := ⟨ld, lb, lc, la, lg0.mono (by omega), lg0.mono (by omega)⟩
    have ap := call2 (lapply_run t m.e m.f _ k tl he hf (by omega) []) h
    have y1 := ((ld.mul he).add (lc.mul hf)).add (lg0 : Lg 1 0)
    have y2 := ((lb.mul he).add (la.mul hf)).add (lg0 : Lg 1 0)
    have z1 := call2 (lsub_run (lg0.sm (by omega)) (y1.sm (by omega)) []) h
    have z2 := call2 (lsub_run (lg0.sm (by omega)) (y2.sm (by omega)) []) h
    refine fnM_rt (a1 := [some (.d (mD m)), some (.d (qD m.det)), some (.d (qD t.a)), some (.d (qD t.b)), some (.d (qD t.c)), some (.d (qD t.d)), some (.d (pD (t.a * m.e + t.c * m.f + 0) (t.b * m.e + t.d * m.f + 0)))]) ?_
    refine Eq.trans (sCons_nx (s1 _)) ?_
    refine Eq.trans (sCons_nx (a1 := [some (.d (mD m)), some (.d (qD m.det)), none, none, none, none, none]) (h1 := h) (Eq.trans (sIf_f (h1 := h) ?_) rfl)) ?_
    · show bnd (dEq (.d (qD m.det)) (.d (.tup [.int 0, .int 1]))) isBl h = _
      rw [bnd_ok eq0]
      rfl
    refine Eq.trans (sCons_nx (sSet_ok (eCall_ok (as := [.d (qD m.d), .d (qD m.det)]) rfl (dv (hd.mono (by omega)))) rfl)) ?_
    refine Eq.trans (sCons_nx (sSet_ok (eCall_ok (aCons_ok (eCall_ok (as := [.d (qD 0), .d (qD m.b)]) rfl (z hb)) (aCons_ok rfl aNil_ok)) (dv (zl hb))) rfl)) ?_
    refine Eq.trans (sCons_nx (sSet_ok (eCall_ok (aCons_ok (eCall_ok (as := [.d (qD 0), .d (qD m.c)]) rfl (z hc)) (aCons_ok rfl aNil_ok)) (dv (zl hc))) rfl)) ?_
    refine Eq.trans (sCons_nx (sSet_ok (eCall_ok (as := [.d (qD m.a), .d (qD m.det)]) rfl (dv (ha.mono (by omega)))) rfl)) ?_
    refine Eq.trans (sCons_nx (sSet_ok (eCall_ok (as := [.d (mD t), .d (pD m.e m.f)]) rfl ap) rfl)) ?_
    have hi : m.inv = ⟨t.a, t.b, t.c, t.d, 0 - (t.a * m.e + t.c * m.f + 0), 0 - (t.b * m.e + t.d * m.f + 0)⟩ := by
      show (Mx.mk _ _ _ _ _ _) = _
      simp only [t, zsub_div, zsub]
    rw [hi]
    exact sCons_rt (sRet_ok (eTup_ok (ds := [qD t.a, qD t.b, qD t.c, qD t.d, qD (0 - (t.a * m.e + t.c * m.f + 0)), qD (0 - (t.b * m.e + t.d * m.f + 0))]) (aCons_ok rfl (aCons_ok rfl (aCons_ok rfl (aCons_ok rfl (aCons_ok (eCall_ok (as := [.d (qD 0), .d (qD (t.a * m.e + t.c * m.f + 0))]) rfl z1) (aCons_ok (eCall_ok (as := [.d (qD 0), .d (qD (t.b * m.e + t.d * m.f + 0))]) rfl z2) aNil_ok)))))) rfl (by simp)))
end Dn
end
section
set_option Elab.async false
set_option linter.all false
set_option maxRecDepth 100000
set_option maxHeartbeats 4000000
set_option exponentiation.threshold 2000
/-! Dn33: plain: what is handed, as tuples or as lists; what is a matrix. -/
namespace Dn
open PySem PySem.Spec PyProof.Rows L2
theorem eAnd_t {fa fb : DEnv → Mo Vx} {a : DEnv} {h h1 h2 : DH} {x : Vx} (e : fa a h = .ok x h1) (t : truM x h1 = .ok true h2) : eAnd fa fb a h = fb a h2 := by
  unfold eAnd
  rw [bnd_ok e, bnd_ok t]
theorem eAnd_f {fa fb : DEnv → Mo Vx} {a : DEnv} {h h1 h2 : DH} {x : Vx} (e : fa a h = .ok x h1) (t : truM x h1 = .ok false h2) : eAnd fa fb a h = .ok x h2 := by
  unfold eAnd
  rw [bnd_ok e, bnd_ok t]
def qL (r : Rat) : Dt := .lst [.int r.num, .int r.den]
def mL (m : Mx) : Dt := .lst [qL m.a, qL m.b, qL m.c, qL m.d, qL m.e, qL m.f]
def pL (x y : Rat) : Dt := .lst [qL x, qL y]
theorem listed_m (m : Mx) : M__law_listed 24 [.d (mD m)] [] = .ok (.d (mL m)) [] := rfl
theorem listed_p (x y : Rat) : M__law_listed 24 [.d (pD x y)] [] = .ok (.d (pL x y)) [] := rfl
theorem tuples_mD (m : Mx) : M_in_tuples 24 [.d (mD m)] [] = .ok (.d (mD m)) [] := rfl
theorem tuples_mL (m : Mx) : M_in_tuples 24 [.d (mL m)] [] = .ok (.d (mD m)) [] := rfl
theorem tuples_pD (x y : Rat) : M_in_tuples 24 [.d (pD x y)] [] = .ok (.d (pD x y)) [] := rfl
theorem tuples_pL (x y : Rat) : M_in_tuples 24 [.d (pL x y)] [] = .ok (.d (pD x y)) [] := rfl
def HdM (m : Mx) (x : Dt) : Prop := x = mD m ∨ x = mL m
def HdP (u v : Rat) (x : Dt) : Prop := x = pD u v ∨ x = pL u v
theorem HdM.tup {m : Mx} {x : Dt} (e : HdM m x) (h : DH) : callM [false] (M_in_tuples 24) [.d x] h = .ok (.d (mD m)) h := by
  rcases e with rfl | rfl
  · exact call1 (tuples_mD m) h
  · exact call1 (tuples_mL m) h
theorem HdP.tup {u v : Rat} {x : Dt} (e : HdP u v x) (h : DH) : callM [false] (M_in_tuples 24) [.d x] h = .ok (.d (pD u v)) h := by
  rcases e with rfl | rfl
  · exact call1 (tuples_pD u v) h
  · exact call1 (tuples_pL u v) h
theorem between_run (x lo hi : Int) (hc : lo ≤ x ∧ x ≤ hi) (h : DH) : M_is_between [.d (.int x), .d (.int lo), .d (.int hi)] h = .ok (.d (.bl true)) h := by
  have e : callM [false] M_is_integer [.d (.int x)] h = .ok (.d (.bl true)) h := rfl
  simp [M_is_between, fnM, start0, sCons, sRet, eAnd, eCall, aCons, aNil, eVar, bnd, ret, e, truM, truD, eChain, dLe, hc.1, hc.2, isBl, bodyEnd]
theorem isfrac_run (r : Rat) (x : Dt) (hx : x = qD r ∨ x = qL r) (hr : Lg 39 r) (h : DH) : M_is_fraction [.d x, .d (.int 1000000000000)] h = .ok (.d (.bl true)) h := by
  have b1 := call3 (between_run r.num (-1000000000000) 1000000000000 (by have := hr.1; omega) []) h
  have b2 := call3 (between_run r.den 1 1000000000000 (by have := hr.2; have := r.den_pos; omega) []) h
  have g : bGcd [.d (.int r.num), .d (.int r.den)] h = .ok (.d (.int 1)) h := by
    show Rz.ok (Vx.d (.int (Nat.gcd r.num.natAbs (r.den : Int).natAbs : Nat))) h = _
    have : Nat.gcd r.num.natAbs (r.den : Int).natAbs = 1 := r.reduced
    rw [this]; rfl
  have key : ∀ a : List (Option Vx), a[1]? = some (some (.d (.int 1000000000000))) → a[2]? = some (some (.d (.int r.num))) → a[3]? = some (some (.d (.int r.den))) → eAnd (eCall (fun ys => callM [false, false, false] M_is_between (ys ++ ([] : List Dt).map Vx.d)) (aCons (eVar 2) (aCons (eUn dNeg (eVar 1)) (aCons (eVar 1) aNil)))) (eAnd (eCall (fun ys => callM [false, false, false] M_is_between (ys ++ ([] : List Dt).map Vx.d)) (aCons (eVar 3) (aCons (eC (.int 1)) (aCons (eVar 1) aNil)))) (eBin dEq (eCall bGcd (aCons (eVar 2) (aCons (eVar 3) aNil))) (eC (.int 1)))) a h = .ok (.d (.bl true)) h := by
    intro a e1 e2 e3
    simp [eAnd, eCall, aCons, aNil, eVar, e1, e2, e3, eUn, dNeg, bnd, ret, b1, b2, truM, truD, eC, eBin, g]
    rfl
  rcases hx with rfl | rfl
  · refine fnM_rt (a1 := [some (.d (qD r)), some (.d (.int 1000000000000)), some (.d (.int r.num)), some (.d (.int r.den))]) ?_
    refine Eq.trans (sCons_nx (a1 := [some (.d (qD r)), some (.d (.int 1000000000000)), none, none]) (h1 := h) rfl) ?_
    refine Eq.trans (sCons_nx (a1 := [some (.d (qD r)), some (.d (.int 1000000000000)), some (.d (.int r.num)), some (.d (.int r.den))]) (h1 := h) rfl) ?_
    exact sCons_rt (sRet_ok (key _ rfl rfl rfl))
  · refine fnM_rt (a1 := [some (.d (qL r)), some (.d (.int 1000000000000)), some (.d (.int r.num)), some (.d (.int r.den))]) ?_
    refine Eq.trans (sCons_nx (a1 := [some (.d (qL r)), some (.d (.int 1000000000000)), none, none]) (h1 := h) rfl) ?_
    refine Eq.trans (sCons_nx (a1 := [some (.d (qL r)), some (.d (.int 1000000000000)), some (.d (.int r.num)), some (.d (.int r.den))]) (h1 := h) rfl) ?_
    exact sCons_rt (sRet_ok (key _ rfl rfl rfl))
theorem fracs_run (L : List Dt) (hL : ∀ y ∈ L, ∃ r, (y = qD r ∨ y = qL r) ∧ Lg 39 r) (hl : L.length ≤ 16777216) (a : DEnv) (x : Vx) (hs : srcOf x = some (.ds L)) (e0 : a[0]? = some (some x)) (e1 : a.length = 2) (h : DH) :
    eCall bAll (aCons (eLc true (wVal (eVar 0)) (.nm 1) tYesD (eCall (fun ys => callM [false, false] M_is_fraction (ys ++ ([.int 1000000000000] : List Dt).map Vx.d)) (aCons (eVar 1) aNil)) [1]) aNil) a h = .ok (.d (.bl true)) h := by
  have ew : wVal (eVar 0) a h = .ok (.s (.ds L)) h := by
    have : (Src.item (.ds L) 0 h).isSome = true := rfl
    simp [wVal, eVar, e0, bnd, hs, this]
  have key := lc_run (i := 1) (vs := [1]) (a := a) (h := h) (fe := eCall (fun ys => callM [false, false] M_is_fraction (ys ++ ([.int 1000000000000] : List Dt).map Vx.d)) (aCons (eVar 1) aNil)) (φ := fun _ => .bl true) ew hl (by
    intro y hy
    obtain ⟨r, hr, lr⟩ := hL y hy
    have f1 : ((wipeD a [1]).set 1 (some (.d y)))[1]? = some (some (.d y)) := by
      rw [List.getElem?_set_self]; simp [wipeD, e1]
    refine eCall_ok (as := [.d y]) (aCons_ok ?_ aNil_ok) (call2 (isfrac_run r y hr lr []) h)
    unfold eVar; rw [f1])
  refine eCall_ok (aCons_ok key aNil_ok) ?_
  have : ∀ n : Nat, blsOf (List.replicate n (.bl true)) = some (List.replicate n true) := by
    intro n
    induction n with
    | zero => rfl
    | succ n ih => rw [List.replicate_succ, List.replicate_succ]; unfold blsOf; rw [ih]
  show (match plainL (.d (.lst (L.map fun _ => .bl true))) h with | some ds => (match blsOf ds with | some ns => (Rz.ok (Vx.d (.bl (ns.all id))) h : Rz Vx) | none => .stk) | none => .stk) = _
  have e2 : plainL (.d (.lst (L.map fun _ => Dt.bl true))) h = some (L.map fun _ => Dt.bl true) := by
    unfold plainL asL
    exact plains_map _
  rw [e2]
  have e3 : (L.map fun _ => Dt.bl true) = List.replicate L.length (.bl true) := by
    rw [List.map_const']
  simp only [e3, this]
  have e4 : (List.replicate L.length true).all id = true := by
    rw [List.all_eq_true]
    intro x hx
    rw [List.eq_of_mem_replicate hx]; rfl
  rw [e4]
theorem ismat_run (m : Mx) (x : Dt) (hx : HdM m x) (hm : MxL 39 m) (h : DH) : M_is_matrix [.d x] h = .ok (.d (.bl true)) h := by
  obtain ⟨ha, hb, hc, hd, he, hf⟩ := hm
  rcases hx with rfl | rfl
  · have f := fracs_run [qD m.a, qD m.b, qD m.c, qD m.d, qD m.e, qD m.f] (by
      intro y hy
      simp only [List.mem_cons, List.not_mem_nil, or_false] at hy
      rcases hy with rfl | rfl | rfl | rfl | rfl | rfl
      · exact ⟨_, .inl rfl, ha⟩
      · exact ⟨_, .inl rfl, hb⟩
      · exact ⟨_, .inl rfl, hc⟩
      · exact ⟨_, .inl rfl, hd⟩
      · exact ⟨_, .inl rfl, he⟩
      · exact ⟨_, .inl rfl, hf⟩) (by simp) [some (.d (mD m)), none] (.d (mD m)) rfl rfl rfl h
    refine fnM_rt (a1 := [some (.d (mD m)), none]) ?_
    exact sCons_rt (sRet_ok (Eq.trans (eAnd_t (x := .d (.bl true)) (h1 := h) (h2 := h) rfl rfl) (Eq.trans (eAnd_t (x := .d (.bl true)) (h1 := h) (h2 := h) rfl rfl) f)))
  · have f := fracs_run [qL m.a, qL m.b, qL m.c, qL m.d, qL m.e, qL m.f] (by
      intro y hy
      simp only [List.mem_cons, List.not_mem_nil, or_false] at hy
      rcases hy with rfl | rfl | rfl | rfl | rfl | rfl
      · exact ⟨_, .inr rfl, ha⟩
      · exact ⟨_, .inr rfl, hb⟩
      · exact ⟨_, .inr rfl, hc⟩
      · exact ⟨_, .inr rfl, hd⟩
      · exact ⟨_, .inr rfl, he⟩
      · exact ⟨_, .inr rfl, hf⟩) (by simp) [some (.d (mL m)), none] (.d (mL m)) rfl rfl rfl h
    refine fnM_rt (a1 := [some (.d (mL m)), none]) ?_
    exact sCons_rt (sRet_ok (Eq.trans (eAnd_t (x := .d (.bl true)) (h1 := h) (h2 := h) rfl rfl) (Eq.trans (eAnd_t (x := .d (.bl true)) (h1 := h) (h2 := h) rfl rfl) f)))
theorem ispt_run (u v : Rat) (x : Dt) (hx : HdP u v x) (hu : Lg 39 u) (hv : Lg 39 v) (h : DH) : M_is_point [.d x] h = .ok (.d (.bl true)) h := by
  rcases hx with rfl | rfl
  · have f := fracs_run [qD u, qD v] (by
      intro y hy
      simp only [List.mem_cons, List.not_mem_nil, or_false] at hy
      rcases hy with rfl | rfl
      · exact ⟨_, .inl rfl, hu⟩
      · exact ⟨_, .inl rfl, hv⟩) (by simp) [some (.d (pD u v)), none] (.d (pD u v)) rfl rfl rfl h
    refine fnM_rt (a1 := [some (.d (pD u v)), none]) ?_
    exact sCons_rt (sRet_ok (Eq.trans (eAnd_t (x := .d (.bl true)) (h1 := h) (h2 := h) rfl rfl) (Eq.trans (eAnd_t (x := .d (.bl true)) (h1 := h) (h2 := h) rfl rfl) f)))
  · have f := fracs_run [qL u, qL v] (by
      intro y hy
      simp only [List.mem_cons, List.not_mem_nil, or_false] at hy
      rcases hy with rfl | rfl
      · exact ⟨_, .inr rfl, hu⟩
      · exact ⟨_, .inr rfl, hv⟩) (by simp) [some (.d (pL u v)), none] (.d (pL u v)) rfl rfl rfl h
    refine fnM_rt (a1 := [some (.d (pL u v)), none]) ?_
    exact sCons_rt (sRet_ok (Eq.trans (eAnd_t (x := .d (.bl true)) (h1 := h) (h2 := h) rfl rfl) (Eq.trans (eAnd_t (x := .d (.bl true)) (h1 := h) (h2 := h) rfl rfl) f)))
end Dn
end
section
set_option Elab.async false
set_option linter.all false
set_option maxRecDepth 100000
set_option maxHeartbeats 4000000
set_option exponentiation.threshold 2000
/-! Dn34: plain: points taken, products, inverses, orders. -/
namespace Dn
open PySem PySem.Spec PyProof.Rows L2
theorem demand_t (i : Int) (h : DH) : callM [false, false] M_demand [.d (.bl true), .d (.int i)] h = .ok (.d .non) h := rfl
theorem applied_run (m : Mx) (u v : Rat) (x y : Dt) (k j : Nat) (hx : HdM m x) (hy : HdP u v y) (hk : MxL k m) (hu : Lg j u) (hv : Lg j v) (h1 : k ≤ 39) (h2 : j ≤ 39) (h : DH) :
    M_applied [.d x, .d y] h = .ok (.d (pD (m.a * u + m.c * v + m.e) (m.b * u + m.d * v + m.f))) h := by
  have i1 := call1 (ismat_run m x hx (by obtain ⟨q1, q2, q3, q4, q5, q6⟩ := hk; exact ⟨q1.mono h1, q2.mono h1, q3.mono h1, q4.mono h1, q5.mono h1, q6.mono h1⟩) []) h
  have i2 := call1 (ispt_run u v y hy (hu.mono h2) (hv.mono h2) []) h
  have t1 := hx.tup h
  have t2 := hy.tup h
  have r := call2 (taken_run m u v k j hk hu hv (by omega) []) h
  refine fnM_rt (a1 := [some (.d x), some (.d y)]) ?_
  refine Eq.trans (sCons_nx (a1 := [some (.d x), some (.d y)]) (sExpr_ok (eCall_ok (aCons_ok (eCall_ok (as := [.d x]) rfl i1) (aCons_ok rfl aNil_ok)) (demand_t 0 h)))) ?_
  refine Eq.trans (sCons_nx (a1 := [some (.d x), some (.d y)]) (sExpr_ok (eCall_ok (aCons_ok (eCall_ok (as := [.d y]) rfl i2) (aCons_ok rfl aNil_ok)) (demand_t 1 h)))) ?_
  exact sCons_rt (sRet_ok (eCall_ok (aCons_ok (eCall_ok (as := [.d x]) rfl t1) (aCons_ok (eCall_ok (as := [.d y]) rfl t2) aNil_ok)) r))
theorem MxL.mono {m : Mx} {j k : Nat} (h : MxL j m) (e : j ≤ k) : MxL k m := ⟨h.1.mono e, h.2.1.mono e, h.2.2.1.mono e, h.2.2.2.1.mono e, h.2.2.2.2.1.mono e, h.2.2.2.2.2.mono e⟩
theorem times_run (o n : Mx) (x y : Dt) (k j : Nat) (hx : HdM o x) (hy : HdM n y) (hk : MxL k n) (hj : MxL j o) (h1 : k ≤ 39) (h2 : j ≤ 39) (h : DH) :
    M_times [.d x, .d y] h = .ok (.d (mD (o.mul n))) h := by
  have i1 := call1 (ismat_run o x hx (hj.mono h2) []) h
  have i2 := call1 (ismat_run n y hy (hk.mono h1) []) h
  have t1 := hx.tup h
  have t2 := hy.tup h
  have r := call2 (combined_run o n k j hk hj (by omega) []) h
  refine fnM_rt (a1 := [some (.d x), some (.d y)]) ?_
  refine Eq.trans (sCons_nx (a1 := [some (.d x), some (.d y)]) (sExpr_ok (eCall_ok (aCons_ok (eCall_ok (as := [.d x]) rfl i1) (aCons_ok rfl aNil_ok)) (demand_t 0 h)))) ?_
  refine Eq.trans (sCons_nx (a1 := [some (.d x), some (.d y)]) (sExpr_ok (eCall_ok (aCons_ok (eCall_ok (as := [.d y]) rfl i2) (aCons_ok rfl aNil_ok)) (demand_t 1 h)))) ?_
  exact sCons_rt (sRet_ok (eCall_ok (aCons_ok (eCall_ok (as := [.d x]) rfl t1) (aCons_ok (eCall_ok (as := [.d y]) rfl t2) aNil_ok)) r))
theorem inverse_run (m : Mx) (x : Dt) (k : Nat) (hx : HdM m x) (hk : MxL k m) (hs : 6 * k + 1 ≤ 30) (h : DH) :
    M_inverse [.d x] h = .ok (.d (if m.det = 0 then .non else mD m.inv)) h := by
  have i1 := call1 (ismat_run m x hx (hk.mono (by omega)) []) h
  have t1 := hx.tup h
  have r := call1 (inverted_run m k hk hs []) h
  refine fnM_rt (a1 := [some (.d x)]) ?_
  refine Eq.trans (sCons_nx (a1 := [some (.d x)]) (sExpr_ok (eCall_ok (aCons_ok (eCall_ok (as := [.d x]) rfl i1) (aCons_ok rfl aNil_ok)) (demand_t 0 h)))) ?_
  exact sCons_rt (sRet_ok (eCall_ok (aCons_ok (eCall_ok (as := [.d x]) rfl t1) aNil_ok) r))
/-! ### a common divisor -/
def Ez (N Z : Nat) (r : Rat) : Prop := ∃ z : Int, r = mkRat z N ∧ z.natAbs ≤ Z
section
variable {N M Z Y : Nat} {a b : Rat}
theorem Ez.mono (h : Ez N Z a) (e : Z ≤ Y) : Ez N Y a := by obtain ⟨z, e1, e2⟩ := h; exact ⟨z, e1, Nat.le_trans e2 e⟩
theorem Ez.mul (h : Ez N Z a) (g : Ez M Y b) : Ez (N * M) (Z * Y) (a * b) := by
  obtain ⟨z, rfl, e2⟩ := h
  obtain ⟨y, rfl, e3⟩ := g
  exact ⟨z * y, Rat.mkRat_mul_mkRat .., by rw [Int.natAbs_mul]; exact Nat.mul_le_mul e2 e3⟩
theorem Ez.add (h : Ez N Z a) (g : Ez N Y b) (hN : N ≠ 0) : Ez N (Z + Y) (a + b) := by
  obtain ⟨z, rfl, e2⟩ := h
  obtain ⟨y, rfl, e3⟩ := g
  refine ⟨z + y, ?_, Nat.le_trans (Int.natAbs_add_le _ _) (Nat.add_le_add e2 e3)⟩
  rw [Rat.mkRat_add_mkRat _ _ hN hN, ← Int.add_mul, Rat.mkRat_mul_right hN]
theorem Ez.scale (h : Ez N Z a) (hM : M ≠ 0) : Ez (N * M) (Z * M) a := by
  obtain ⟨z, rfl, e2⟩ := h
  exact ⟨z * M, (Rat.mkRat_mul_right hM).symm, by rw [Int.natAbs_mul]; exact Nat.mul_le_mul e2 (Nat.le_refl _)⟩
theorem Ez.lg {k : Nat} (h : Ez N Z a) (h1 : N < 2 ^ k) (h2 : Z < 2 ^ k) (hk : k ≠ 0) : Lg k a := by
  obtain ⟨z, rfl, e2⟩ := h
  refine ⟨?_, ?_⟩
  · rw [Rat.num_mkRat]
    split
    · exact Nat.pow_pos (by decide)
    · exact Nat.lt_of_le_of_lt (Nat.le_trans (Int.natAbs_ediv_le_natAbs _ _) e2) h2
  · rw [Rat.den_mkRat]
    split
    · exact Nat.one_lt_two_pow hk
    · exact Nat.lt_of_le_of_lt (Nat.div_le_self _ _) h1
end
def MxE (N Z : Nat) (m : Mx) : Prop := Ez N Z m.a ∧ Ez N Z m.b ∧ Ez N Z m.c ∧ Ez N Z m.d ∧ Ez N Z m.e ∧ Ez N Z m.f
def pw (m : Mx) : Nat → Mx
  | 0 => m
  | k + 1 => (pw m k).mul m
theorem mul_E {o n : Mx} {N Z : Nat} (ho : MxE N Z o) (hn : MxE 12 48 n) (hN : N ≠ 0) (hz : N ≤ Z) : MxE (N * 12) (Z * 200) (o.mul n) := by
  obtain ⟨ga, gb, gc, gd, ge, gf⟩ := ho
  obtain ⟨ha, hb, hc, hd, he, hf⟩ := hn
  have p : ∀ {u v w z : Rat}, Ez 12 48 u → Ez N Z v → Ez 12 48 w → Ez N Z z → Ez (N * 12) (Z * 96) (u * v + w * z) := by
    intro u v w z hu hv hw hz
    have := (hu.mul hv).add (hw.mul hz) (by omega)
    rw [Nat.mul_comm 12 N] at this
    exact this.mono (by omega)
  have q : ∀ {u v w z t : Rat}, Ez 12 48 u → Ez N Z v → Ez 12 48 w → Ez N Z z → Ez 12 48 t → Ez (N * 12) (Z * 200) (u * v + w * z + t) := by
    intro u v w z t hu hv hw hz' ht
    have s := ht.scale hN
    rw [Nat.mul_comm 12 N] at s
    exact ((p hu hv hw hz').add s (by omega)).mono (by omega)
  exact ⟨(p ha ga hc gb).mono (by omega), (p hb ga hd gb).mono (by omega), (p ha gc hc gd).mono (by omega), (p hb gc hd gd).mono (by omega), q ha ge hc gf he, q hb ge hd gf hf⟩
theorem pw_E {m : Mx} (hm : MxE 12 48 m) : ∀ k, MxE (12 ^ (k + 1)) (200 ^ (k + 1)) (pw m k)
  | 0 => ⟨hm.1.mono (by decide), hm.2.1.mono (by decide), hm.2.2.1.mono (by decide), hm.2.2.2.1.mono (by decide), hm.2.2.2.2.1.mono (by decide), hm.2.2.2.2.2.mono (by decide)⟩
  | k + 1 => mul_E (pw_E hm k) hm (Nat.ne_of_gt (Nat.pow_pos (by decide))) (Nat.pow_le_pow_left (by decide) _)
theorem pw_lg {m : Mx} (hm : MxE 12 48 m) (k : Nat) (hk : k ≤ 12) : MxL 104 (pw m k) := by
  have h1 : 12 ^ (k + 1) < 2 ^ 104 := Nat.lt_of_le_of_lt (Nat.pow_le_pow_right (by decide) (by omega : k + 1 ≤ 13)) (by decide)
  have h2 : 200 ^ (k + 1) < 2 ^ 104 := Nat.lt_of_le_of_lt (Nat.pow_le_pow_right (by decide) (by omega : k + 1 ≤ 13)) (by decide)
  obtain ⟨a, b, c, d, e, f⟩ := pw_E hm k
  exact ⟨a.lg h1 h2 (by decide), b.lg h1 h2 (by decide), c.lg h1 h2 (by decide), d.lg h1 h2 (by decide), e.lg h1 h2 (by decide), f.lg h1 h2 (by decide)⟩
theorem E_lg {m : Mx} (hm : MxE 12 48 m) : MxL 6 m := by
  obtain ⟨a, b, c, d, e, f⟩ := hm
  exact ⟨a.lg (by decide) (by decide) (by decide), b.lg (by decide) (by decide) (by decide), c.lg (by decide) (by decide) (by decide), d.lg (by decide) (by decide) (by decide), e.lg (by decide) (by decide) (by decide), f.lg (by decide) (by decide) (by decide)⟩
def idM : Mx := ⟨1, 0, 0, 1, 0, 0⟩
instance : DecidableEq Mx := fun m n => if h : m.a = n.a ∧ m.b = n.b ∧ m.c = n.c ∧ m.d = n.d ∧ m.e = n.e ∧ m.f = n.f then .isTrue (by cases m; cases n; obtain ⟨h1, h2, h3, h4, h5, h6⟩ := h; subst h1 h2 h3 h4 h5 h6; rfl) else .isFalse (by rintro rfl; exact h ⟨rfl, rfl, rfl, rfl, rfl, rfl⟩)
theorem deq_m (m n : Mx) : deq (mD m) (mD n) = decide (m = n) := by
  have e : deq (mD m) (mD n) = (deq (qD m.a) (qD n.a) && (deq (qD m.b) (qD n.b) && (deq (qD m.c) (qD n.c) && (deq (qD m.d) (qD n.d) && (deq (qD m.e) (qD n.e) && (deq (qD m.f) (qD n.f) && true)))))) := rfl
  rw [e]
  simp only [deq_q]
  cases m; cases n
  simp [Bool.and_eq_true, Mx.mk.injEq, ← Bool.decide_and]
theorem dEq_m (m n : Mx) (h : DH) : dEq (.d (mD m)) (.d (mD n)) h = .ok (.d (.bl (decide (m = n)))) h := by
  have : dEq (.d (mD m)) (.d (mD n)) h = .ok (.d (.bl (deq (mD m) (mD n)))) h := rfl
  rw [this, deq_m]
theorem dNe_m (m n : Mx) (h : DH) : dNe (.d (mD m)) (.d (mD n)) h = .ok (.d (.bl (!decide (m = n)))) h := by
  have : dNe (.d (mD m)) (.d (mD n)) h = .ok (.d (.bl (!deq (mD m) (mD n)))) h := rfl
  rw [this, deq_m]
/-- the first power from the i-th on that is still, n of them asked -/
def fo (m : Mx) : Nat → Nat → Option Nat
  | _, 0 => none
  | i, n + 1 => if pw m i = idM then some (i + 1) else fo m (i + 1) n
def oB : SF := sCons (sIf (tTst (eBin dEq (eVar 2) (eC (.tup [.tup [.int 1, .int 1], .tup [.int 0, .int 1], .tup [.int 0, .int 1], .tup [.int 1, .int 1], .tup [.int 0, .int 1], .tup [.int 0, .int 1]])))) (sCons (sRet (eVar 3)) sNil) sNil) (sCons (sSet (.nm 2) (eCall (fun ys => callM [false, false] M_combined (ys ++ ([] : List Dt).map Vx.d)) (aCons (eVar 2) (aCons (eVar 1) aNil)))) sNil)
theorem tTst_ok {fe : DEnv → Mo Vx} {a : DEnv} {h h1 : DH} {b : Bool} (e : fe a h = .ok (.d (.bl b)) h1) : tTst fe a h = .ok b h1 := by unfold tTst; rw [bnd_ok e]; rfl
theorem fGo_end {wk : Wk} {t : MT} {fb : SF} {n i : Nat} {a : DEnv} {h : DH} (e : wk.item i h = some none) : fGo wk t fb (n + 1) i a h = .ok (.nx, a) h := by
  unfold fGo
  rw [e]
theorem fGo_rt {wk : Wk} {t : MT} {fb : SF} {n i : Nat} {a a1 a2 : DEnv} {h h2 : DH} {y z : Vx} (e : wk.item i h = some (some y)) (ea : asg t y a = some a1) (eb : fb a1 h = .ok (.rt z, a2) h2) : fGo wk t fb (n + 1) i a h = .ok (.rt z, a2) h2 := by
  show (match wk.item i h with | none => Rz.stk | some none => _ | some (some y) => _) = _
  rw [e]
  simp only [ea]
  unfold bnd
  rw [eb]
theorem oB_run (m : Mx) (hm : MxE 12 48 m) (x : Option Vx) (i : Nat) (hi : i < 12) (k : Int) (h : DH) : oB [x, some (.d (mD m)), some (.d (mD (pw m i))), some (.d (.int k))] h =
    if pw m i = idM then .ok (.rt (.d (.int k)), [x, some (.d (mD m)), some (.d (mD (pw m i))), some (.d (.int k))]) h else .ok (.nx, [x, some (.d (mD m)), some (.d (mD (pw m (i + 1)))), some (.d (.int k))]) h := by
  have e : eBin dEq (eVar 2) (eC (mD idM)) [x, some (.d (mD m)), some (.d (mD (pw m i))), some (.d (.int k))] h = .ok (.d (.bl (decide (pw m i = idM)))) h := eBin_ok rfl rfl (dEq_m _ _ h)
  by_cases hc : pw m i = idM
  · rw [if_pos hc]
    rw [decide_eq_true hc] at e
    exact sCons_rt (Eq.trans (sIf_t (tTst_ok e)) rfl)
  · rw [if_neg hc]
    rw [decide_eq_false hc] at e
    have r := call2 (combined_run (pw m i) m 6 104 (E_lg hm) (pw_lg hm i (by omega)) (by decide) []) h
    refine Eq.trans (sCons_nx (Eq.trans (sIf_f (tTst_ok e)) rfl)) ?_
    exact Eq.trans (sCons_nx (sSet_ok (eCall_ok (aCons_ok rfl (aCons_ok rfl aNil_ok)) r) rfl)) rfl
theorem oGo (m : Mx) (hm : MxE 12 48 m) (x : Option Vx) (h : DH) : ∀ (n i : Nat) (o : Option Vx), i + n = 12 → ∃ a : DEnv, fGo (.rg 1 12) (.nm 3) oB (n + 1) i [x, some (.d (mD m)), some (.d (mD (pw m i))), o] h = match fo m i n with
      | some k => .ok (.rt (.d (.int k)), a) h
      | none => .ok (.nx, a) h
  | 0, i, o, e => by
    have : i = 12 := by omega
    subst this
    exact ⟨_, fGo_end rfl⟩
  | n + 1, i, o, e => by
    have e1 := rg_at (lo := 1) (m := 12) (i := i) (by omega) h
    have q := oB_run m hm x i (by omega) (1 + i) h
    unfold fo
    by_cases hc : pw m i = idM
    · rw [if_pos hc] at q
      rw [if_pos hc]
      refine ⟨[x, some (.d (mD m)), some (.d (mD (pw m i))), some (.d (.int (i + 1 : Nat)))], ?_⟩
      have ec : (1 : Int) + i = ((i + 1 : Nat) : Int) := by omega
      rw [ec] at q e1
      exact fGo_rt e1 rfl q
    · rw [if_neg hc] at q
      rw [if_neg hc]
      obtain ⟨a, ea⟩ := oGo m hm x h n (i + 1) (some (.d (.int (1 + i)))) (by omega)
      exact ⟨a, (fGo_next e1 rfl q).trans ea⟩
def foD : Option Nat → Dt
  | some k => .int k
  | none => .non
theorem order_run (m : Mx) (x : Dt) (hx : HdM m x) (hm : MxE 12 48 m) (h : DH) : M_order_of [.d x] h = .ok (.d (foD (fo m 0 12))) h := by
  have i1 := call1 (ismat_run m x hx ((E_lg hm).mono (by decide)) []) h
  have t1 := hx.tup h
  obtain ⟨a, ea⟩ := oGo m hm (some (.d x)) h 12 0 none rfl
  have ew : sFor (wRng2 (aCons (eC (.int 1)) (aCons (eBin dAdd (eC (.int 12)) (eC (.int 1))) aNil))) (.nm 3) oB [some (.d x), some (.d (mD m)), some (.d (mD m)), none] h = fGo (.rg 1 12) (.nm 3) oB 13 0 [some (.d x), some (.d (mD m)), some (.d (mD m)), none] h := by
    unfold sFor
    rw [bnd_ok (m := wRng2 _ _) (a := Wk.rg 1 12) (h' := h) rfl]
    rfl
  have hd : ∀ b : DEnv, (sCons (sExpr (eCall (fun ys => callM [false, false] M_demand (ys ++ ([] : List Dt).map Vx.d)) (aCons (eCall (fun ys => callM [false] M_is_matrix (ys ++ ([] : List Dt).map Vx.d)) (aCons (eVar 0) aNil)) (aCons (eC (.int 0)) aNil)))) (sCons (sSet (.nm 1) (eCall (fun ys => callM [false] (M_in_tuples 24) (ys ++ ([] : List Dt).map Vx.d)) (aCons (eVar 0) aNil))) (sCons (sSet (.nm 2) (eVar 1)) (sCons (sFor (wRng2 (aCons (eC (.int 1)) (aCons (eBin dAdd (eC (.int 12)) (eC (.int 1))) aNil))) (.nm 3) oB) (sCons (sRet (eC .non)) sNil))))) [some (.d x), none, none, none] h = (sCons (sFor (wRng2 (aCons (eC (.int 1)) (aCons (eBin dAdd (eC (.int 12)) (eC (.int 1))) aNil))) (.nm 3) oB) (sCons (sRet (eC .non)) sNil)) [some (.d x), some (.d (mD m)), some (.d (mD m)), none] h := by
    intro b
    refine Eq.trans (sCons_nx (a1 := [some (.d x), none, none, none]) (sExpr_ok (eCall_ok (aCons_ok (eCall_ok (as := [.d x]) rfl i1) (aCons_ok rfl aNil_ok)) (demand_t 0 h)))) ?_
    refine Eq.trans (sCons_nx (sSet_ok (eCall_ok (aCons_ok rfl aNil_ok) t1) rfl)) ?_
    exact Eq.trans (sCons_nx (sSet_ok (h1 := h) rfl rfl)) rfl
  cases hf : fo m 0 12 with
  | none =>
    rw [hf] at ea
    refine fnM_rt (a1 := a) (Eq.trans (hd []) ?_)
    exact Eq.trans (sCons_nx (ew.trans ea)) rfl
  | some k =>
    rw [hf] at ea
    exact fnM_rt (a1 := a) (Eq.trans (hd []) (sCons_rt (ew.trans ea)))
end Dn
end
section
set_option Elab.async false
set_option linter.all false
set_option maxRecDepth 100000
set_option maxHeartbeats 4000000
set_option exponentiation.threshold 2000
/-! Dn35: plain: the spot handed on; alike by the law; drawn matrices. -/
namespace Dn
open PySem PySem.Spec PyProof.Rows L2
theorem tVal_ok {fa : DEnv → Mo Vx} {a : DEnv} {h h1 h2 : DH} {x : Vx} {b : Bool} (e : fa a h = .ok x h1) (t : truM x h1 = .ok b h2) : tVal fa a h = .ok b h2 := by unfold tVal; rw [bnd_ok e]; exact t
theorem tNotD_ok {ft : DEnv → Mo Bool} {a : DEnv} {h h1 : DH} {b : Bool} (e : ft a h = .ok b h1) : tNotD ft a h = .ok (!b) h1 := by unfold tNotD; rw [bnd_ok e]
theorem tOrD_t {ft fu : DEnv → Mo Bool} {a : DEnv} {h h1 : DH} (e : ft a h = .ok true h1) : tOrD ft fu a h = .ok true h1 := by unfold tOrD; rw [bnd_ok e]
theorem tOrD_f {ft fu : DEnv → Mo Bool} {a : DEnv} {h h1 : DH} (e : ft a h = .ok false h1) : tOrD ft fu a h = fu a h1 := by unfold tOrD; rw [bnd_ok e]
theorem tAndD_t {ft fu : DEnv → Mo Bool} {a : DEnv} {h h1 : DH} (e : ft a h = .ok true h1) : tAndD ft fu a h = fu a h1 := by unfold tAndD; rw [bnd_ok e]
theorem tAndD_f {ft fu : DEnv → Mo Bool} {a : DEnv} {h h1 : DH} (e : ft a h = .ok false h1) : tAndD ft fu a h = .ok false h1 := by unfold tAndD; rw [bnd_ok e]
theorem rng1_ok {fs : DEnv → Mo (List Vx)} {a : DEnv} {h h1 : DH} {j : Int} (e : fs a h = .ok [.d (.int j)] h1) (hj : -4611686018427387904 ≤ j ∧ j < 4611686018427387904) : wRng1 fs a h = .ok (.rg 0 j.toNat) h1 := by
  unfold wRng1
  rw [bnd_ok e]
  exact if_pos hj
abbrev rowD (rs : List Int) : Dt := .lst (rs.map Dt.int)
abbrev Sp (n : Int) : DH := [.lst [.d (.int n)]]
theorem takeS {rs : List Int} (hr : rs ≠ []) {n : Int} (hn : 0 ≤ n) (lim : Int) (hl : 0 < lim) : ∃ p, callM [false, true, false] takeM [.d (rowD rs), .r 0, .d (.int lim)] (Sp n) = .ok (.d (.int p)) (Sp (n + 1)) ∧ 0 ≤ p ∧ p < lim := by
  obtain ⟨p, e, q⟩ := take_call rs hr 0 n lim hn hl (Sp n) rfl
  exact ⟨p, e, q⟩
theorem callS2 {f : List Vx → Mo Vx} {rs : List Int} {n n2 : Int} {r : Dt} (e : f [.d (rowD rs), .r 0] (Sp n) = .ok (.d r) (Sp n2)) : callM [false, true] f [.d (rowD rs), .r 0] (Sp n) = .ok (.d r) (Sp n2) := by
  have e0 : callM [false, true] f [.d (rowD rs), .r 0] (Sp n) = back false (some 0) (Sp n) (f [.d (rowD rs), .r 0] (Sp n)) := rfl
  rw [e0, e]
  rfl
theorem callS3 {f : List Vx → Mo Vx} {rs : List Int} {n n2 : Int} {x r : Dt} (e : f [.d (rowD rs), .r 0, .d x] (Sp n) = .ok (.d r) (Sp n2)) : callM [false, true, false] f [.d (rowD rs), .r 0, .d x] (Sp n) = .ok (.d r) (Sp n2) := by
  have e0 : callM [false, true, false] f [.d (rowD rs), .r 0, .d x] (Sp n) = back false (some 0) (Sp n) (f [.d (rowD rs), .r 0, .d x] (Sp n)) := rfl
  rw [e0, e]
  rfl
theorem eIf_t {ft : DEnv → Mo Bool} {fa fb : DEnv → Mo Vx} {a : DEnv} {h h1 : DH} (e : ft a h = .ok true h1) : eIf ft fa fb a h = fa a h1 := by unfold eIf; rw [bnd_ok e]
theorem eIf_f {ft : DEnv → Mo Bool} {fa fb : DEnv → Mo Vx} {a : DEnv} {h h1 : DH} (e : ft a h = .ok false h1) : eIf ft fa fb a h = fb a h1 := by unfold eIf; rw [bnd_ok e]
theorem dEq_i (i j : Int) (h : DH) : dEq (.d (.int i)) (.d (.int j)) h = .ok (.d (.bl (decide (i = j)))) h := rfl
theorem handed_run {rs : List Int} (hr : rs ≠ []) {n : Int} (hn : 0 ≤ n) (x y : Dt) (hl : M__law_listed 24 [.d x] [] = .ok (.d y) []) : ∃ z, (z = x ∨ z = y) ∧ callM [false, true, false] M__law_handed [.d (rowD rs), .r 0, .d x] (Sp n) = .ok (.d z) (Sp (n + 1)) := by
  obtain ⟨p, e, _⟩ := takeS hr hn 2 (by decide)
  have l := call1 hl (Sp (n + 1))
  have t : eBin dEq (eCall (fun ys => callM [false, true, false] takeM (ys ++ ([] : List Dt).map Vx.d)) (aCons (eVar 0) (aCons (eVar 1) (aCons (eC (.int 2)) aNil)))) (eC (.int 0)) [some (.d (rowD rs)), some (.r 0), some (.d x)] (Sp n) = .ok (.d (.bl (decide (p = 0)))) (Sp (n + 1)) :=
    eBin_ok (eCall_ok (as := [.d (rowD rs), .r 0, .d (.int 2)]) rfl e) rfl (dEq_i p 0 _)
  by_cases hp : p = 0
  · rw [decide_eq_true hp] at t
    refine ⟨y, .inr rfl, callS3 (fnM_rt (a1 := [some (.d (rowD rs)), some (.r 0), some (.d x)]) (sCons_rt (sRet_ok ?_)))⟩
    exact (eIf_t (tTst_ok t)).trans (eCall_ok (as := [.d x]) rfl l)
  · rw [decide_eq_false hp] at t
    refine ⟨x, .inl rfl, callS3 (fnM_rt (a1 := [some (.d (rowD rs)), some (.r 0), some (.d x)]) (sCons_rt (sRet_ok ?_)))⟩
    exact (eIf_f (tTst_ok t)).trans rfl
theorem handM {rs : List Int} (hr : rs ≠ []) {n : Int} (hn : 0 ≤ n) (m : Mx) : ∃ z, HdM m z ∧ callM [false, true, false] M__law_handed [.d (rowD rs), .r 0, .d (mD m)] (Sp n) = .ok (.d z) (Sp (n + 1)) := handed_run hr hn _ _ (listed_m m)
theorem handP {rs : List Int} (hr : rs ≠ []) {n : Int} (hn : 0 ≤ n) (u v : Rat) : ∃ z, HdP u v z ∧ callM [false, true, false] M__law_handed [.d (rowD rs), .r 0, .d (pD u v)] (Sp n) = .ok (.d z) (Sp (n + 1)) := handed_run hr hn _ _ (listed_p u v)
/-! alike -/
theorem so_non (k : Nat) : M__law_so (k + 1) [.d .non, .d .non] [] = .ok (.d (.bl true)) [] := rfl
theorem so_int (k : Nat) (i : Int) : M__law_so (k + 1) [.d (.int i), .d (.int i)] [] = .ok (.d (.bl true)) [] := by
  refine fnM_rt (a1 := [some (.d (.int i)), some (.d (.int i)), none]) ?_
  refine Eq.trans (sCons_nx (a1 := [some (.d (.int i)), some (.d (.int i)), none]) (h1 := []) rfl) ?_
  refine Eq.trans (sCons_nx (a1 := [some (.d (.int i)), some (.d (.int i)), none]) (h1 := []) rfl) ?_
  refine Eq.trans (sCons_nx (a1 := [some (.d (.int i)), some (.d (.int i)), none]) (h1 := []) rfl) ?_
  refine sCons_rt (Eq.trans (sIf_t (h1 := []) rfl) (sCons_rt (sRet_ok (Eq.trans (eAnd_t (x := .d (.bl true)) (h1 := []) (h2 := []) rfl rfl) (eBin_ok rfl rfl ?_)))))
  rw [dEq_i]; simp
theorem so_tup (k : Nat) (ds : List Dt) (hd : ∀ y ∈ ds, M__law_so k [.d y, .d y] [] = .ok (.d (.bl true)) []) (hl : (ds.length : Int) < 4611686018427387904) : M__law_so (k + 1) [.d (.tup ds), .d (.tup ds)] [] = .ok (.d (.bl true)) [] := by
  have L := fGo_list (wk := .rg 0 ds.length) (t := .nm 2) (fb := sCons (sIf (tNotD (tVal (eCall (fun ys => callM [false, false] (M__law_so k) (ys ++ ([] : List Dt).map Vx.d)) (aCons (eBin dIx (eVar 0) (eVar 2)) (aCons (eBin dIx (eVar 1) (eVar 2)) aNil))))) (sCons (sRet (eC (.bl false))) sNil) sNil) sNil) (L := (List.range ds.length).map fun j => Vx.d (.int (0 + (j : Nat)))) (item_rg 0 ds.length)
    (P := fun i ρ h => ∃ o, ρ = [some (.d (.tup ds)), some (.d (.tup ds)), o] ∧ h = []) (B := fun _ _ => False)
    (by
      rintro i y ρ h ey ⟨o, rfl, rfl⟩
      obtain ⟨j, hj, rfl⟩ : ∃ j, j < ds.length ∧ y = .d (.int (0 + (j : Nat))) := by
        obtain ⟨j, hj, rfl⟩ := List.mem_map.1 (List.mem_of_getElem? ey)
        exact ⟨j, List.mem_range.1 hj, rfl⟩
      have ei : dIx (.d (.tup ds)) (.d (.int (0 + (j : Nat)))) [] = .ok (.d ds[j]) [] := by
        have : atI ds (0 + (j : Nat)) = some ds[j] := by
          unfold atI ixN
          simp [hj]
        show (match atI ds (0 + (j : Nat)) with | some x => (Rz.ok (.d x) [] : Rz Vx) | none => .stk) = _
        rw [this]
      have c := call2 (hd _ (List.getElem_mem hj)) []
      have ec : eCall (fun ys => callM [false, false] (M__law_so k) (ys ++ ([] : List Dt).map Vx.d)) (aCons (eBin dIx (eVar 0) (eVar 2)) (aCons (eBin dIx (eVar 1) (eVar 2)) aNil)) [some (.d (.tup ds)), some (.d (.tup ds)), some (.d (.int (0 + (j : Nat))))] [] = .ok (.d (.bl true)) [] :=
        eCall_ok (aCons_ok (eBin_ok rfl rfl ei) (aCons_ok (eBin_ok rfl rfl ei) aNil_ok)) c
      refine ⟨_, rfl, [some (.d (.tup ds)), some (.d (.tup ds)), some (.d (.int (0 + (j : Nat))))], [], .inl ⟨?_, some (.d (.int (0 + (j : Nat)))), rfl, rfl⟩⟩
      refine Eq.trans (sCons_nx (h1 := []) (Eq.trans (sIf_f (h1 := []) ?_) rfl)) rfl
      exact tNotD_ok (tVal_ok ec rfl))
  obtain ⟨ρ2, h2, e, q⟩ := L (ds.length + 1) 0 [some (.d (.tup ds)), some (.d (.tup ds)), none] [] (by simp) (by simp) ⟨_, rfl, rfl⟩
  rcases q with ⟨o, rfl, rfl⟩ | q
  · refine fnM_rt (a1 := [some (.d (.tup ds)), some (.d (.tup ds)), o]) ?_
    refine Eq.trans (sCons_nx (a1 := [some (.d (.tup ds)), some (.d (.tup ds)), none]) (h1 := []) rfl) ?_
    refine sCons_rt (Eq.trans (sIf_t (h1 := []) rfl) ?_)
    refine Eq.trans (sCons_nx (a1 := [some (.d (.tup ds)), some (.d (.tup ds)), none]) (h1 := []) (Eq.trans (sIf_f (h1 := []) ?_) rfl)) ?_
    · have e1 : dNe (.d (.int (ds.length : Int))) (.d (.int (ds.length : Int))) [] = .ok (.d (.bl false)) [] := by
        show Rz.ok (Vx.d (.bl (!decide ((ds.length : Int) = ds.length)))) [] = _
        simp
      have e2 : tTst (eBin dNe (eCall bLen (aCons (eVar 0) aNil)) (eCall bLen (aCons (eVar 1) aNil))) [some (.d (.tup ds)), some (.d (.tup ds)), none] [] = .ok false [] := tTst_ok (eBin_ok rfl rfl e1)
      exact e2
    · have ew : wRng1 (aCons (eCall bLen (aCons (eVar 1) aNil)) aNil) [some (.d (.tup ds)), some (.d (.tup ds)), none] [] = .ok (.rg 0 ds.length) [] := by
        exact rng1_ok (j := (ds.length : Int)) rfl ⟨by omega, hl⟩
      refine Eq.trans (sCons_nx (a1 := [some (.d (.tup ds)), some (.d (.tup ds)), o]) (h1 := []) ?_) rfl
      unfold sFor
      rw [bnd_ok ew]
      exact e
  · exact q.elim
theorem so_q (k : Nat) (r : Rat) : M__law_so (k + 2) [.d (qD r), .d (qD r)] [] = .ok (.d (.bl true)) [] := so_tup (k + 1) _ (by
  intro y hy
  simp only [List.mem_cons, List.not_mem_nil, or_false] at hy
  rcases hy with rfl | rfl
  · exact so_int _ _
  · exact so_int _ _) (by simp)
theorem so_m (m : Mx) : M__law_so 24 [.d (mD m), .d (mD m)] [] = .ok (.d (.bl true)) [] := so_tup 23 _ (by
  intro y hy
  simp only [List.mem_cons, List.not_mem_nil, or_false] at hy
  rcases hy with rfl | rfl | rfl | rfl | rfl | rfl <;> exact so_q 21 _) (by simp)
theorem so_p (u v : Rat) : M__law_so 24 [.d (pD u v), .d (pD u v)] [] = .ok (.d (.bl true)) [] := so_tup 23 _ (by
  intro y hy
  simp only [List.mem_cons, List.not_mem_nil, or_false] at hy
  rcases hy with rfl | rfl <;> exact so_q 21 _) (by simp)
end Dn
end
section
set_option Elab.async false
set_option linter.all false
set_option maxRecDepth 100000
set_option maxHeartbeats 4000000
set_option exponentiation.threshold 2000
/-! Dn36: plain: drawn fractions and matrices. -/
namespace Dn
open PySem PySem.Spec PyProof.Rows L2
abbrev eTake (ix iy : Nat) (lim : Int) : DEnv → Mo Vx := eCall (fun ys => callM [false, true, false] takeM (ys ++ ([] : List Dt).map Vx.d)) (aCons (eVar ix) (aCons (eVar iy) (aCons (eC (.int lim)) aNil)))
abbrev eDrawQ (ix iy : Nat) (l1 c l2 : Int) : DEnv → Mo Vx := eCall (fun ys => callM [false, false] (M__law_red 24) (ys ++ ([] : List Dt).map Vx.d)) (aCons (eBin dSub (eTake ix iy l1) (eC (.int c))) (aCons (eBin dAdd (eC (.int 1)) (eTake ix iy l2)) aNil))
theorem eVar_ok {a : DEnv} {i : Nat} {y : Vx} {h : DH} (e : a[i]? = some (some y)) : eVar i a h = .ok y h := by unfold eVar; rw [e]
theorem eTake_ok {rs : List Int} (hr : rs ≠ []) {n : Int} (hn : 0 ≤ n) {a : DEnv} {ix iy : Nat} (e0 : a[ix]? = some (some (.d (rowD rs)))) (e1 : a[iy]? = some (some (.r 0))) (lim : Int) (hl : 0 < lim) : ∃ p, eTake ix iy lim a (Sp n) = .ok (.d (.int p)) (Sp (n + 1)) ∧ 0 ≤ p ∧ p < lim := by
  obtain ⟨p, e, q⟩ := takeS hr hn lim hl
  exact ⟨p, eCall_ok (as := [.d (rowD rs), .r 0, .d (.int lim)]) (aCons_ok (eVar_ok e0) (aCons_ok (eVar_ok e1) (aCons_ok rfl aNil_ok))) e, q⟩
theorem drawQ {rs : List Int} (hr : rs ≠ []) {n : Int} (hn : 0 ≤ n) {a : DEnv} {ix iy : Nat} (e0 : a[ix]? = some (some (.d (rowD rs)))) (e1 : a[iy]? = some (some (.r 0))) (l1 c l2 : Int) (h1 : 0 < l1) (h2 : 0 < l2) (h3 : l2 < 1000) :
    ∃ p q : Int, eDrawQ ix iy l1 c l2 a (Sp n) = .ok (.d (qD (Rat.divInt (p - c) (1 + q)))) (Sp (n + 2)) ∧ 0 ≤ p ∧ p < l1 ∧ 0 ≤ q ∧ q < l2 := by
  obtain ⟨p, e2, p0, p1⟩ := eTake_ok hr hn e0 e1 l1 h1
  obtain ⟨q, e3, q0, q1⟩ := eTake_ok hr (by omega : 0 ≤ n + 1) e0 e1 l2 h2
  have en : n + 1 + 1 = n + 2 := by omega
  rw [en] at e3
  have hb : (1 + q).natAbs < 2 ^ 800 := Nat.lt_of_lt_of_le (by omega : (1 + q).natAbs < 2 ^ 10) (Nat.pow_le_pow_right (by decide) (by decide))
  have r := call2 (red_run (p - c) (1 + q) (by omega) hb []) (Sp (n + 2))
  exact ⟨p, q, eCall_ok (as := [.d (.int (p - c)), .d (.int (1 + q))]) (aCons_ok (eBin_ok e2 rfl rfl) (aCons_ok (eBin_ok rfl e3 rfl) aNil_ok)) r, p0, p1, q0, q1⟩
theorem ez_div (z q : Int) (hz : z.natAbs ≤ 4) (h0 : 0 ≤ q) (h1 : q < 4) : Ez 12 48 (Rat.divInt z (1 + q)) := by
  have f : ∀ d k : Nat, d * k = 12 → d ≠ 0 → k ≠ 0 → k ≤ 12 → Ez 12 48 (Rat.divInt z (d : Int)) := by
    intro d k e hd hk hk2
    refine ⟨z * k, ?_, ?_⟩
    · rw [Rat.divInt_ofNat, ← e, Rat.mkRat_mul_right hk]
    · rw [Int.natAbs_mul]
      have := Nat.mul_le_mul hz (show (k : Int).natAbs ≤ 12 from hk2)
      omega
  have : q = 0 ∨ q = 1 ∨ q = 2 ∨ q = 3 := by omega
  rcases this with rfl | rfl | rfl | rfl
  · exact f 1 12 rfl (by decide) (by decide) (by decide)
  · exact f 2 6 rfl (by decide) (by decide) (by decide)
  · exact f 3 4 rfl (by decide) (by decide) (by decide)
  · exact f 4 3 rfl (by decide) (by decide) (by decide)
theorem lg_div (z d : Int) (k : Nat) (hz : z.natAbs < 2 ^ k) (h0 : 0 < d) (h1 : d.natAbs < 2 ^ k) : Lg k (Rat.divInt z d) := by
  refine ⟨?_, ?_⟩
  · rw [Rat.num_divInt]
    refine Nat.lt_of_le_of_lt (Int.natAbs_ediv_le_natAbs _ _) ?_
    rw [Int.sign_eq_one_of_pos h0, Int.one_mul]
    exact hz
  · rw [Rat.den_divInt, if_neg (by omega)]
    exact Nat.lt_of_le_of_lt (Nat.div_le_self _ _) h1
/-- a drawn fraction: a twelfth's multiple, and small -/
def EQ (r : Rat) : Prop := Ez 12 48 r ∧ Lg 3 r
theorem drawE {rs : List Int} (hr : rs ≠ []) {n : Int} (hn : 0 ≤ n) {a : DEnv} {ix iy : Nat} (e0 : a[ix]? = some (some (.d (rowD rs)))) (e1 : a[iy]? = some (some (.r 0))) (l1 c l2 : Int) (h1 : 0 < l1) (h2 : 0 < l2) (h3 : l2 ≤ 4) (h4 : c ≤ 4) (h5 : l1 - c ≤ 5) (h6 : 0 ≤ c) :
    ∃ r, eDrawQ ix iy l1 c l2 a (Sp n) = .ok (.d (qD r)) (Sp (n + 2)) ∧ EQ r := by
  obtain ⟨p, q, e, a1, a2, a3, a4⟩ := drawQ hr hn e0 e1 l1 c l2 h1 h2 (by omega)
  exact ⟨_, e, ez_div _ _ (by omega) a3 (by omega), lg_div _ _ 3 (by omega) (by omega) (by omega)⟩
theorem pick_run {rs : List Int} (hr : rs ≠ []) {n : Int} (hn : 0 ≤ n) (ds : List Dt) (hd : 0 < ds.length) : ∃ y, y ∈ ds ∧ callM [false, true, false] M__law_pick [.d (rowD rs), .r 0, .d (.lst ds)] (Sp n) = .ok (.d y) (Sp (n + 1)) := by
  obtain ⟨p, e, p0, p1⟩ := takeS hr hn (ds.length : Int) (by omega)
  obtain ⟨k, rfl⟩ := Int.eq_ofNat_of_zero_le p0
  have hk : k < ds.length := by omega
  refine ⟨ds[k], List.getElem_mem hk, callS3 (fnM_rt (a1 := [some (.d (rowD rs)), some (.r 0), some (.d (.lst ds))]) (sCons_rt (sRet_ok (eBin_ok (h1 := Sp n) (x := .d (.lst ds)) rfl (eCall_ok (as := [.d (rowD rs), .r 0, .d (.int ds.length)]) ?_ e) ?_))))⟩
  · refine aCons_ok rfl (aCons_ok rfl (aCons_ok ?_ aNil_ok))
    show Rz.ok (Vx.d (.int ((ds.map Vx.d).length : Nat))) (Sp n) = _
    rw [List.length_map]
  · have e2 : atI (ds.map Vx.d) (k : Int) = some (.d ds[k]) := by
      unfold atI ixN
      simp [hk]
    show (match atI (ds.map Vx.d) (k : Int) with | some y => (Rz.ok y (Sp (n + 1)) : Rz Vx) | none => .stk) = _
    rw [e2]
theorem lcGo_rng {m i : Nat} {fe : DEnv → Mo Vx} {a : DEnv} {P : Rat → Prop} (hm : m ≤ 1000) (e : ∀ (j : Int) (n : Int), 0 ≤ n → ∃ r n2, fe (a.set i (some (.d (.int j)))) (Sp n) = .ok (.d (qD r)) (Sp n2) ∧ 0 ≤ n2 ∧ P r) :
    ∀ (k j : Nat) (qs : List Rat) (n : Int), 0 ≤ n → j + k = m → qs.length = j → (∀ r ∈ qs, P r) → ∃ (qs2 : List Rat) (n2 : Int), lcGo (.rg 0 m) (.nm i) tYesD fe a (k + 1) j (qs.map fun r => Vx.d (qD r)) (Sp n) = .ok (qs2.map fun r => Vx.d (qD r)) (Sp n2) ∧ 0 ≤ n2 ∧ qs2.length = m ∧ ∀ r ∈ qs2, P r
  | 0, j, qs, n, hn, hj, hq, hp => by
    refine ⟨qs, n, ?_, hn, by omega, hp⟩
    unfold lcGo
    have : (Wk.rg 0 m).item j (Sp n) = some none := by
      show some (if j < m then some (Vx.d (.int (0 + j))) else none) = _
      rw [if_neg (by omega)]
    rw [this]
  | k + 1, j, qs, n, hn, hj, hq, hp => by
    obtain ⟨r, n2, e1, h2, pr⟩ := e (0 + j) n hn
    obtain ⟨qs2, n3, e3, h3, l3, p3⟩ := lcGo_rng hm e k (j + 1) (qs ++ [r]) n2 h2 (by omega) (by simp; omega) (by
      intro x hx
      rcases List.mem_append.1 hx with hx | hx
      · exact hp x hx
      · rw [List.mem_singleton.1 hx]; exact pr)
    refine ⟨qs2, n3, ?_, h3, l3, p3⟩
    rw [← e3]
    conv => lhs; unfold lcGo
    rw [rg_at (lo := 0) (m := m) (i := j) (by omega) (Sp n)]
    simp only [asg, tYesD, ret]
    rw [e1]
    simp only []
    rw [if_pos (by simp; omega), List.map_append]
    rfl
theorem ez1 : EQ 1 := ⟨⟨12, by decide, by decide⟩, by decide, by decide⟩
theorem ez0 : EQ 0 := ⟨⟨0, by decide, by decide⟩, by decide, by decide⟩
theorem ezm : EQ (-1) := ⟨⟨-12, by decide, by decide⟩, by decide, by decide⟩
def MxQ (m : Mx) : Prop := EQ m.a ∧ EQ m.b ∧ EQ m.c ∧ EQ m.d ∧ EQ m.e ∧ EQ m.f
theorem MxQ.E {m : Mx} (h : MxQ m) : MxE 12 48 m := ⟨h.1.1, h.2.1.1, h.2.2.1.1, h.2.2.2.1.1, h.2.2.2.2.1.1, h.2.2.2.2.2.1⟩
theorem MxQ.L {m : Mx} (h : MxQ m) : MxL 3 m := ⟨h.1.2, h.2.1.2, h.2.2.1.2, h.2.2.2.1.2, h.2.2.2.2.1.2, h.2.2.2.2.2.2⟩
end Dn
end
section
set_option Elab.async false
set_option linter.all false
set_option maxRecDepth 100000
set_option maxHeartbeats 4000000
set_option exponentiation.threshold 2000
/-! Dn37: plain: a drawn matrix. -/
namespace Dn
open PySem PySem.Spec PyProof.Rows L2
theorem some_run {rs : List Int} (hr : rs ≠ []) {n : Int} (hn : 0 ≤ n) : ∃ (m : Mx) (n2 : Int), callM [false, true] M__law_some_matrix [.d (rowD rs), .r 0] (Sp n) = .ok (.d (mD m)) (Sp n2) ∧ 0 ≤ n2 ∧ MxQ m := by
  obtain ⟨p, e2, p0, p1⟩ := eTake_ok (ix := 0) (iy := 1) (a := [some (.d (rowD rs)), some (.r 0), none, none, none, none, none, none]) hr hn rfl rfl 6 (by decide)
  obtain ⟨r1, e5, z1⟩ := drawE (ix := 0) (iy := 1) (a := [some (.d (rowD rs)), some (.r 0), some (.d (.int p)), some (.d (qD 0)), some (.d (qD 1)), none, none, none]) hr (by omega : 0 ≤ n + 1) rfl rfl 9 4 4 (by decide) (by decide) (by decide) (by decide) (by decide) (by decide)
  obtain ⟨r2, e6, z2⟩ := drawE (ix := 0) (iy := 1) (a := [some (.d (rowD rs)), some (.r 0), some (.d (.int p)), some (.d (qD 0)), some (.d (qD 1)), some (.d (qD r1)), none, none]) hr (by omega : 0 ≤ n + 1 + 2) rfl rfl 9 4 4 (by decide) (by decide) (by decide) (by decide) (by decide) (by decide)
  generalize hA : (⟨[some (.d (rowD rs)), some (.r 0), some (.d (.int p)), some (.d (qD 0)), some (.d (qD 1)), some (.d (qD r1)), some (.d (qD r2)), none], Sp (n + 1 + 2 + 2)⟩ : DEnv × DH) = A
  have hA1 : A.1 = [some (.d (rowD rs)), some (.r 0), some (.d (.int p)), some (.d (qD 0)), some (.d (qD 1)), some (.d (qD r1)), some (.d (qD r2)), none] := by rw [← hA]
  have t : ∀ (c : Int) (h : DH), tTst (eBin dEq (eVar 2) (eC (.int c))) [some (.d (rowD rs)), some (.r 0), some (.d (.int p)), some (.d (qD 0)), some (.d (qD 1)), some (.d (qD r1)), some (.d (qD r2)), none] h = .ok (decide (p = c)) h := fun c h => tTst_ok (eBin_ok rfl rfl (dEq_i p c h))
  have fin : ∀ (m : Mx) (n2 : Int) (a1 : DEnv), 0 ≤ n2 → MxQ m → (∀ F : SF, True) → M__law_some_matrix [.d (rowD rs), .r 0] (Sp n) = .ok (.d (mD m)) (Sp n2) → ∃ (m : Mx) (n2 : Int), callM [false, true] M__law_some_matrix [.d (rowD rs), .r 0] (Sp n) = .ok (.d (mD m)) (Sp n2) ∧ 0 ≤ n2 ∧ MxQ m :=
    fun m n2 a1 h0 hm _ e => ⟨m, n2, callS2 e, h0, hm⟩
  have h5 : 0 ≤ n + 1 + 2 + 2 := by omega
  by_cases c0 : p = 0
  · refine fin ⟨1, 0, 0, 1, r1, r2⟩ _ [] h5 ⟨ez1, ez0, ez0, ez1, z1, z2⟩ (fun _ => trivial) (fnM_rt (a1 := A.1) ?_)
    rw [hA1]
    refine Eq.trans (sCons_nx (sSet_ok e2 rfl)) (Eq.trans (sCons_nx (sSet_ok (h1 := Sp (n + 1)) rfl rfl)) (Eq.trans (sCons_nx (sSet_ok (h1 := Sp (n + 1)) rfl rfl)) (Eq.trans (sCons_nx (sSet_ok e5 rfl)) (Eq.trans (sCons_nx (sSet_ok e6 rfl)) ?_))))
    refine sCons_rt (Eq.trans (sIf_t ((t 0 _).trans ?_)) rfl)
    rw [decide_eq_true c0]
  have t0 : ∀ h : DH, tTst (eBin dEq (eVar 2) (eC (.int 0))) [some (.d (rowD rs)), some (.r 0), some (.d (.int p)), some (.d (qD 0)), some (.d (qD 1)), some (.d (qD r1)), some (.d (qD r2)), none] h = .ok false h := fun h => (t 0 h).trans (by rw [decide_eq_false c0])
  by_cases c1 : p = 1
  · refine fin ⟨r1, 0, 0, r2, 0, 0⟩ _ [] h5 ⟨z1, ez0, ez0, z2, ez0, ez0⟩ (fun _ => trivial) (fnM_rt (a1 := A.1) ?_)
    rw [hA1]
    refine Eq.trans (sCons_nx (sSet_ok e2 rfl)) (Eq.trans (sCons_nx (sSet_ok (h1 := Sp (n + 1)) rfl rfl)) (Eq.trans (sCons_nx (sSet_ok (h1 := Sp (n + 1)) rfl rfl)) (Eq.trans (sCons_nx (sSet_ok e5 rfl)) (Eq.trans (sCons_nx (sSet_ok e6 rfl)) ?_))))
    refine Eq.trans (sCons_nx (Eq.trans (sIf_f (t0 _)) rfl)) ?_
    refine sCons_rt (Eq.trans (sIf_t ((t 1 _).trans ?_)) rfl)
    rw [decide_eq_true c1]
  have t1 : ∀ h : DH, tTst (eBin dEq (eVar 2) (eC (.int 1))) [some (.d (rowD rs)), some (.r 0), some (.d (.int p)), some (.d (qD 0)), some (.d (qD 1)), some (.d (qD r1)), some (.d (qD r2)), none] h = .ok false h := fun h => (t 1 h).trans (by rw [decide_eq_false c1])
  by_cases c2 : p = 2
  · let L : List Mx := [⟨0, 1, -1, 0, r1, r2⟩, ⟨-1, 0, 0, -1, r1, r2⟩, ⟨0, 1, -1, 1, r1, r2⟩, ⟨0, 1, -1, -1, r1, r2⟩, ⟨0, 1, 1, 0, 0, 0⟩, ⟨1, r1, 0, -1, 0, r2⟩]
    obtain ⟨y, hy, ey⟩ := pick_run hr h5 (L.map mD) (by simp [L])
    obtain ⟨m, hm, rfl⟩ := List.mem_map.1 hy
    have mE : MxQ m := by
      simp only [L, List.mem_cons, List.not_mem_nil, or_false] at hm
      rcases hm with rfl | rfl | rfl | rfl | rfl | rfl
      · exact ⟨ez0, ez1, ezm, ez0, z1, z2⟩
      · exact ⟨ezm, ez0, ez0, ezm, z1, z2⟩
      · exact ⟨ez0, ez1, ezm, ez1, z1, z2⟩
      · exact ⟨ez0, ez1, ezm, ezm, z1, z2⟩
      · exact ⟨ez0, ez1, ez1, ez0, ez0, ez0⟩
      · exact ⟨ez1, z1, ez0, ezm, ez0, z2⟩
    refine fin m _ [] (by omega : 0 ≤ n + 1 + 2 + 2 + 1) mE (fun _ => trivial) (fnM_rt (a1 := A.1) ?_)
    rw [hA1]
    refine Eq.trans (sCons_nx (sSet_ok e2 rfl)) (Eq.trans (sCons_nx (sSet_ok (h1 := Sp (n + 1)) rfl rfl)) (Eq.trans (sCons_nx (sSet_ok (h1 := Sp (n + 1)) rfl rfl)) (Eq.trans (sCons_nx (sSet_ok e5 rfl)) (Eq.trans (sCons_nx (sSet_ok e6 rfl)) ?_))))
    refine Eq.trans (sCons_nx (Eq.trans (sIf_f (t0 _)) rfl)) ?_
    refine Eq.trans (sCons_nx (Eq.trans (sIf_f (t1 _)) rfl)) ?_
    refine sCons_rt (Eq.trans (sIf_t ((t 2 _).trans ?_)) (sCons_rt (sRet_ok (eCall_ok (as := [.d (rowD rs), .r 0, .d (.lst (L.map mD))]) rfl ey))))
    rw [decide_eq_true c2]
  have t2 : ∀ h : DH, tTst (eBin dEq (eVar 2) (eC (.int 2))) [some (.d (rowD rs)), some (.r 0), some (.d (.int p)), some (.d (qD 0)), some (.d (qD 1)), some (.d (qD r1)), some (.d (qD r2)), none] h = .ok false h := fun h => (t 2 h).trans (by rw [decide_eq_false c2])
  by_cases c3 : p = 3
  · refine fin ⟨1, r2, r1, 1, 0, 0⟩ _ [] h5 ⟨ez1, z2, z1, ez1, ez0, ez0⟩ (fun _ => trivial) (fnM_rt (a1 := A.1) ?_)
    rw [hA1]
    refine Eq.trans (sCons_nx (sSet_ok e2 rfl)) (Eq.trans (sCons_nx (sSet_ok (h1 := Sp (n + 1)) rfl rfl)) (Eq.trans (sCons_nx (sSet_ok (h1 := Sp (n + 1)) rfl rfl)) (Eq.trans (sCons_nx (sSet_ok e5 rfl)) (Eq.trans (sCons_nx (sSet_ok e6 rfl)) ?_))))
    refine Eq.trans (sCons_nx (Eq.trans (sIf_f (t0 _)) rfl)) ?_
    refine Eq.trans (sCons_nx (Eq.trans (sIf_f (t1 _)) rfl)) ?_
    refine Eq.trans (sCons_nx (Eq.trans (sIf_f (t2 _)) rfl)) ?_
    refine sCons_rt (Eq.trans (sIf_t ((t 3 _).trans ?_)) rfl)
    rw [decide_eq_true c3]
  have t3 : ∀ h : DH, tTst (eBin dEq (eVar 2) (eC (.int 3))) [some (.d (rowD rs)), some (.r 0), some (.d (.int p)), some (.d (qD 0)), some (.d (qD 1)), some (.d (qD r1)), some (.d (qD r2)), none] h = .ok false h := fun h => (t 3 h).trans (by rw [decide_eq_false c3])
  obtain ⟨qs, n2, el, h2, ql, qp⟩ := lcGo_rng (m := 6) (i := 7) (fe := eDrawQ 0 1 7 3 3) (a := [some (.d (rowD rs)), some (.r 0), some (.d (.int p)), some (.d (qD 0)), some (.d (qD 1)), some (.d (qD r1)), some (.d (qD r2)), none]) (P := EQ) (by decide) (by
    intro j n hn
    obtain ⟨r, e, z⟩ := drawE (ix := 0) (iy := 1) (a := [some (.d (rowD rs)), some (.r 0), some (.d (.int p)), some (.d (qD 0)), some (.d (qD 1)), some (.d (qD r1)), some (.d (qD r2)), some (.d (.int j))]) hr hn rfl rfl 7 3 3 (by decide) (by decide) (by decide) (by decide) (by decide) (by decide)
    exact ⟨r, _, e, by omega, z⟩) 6 0 [] (n + 1 + 2 + 2) h5 rfl rfl (by simp)
  match qs, ql, qp with
  | [x1, x2, x3, x4, x5, x6], _, qp =>
    refine fin ⟨x1, x2, x3, x4, x5, x6⟩ n2 [] h2 ⟨qp _ (by simp), qp _ (by simp), qp _ (by simp), qp _ (by simp), qp _ (by simp), qp _ (by simp)⟩ (fun _ => trivial) (fnM_rt (a1 := A.1) ?_)
    rw [hA1]
    refine Eq.trans (sCons_nx (sSet_ok e2 rfl)) (Eq.trans (sCons_nx (sSet_ok (h1 := Sp (n + 1)) rfl rfl)) (Eq.trans (sCons_nx (sSet_ok (h1 := Sp (n + 1)) rfl rfl)) (Eq.trans (sCons_nx (sSet_ok e5 rfl)) (Eq.trans (sCons_nx (sSet_ok e6 rfl)) ?_))))
    refine Eq.trans (sCons_nx (Eq.trans (sIf_f (t0 _)) rfl)) ?_
    refine Eq.trans (sCons_nx (Eq.trans (sIf_f (t1 _)) rfl)) ?_
    refine Eq.trans (sCons_nx (Eq.trans (sIf_f (t2 _)) rfl)) ?_
    refine Eq.trans (sCons_nx (Eq.trans (sIf_f (t3 _)) rfl)) ?_
    refine sCons_rt (sRet_ok (eCall_ok (as := [.d (.lst [qD x1, qD x2, qD x3, qD x4, qD x5, qD x6])]) (aCons_ok ?_ aNil_ok) rfl))
    unfold eLc
    rw [bnd_ok (m := wRng1 _ _) (a := Wk.rg 0 6) (h' := Sp (n + 1 + 2 + 2)) rfl]
    exact Eq.trans (bnd_ok (m := lcGo (.rg 0 6) (.nm 7) tYesD (eDrawQ 0 1 7 3 3) [some (.d (rowD rs)), some (.r 0), some (.d (.int p)), some (.d (qD 0)), some (.d (qD 1)), some (.d (qD r1)), some (.d (qD r2)), none] 7 0 []) el) rfl
end Dn
end
section
set_option Elab.async false
set_option linter.all false
set_option maxRecDepth 100000
set_option maxHeartbeats 4000000
set_option exponentiation.threshold 2000
/-! Dn38: plain: the laws of matrices. -/
namespace Dn
open PySem PySem.Spec PyProof.Rows L2
def Mx.x (m : Mx) (u v : Rat) : Rat := m.a * u + m.c * v + m.e
def Mx.y (m : Mx) (u v : Rat) : Rat := m.b * u + m.d * v + m.f
theorem mul_x (o n : Mx) (u v : Rat) : (o.mul n).x u v = n.x (o.x u v) (o.y u v) := by
  simp only [Mx.mul, Mx.x, Mx.y]; grind
theorem mul_y (o n : Mx) (u v : Rat) : (o.mul n).y u v = n.y (o.x u v) (o.y u v) := by
  simp only [Mx.mul, Mx.x, Mx.y]; grind
theorem inv_s (m : Mx) (h : m.det ≠ 0) : ∃ s : Rat, (m.a * m.d - m.b * m.c) * s = 1 ∧ m.inv = ⟨m.d * s, -(m.b * s), -(m.c * s), m.a * s, -(m.d * s * m.e + -(m.c * s) * m.f), -(-(m.b * s) * m.e + m.a * s * m.f)⟩ :=
  ⟨m.det⁻¹, Rat.mul_inv_cancel _ h, by simp only [Mx.inv, Rat.div_def]⟩
theorem mul_inv (m : Mx) (h : m.det ≠ 0) : m.mul m.inv = idM := by
  obtain ⟨s, e, ei⟩ := inv_s m h
  rw [ei]
  simp only [Mx.mul, idM, Mx.mk.injEq]
  refine ⟨?_, ?_, ?_, ?_, ?_, ?_⟩ <;> grind
theorem inv_mul (m : Mx) (h : m.det ≠ 0) : m.inv.mul m = idM := by
  obtain ⟨s, e, ei⟩ := inv_s m h
  rw [ei]
  simp only [Mx.mul, idM, Mx.mk.injEq]
  refine ⟨?_, ?_, ?_, ?_, ?_, ?_⟩ <;> grind
theorem inv_x (m : Mx) (h : m.det ≠ 0) (u v : Rat) : m.inv.x (m.x u v) (m.y u v) = u := by
  rw [← mul_x, mul_inv m h]
  simp only [idM, Mx.x]; grind
theorem inv_y (m : Mx) (h : m.det ≠ 0) (u v : Rat) : m.inv.y (m.x u v) (m.y u v) = v := by
  rw [← mul_y, mul_inv m h]
  simp only [idM, Mx.y]; grind
theorem deq_p (u v w z : Rat) : deq (pD u v) (pD w z) = (decide (u = w) && decide (v = z)) := by
  have e : deq (pD u v) (pD w z) = (deq (qD u) (qD w) && (deq (qD v) (qD z) && true)) := rfl
  rw [e, deq_q, deq_q]
  simp
theorem dNe_pp (u v : Rat) (h : DH) : dNe (.d (pD u v)) (.d (pD u v)) h = .ok (.d (.bl false)) h := by
  have : dNe (.d (pD u v)) (.d (pD u v)) h = .ok (.d (.bl (!deq (pD u v) (pD u v)))) h := rfl
  rw [this, deq_p]
  simp
theorem dNe_mm (m : Mx) (h : DH) : dNe (.d (mD m)) (.d (mD m)) h = .ok (.d (.bl false)) h := by
  rw [dNe_m]; simp
theorem Lg.app {m : Mx} {u v : Rat} {k j : Nat} (hm : MxL k m) (hu : Lg j u) (hv : Lg j v) : Lg (3 * k + 2 * j + 2) (m.x u v) ∧ Lg (3 * k + 2 * j + 2) (m.y u v) :=
  ⟨(((hm.1.mul hu).add (hm.2.2.1.mul hv)).add hm.2.2.2.2.1).mono (by omega), (((hm.2.1.mul hu).add (hm.2.2.2.1.mul hv)).add hm.2.2.2.2.2).mono (by omega)⟩
/-- the law's own powers -/
theorem lpow_step (m : Mx) (hm : MxE 12 48 m) (i : Nat) (hi : i < 12) (h : DH) : callM [false, false] M__law_times [.d (mD (pw m i)), .d (mD m)] h = .ok (.d (mD (pw m (i + 1)))) h :=
  call2 (ltimes_run (pw m i) m 6 104 (E_lg hm) (pw_lg hm i (by omega)) (by decide) []) h
end Dn
end
section
set_option Elab.async false
set_option linter.all false
set_option maxRecDepth 100000
set_option maxHeartbeats 2000000
/-! Dn39: zip of two tuples, the last pair still held (as list(zip(..)) does). -/
namespace Dn
open PySem PySem.Spec PyProof.Rows L2 RZ
section
variable {pg : Program} {w : World} {A : Around} {E : Value → Shared → Prop} {s : Shared}
theorem zh_item {z TI TO T i j p q : Addr} {fl : Bool} {oT : Obj} {m n : Nat} {us vs : Array Value} {x y : Value} {Q : Value → Shared → Prop} (D : ZipApart z TI TO i j p q)
    (hz : IsZipHeld s.heap z TI TO T fl) (hT : s.heap.get? T = some oT) (hI : IsPair s.heap TI (.ref i) (.ref j)) (a1 : s.heap.IsTupleIter i p m) (a2 : s.heap.IsTupleIter j q n) (b1 : s.heap.IsTuple p us) (b2 : s.heap.IsTuple q vs) (hx : us[m]? = some x) (hy : vs[n]? = some y)
    (fin : ∀ h', IsZipHeld h' z TI TO T true → h'.IsTupleIter i p (m + 1) → h'.IsTupleIter j q (n + 1) → IsPair h' s.heap.objs.size x y → h'.objs.size = s.heap.objs.size + 1 → (∀ c o, c ≠ z → c ≠ i → c ≠ j → s.heap.get? c = some o → h'.get? c = some o) → Q (.ref s.heap.objs.size) { s with heap := h' }) :
    wpAny (model pg w) A (Builtin.«zip.__next__» ⟨[.ref z], []⟩) (fun r s' => ∃ v, r = .done (.ret v) ∧ Q v s') E s := by
  show wpAny _ _ (field (.ref z) 2 >>= _) _ _ s
  refine wpAny_bind (wpAny_field hz rfl (x := .bool false) rfl ?_)
  show wpAny _ _ (field (.ref z) 3 >>= _) _ _ s
  refine wpAny_bind (wpAny_field hz rfl (x := .ref TI) rfl (wpAny_bind (wpAny_seqItems hI rfl ?_)))
  show wpAny _ _ (Builtin.SmallTypes.ownedTupleIsFree (.ref z) >>= _) _ _ s
  refine wpAny_bind (wpAny_tupleHeld_zip hz hT fun g1 z1 k1 => ?_)
  simp only [Bool.false_eq_true, if_false]
  refine wpAny_bind ?_
  rw [← Array.forIn_toList]
  simp only [List.forIn_cons, List.forIn_nil]
  refine wpAny_bind (wpAny_bind (wpAny_holding ?_))
  show wpAny _ _ (Builtin.SmallTypes.nextOf (.ref i) >>= _) _ _ _
  refine wpAny_bind (nextOf_tuple_item (s := { s with heap := g1 }) (a1.extBut k1.extBut D.i1z) (b1.extBut k1.extBut D.l1z) hx fun g2 c2 k2 => wpAny_pure (wpAny_pure ?_))
  refine wpAny_bind (wpAny_bind (wpAny_holding ?_))
  show wpAny _ _ (Builtin.SmallTypes.nextOf (.ref j) >>= _) _ _ _
  refine wpAny_bind (nextOf_tuple_item (s := { s with heap := g2 }) ((a2.extBut k1.extBut D.i2z).extBut k2.extBut D.i12.symm) ((b2.extBut k1.extBut D.l2z).extBut k2.extBut D.l2i1) hy fun g3 c3 k3 => wpAny_pure (wpAny_pure (wpAny_pure ?_)))
  show wpAny _ _ (newTuple [x, y] >>= _) _ _ _
  refine wpAny_bind (wpAny_newTuple ?_)
  have sz : g3.objs.size = s.heap.objs.size := by rw [k3.1, k2.1, k1.1]
  have z3 : IsZipHeld g3 z TI TO T true := k3.extBut _ _ D.i2z.symm (k2.extBut _ _ D.i1z.symm z1)
  have kp : ∀ c o, c ≠ z → c ≠ i → c ≠ j → s.heap.get? c = some o → g3.get? c = some o := fun c o e1 e2 e3 e => k3.extBut _ _ e3 (k2.extBut _ _ e2 (k1.extBut _ _ e1 e))
  have d1 : g3.IsTupleIter i p (m + 1) := c2.extBut k3.extBut D.i12
  refine wpAny_pure ⟨_, rfl, ?_⟩
  show Q (.ref g3.objs.size) _
  have hp : IsPair (g3.push { cls := .type "tuple", data := .seq #[x, y] }) g3.objs.size x y := Heap.get?_push_size _ rfl
  have sp : (g3.push { cls := .type "tuple", data := .seq #[x, y] }).objs.size = g3.objs.size + 1 := Heap.size_push ..
  rw [sz] at hp sp ⊢
  exact fin _ (Heap.get?_push_of_some _ z3) (d1.at fun o e => Heap.get?_push_of_some _ e) (c3.at fun o e => Heap.get?_push_of_some _ e) hp sp fun c o e1 e2 e3 e => Heap.get?_push_of_some _ (kp c o e1 e2 e3 e)
theorem zh_end {z TI TO T i j p q : Addr} {fl : Bool} {oT : Obj} {m n : Nat} {us vs : Array Value} {Q : Fin → Shared → Prop} (nh : A.handled = none) (D : ZipApart z TI TO i j p q)
    (hz : IsZipHeld s.heap z TI TO T fl) (hT : s.heap.get? T = some oT) (hI : IsPair s.heap TI (.ref i) (.ref j)) (a1 : s.heap.IsTupleIter i p m) (a2 : s.heap.IsTupleIter j q n) (b1 : s.heap.IsTuple p us) (b2 : s.heap.IsTuple q vs) (out : us[m]? = none ∨ vs[n]? = none)
    (fin : ∀ h' e, (∀ c o, c ≠ z → c ≠ i → c ≠ j → s.heap.get? c = some o → h'.get? c = some o) → (∃ o, h'.get? e = some o ∧ o.cls = .type "StopIteration") → E (.ref e) { s with heap := h' }) :
    wpAny (model pg w) A (Builtin.«zip.__next__» ⟨[.ref z], []⟩) Q E s := by
  show wpAny _ _ (field (.ref z) 2 >>= _) _ _ s
  refine wpAny_bind (wpAny_field hz rfl (x := .bool false) rfl ?_)
  show wpAny _ _ (field (.ref z) 3 >>= _) _ _ s
  refine wpAny_bind (wpAny_field hz rfl (x := .ref TI) rfl (wpAny_bind (wpAny_seqItems hI rfl ?_)))
  show wpAny _ _ (Builtin.SmallTypes.ownedTupleIsFree (.ref z) >>= _) _ _ s
  refine wpAny_bind (wpAny_tupleHeld_zip hz hT fun g1 z1 k1 => ?_)
  simp only [Bool.false_eq_true, if_false]
  refine wpAny_bind ?_
  rw [← Array.forIn_toList]
  simp only [List.forIn_cons, List.forIn_nil]
  refine wpAny_bind (wpAny_bind (wpAny_holding ?_))
  show wpAny _ _ (Builtin.SmallTypes.nextOf (.ref i) >>= _) _ _ _
  cases hx : us[m]? with
  | none =>
    refine wpAny_bind (nextOf_tuple_end (s := { s with heap := g1 }) nh (a1.extBut k1.extBut D.i1z) (b1.extBut k1.extBut D.l1z) hx fun g2 e k2 he => ?_)
    exact fin g2 e (fun c o e1 e2 _ x => k2 _ _ e2 (k1.extBut _ _ e1 x)) he
  | some x =>
    have hy : vs[n]? = none := out.resolve_left fun h => by rw [hx] at h; cases h
    refine wpAny_bind (nextOf_tuple_item (s := { s with heap := g1 }) (a1.extBut k1.extBut D.i1z) (b1.extBut k1.extBut D.l1z) hx fun g2 c2 k2 => wpAny_pure (wpAny_pure ?_))
    refine wpAny_bind (wpAny_bind (wpAny_holding ?_))
    show wpAny _ _ (Builtin.SmallTypes.nextOf (.ref j) >>= _) _ _ _
    refine wpAny_bind (nextOf_tuple_end (s := { s with heap := g2 }) nh ((a2.extBut k1.extBut D.i2z).extBut k2.extBut D.i12.symm) ((b2.extBut k1.extBut D.l2z).extBut k2.extBut D.l2i1) hy fun g3 e k3 he => ?_)
    exact fin g3 e (fun c o e1 e2 e3 x => k3 _ _ e3 (k2.extBut _ _ e2 (k1.extBut _ _ e1 x))) he
end
end Dn
end
section
set_option Elab.async false
set_option linter.all false
set_option maxRecDepth 100000
set_option maxHeartbeats 2000000
/-! Dn40: list(zip(a, b)) of two tuples of one length. -/
namespace Dn
open PySem PySem.Spec PyProof.Rows L2 RZ
section
variable {pg : Program} {w : World} {A : Around} {E : Value → Shared → Prop} {s : Shared}
theorem zh_pyitem {z TI TO T i j p q : Addr} {fl : Bool} {oT : Obj} {m n : Nat} {us vs : Array Value} {x y : Value} {Q : Option Value → Shared → Prop} (D : ZipApart z TI TO i j p q)
    (hz : IsZipHeld s.heap z TI TO T fl) (hT : s.heap.get? T = some oT) (hI : IsPair s.heap TI (.ref i) (.ref j)) (a1 : s.heap.IsTupleIter i p m) (a2 : s.heap.IsTupleIter j q n) (b1 : s.heap.IsTuple p us) (b2 : s.heap.IsTuple q vs) (hx : us[m]? = some x) (hy : vs[n]? = some y)
    (fin : ∀ h', IsZipHeld h' z TI TO T true → h'.IsTupleIter i p (m + 1) → h'.IsTupleIter j q (n + 1) → IsPair h' s.heap.objs.size x y → h'.objs.size = s.heap.objs.size + 1 → (∀ c o, c ≠ z → c ≠ i → c ≠ j → s.heap.get? c = some o → h'.get? c = some o) → Q (some (.ref s.heap.objs.size)) { s with heap := h' }) :
    wpAny (model pg w) A (pyNext (.ref z)) Q E s := by
  have ty : s.TypeIs (.ref z) "zip" := ⟨_, hz, rfl⟩
  unfold pyNext
  refine wpAny_bind (wpAny_attempt (wpAny_callSpecial?_slot (name := Str.ofString "__next__") ty F.slot_zip_next ?_))
  exact wpAny_call_entry F.slot_zip_next ty F.entry_zip_next (zh_item D hz hT hI a1 a2 b1 b2 hx hy fun h' c1 c2 c3 c4 c5 c6 => wpAny_pure (fin h' c1 c2 c3 c4 c5 c6)) (F.args_zip_next_1 _)
theorem zh_pyend {z TI TO T i j p q : Addr} {fl : Bool} {oT : Obj} {m n : Nat} {us vs : Array Value} {Q : Option Value → Shared → Prop} (nh : A.handled = none) (D : ZipApart z TI TO i j p q)
    (hz : IsZipHeld s.heap z TI TO T fl) (hT : s.heap.get? T = some oT) (hI : IsPair s.heap TI (.ref i) (.ref j)) (a1 : s.heap.IsTupleIter i p m) (a2 : s.heap.IsTupleIter j q n) (b1 : s.heap.IsTuple p us) (b2 : s.heap.IsTuple q vs) (out : us[m]? = none ∨ vs[n]? = none)
    (fin : ∀ h', (∀ c o, c ≠ z → c ≠ i → c ≠ j → s.heap.get? c = some o → h'.get? c = some o) → Q none { s with heap := h' }) : wpAny (model pg w) A (pyNext (.ref z)) Q E s := by
  have ty : s.TypeIs (.ref z) "zip" := ⟨_, hz, rfl⟩
  unfold pyNext
  refine wpAny_bind (wpAny_attempt (wpAny_callSpecial?_slot (name := Str.ofString "__next__") ty F.slot_zip_next ?_))
  refine wpAny_call_entry F.slot_zip_next ty F.entry_zip_next (zh_end nh D hz hT hI a1 a2 b1 b2 out fun h' e kp he => ?_) (F.args_zip_next_1 _)
  obtain ⟨o, ho, hc⟩ := he
  exact wpAny_bind (wpAny_isInstance (T := "StopIteration") (b := true) ⟨o, ho, hc⟩ isSubtype_stop (wpAny_pure (fin _ kp)))
/-- a zip at its k-th turn: new, or its last pair held -/
def ZSt (h : Heap) (z TI TO i j p q : Addr) (k : Nat) : Prop :=
  ((IsZip h z TI TO .none ∧ ∃ a b, IsPair h TO a b) ∨ ∃ (T : Addr) (f : Bool) (oT : Obj), IsZipHeld h z TI TO T f ∧ h.get? T = some oT ∧ T ≠ z ∧ T ≠ i ∧ T ≠ j) ∧ IsPair h TI (.ref i) (.ref j) ∧ h.IsTupleIter i p k ∧ h.IsTupleIter j q k
theorem zs_item {z TI TO i j p q : Addr} {k : Nat} {us vs : Array Value} {x y : Value} {Q : Option Value → Shared → Prop} (D : ZipApart z TI TO i j p q) (hs : ZSt s.heap z TI TO i j p q k) (b1 : s.heap.IsTuple p us) (b2 : s.heap.IsTuple q vs) (hx : us[k]? = some x) (hy : vs[k]? = some y)
    (fin : ∀ h', ZSt h' z TI TO i j p q (k + 1) → IsPair h' s.heap.objs.size x y → h'.objs.size = s.heap.objs.size + 1 → (∀ c o, c ≠ z → c ≠ TO → c ≠ i → c ≠ j → s.heap.get? c = some o → h'.get? c = some o) → Q (some (.ref s.heap.objs.size)) { s with heap := h' }) :
    wpAny (model pg w) A (pyNext (.ref z)) Q E s := by
  obtain ⟨hz, hI, a1, a2⟩ := hs
  have li : i < s.heap.objs.size := by obtain ⟨_, e, _⟩ := a1; exact Heap.lt_size e
  have lj : j < s.heap.objs.size := by obtain ⟨_, e, _⟩ := a2; exact Heap.lt_size e
  rcases hz with ⟨hz, a, b, hO⟩ | ⟨T, f, oT, hz, hT, n1, n2, n3⟩
  · refine pyNext_zipT_item D hz hI hO a1 a2 b1 b2 hx hy fun h' c1 c2 c3 c4 c5 c6 c7 => ?_
    exact fin h' ⟨.inr ⟨_, false, _, c1, c5, Nat.ne_of_gt (Heap.lt_size hz), Nat.ne_of_gt li, Nat.ne_of_gt lj⟩, c7 _ _ D.TIz D.TITO D.TIi1 D.TIi2 hI, c3, c4⟩ c5 c6 c7
  · refine zh_pyitem D hz hT hI a1 a2 b1 b2 hx hy fun h' c1 c3 c4 c5 c6 c7 => ?_
    exact fin h' ⟨.inr ⟨T, true, oT, c1, c7 _ _ n1 n2 n3 hT, n1, n2, n3⟩, c7 _ _ D.TIz D.TIi1 D.TIi2 hI, c3, c4⟩ c5 c6 fun c o e1 _ e3 e4 e => c7 c o e1 e3 e4 e
theorem zs_end {z TI TO i j p q : Addr} {k : Nat} {us vs : Array Value} {Q : Option Value → Shared → Prop} (nh : A.handled = none) (D : ZipApart z TI TO i j p q) (hs : ZSt s.heap z TI TO i j p q k) (b1 : s.heap.IsTuple p us) (b2 : s.heap.IsTuple q vs) (out : us[k]? = none ∨ vs[k]? = none)
    (fin : ∀ h', (∀ c o, c ≠ z → c ≠ TO → c ≠ i → c ≠ j → s.heap.get? c = some o → h'.get? c = some o) → Q none { s with heap := h' }) : wpAny (model pg w) A (pyNext (.ref z)) Q E s := by
  obtain ⟨hz, hI, a1, a2⟩ := hs
  rcases hz with ⟨hz, a, b, hO⟩ | ⟨T, f, oT, hz, hT, n1, n2, n3⟩
  · exact pyNext_zipT_end nh D hz hI hO a1 a2 b1 b2 out fin
  · exact zh_pyend nh D hz hT hI a1 a2 b1 b2 out fun h' kp => fin h' fun c o e1 _ e3 e4 e => kp c o e1 e3 e4 e
theorem ZSt.keep {h h' : Heap} {z TI TO i j p q : Addr} {k : Nat} {S : Addr} (x : ZSt h z TI TO i j p q k) (hk : ∀ b o, b ≠ S → h.get? b = some o → h'.get? b = some o) (hS : ∀ o, h.get? S = some o → ∃ o', h'.get? S = some o') (n1 : z ≠ S) (n2 : TI ≠ S) (n3 : TO ≠ S) (n4 : i ≠ S) (n5 : j ≠ S) : ZSt h' z TI TO i j p q k := by
  obtain ⟨hz, hI, a1, a2⟩ := x
  refine ⟨?_, hk _ _ n2 hI, a1.at fun o e => hk _ _ n4 e, a2.at fun o e => hk _ _ n5 e⟩
  rcases hz with ⟨hz, a, b, hO⟩ | ⟨T, f, oT, hz, hT, m1, m2, m3⟩
  · exact .inl ⟨hk _ _ n1 hz, a, b, hk _ _ n3 hO⟩
  · by_cases e : T = S
    · subst e
      obtain ⟨o', ho'⟩ := hS _ hT
      exact .inr ⟨T, f, o', hk _ _ n1 hz, ho', m1, m2, m3⟩
    · exact .inr ⟨T, f, oT, hk _ _ n1 hz, hk _ _ e hT, m1, m2, m3⟩
end
end Dn
end
section
set_option Elab.async false
set_option linter.all false
set_option maxRecDepth 100000
set_option maxHeartbeats 2000000
/-! Dn41: list(zip(a, b)): the loop. -/
namespace Dn
open PySem PySem.Spec PyProof.Rows L2 RZ
/-- the pairs made so far -/
structure ZG (us vs : Array Value) (lo : Addr) (h : Heap) (as : List Addr) : Prop where
  rise : as.Pairwise (· < ·)
  above : ∀ a ∈ as, lo < a
  pairs : ∀ (j : Nat) (a : Addr), as[j]? = some a → ∃ x y, us[j]? = some x ∧ vs[j]? = some y ∧ IsPair h a x y
theorem ZG.there {us vs : Array Value} {lo : Addr} {h : Heap} {as : List Addr} (g : ZG us vs lo h as) {a : Addr} (ha : a ∈ as) : a < h.objs.size := by
  obtain ⟨j, e⟩ := List.mem_iff_getElem?.mp ha
  obtain ⟨x, y, _, _, e3⟩ := g.pairs j a e
  exact Heap.lt_size e3
abbrev lstO (acc : Array Value) (c : Nat) : Obj := { cls := .type "list", dict := none, data := .seq acc c, slots := #[] }
section
variable {pg : Program} {w : World} {A : Around} {s : Shared} {R : Result → Shared → Prop}
theorem zl_loop {S z TI TO i j p q : Addr} {us vs : Array Value} {n : Nat} (nh : A.handled = none) (D : ZipApart z TI TO i j p q) (lz : z < S) (lI : TI < S) (lO : TO < S) (li : i < S) (lj : j < S) (np : p ≠ S) (nq : q ≠ S) (en1 : us.size = n) (en2 : vs.size = n) (hn : n ≤ sizeLine) (res : Value) {h₁ : Heap}
    (out : ∀ h' tk acc c as, (∀ b o, b ≠ S → b ≠ z → b ≠ TO → b ≠ i → b ≠ j → h₁.get? b = some o → h'.get? b = some o) → h'.get? S = some (lstO acc c) → as.length = n → ZG us vs S h' as → acc.toList = as.map Value.ref → R (.ok (.ret res)) { s with heap := h', toks := tk }) :
    ∀ (m k : Nat) (h : Heap) (tk c : Nat) (acc : Array Value) (as : List Addr), n - k = m → k ≤ n → ZSt h z TI TO i j p q k → h.IsTuple p us → h.IsTuple q vs → (∀ b o, b ≠ S → b ≠ z → b ≠ TO → b ≠ i → b ≠ j → h₁.get? b = some o → h.get? b = some o) →
      h.get? S = some (lstO acc c) → acc.toList = as.map Value.ref → as.length = k → ZG us vs S h as → codeAny (model pg w) A (.builtin "list.extend.loop" ⟨[.ref S, .ref z, res], []⟩) R { s with heap := h, toks := tk } := by
  have apart : ∀ a, S < a → a ≠ S ∧ a ≠ z ∧ a ≠ TO ∧ a ≠ i ∧ a ≠ j := fun a ha => ⟨Nat.ne_of_gt ha, Nat.ne_of_gt (Nat.lt_trans lz ha), Nat.ne_of_gt (Nat.lt_trans lO ha), Nat.ne_of_gt (Nat.lt_trans li ha), Nat.ne_of_gt (Nat.lt_trans lj ha)⟩
  intro m
  induction m with
  | zero =>
    intro k h tk c acc as hm hk st b1 b2 kp hS ha hl g
    have e : k = n := by omega
    refine codeAny_builtin PySem.F.entry_extend_loop ?_
    rw [Around.under_plainId PySem.F.plain_extend_loop _]
    show wpAny _ A.in1 (pyNext (.ref z) >>= _) _ _ _
    refine wpAny_bind (zs_end (s := { s with heap := h, toks := tk }) (A := A.in1) nh D st b1 b2 (.inl (Array.getElem?_eq_none (by omega))) fun h' kp' => wpAny_pure ?_)
    refine out h' tk acc c as (fun b o q1 q2 q3 q4 q5 e => kp' b o q2 q3 q4 q5 (kp b o q1 q2 q3 q4 q5 e)) (kp' S _ (Nat.ne_of_gt lz) (Nat.ne_of_gt lO) (Nat.ne_of_gt li) (Nat.ne_of_gt lj) hS) (by omega) ⟨g.rise, g.above, fun l a el => ?_⟩ ha
    obtain ⟨x, y, e1, e2, e3⟩ := g.pairs l a el
    obtain ⟨q1, q2, q3, q4, q5⟩ := apart a (g.above a (List.mem_of_getElem? el))
    exact ⟨x, y, e1, e2, kp' a _ q2 q3 q4 q5 e3⟩
  | succ m ih =>
    intro k h tk c acc as hm hk st b1 b2 kp hS ha hl g
    have lt : k < n := by omega
    have hx : us[k]? = some us[k] := Array.getElem?_eq_getElem (by omega)
    have hy : vs[k]? = some vs[k] := Array.getElem?_eq_getElem (by omega)
    have sz : acc.size = k := by rw [← Array.length_toList, ha, List.length_map, hl]
    have lS : S < h.objs.size := Heap.lt_size hS
    refine codeAny_builtin PySem.F.entry_extend_loop ?_
    rw [Around.under_plainId PySem.F.plain_extend_loop _]
    show wpAny _ A.in1 (pyNext (.ref z) >>= _) _ _ _
    refine wpAny_bind (zs_item (s := { s with heap := h, toks := tk }) (A := A.in1) D st b1 b2 hx hy fun h' st' pr sz' kp' => ?_)
    dsimp only at pr sz' kp' ⊢
    have hS' := kp' S _ (Nat.ne_of_gt lz) (Nat.ne_of_gt lO) (Nat.ne_of_gt li) (Nat.ne_of_gt lj) hS
    have up : ∀ b o, b ≠ S → h'.get? b = some o → (h'.update S (Obj.mapSeq (·.push (Value.ref h.objs.size)))).get? b = some o := fun b o hb e => (Heap.get?_update_other _ _ (Ne.symm hb)).trans e
    have upS := Heap.get?_update_self (Obj.mapSeq (·.push (Value.ref h.objs.size))) hS' rfl
    have tup : ∀ {a : Addr} {xs : Array Value}, a ≠ S → a ≠ z → a ≠ TO → a ≠ i → a ≠ j → h.IsTuple a xs → (h'.update S (Obj.mapSeq (·.push (Value.ref h.objs.size)))).IsTuple a xs := by
      rintro a xs q1 q2 q3 q4 q5 ⟨o, ho, rest⟩
      exact ⟨o, up _ _ q1 (kp' _ _ q2 q3 q4 q5 ho), rest⟩
    show wpAny _ A.in1 (updateSeq S (·.push (Value.ref h.objs.size)) >>= _) _ _ _
    refine wpAny_bind ?_
    refine wpAny_updateSeq hS' rfl (wpAny_pure ⟨plainId_quiet PySem.F.plain_extend_loop _, ih (k + 1) _ tk _ (acc.push (Value.ref h.objs.size)) (as ++ [h.objs.size]) (by omega) lt
      (st'.keep up (fun o e => ⟨_, upS⟩) (Nat.ne_of_lt lz) (Nat.ne_of_lt lI) (Nat.ne_of_lt lO) (Nat.ne_of_lt li) (Nat.ne_of_lt lj))
      (tup np D.l1z D.l1TO D.l1i1 D.l1i2 b1) (tup nq D.l2z D.l2TO D.l2i1 D.l2i2 b2)
      (fun b o q1 q2 q3 q4 q5 e => up b o q1 (kp' b o q2 q3 q4 q5 (kp b o q1 q2 q3 q4 q5 e))) upS (by rw [Array.toList_push, ha, List.map_append]; rfl) (by rw [List.length_append, hl]; rfl) ⟨?_, ?_, ?_⟩⟩) (by rw [sz]; omega) (by show (acc.push (Value.ref h.objs.size)).size ≤ sizeLine + 1; rw [Array.size_push, sz]; omega)
    · refine List.pairwise_append.mpr ⟨g.rise, List.pairwise_singleton _ _, fun a ha b hb => ?_⟩
      rw [List.mem_singleton.mp hb]
      exact g.there ha
    · intro a ha
      rcases List.mem_append.mp ha with ha | ha
      · exact g.above a ha
      · rw [List.mem_singleton.mp ha]; exact lS
    · intro l a el
      rcases Nat.lt_trichotomy l as.length with h1 | h1 | h1
      · rw [List.getElem?_append_left h1] at el
        obtain ⟨x, y, e1, e2, e3⟩ := g.pairs l a el
        obtain ⟨q1, q2, q3, q4, q5⟩ := apart a (g.above a (List.mem_of_getElem? el))
        exact ⟨x, y, e1, e2, up _ _ q1 (kp' a _ q2 q3 q4 q5 e3)⟩
      · subst h1
        have ea : h.objs.size = a := by simpa using el
        subst ea
        exact ⟨_, _, by rw [hl]; exact hx, by rw [hl]; exact hy, up _ _ (Nat.ne_of_gt lS) pr⟩
      · rw [List.getElem?_eq_none (by rw [List.length_append, List.length_singleton]; omega)] at el
        cases el
end
end Dn
end
section
set_option Elab.async false
set_option linter.all false
set_option maxRecDepth 100000
set_option maxHeartbeats 2000000
/-! Dn42: list(zip(a, b)): the call. -/
namespace Dn
open PySem PySem.Spec PyProof.Rows L2 RZ
theorem zip_nolen : typeLookup (.type "zip") "__len__" = pure none := by rw [typeLookup_type, builtinLookup_eq_fast]; kernel_rfl
theorem zip_nohint : typeLookup (.type "zip") "__length_hint__" = pure none := by rw [typeLookup_type, builtinLookup_eq_fast]; kernel_rfl
section
variable {pg : Program} {w : World} {A : Around} {E : Value → Shared → Prop} {s : Shared} {R : Result → Shared → Prop}
theorem zl_extend {S z TI TO i j p q : Addr} {us vs : Array Value} {n : Nat} (nh : A.handled = none) (D : ZipApart z TI TO i j p q) (lz : z < S) (lI : TI < S) (lO : TO < S) (li : i < S) (lj : j < S) (np : p ≠ S) (nq : q ≠ S) (en1 : us.size = n) (en2 : vs.size = n) (hn : n ≤ sizeLine) (res : Value)
    (hz : IsZip s.heap z TI TO .none) (hO : ∃ a b, IsPair s.heap TO a b) (hI : IsPair s.heap TI (.ref i) (.ref j)) (a1 : s.heap.IsTupleIter i p 0) (a2 : s.heap.IsTupleIter j q 0) (b1 : s.heap.IsTuple p us) (b2 : s.heap.IsTuple q vs) (c₀ : Nat) (hS : s.heap.get? S = some (lstO #[] c₀))
    (out : ∀ h' tk acc c as, (∀ b o, b ≠ S → b ≠ z → b ≠ TO → b ≠ i → b ≠ j → s.heap.get? b = some o → h'.get? b = some o) → h'.get? S = some (lstO acc c) → as.length = n → ZG us vs S h' as → acc.toList = as.map Value.ref → R (.ok (.ret res)) { s with heap := h', toks := tk }) :
    wpAny (model pg w) A.in1 (Builtin.List.listExtendWith (.ref S) (.ref z) res)
      (fun r s' => match r with | .done f => R (.ok f) s' | .again c' => c'.quiet = true ∧ codeAny (model pg w) A c' R s') (fun e s' => R (.error e) s') s := by
  have ty : s.TypeIs (.ref z) "zip" := ⟨_, hz, rfl⟩
  have nz : S ≠ z := Nat.ne_of_gt lz
  unfold Builtin.List.listExtendWith
  refine wpAny_bind (wpAny_typeOf (T := "zip") ty ?_)
  have h1 : Builtin.List.listSameRef (.ref S) (.ref z) = false := by simp [Builtin.List.listSameRef, nz]
  have h2 : (Value.type "zip" == Value.type "list") = false := by decide
  have h3 : (Value.type "zip" == Value.type "tuple") = false := by decide
  simp only [h1, h2, h3, Bool.or_false, Bool.false_eq_true, if_false]
  refine wpAny_bind (wpAny_pyIter_zip hz ?_)
  refine wpAny_bind (wpAny_holding ?_)
  unfold Builtin.List.listLengthHint
  refine wpAny_bind (wpAny_specialOf ty zip_nolen ?_)
  show wpAny _ _ (specialOf (Value.ref z) (Str.ofString "__length_hint__") >>= _) _ _ s
  refine wpAny_bind (wpAny_specialOf ty zip_nohint (wpAny_pure ?_))
  show wpAny _ _ (rule "list.extend.makes-room" >>= fun _ => Builtin.List.listTouch (.ref S) >>= fun _ => again (.builtin "list.extend.loop" ⟨[.ref S, .ref z, res], []⟩)) _ _ s
  refine wpAny_bind (wpAny_rule (wpAny_bind ?_))
  show wpAny _ _ (updateSeq S (·.push .none) >>= fun _ => updateSeq S (·.pop)) _ _ s
  refine wpAny_bind (wpAny_updateSeq hS rfl ?_)
  have g2 := Heap.get?_update_self (Obj.mapSeq (·.push Value.none)) hS rfl
  refine wpAny_updateSeq (hz := by seq_fits) g2 rfl ?_
  have g3 := Heap.get?_update_self (Obj.mapSeq (·.pop)) g2 rfl
  have oth : ∀ b o, b ≠ S → s.heap.get? b = some o → ((s.heap.update S (Obj.mapSeq (·.push Value.none))).update S (Obj.mapSeq (·.pop))).get? b = some o := fun b o hb e => (Heap.get?_update_other _ _ (Ne.symm hb)).trans ((Heap.get?_update_other _ _ (Ne.symm hb)).trans e)
  obtain ⟨x, y, hO⟩ := hO
  have st : ZSt s.heap z TI TO i j p q 0 := ⟨.inl ⟨hz, x, y, hO⟩, hI, a1, a2⟩
  refine wpAny_pure ⟨plainId_quiet PySem.F.plain_extend_loop _, zl_loop (s := s) (h₁ := s.heap) nh D lz lI lO li lj np nq en1 en2 hn res out n 0 _ _ _ #[] [] (Nat.sub_zero _) (Nat.zero_le _)
    (st.keep oth (fun o e => ⟨_, g3⟩) (Nat.ne_of_lt lz) (Nat.ne_of_lt lI) (Nat.ne_of_lt lO) (Nat.ne_of_lt li) (Nat.ne_of_lt lj)) (by obtain ⟨o, ho, r⟩ := b1; exact ⟨o, oth _ _ np ho, r⟩) (by obtain ⟨o, ho, r⟩ := b2; exact ⟨o, oth _ _ nq ho, r⟩) (fun b o q1 _ _ _ _ e => oth b o q1 e) g3 rfl rfl ⟨List.Pairwise.nil, (fun _ h => nomatch h), (fun l a e => by simp at e)⟩⟩
theorem zl_init {S z TI TO i j p q : Addr} {us vs : Array Value} {n : Nat} (nh : A.handled = none) (D : ZipApart z TI TO i j p q) (lz : z < S) (lI : TI < S) (lO : TO < S) (li : i < S) (lj : j < S) (np : p ≠ S) (nq : q ≠ S) (en1 : us.size = n) (en2 : vs.size = n) (hn : n ≤ sizeLine)
    (hz : IsZip s.heap z TI TO .none) (hO : ∃ a b, IsPair s.heap TO a b) (hI : IsPair s.heap TI (.ref i) (.ref j)) (a1 : s.heap.IsTupleIter i p 0) (a2 : s.heap.IsTupleIter j q 0) (b1 : s.heap.IsTuple p us) (b2 : s.heap.IsTuple q vs) (hS : s.heap.get? S = some { cls := .type "list", data := .seq #[] })
    (out : ∀ h' tk acc c as, (∀ b o, b ≠ S → b ≠ z → b ≠ TO → b ≠ i → b ≠ j → s.heap.get? b = some o → h'.get? b = some o) → h'.get? S = some (lstO acc c) → as.length = n → ZG us vs S h' as → acc.toList = as.map Value.ref → R (.ok (.ret .none)) { s with heap := h', toks := tk }) :
    wpAny (model pg w) A.in1 (Builtin.«list.__init__» ⟨[.ref S, .ref z], []⟩)
      (fun r s' => match r with | .done f => R (.ok f) s' | .again c' => c'.quiet = true ∧ codeAny (model pg w) A c' R s') (fun e s' => R (.error e) s') s := by
  show wpAny _ _ (do let old ← Builtin.List.listItems (.ref S); Builtin.List.listUpdate (.ref S) (fun _ => #[]); letGo old.toList.reverse; Builtin.List.listExtendWith (.ref S) (.ref z) .none) _ _ s
  refine wpAny_bind ?_
  unfold Builtin.List.listItems
  refine wpAny_bind (wpAny_seqItems hS rfl (wpAny_pure ?_))
  show wpAny _ _ (updateSeq S (fun _ => #[]) >>= fun _ => letGo (#[] : Array Value).toList.reverse >>= fun _ => Builtin.List.listExtendWith (.ref S) (.ref z) .none) _ _ s
  refine wpAny_bind (wpAny_updateSeq hS rfl ?_)
  have g2 := Heap.get?_update_self (Obj.mapSeq (fun _ => (#[] : Array Value))) hS rfl
  have oth : ∀ b o, b ≠ S → s.heap.get? b = some o → (s.heap.update S (Obj.mapSeq (fun _ => (#[] : Array Value)))).get? b = some o := fun b o hb e => (Heap.get?_update_other _ _ (Ne.symm hb)).trans e
  refine wpAny_bind (wpAny_letGo ?_)
  obtain ⟨x, y, hO⟩ := hO
  refine zl_extend nh D lz lI lO li lj np nq en1 en2 hn .none (oth _ _ (Nat.ne_of_lt lz) hz) ⟨x, y, oth _ _ (Nat.ne_of_lt lO) hO⟩ (oth _ _ (Nat.ne_of_lt lI) hI) (a1.at fun o e => oth _ _ (Nat.ne_of_lt li) e) (a2.at fun o e => oth _ _ (Nat.ne_of_lt lj) e)
    (by obtain ⟨o, ho, r⟩ := b1; exact ⟨o, oth _ _ np ho, r⟩) (by obtain ⟨o, ho, r⟩ := b2; exact ⟨o, oth _ _ nq ho, r⟩) _ g2 fun h' tk acc c as kp e1 e2 e3 e4 => ?_
  exact out h' tk acc c as (fun b o q1 q2 q3 q4 q5 e => kp b o q1 q2 q3 q4 q5 (oth b o q1 e)) e1 e2 e3 e4
theorem zl_call {z TI TO i j p q : Addr} {us vs : Array Value} {n : Nat} {Q : Value → Shared → Prop} (nh : A.handled = none) (D : ZipApart z TI TO i j p q) (en1 : us.size = n) (en2 : vs.size = n) (hn : n ≤ sizeLine)
    (hz : IsZip s.heap z TI TO .none) (hO : ∃ a b, IsPair s.heap TO a b) (hI : IsPair s.heap TI (.ref i) (.ref j)) (a1 : s.heap.IsTupleIter i p 0) (a2 : s.heap.IsTupleIter j q 0) (b1 : s.heap.IsTuple p us) (b2 : s.heap.IsTuple q vs)
    (out : ∀ h' tk acc c as, (∀ b o, b ≠ z → b ≠ TO → b ≠ i → b ≠ j → s.heap.get? b = some o → h'.get? b = some o) → h'.get? s.heap.objs.size = some (lstO acc c) → as.length = n → ZG us vs s.heap.objs.size h' as → acc.toList = as.map Value.ref → Q (.ref s.heap.objs.size) { s with heap := h', toks := tk }) :
    wpAny (model pg w) A (call (.type "list") [.ref z]) Q E s := by
  obtain ⟨x, y, hO⟩ := hO
  have lp : p < s.heap.objs.size := by obtain ⟨_, e, _⟩ := b1; exact Heap.lt_size e
  have lq : q < s.heap.objs.size := by obtain ⟨_, e, _⟩ := b2; exact Heap.lt_size e
  have li : i < s.heap.objs.size := by obtain ⟨_, e, _⟩ := a1; exact Heap.lt_size e
  have lj : j < s.heap.objs.size := by obtain ⟨_, e, _⟩ := a2; exact Heap.lt_size e
  refine callType_codes (Q₁ := fun ob t => ob = .ref s.heap.objs.size ∧ t = { s with heap := s.heap.push { cls := .type "list", data := .seq #[] } }) PySem.F.called_list (PySem.F.typeCall_list_1 _) PySem.F.entry_list_init (code_list_new _ ⟨rfl, rfl⟩) fun ob t h1 => ?_
  obtain ⟨rfl, rfl⟩ := h1
  have hS : (s.heap.push { cls := .type "list", data := .seq #[] }).get? s.heap.objs.size = some { cls := .type "list", data := .seq #[] } := Heap.get?_push_size _ rfl
  have up : ∀ b o, s.heap.get? b = some o → (s.heap.push { cls := .type "list", data := .seq #[] }).get? b = some o := fun b o e => Heap.get?_push_of_some _ e
  refine ⟨⟨_, hS, rfl⟩, PySem.F.args_list_init_2 _ _, zl_init (A := A.in1) (s := { s with heap := s.heap.push { cls := .type "list", data := .seq #[] } }) nh D (Heap.lt_size hz) (Heap.lt_size hI) (Heap.lt_size hO) li lj (Nat.ne_of_lt lp) (Nat.ne_of_lt lq) en1 en2 hn (up _ _ hz) ⟨x, y, up _ _ hO⟩ (up _ _ hI) (a1.at fun o e => up _ _ e) (a2.at fun o e => up _ _ e)
    (by obtain ⟨o, ho, r⟩ := b1; exact ⟨o, up _ _ ho, r⟩) (by obtain ⟨o, ho, r⟩ := b2; exact ⟨o, up _ _ ho, r⟩) hS fun h' tk acc c as kp e1 e2 e3 e4 => ?_⟩
  exact ⟨rfl, out h' tk acc c as (fun b o q2 q3 q4 q5 e => kp b o (Nat.ne_of_lt (Heap.lt_size e)) q2 q3 q4 q5 (up b o e)) e1 e2 e3 e4⟩
end
end Dn
end
section
set_option Elab.async false
set_option linter.all false
set_option maxRecDepth 100000
set_option maxHeartbeats 2000000
/-! Dn43: list(zip(a, b)) as an expression. -/
namespace Dn
open PySem PySem.Spec PyProof.Rows L2 RZ
/-- the pairs laid at their addresses -/
def putP : Hp → List Addr → List V → List V → Hp
  | H, a :: as, x :: xs, y :: ys => putP (upd H a (.tup [x, y])) as xs ys
  | H, _, _, _ => H
theorem putP_off {b : Addr} : ∀ (as : List Addr) (xs ys : List V) (H : Hp), b ∉ as → putP H as xs ys b = H b
  | [], _, _, _, _ => rfl
  | _ :: _, [], _, _, _ => rfl
  | _ :: _, _ :: _, [], _, _ => rfl
  | a :: as, x :: xs, y :: ys, H, h => by
    show putP (upd H a (.tup [x, y])) as xs ys b = H b
    rw [putP_off as xs ys _ (fun z => h (List.mem_cons_of_mem _ z)), upd_ne (fun z => h (by rw [z]; exact List.mem_cons_self))]
theorem putP_at : ∀ (as : List Addr) (xs ys : List V) (H : Hp), as.Nodup → ∀ (j : Nat) (a : Addr) (x y : V), as[j]? = some a → xs[j]? = some x → ys[j]? = some y → putP H as xs ys a = some (.tup [x, y])
  | [], _, _, _, _, j, a, x, y, e, _, _ => by simp at e
  | b :: as, [], _, _, _, j, a, x, y, _, e, _ => by simp at e
  | b :: as, _ :: _, [], _, _, j, a, x, y, _, _, e => by simp at e
  | b :: as, u :: xs, v :: ys, H, nd, 0, a, x, y, e1, e2, e3 => by
    have q := List.nodup_cons.mp nd
    simp at e1 e2 e3
    subst e1 e2 e3
    show putP (upd H b (.tup [u, v])) as xs ys b = _
    rw [putP_off as xs ys _ q.1, upd_same]
  | b :: as, u :: xs, v :: ys, H, nd, j + 1, a, x, y, e1, e2, e3 => putP_at as xs ys (upd H b (.tup [u, v])) (List.nodup_cons.mp nd).2 j a x y (by simpa using e1) (by simpa using e2) (by simpa using e3)
/-- what list(zip(a, b)) gives -/
def rZipL (K : PySem.W.Frag) : List V → Hp → VK → Prop := fun vs H Q => ∃ (p q : Addr) (xs ys : List V), vs = [.ref p, .ref q] ∧ SqT K H p xs ∧ SqT K H q ys ∧ xs.length = ys.length ∧
  ∀ (H' : Hp) (S : Addr) (as : List Addr), (∀ b o, H b = some o → H' b = some o) → H S = none → (∀ t ∈ as, H t = none) → S ∉ as → as.Nodup → as.length = xs.length → H' S = some (.lst (as.map V.ref)) → (∀ (j : Nat) (a : Addr) (x y : V), as[j]? = some a → xs[j]? = some x → ys[j]? = some y → H' a = some (.tup [x, y])) → (∀ b, H' b = none → H b = none) → (∀ b o, H' b = some o → H b = some o ∨ b = S ∨ b ∈ as) → Q (.ref S) H'
section
variable {X : Cx} {pins : List (Addr × Obj)} {σ : L2.St} {H : Hp} {s : Shared}
theorem zip_laid {h' : Heap} {tk : Nat} {S : Addr} {xs ys : List V} {us vs : List Value} {acc : Array Value} {c : Nat} {as : List Addr} (I : Inv X pins σ H s) (hn : xs.length ≤ sizeLine) (r1 : Vals xs us) (r2 : Vals ys vs) (hl : xs.length = ys.length) (bS : s.heap.objs.size ≤ S)
    (hk : ∀ b o, s.heap.get? b = some o → h'.get? b = some o) (hS : h'.get? S = some (lstO acc c)) (la : as.length = xs.length) (g : ZG us.toArray vs.toArray S h' as) (ha : acc.toList = as.map Value.ref) :
    ∃ H' : Hp, (∀ b o, H b = some o → H' b = some o) ∧ H S = none ∧ (∀ t ∈ as, H t = none) ∧ S ∉ as ∧ as.Nodup ∧ H' S = some (.lst (as.map V.ref)) ∧ (∀ (j : Nat) (a : Addr) (x y : V), as[j]? = some a → xs[j]? = some x → ys[j]? = some y → H' a = some (.tup [x, y])) ∧ (∀ b, H' b = none → H b = none) ∧ (∀ b o, H' b = some o → H b = some o ∨ b = S ∨ b ∈ as) ∧ Inv X pins σ H' { s with heap := h', toks := tk } := by
  have nS : S ∉ as := fun z => Nat.lt_irrefl _ (g.above _ z)
  have nd : as.Nodup := List.Pairwise.imp (fun {a b} (h : a < b) => Nat.ne_of_lt h) g.rise
  have new : ∀ t ∈ as, H t = none := fun t ht => I.hok.fresh (Nat.le_trans bS (Nat.le_of_lt (g.above t ht)))
  have newS : H S = none := I.hok.fresh bS
  have off : ∀ b, b ∉ as → b ≠ S → putP (upd H S (.lst (as.map V.ref))) as xs ys b = H b := fun b h1 h2 => by rw [putP_off as xs ys _ h1, upd_ne h2]
  have low : ∀ b o, s.heap.get? b = some o → b ∉ as ∧ b ≠ S := fun b o e => ⟨fun z => absurd (Heap.lt_size e) (Nat.not_lt.mpr (Nat.le_trans bS (Nat.le_of_lt (g.above b z)))), Nat.ne_of_lt (Nat.lt_of_lt_of_le (Heap.lt_size e) bS)⟩
  have kp : ∀ b u, H b = some u → (putP (upd H S (.lst (as.map V.ref))) as xs ys) b = some u := fun b u e => by
    rw [off b (fun z => by rw [new b z] at e; cases e) (fun z => by rw [z, newS] at e; cases e)]
    exact e
  have eS : putP (upd H S (.lst (as.map V.ref))) as xs ys S = some (.lst (as.map V.ref)) := by rw [putP_off as xs ys _ nS, upd_same]
  have atP := putP_at as xs ys (upd H S (.lst (as.map V.ref))) nd
  refine ⟨_, kp, newS, new, nS, nd, eS, atP, fun b e => ?_, fun b o e => ?_, ?_⟩
  · cases q : H b with
    | none => rfl
    | some u => rw [kp b u q] at e; cases e
  · by_cases h1 : b ∈ as
    · exact .inr (.inr h1)
    · by_cases h2 : b = S
      · exact .inr (.inl h2)
      · rw [off b h1 h2] at e; exact .inl e
  refine I.call' (ch := []) rfl ⟨fun b o q _ _ _ => hk b o q, fun b o q _ _ _ => ⟨o.slots, hk b o q⟩, fun b o q n _ => ?_, fun b o q _ => ⟨o, hk b o q⟩, fun b xs q => kp b _ q, fun b o u q => kp b _ q, fun b ps q => ⟨#[], by rw [kp b _ q]; simp⟩⟩ (fun b u q => ?_) I.bare fun b z => by simp at z
  · obtain ⟨z1, z2⟩ := low b o q
    rw [off b z1 z2]
    exact n
  · by_cases hb : b ∈ as
    · obtain ⟨j, ej⟩ := List.mem_iff_getElem?.mp hb
      have lj : j < as.length := (List.getElem?_eq_some_iff.mp ej).1
      have ex : xs[j]? = some xs[j] := List.getElem?_eq_getElem (by omega)
      have ey : ys[j]? = some ys[j] := List.getElem?_eq_getElem (by omega)
      rw [atP j b _ _ ej ex ey] at q
      cases q
      obtain ⟨x, y, e1, e2, e3⟩ := g.pairs j b ej
      obtain ⟨x', ex', rx⟩ := r1.get ex
      obtain ⟨y', ey', ry⟩ := r2.get ey
      have q1 : x' = x := Option.some.inj (ex'.symm.trans (by simpa using e1))
      have q2 : y' = y := Option.some.inj (ey'.symm.trans (by simpa using e2))
      subst q1 q2
      exact ⟨by show 2 ≤ sizeLine; decide, [_, _], .cons rx (.cons ry .nil), ⟨_, e3, rfl, _, rfl⟩⟩
    · by_cases hb2 : b = S
      · subst hb2
        rw [eS] at q
        cases q
        refine ⟨by rw [List.length_map]; omega, acc.toList, c, by rw [ha]; exact LiI.vals_refs as, ?_⟩
        rw [Array.toArray_toList]
        exact hS
      · rw [off b hb hb2] at q
        exact (I.hok b u q).stay (fun d v _ y => hk d v y) (fun d y => kp d _ y) fun d xs y => kp d _ y
end
end Dn
end
section
set_option Elab.async false
set_option linter.all false
set_option maxRecDepth 100000
set_option maxHeartbeats 2000000
/-! Dn44: list(zip(a, b)) as an expression: the rule. -/
namespace Dn
open PySem PySem.Spec PyProof.Rows L2 RZ
def tZipL (K : PySem.W.Frag) (ta : TA) : TE := fun σ H Q => ta σ H fun vs H1 => rZipL K vs H1 Q
theorem pe_listZip {X : Cx} {e e2 : Expr} {ta : TA} {p p2 pos pos2 : Pos} (hc : X.calm = true) (hg : Gl X "list") (hm : X.mg "list" = none) (hv : bootBuiltins "list" = some (.type "list")) (hg2 : Gl X "zip") (hm2 : X.mg "zip" = none) (ha : PA X [e, e2] ta)
    (hs : starEach [.Call (.Name "zip" p2) [e, e2] [] pos2] X.env = (false, eval (.Call (.Name "zip" p2) [e, e2] [] pos2) X.env) :: starEach [] X.env) (hs2 : starEach [e, e2] X.env = (false, eval e X.env) :: starEach [e2] X.env) (hpl : (backTo pos2 (starEach [e2] X.env)).any (·.1) = false) :
    PE X (.Call (.Name "list" p) [.Call (.Name "zip" p2) [e, e2] [] pos2] [] pos) (tZipL X.K ta) := by
  refine ⟨fun pins s σ H Q I hq => ?_⟩
  refine wpAny_Call_Name_kw (ld_blt I hg hm hv ?_)
  refine PyProof.Rows.callWith_type1 ?_ hs rfl
  rw [hs]
  show wpAny _ _ (spliced ((false, eval (.Call (.Name "zip" p2) [e, e2] [] pos2) X.env) :: backTo pos (starEach [] X.env))) _ _ s
  refine Calls.spliced_cons ?_
  refine wpAny_Call_Name_kw (ld_blt I hg2 hm2 PyProof.Rows.boot_zip (PyProof.Rows.callWith_type1 (thn (ha.run pos2 pins s σ H _ I hq) fun us s1 ⟨vs, H1, I1, r1, q1⟩ => ?_) hs2 hpl))
  obtain ⟨a, b, xs, ys, ex, hx, hy, hl, q1⟩ := q1
  subst ex
  cases r1 with
  | cons r rr =>
    cases rr with
    | cons r' rr =>
      cases rr
      cases r
      cases r'
      obtain ⟨its, rv, p1, z1⟩ := I1.tuple hx
      obtain ⟨its2, rv2, p2', z2⟩ := I1.tuple hy
      have l1 : its.length = xs.length := rv.length.symm
      have l2 : its2.length = ys.length := rv2.length.symm
      obtain ⟨o1, ho1, _⟩ := id p1
      obtain ⟨o2, ho2, _⟩ := id p2'
      have b1 : s1.heap.IsTuple a its.toArray := p1
      have b2 : s1.heap.IsTuple b its2.toArray := p2'
      refine call_zipT b1 b2 fun h' hz hI hO a1 a2 sz kp => ?_
      refine Calls.spliced_nil ?_
      have D := PySem.W.ktu_apart s1.heap.objs.size a b (Heap.lt_size ho1) (Heap.lt_size ho2)
      refine zl_call (s := { s1 with heap := h' }) (us := its.toArray) (vs := its2.toArray) (n := xs.length) (I1.ok.hd hc) D (by simp [l1]) (by simp [l2, hl]) z1 hz ⟨_, _, hO⟩ hI a1 a2 (by obtain ⟨o, e, r⟩ := b1; exact ⟨o, kp _ _ e, r⟩) (by obtain ⟨o, e, r⟩ := b2; exact ⟨o, kp _ _ e, r⟩) fun h2 tk acc c as kp2 eS la g ea => ?_
      have bg : s1.heap.objs.size ≤ h'.objs.size := by rw [sz]; omega
      have keep : ∀ y o, s1.heap.get? y = some o → h2.get? y = some o := fun y o e => by
        have lt := Heap.lt_size e
        exact kp2 y o (Nat.ne_of_lt (Nat.lt_of_lt_of_le lt (Nat.le_add_right _ _))) (Nat.ne_of_lt (Nat.lt_of_lt_of_le lt (Nat.le_add_right _ _))) (Nat.ne_of_lt lt) (Nat.ne_of_lt (Nat.lt_of_lt_of_le lt (Nat.le_add_right _ _))) (kp y o e)
      obtain ⟨H', k1, k2, k3, k4, k5, k6, k7, k8, k9, J⟩ := zip_laid (tk := tk) I1 z1 rv rv2 hl bg keep eS la g ea
      exact ⟨.ref _, H', J, rfl, q1 H' _ as k1 k2 k3 k4 k5 la k6 k7 k8 k9⟩
end Dn
end
section
set_option Elab.async false
set_option linter.all false
set_option maxRecDepth 100000
set_option maxHeartbeats 2000000
/-! Dn45: list(zip(a, b)): the reading. -/
namespace Dn
open PySem PySem.Spec PyProof.Rows L2 RZ
def zipT : List Dt → List Dt → List Dt
  | x :: xs, y :: ys => .tup [x, y] :: zipT xs ys
  | _, _ => []
def eZipL (fs : DEnv → Mo (List Vx)) : DEnv → Mo Vx := fun ρ => bnd (fs ρ) fun as h => match as with
  | [.d (.tup xs), .d (.tup ys)] => if xs.length = ys.length then .ok (.d (.lst (zipT xs ys))) h else .stk
  | _ => .stk
section
variable {K : PySem.W.Frag} {T : Tbs} {W : Wd} {H H' : Hp} {h : DH}
/-- many new things that are known for good -/
theorem HRel.news (r : HRel K T W H h) {P : Addr → Prop} [DecidablePred P] (kp : ∀ b o, H b = some o → H' b = some o) (new : ∀ b, P b → H b = none) (only : ∀ b o, H' b = some o → H b = some o ∨ P b) (nt : ∀ b o, P b → H' b = some o → notTbl o) :
    HRel K T ⟨fun b => if P b then H' b else W.F b, W.θ⟩ H' h ∧ Ext W H ⟨fun b => if P b then H' b else W.F b, W.θ⟩ H' := by
  have nP : ∀ b o, H b = some o → ¬ P b := fun b o e p => by rw [new b p] at e; cases e
  have le : HLe W.F (fun b => if P b then H' b else W.F b) := fun a u e => by
    show (if P a then H' a else W.F a) = some u
    rw [if_neg (nP a u (r.fro a u e))]; exact e
  have wl : WLe W ⟨fun b => if P b then H' b else W.F b, W.θ⟩ := ⟨le, [], by simp⟩
  refine ⟨⟨fun a u e => ?_, fun a u e => ?_, r.len, fun k a u e1 e2 => ?_, fun k a u e1 e2 nd => ?_, r.nd, r.tab.ext kp⟩, le, ⟨[], by simp, by simp⟩, fun a u e _ _ => kp a u e, fun a e => ?_, fun a u e => ?_⟩
  · replace e : (if P a then H' a else W.F a) = some u := e
    by_cases q : P a
    · rw [if_pos q] at e; exact e
    · rw [if_neg q] at e; exact kp a u (r.fro a u e)
  · replace e : (if P a then H' a else W.F a) = some u := e
    by_cases q : P a
    · rw [if_pos q] at e; exact nt a u q e
    · rw [if_neg q] at e; exact r.ntb a u e
  · have hh := r.obj k a u e1 e2
    cases u with
    | lst ys => obtain ⟨xs, h1, h2⟩ := hh; exact ⟨xs, kp _ _ h1, h2.le wl⟩
    | dead => obtain ⟨xs, h1⟩ := hh; exact ⟨xs, kp _ _ h1⟩
  · have hh := r.obj k a u e1 e2
    have hn : ¬ P a := by
      cases u with
      | lst ys => obtain ⟨xs, h1, _⟩ := hh; exact nP _ _ h1
      | dead => obtain ⟨xs, h1⟩ := hh; exact nP _ _ h1
    show (if P a then H' a else W.F a) = none
    rw [if_neg hn]
    exact r.liv k a u e1 e2 nd
  · cases q : H a with
    | none => rfl
    | some u => rw [kp a u q] at e; cases e
  · replace e : (if P a then H' a else W.F a) = some u := e
    by_cases q : P a
    · exact .inr (.inl (new a q))
    · rw [if_neg q] at e; exact .inl e
theorem repZip {F : Hp} : ∀ (as : List Addr) (xs ys : List V) (ds es : List Dt), RepDs K F xs ds → RepDs K F ys es → as.length = xs.length → xs.length = ys.length → (∀ (j : Nat) (a : Addr) (x y : V), as[j]? = some a → xs[j]? = some x → ys[j]? = some y → F a = some (.tup [x, y])) → RepDs K F (as.map V.ref) (zipT ds es)
  | [], xs, ys, ds, es, r1, r2, l1, l2, p => by
    cases xs with
    | nil => cases r1; exact .nil
    | cons _ _ => cases l1
  | a :: as, [], ys, ds, es, r1, r2, l1, l2, p => by cases l1
  | a :: as, x :: xs, [], ds, es, r1, r2, l1, l2, p => by cases l2
  | a :: as, x :: xs, y :: ys, ds, es, r1, r2, l1, l2, p => by
    cases r1 with
    | cons q1 q2 =>
      cases r2 with
      | cons q3 q4 =>
        exact .cons (.tup (.inl (.inl (p 0 a x y rfl rfl rfl))) (.cons q1 (.cons q3 .nil))) (repZip as xs ys _ _ q2 q4 (Nat.succ.inj l1) (Nat.succ.inj l2) fun j b u v e1 e2 e3 => p (j + 1) b u v e1 e2 e3)
end
section
variable {X : Cx} {g : Gp} {Wx : WX} {e e2 : Expr} {fs : DEnv → Mo (List Vx)} {p p2 pos pos2 : Pos}
theorem pd_listZip (hc : X.calm = true) (hg : Gl X "list") (hm : X.mg "list" = none) (hv : bootBuiltins "list" = some (.type "list")) (hg2 : Gl X "zip") (hm2 : X.mg "zip" = none) (ha : PA X [e, e2] (LA X.K g Wx fs))
    (hs : starEach [.Call (.Name "zip" p2) [e, e2] [] pos2] X.env = (false, eval (.Call (.Name "zip" p2) [e, e2] [] pos2) X.env) :: starEach [] X.env) (hs2 : starEach [e, e2] X.env = (false, eval e X.env) :: starEach [e2] X.env) (hpl : (backTo pos2 (starEach [e2] X.env)).any (·.1) = false) :
    PE X (.Call (.Name "list" p) [.Call (.Name "zip" p2) [e, e2] [] pos2] [] pos) (LE X.K g Wx (eZipL fs)) := (pe_listZip (pos := pos) (p := p) hc hg hm hv hg2 hm2 ha hs hs2 hpl).imp fun σ H Q q => by
  refine Lf.imp (Lf.bnd (R := RVs X.K) q) fun vs H1 ⟨W1, ρ, y, h1, hr1, er, rr, p1⟩ => ?_
  split at p1
  · rename_i ds es
    split at p1
    · rename_i hl
      obtain ⟨x, y, rfl, r1, r2⟩ := rr.two
      obtain ⟨a1, us, rfl, q1, f1, s1⟩ := repTup hr1 r1
      obtain ⟨a2, ws, rfl, q2, f2, s2⟩ := repTup hr1 r2
      refine ⟨a1, a2, us, ws, rfl, q1, q2, by rw [s1.length, s2.length, hl], fun H2 S as k1 k2 k3 k4 k5 la k6 k7 k8 k9 => ?_⟩
      obtain ⟨hr2, ex2⟩ := hr1.news (H' := H2) (P := fun b => b = S ∨ b ∈ as) k1 (fun b hb => by
        rcases hb with rfl | hb
        · exact k2
        · exact k3 b hb) (fun b o e => by
        rcases k9 b o e with q | q | q
        · exact .inl q
        · exact .inr (.inl q)
        · exact .inr (.inr q)) (fun b o hb e ps q => by
        subst q
        rcases hb with rfl | hb
        · rw [k6] at e; cases e
        · obtain ⟨j, ej⟩ := List.mem_iff_getElem?.mp hb
          have lj : j < as.length := (List.getElem?_eq_some_iff.mp ej).1
          have hle : us.length = ws.length := by rw [s1.length, s2.length, hl]
          rw [k7 j b us[j] ws[j] ej (List.getElem?_eq_getElem (by omega)) (List.getElem?_eq_getElem (by omega))] at e
          cases e)
      refine p1 _ _ _ ex2 hr2 ?_
      refine RepD.lst (vs := as.map V.ref) (by show (if S = S ∨ S ∈ as then H2 S else _) = _; rw [if_pos (.inl rfl)]; exact k6) ?_
      refine repZip as us ws ds es (s1.le ex2.F) (s2.le ex2.F) la (by rw [s1.length, s2.length, hl]) fun j a x y e1 e2 e3 => ?_
      show (if a = S ∨ a ∈ as then H2 a else _) = _
      rw [if_pos (.inr (List.mem_of_getElem? e1))]
      exact k7 j a x y e1 e2 e3
    · exact p1.elim
  · exact p1.elim
end
end Dn
end
section
set_option Elab.async false
set_option linter.all false
set_option maxRecDepth 100000
set_option maxHeartbeats 2000000
/-! Dn57: zip over lists, tuples, texts in any mix: a turn. -/
namespace Dn
open PySem PySem.Spec PyProof.Rows L2
/-- what is zipped -/
inductive SV where
  | l (a : Addr) | t (a : Addr) | s (x : Str)
def SV.val : SV → V
  | .l a => .ref a
  | .t a => .ref a
  | .s x => .str x
def SV.has (K : PySem.W.Frag) (H : Hp) : SV → List V → Prop
  | .l a, xs => SqL K H a xs
  | .t a, xs => SqT K H a xs
  | .s x, xs => xs = x.cps.toList.map fun c => V.str ⟨#[c]⟩
def SV.at_ : SV → Addr → Nat → Heap → Prop
  | .l a, it, i, h => h.IsListIter it a i
  | .t a, it, i, h => h.IsTupleIter it a i
  | .s x, it, i, h => ∃ t, h.IsStrIter it (strIterType x) x t i
def SV.off : SV → Addr → Prop
  | .l a, b => a ≠ b
  | .t a, b => a ≠ b
  | .s _, _ => True
section
variable {X : Cx} {pins : List (Addr × Obj)} {σ : L2.St} {H : Hp} {s : Shared}
theorem vals_back {xs : List V} {us : List Value} (r : Vals xs us) {j : Nat} {u : Value} (e : us[j]? = some u) : ∃ v, xs[j]? = some v ∧ RelV v u := by
  have hj := (List.getElem?_eq_some_iff.mp e).1
  have hl := r.length
  have ex : xs[j]? = some xs[j] := List.getElem?_eq_getElem (by omega)
  obtain ⟨u', e1, r1⟩ := r.get ex
  rw [e] at e1
  cases e1
  exact ⟨_, ex, r1⟩
theorem sv_inj (I : Inv X pins σ H s) {sv : SV} {xs ys : List V} (h1 : sv.has X.K H xs) (h2 : sv.has X.K H ys) : xs = ys := by
  cases sv with
  | l a => exact I.list_inj h1 h2
  | t a => exact I.tuple_inj h1 h2
  | s x => exact h1.trans h2.symm
theorem sv_draws (I : Inv X pins σ H s) {B : Around} (hh : B.handled = none) {sv : SV} {xs : List V} (hv : sv.has X.K H xs) {it : Addr} {i : Nat} (st : sv.at_ it i s.heap) (hoff : sv.off it) :
    ∃ (fp : List Addr) (P : Nat → Value → Prop) (St : Nat → Heap → Prop), Draws X.prog X.w B it fp xs.length P St ∧ St i s.heap ∧ (∀ j h, St j h → sv.at_ it j h) ∧ (∀ j u, P j u → ∃ v, xs[j]? = some v ∧ RelV v u) ∧ it ∈ fp ∧ ∀ c, c ≠ it → sv.off c → c ∉ fp := by
  cases sv with
  | l a =>
    obtain ⟨its, rv, p, _⟩ := I.list hv
    have hl : its.toArray.size = xs.length := by rw [List.size_toArray]; exact rv.length.symm
    have D := Draws.list (prog := X.prog) (w := X.w) (A := B) hh it a hoff its.toArray
    rw [hl] at D
    refine ⟨_, _, _, D, ⟨st, p.isList⟩, fun j h q => q.1, fun j u e => vals_back rv (by simpa using e), by simp, fun c h1 h2 q => ?_⟩
    simp only [List.mem_cons, List.not_mem_nil, or_false] at q
    rcases q with q | q
    · exact h1 q
    · exact h2 q.symm
  | t a =>
    obtain ⟨its, rv, p, _⟩ := I.tuple hv
    have hl : its.toArray.size = xs.length := by rw [List.size_toArray]; exact rv.length.symm
    have D := Draws.tuple (prog := X.prog) (w := X.w) (A := B) hh it a hoff its.toArray
    rw [hl] at D
    refine ⟨_, _, _, D, ⟨st, p⟩, fun j h q => q.1, fun j u e => vals_back rv (by simpa using e), by simp, fun c h1 h2 q => ?_⟩
    simp only [List.mem_cons, List.not_mem_nil, or_false] at q
    rcases q with q | q
    · exact h1 q
    · exact h2 q.symm
  | s x =>
    obtain ⟨t, st⟩ := st
    have hv : xs = x.cps.toList.map fun c => V.str ⟨#[c]⟩ := hv
    have hl : x.cps.size = xs.length := by rw [hv]; simp
    have D := Draws.text (prog := X.prog) (w := X.w) (A := B) hh it x t
    rw [hl] at D
    refine ⟨_, _, _, D, st, fun j h q => ⟨t, q⟩, fun j u e => ?_, by simp, fun c h1 h2 q => h1 (by simpa using q)⟩
    obtain ⟨c, tk, e1, rfl⟩ := e
    exact ⟨.str ⟨#[c]⟩, by rw [hv]; simp [e1], tk, rfl⟩
end
/-- the items in new pairs -/
def ItzS (K : PySem.W.Frag) (s1 s2 : SV) : It :=
  ⟨fun i H => ∃ xs ys, s1.has K H xs ∧ s2.has K H ys ∧ i < xs.length ∧ i < ys.length,
    fun i H v H' => ∃ T x y, v = .ref T ∧ H T = none ∧ H' = upd H T (.tup [x, y]) ∧ (∀ xs, s1.has K H xs → xs[i]? = some x) ∧ ∀ ys, s2.has K H ys → ys[i]? = some y,
    fun i H => ∃ xs ys, s1.has K H xs ∧ s2.has K H ys ∧ i ≤ xs.length ∧ i ≤ ys.length ∧ (i = xs.length ∨ i = ys.length)⟩
structure SepS (z TI TO i1 i2 : Addr) (s1 s2 : SV) : Prop where
  TIz : TI ≠ z
  TOz : TO ≠ z
  TITO : TI ≠ TO
  TIi1 : TI ≠ i1
  TIi2 : TI ≠ i2
  zi1 : z ≠ i1
  zi2 : z ≠ i2
  TOi1 : TO ≠ i1
  TOi2 : TO ≠ i2
  i12 : i1 ≠ i2
  a1 : s1.off i1
  a2 : s1.off z
  a3 : s1.off TO
  a4 : s1.off i2
  b1 : s2.off i2
  b2 : s2.off z
  b3 : s2.off TO
  b4 : s2.off i1
theorem SepS.sep {z TI TO i1 i2 : Addr} {s1 s2 : SV} (D : SepS z TI TO i1 i2 s1 s2) {fp1 fp2 : List Addr} (m1 : i1 ∈ fp1) (m2 : i2 ∈ fp2) (o1 : ∀ c, c ≠ i1 → s1.off c → c ∉ fp1) (o2 : ∀ c, c ≠ i2 → s2.off c → c ∉ fp2) : ZipSep2 z TI TO i1 i2 fp1 fp2 :=
  ⟨D.TIz, D.TOz, D.TITO, D.TIi1, m1, o1 _ D.zi1 D.a2, o1 _ D.TOi1 D.a3, D.TIi2, m2, o2 _ D.zi2 D.b2, o2 _ D.TOi2 D.b3, o2 _ D.i12 D.b4, o1 _ D.i12.symm D.a4⟩
theorem SV.at_of {sv : SV} {it : Addr} {i : Nat} {h h' : Heap} (st : sv.at_ it i h) (k : ∀ o, h.get? it = some o → h'.get? it = some o) : sv.at_ it i h' := by
  cases sv with
  | l a => exact Heap.IsListIter.at st k
  | t a => exact Heap.IsTupleIter.at st k
  | s x => obtain ⟨t, o, e, r⟩ := st; exact ⟨t, o, k o e, r⟩
theorem SV.live {sv : SV} {it : Addr} {i : Nat} {h : Heap} (st : sv.at_ it i h) : ∃ o, h.get? it = some o ∧ ∀ v, o.data ≠ .cell v := by
  cases sv with
  | l a => obtain ⟨o, e, _, d⟩ := st; exact ⟨o, e, fun v q => by rw [d] at q; cases q⟩
  | t a => obtain ⟨o, e, _, d⟩ := st; exact ⟨o, e, fun v q => by rw [d] at q; cases q⟩
  | s x => obtain ⟨t, o, e, _, d⟩ := st; exact ⟨o, e, fun v q => by rw [d] at q; cases q⟩
theorem turn_zipS {P : Program} {w : World} {K : PySem.W.Frag} {elts : List Expr} {kk : Nat} {tpos : Pos} {s1 s2 : SV} {z TI TO i1 i2 : Addr} (D : SepS z TI TO i1 i2 s1 s2) :
    Turn P w K (.Tuple elts kk tpos) (ItzS K s1 s2) [z, TI, TO, i1, i2] z (fun i h => IsZip h z TI TO .none ∧ IsTupOf2 h TI (.ref i1) (.ref i2) ∧ (∃ x y, IsTupOf2 h TO x y) ∧ s1.at_ i1 i h ∧ s2.at_ i2 i h) where
  mem := by simp
  obj := fun i h st c hc => by
    obtain ⟨hz, hTI, ⟨x, y, hTO⟩, h1, h2⟩ := st
    have e' : c = z ∨ c = TI ∨ c = TO ∨ c = i1 ∨ c = i2 := by simpa using hc
    rcases e' with q | q | q | q | q
    · rw [q]; exact ⟨_, hz, fun v q => nomatch q⟩
    · rw [q]; exact ⟨_, hTI, fun v q => nomatch q⟩
    · rw [q]; exact ⟨_, hTO, fun v q => nomatch q⟩
    · rw [q]; exact SV.live h1
    · rw [q]; exact SV.live h2
  keep := fun i h h' st k => by
    obtain ⟨hz, hTI, ⟨x, y, hTO⟩, h1, h2⟩ := st
    exact ⟨k z (by simp) _ hz, k TI (by simp) _ hTI, ⟨x, y, k TO (by simp) _ hTO⟩, SV.at_of h1 fun o q => k i1 (by simp) o q, SV.at_of h2 fun o q => k i2 (by simp) o q⟩
  item := by
    intro X hP hw hK hc i pins s σ H E I hf st hg
    subst hP hw hK
    obtain ⟨hz, hTI, ⟨x0, y0, hTO⟩, h1, h2⟩ := st
    obtain ⟨xs, ys, hx, hy, lx, ly⟩ := hg
    obtain ⟨fp1, P1, St1, D1, t1, k1, v1, m1, o1⟩ := sv_draws I (B := X.A.in1) (I.ok.hd hc) hx h1 D.a1
    obtain ⟨fp2, P2, St2, D2, t2, k2, v2, m2, o2⟩ := sv_draws I (B := X.A.in1) (I.ok.hd hc) hy h2 D.b1
    have hzl : z < s.heap.objs.size := Heap.lt_size hz
    refine wpAny_pyNext_zipD2_item (D.sep m1 m2 o1 o2) D1 D2 hz hTI hTO t1 t2 lx ly fun u1 u2 h' tk p1 p2 z' TO' s1' s2' hT hsz hk => ?_
    refine ⟨_, rfl, wpAny_letOwnedTupleGo_zip (s := { s with heap := h', toks := tk }) z' fun h'' z'' sb => ?_⟩
    obtain ⟨x, ex, rx⟩ := v1 _ _ p1
    obtain ⟨y, ey, ry⟩ := v2 _ _ p2
    have hT2 : h''.get? s.heap.objs.size = some { cls := .type "tuple", data := .seq #[u1, u2] } := (sb.2 _ (Nat.ne_of_gt hzl)).trans hT
    have new : ObjOk X.prog X.w (upd H s.heap.objs.size (.tup [x, y])) h'' s.heap.objs.size (.tup [x, y]) :=
      ⟨by show 2 ≤ sizeLine; decide, [u1, u2], .cons rx (.cons ry .nil), ⟨_, hT2, rfl, _, rfl⟩⟩
    have I1 : Inv X pins σ (upd H s.heap.objs.size (.tup [x, y])) { s with heap := h'', toks := tk } :=
      I.turnedNew (t' := tk) (ch := [z, TI, TO, i1, i2]) (fun c o hb q => (sb.2 c (fun q' => hb (by simp [q']))).trans (hk c o (fun q' => hb (by simp [q'])) (fun q' => hb (by simp [q'])) (fun q' => hb (by simp [q'])) (fun q' => hb (by simp [q'])) q)) hf (Nat.le_refl _) new
    refine ⟨.ref s.heap.objs.size, _, I1, rfl, ⟨_, x, y, rfl, I.hok.fresh (Nat.le_refl _), rfl, fun l hl => by rw [sv_inj I hl hx]; exact ex, fun l hl => by rw [sv_inj I hl hy]; exact ey⟩, ⟨z'', ?_, ⟨u1, u2, ?_⟩, ?_, ?_⟩, fun c hcm => ?_⟩
    · exact (sb.2 _ D.TIz).trans (hk _ _ D.TIz D.TITO D.TIi1 D.TIi2 hTI)
    · exact (sb.2 _ D.TOz).trans TO'
    · exact SV.at_of (k1 _ _ s1') fun o q => (sb.2 _ D.zi1.symm).trans q
    · exact SV.at_of (k2 _ _ s2') fun o q => (sb.2 _ D.zi2.symm).trans q
    · have hlt : c < s.heap.objs.size := by
        have e' : c = z ∨ c = TI ∨ c = TO ∨ c = i1 ∨ c = i2 := by simpa using hcm
        rcases e' with q | q | q | q | q
        · rw [q]; exact hzl
        · rw [q]; exact Heap.lt_size hTI
        · rw [q]; exact Heap.lt_size hTO
        · rw [q]; obtain ⟨_, e1, _⟩ := SV.live h1; exact Heap.lt_size e1
        · rw [q]; obtain ⟨_, e1, _⟩ := SV.live h2; exact Heap.lt_size e1
      rw [upd_ne (Nat.ne_of_lt hlt)]
      exact (hf c hcm).1
  done := by
    intro X hP hw hK hc i pins s σ H E I hf st hg
    subst hP hw hK
    obtain ⟨hz, hTI, ⟨x0, y0, hTO⟩, h1, h2⟩ := st
    obtain ⟨xs, ys, hx, hy, lx, ly, hend⟩ := hg
    obtain ⟨fp1, P1, St1, D1, t1, k1, v1, m1, o1⟩ := sv_draws I (B := X.A.in1) (I.ok.hd hc) hx h1 D.a1
    obtain ⟨fp2, P2, St2, D2, t2, k2, v2, m2, o2⟩ := sv_draws I (B := X.A.in1) (I.ok.hd hc) hy h2 D.b1
    exact wpAny_pyNext_zipD2_end (D.sep m1 m2 o1 o2) D1 D2 hz hTI hTO t1 t2 lx ly hend fun h' tk hk => ⟨rfl, I.turnedL (t' := tk) (ch := [z, TI, TO, i1, i2]) (fun c o hb q =>
      hk c o (fun q' => hb (by simp [q'])) (fun q' => hb (by simp [q'])) (fun q' => hb (by simp [q'])) (fun q' => hb (by simp [q'])) q) hf⟩
  self := fun A i s Q E st h => wpAny_pyIter_zip st.1 h
end Dn
end
section
set_option Elab.async false
set_option linter.all false
set_option maxRecDepth 100000
set_option maxHeartbeats 2000000
/-! Dn58: zip over lists, tuples, texts in any mix: the rule, the reading. -/
namespace Dn
open PySem PySem.Spec PyProof.Rows L2
section
variable {X : Cx} {pins : List (Addr × Obj)} {σ : L2.St} {H : Hp} {s : Shared}
theorem sv_begins (I : Inv X pins σ H s) {sv : SV} {xs : List V} (hv : sv.has X.K H xs) {u : Value} (r : RelV sv.val u) :
    ∃ (o : Obj) (Hh : Heap → Prop), Begins u o Hh ∧ Hh s.heap ∧ (∀ (h : Heap) (it : Addr), h.get? it = some o → sv.at_ it 0 h) ∧ ∀ c, s.heap.objs.size ≤ c → sv.off c := by
  cases sv with
  | l a =>
    obtain ⟨its, rv, p, _⟩ := I.list hv
    cases r
    exact ⟨_, _, begins_list a its.toArray, p.isList, fun h it e => ⟨_, e, rfl, rfl⟩, fun c hc => Nat.ne_of_lt (Nat.lt_of_lt_of_le p.lt hc)⟩
  | t a =>
    obtain ⟨its, rv, p, _⟩ := I.tuple hv
    cases r
    obtain ⟨o1, ho1, _⟩ := id p
    exact ⟨_, _, begins_tuple a its.toArray, p, fun h it e => ⟨_, e, rfl, rfl⟩, fun c hc => Nat.ne_of_lt (Nat.lt_of_lt_of_le (Heap.lt_size ho1) hc)⟩
  | s x =>
    obtain ⟨t, rfl⟩ := r
    exact ⟨_, _, begins_text x t, trivial, fun h it e => ⟨t, _, e, rfl, rfl⟩, fun c _ => trivial⟩
theorem sepS_new {n : Nat} {s1 s2 : SV} (o1 : ∀ c, n ≤ c → s1.off c) (o2 : ∀ c, n ≤ c → s2.off c) : SepS (n + 4) (n + 2) (n + 3) n (n + 1) s1 s2 := by
  have ne : ∀ a b : Nat, ¬ a = b → (n + a : Nat) ≠ n + b := fun a b h e => h (Nat.add_left_cancel e)
  refine ⟨ne 2 4 (by decide), ne 3 4 (by decide), ne 2 3 (by decide), ne 2 0 (by decide), ne 2 1 (by decide), ne 4 0 (by decide), ne 4 1 (by decide), ne 3 0 (by decide), ne 3 1 (by decide), ne 0 1 (by decide), o1 _ (Nat.le_refl _), o1 _ (Nat.le_add_right _ _), o1 _ (Nat.le_add_right _ _), o1 _ (Nat.le_add_right _ _), o2 _ (Nat.le_add_right _ _), o2 _ (Nat.le_add_right _ _), o2 _ (Nat.le_add_right _ _), o2 _ (Nat.le_refl _)⟩
end
def iZipS (K : PySem.W.Frag) (ta : TA) : TI := fun σ H R => ta σ H fun vs H1 => ∃ (s1 s2 : SV) (xs ys : List V), vs = [s1.val, s2.val] ∧ s1.has K H1 xs ∧ s2.has K H1 ys ∧ R (ItzS K s1 s2) H1
theorem pi_zipS {X : Cx} {e e2 : Expr} {ta : TA} {p pos tpos : Pos} {elts : List Expr} {kk : Nat} (hg : Gl X "zip") (hm : X.mg "zip" = none) (ha : PA X [e, e2] ta)
    (hs : starEach [e, e2] X.env = (false, eval e X.env) :: starEach [e2] X.env) (hpl : (backTo pos (starEach [e2] X.env)).any (·.1) = false) :
    PI X (.Tuple elts kk tpos) (.Call (.Name "zip" p) [e, e2] [] pos) (iZipS X.K ta) := by
  refine ⟨fun pins s σ H R I h => ?_⟩
  refine Call_ (ld_blt I hg hm PyProof.Rows.boot_zip (PyProof.Rows.callWith_type1 (thn (ha.run pos pins s σ H _ I h) fun us s1 ⟨vs, H1, I1, r1, q1⟩ => ?_) hs hpl))
  obtain ⟨v1, v2, xs, ys, ex, hx, hy, q⟩ := q1
  subst ex
  cases r1 with
  | cons r rr =>
    cases rr with
    | cons r' rr =>
      cases rr
      obtain ⟨b1, Hh1, B1, c1, t1, o1⟩ := sv_begins I1 hx r
      obtain ⟨b2, Hh2, B2, c2, t2, o2⟩ := sv_begins I1 hy r'
      have fresh5 : ∀ c, c ∈ [s1.heap.objs.size + 4, s1.heap.objs.size + 2, s1.heap.objs.size + 3, s1.heap.objs.size, s1.heap.objs.size + 1] → FpOk X pins H1 c := fun c hcm => by
        have e' : c = s1.heap.objs.size + 4 ∨ c = s1.heap.objs.size + 2 ∨ c = s1.heap.objs.size + 3 ∨ c = s1.heap.objs.size ∨ c = s1.heap.objs.size + 1 := by simpa using hcm
        have hle : s1.heap.objs.size ≤ c := by
          rcases e' with z | z | z | z | z
          · rw [z]; exact Nat.le_add_right _ _
          · rw [z]; exact Nat.le_add_right _ _
          · rw [z]; exact Nat.le_add_right _ _
          · rw [z]; exact Nat.le_refl _
          · rw [z]; exact Nat.le_add_right _ _
        exact I1.fpOk hle (I1.hok.fresh hle)
      refine zip_begins2 B1 B2 c1 c2 fun h' hz hTI hTO g1 g2 hsz hk => wpAny_pyIter_zip hz ?_
      have I2 : Inv X pins σ H1 { s1 with heap := h' } := I1.kept (t' := s1.toks) hk
      exact ⟨s1.heap.objs.size + 4, [s1.heap.objs.size + 4, s1.heap.objs.size + 2, s1.heap.objs.size + 3, s1.heap.objs.size, s1.heap.objs.size + 1], _, _, H1, rfl, I2, turn_zipS (sepS_new o1 o2), ⟨hz, hTI, ⟨_, _, hTO⟩, t1 _ _ g1, t2 _ _ g2⟩, fresh5, q⟩
def SvR (K : PySem.W.Frag) (W : Wd) : SV → List Dt → Prop
  | .l a, l => ∃ vs, W.F a = some (.lst vs) ∧ RepDs K W.F vs l
  | .t a, l => ∃ vs, SqT K W.F a vs ∧ RepDs K W.F vs l
  | .s x, l => ∃ z, okS z ∧ x = toStr z ∧ l = z.map fun c => .str [c]
theorem chars_rep {K : PySem.W.Frag} {F : Hp} : ∀ {z : List Nat}, (∀ c ∈ z, c < 0x110000) → RepDs K F (z.map fun c => V.str ⟨#[c]⟩) (z.map fun c => .str [c])
  | [], _ => .nil
  | c :: z, h => .cons (RepD.str [c] ⟨by show 1 ≤ sizeLine; rw [sizeLine_eq]; decide, by simpa using h c (by simp)⟩) (chars_rep fun d hd => h d (by simp [hd]))
theorem SvR.has {K : PySem.W.Frag} {T : Tbs} {W W1 : Wd} {H1 : Hp} {h1 : DH} {sv : SV} {l : List Dt} (r : SvR K W sv l) (le : WLe W W1) (hr : HRel K T W1 H1 h1) : ∃ vs, sv.has K H1 vs ∧ RepDs K W1.F vs l := by
  cases sv with
  | l a => obtain ⟨vs, e, r⟩ := r; exact ⟨vs, SqL.of (hr.fro _ _ (le.F _ _ e)), r.le le.F⟩
  | t a => obtain ⟨vs, e, r⟩ := r; exact ⟨vs, SqT.le (SqT.le e le.F) hr.fro, r.le le.F⟩
  | s x =>
    obtain ⟨z, ok, rfl, rfl⟩ := r
    refine ⟨_, rfl, ?_⟩
    have : (toStr z).cps.toList = z := by simp
    rw [this]
    exact chars_rep ok.2
def srcZ : Vx → Option (List Dt)
  | .d (.tup ds) => some ds
  | .d (.lst ds) => some ds
  | .d (.str s) => some (s.map fun c => .str [c])
  | _ => none
theorem srcZ_rep {X : Cx} {g : Gp} {W : Wd} {H : Hp} {h : DH} (hr : HRel X.K g.T W H h) {v : V} {y : Vx} {l : List Dt} (r : RepV X.K W v y) (e : srcZ y = some l) : ∃ sv : SV, v = sv.val ∧ SvR X.K W sv l := by
  cases y with
  | d x =>
    cases x with
    | tup ds =>
      cases e
      obtain ⟨a, vs, rfl, q1, q2, q3⟩ := repTup hr r
      exact ⟨.t a, rfl, vs, q2, q3⟩
    | lst ds =>
      cases e
      cases r with
      | @lst a vs _ q1 q2 => exact ⟨.l a, rfl, vs, q1, q2⟩
    | str z =>
      cases e
      obtain ⟨rfl, ok⟩ := repStr r
      exact ⟨.s (toStr z), rfl, z, ok, rfl, rfl⟩
    | _ => cases e
  | _ => cases e
theorem wk_zp {K : PySem.W.Frag} {T : Tbs} {W : Wd} {s1 s2 : SV} {l1 l2 : List Dt} (r1 : SvR K W s1 l1) (r2 : SvR K W s2 l2) : WkR K T W (.zp (.ds l1) (.ds l2)) (ItzS K s1 s2) := by
  intro W1 H1 h1 le hr i
  obtain ⟨vs, hv, rv⟩ := r1.has le hr
  obtain ⟨ws, hw, rw'⟩ := r2.has le hr
  have e1 := rv.length
  have e2 := rw'.length
  show (match (if i ≤ l1.length ∧ i ≤ l2.length then pair2 (some (match l1[i]? with | some x => some (Vx.d x) | none => none)) (some (match l2[i]? with | some x => some (Vx.d x) | none => none)) else none) with | some (some y) => _ | some none => _ | none => True)
  by_cases hi : i ≤ l1.length ∧ i ≤ l2.length
  · rw [if_pos hi]
    cases d1 : l1[i]? with
    | none =>
      have q := List.getElem?_eq_none_iff.mp d1
      exact show (ItzS K s1 s2).stop i H1 from ⟨vs, ws, hv, hw, by omega, by omega, .inl (by omega)⟩
    | some x =>
      have q1 := (List.getElem?_eq_some_iff.mp d1).1
      cases d2 : l2[i]? with
      | none =>
        have q := List.getElem?_eq_none_iff.mp d2
        exact show (ItzS K s1 s2).stop i H1 from ⟨vs, ws, hv, hw, by omega, by omega, .inr (by omega)⟩
      | some y =>
        have q2 := (List.getElem?_eq_some_iff.mp d2).1
        obtain ⟨v, f1, g1⟩ := rv.get d1
        obtain ⟨u, f2, g2⟩ := rw'.get d2
        refine ⟨⟨vs, ws, hv, hw, by omega, by omega⟩, fun z H2 yl => ?_⟩
        obtain ⟨Tn, x', y', rfl, hT, rfl, y1, y2⟩ := yl
        have z1 := y1 vs hv
        rw [f1] at z1
        cases z1
        have z2 := y2 ws hw
        rw [f2] at z2
        cases z2
        obtain ⟨hr2, ex2⟩ := hr.new hT (o := .tup [v, u]) (fun ps z => by cases z)
        exact ⟨_, ex2, hr2, RepD.tup (.inl (.inl upd_same)) (.cons (RepD.le ex2.F g1) (.cons (RepD.le ex2.F g2) .nil))⟩
  · rw [if_neg hi]
    trivial
section
variable {X : Cx} {g : Gp} {Wx : WX} {pos : Pos}
def wZip (fs : DEnv → Mo (List Vx)) : DEnv → Mo Wk := fun ρ => bnd (fs ρ) fun as h => match as with
  | [a, b] => (match srcZ a, srcZ b with
    | some x, some y => .ok (.zp (.ds x) (.ds y)) h
    | _, _ => .stk)
  | _ => .stk
theorem pd_zip {elts : List Expr} {kk : Nat} {tpos : Pos} {e e2 : Expr} {fs : DEnv → Mo (List Vx)} {p : Pos} (hg : Gl X "zip") (hm : X.mg "zip" = none) (ha : PA X [e, e2] (LA X.K g Wx fs))
    (hs : starEach [e, e2] X.env = (false, eval e X.env) :: starEach [e2] X.env) (hpl : (backTo pos (starEach [e2] X.env)).any (·.1) = false) :
    PI X (.Tuple elts kk tpos) (.Call (.Name "zip" p) [e, e2] [] pos) (LI X.K g Wx (wZip fs)) := by
  refine ⟨fun pins s σ H R I h => (pi_zipS hg hm ha hs hpl).run pins s σ H R I ?_⟩
  refine Lf.imp (Lf.bnd (R := RVs X.K) h) fun v H1 ⟨W1, ρ, y, h1, hr1, er, rr, p1⟩ => ?_
  split at p1
  · rename_i a b
    obtain ⟨x, z, rfl, r1, r2⟩ := rr.two
    split at p1
    · rename_i l1 l2 e1 e2
      obtain ⟨s1, rfl, q1⟩ := srcZ_rep hr1 r1 e1
      obtain ⟨s2, rfl, q2⟩ := srcZ_rep hr1 r2 e2
      obtain ⟨vs, hv, _⟩ := q1.has (WLe.refl _) hr1
      obtain ⟨ws, hw, _⟩ := q2.has (WLe.refl _) hr1
      exact ⟨s1, s2, vs, ws, rfl, hv, hw, p1.ret hr1 (wk_zp q1 q2)⟩
    · exact p1.elim
  · exact p1.elim
end
end Dn
end
section
set_option Elab.async false
set_option linter.all false
set_option maxRecDepth 100000
set_option maxHeartbeats 2000000
/-! Dn59: a zip as it is drawn from (its last pair held or gone); enumerate over it: a turn. -/
namespace Dn
open PySem PySem.Spec PyProof.Rows L2
abbrev zipO (f0 : Value) (fl : Bool) (TI TO : Addr) : Obj := { cls := .type "zip", dict := none, data := .fields #[f0, .bool fl, .bool false, .ref TI, .ref TO], slots := #[] }
section
variable {prog : Program} {w : World} {A : Around} {E : Value → Shared → Prop} {s : Shared} {z TI TO i1 i2 : Addr} {fp1 fp2 : List Addr} {n1 n2 i : Nat} {P1 P2 : Nat → Value → Prop} {St1 St2 : Nat → Heap → Prop} {a1 a2 : Value}
theorem gone_ok {a : Addr} {Q : Option Obj → Shared → Prop} (ho : s.heap.get? a = none) (h : Q none s) : wpAny (model prog w) A (loadIfAlive a) Q E s := by
  have h' : Q (s.heap.get? a) s := by rw [ho]; exact h
  exact fun _ _ _ => h'
theorem free_none {fl : Bool} {Q : Bool → Shared → Prop} (hz : s.heap.get? z = some (zipO .none fl TI TO)) (h : Q true s) : wpAny (model prog w) A (Builtin.SmallTypes.ownedTupleIsFree (.ref z)) Q E s := by
  unfold Builtin.SmallTypes.ownedTupleIsFree
  exact wpAny_bind (wpAny_field hz rfl (x := .none) rfl (wpAny_pure h))
theorem free_gone {fl : Bool} {T : Addr} {Q : Bool → Shared → Prop} (hz : s.heap.get? z = some (zipO (rawInt T) fl TI TO)) (hT : s.heap.get? T = none) (h : Q true s) : wpAny (model prog w) A (Builtin.SmallTypes.ownedTupleIsFree (.ref z)) Q E s := by
  unfold Builtin.SmallTypes.ownedTupleIsFree
  refine wpAny_bind (wpAny_field hz rfl (x := rawInt T) rfl ?_)
  show wpAny _ _ (loadIfAlive ((T : Int).toNat) >>= _) _ _ _
  rw [Int.toNat_natCast]
  refine wpAny_bind (gone_ok hT ?_)
  simp only [Option.isNone_none, if_true]
  exact wpAny_pure h
/-- the pair that is free is filled anew -/
theorem zf_item {f0 : Value} {fl : Bool} {Q : Value → Shared → Prop} (S : ZipSep2 z TI TO i1 i2 fp1 fp2) (D1 : Draws prog w A i1 fp1 n1 P1 St1) (D2 : Draws prog w A i2 fp2 n2 P2 St2) (hz : s.heap.get? z = some (zipO f0 fl TI TO))
    (fr : ∀ (Q' : Bool → Shared → Prop), Q' true s → wpAny (model prog w) A (Builtin.SmallTypes.ownedTupleIsFree (.ref z)) Q' E s) (hTI : IsTupOf2 s.heap TI (.ref i1) (.ref i2)) (hTO : IsTupOf2 s.heap TO a1 a2) (st1 : St1 i s.heap) (st2 : St2 i s.heap) (l1 : i < n1) (l2 : i < n2)
    (fin : ∀ u1 u2 h' tk, P1 i u1 → P2 i u2 → h'.get? z = some (zipO (rawInt s.heap.objs.size) false TI TO) → IsTupOf2 h' TO u1 u2 → St1 (i + 1) h' → St2 (i + 1) h' → IsTupOf2 h' s.heap.objs.size u1 u2 → h'.objs.size = s.heap.objs.size + 1 →
      (∀ c o, c ≠ z → c ≠ TO → c ≠ i1 → c ≠ i2 → s.heap.get? c = some o → h'.get? c = some o) → Q (.ref s.heap.objs.size) { s with heap := h', toks := tk }) :
    wpAny (model prog w) A (Builtin.«zip.__next__» ⟨[.ref z], []⟩) (fun r s' => ∃ v, r = .done (.ret v) ∧ Q v s') E s := by
  obtain ⟨hp, gs, dr, t0, os⟩ := s
  show wpAny _ _ (field (.ref z) 2 >>= _) _ _ _
  refine wpAny_bind (wpAny_field hz rfl (x := .bool false) rfl ?_)
  show wpAny _ _ (field (.ref z) 3 >>= _) _ _ _
  refine wpAny_bind (wpAny_field hz rfl (x := .ref TI) rfl (wpAny_bind (wpAny_seqItems hTI rfl ?_)))
  show wpAny _ _ (Builtin.SmallTypes.ownedTupleIsFree (.ref z) >>= _) _ _ _
  refine wpAny_bind (fr _ ?_)
  simp only [if_true]
  refine wpAny_bind (wpAny_rule (wpAny_bind (wpAny_field hz rfl (x := .ref TO) rfl ?_)))
  refine wpAny_bind (wpAny_setField_rec hz (by simp) fun g0 z0 k0 => ?_)
  replace z0 : g0.get? z = some (zipO .ellipsis fl TI TO) := z0
  replace k0 : Heap.SameBut z hp g0 := k0
  refine wpAny_bind ?_
  simp only [List.zipIdx_cons, List.zipIdx_nil, List.forIn_cons, List.forIn_nil]
  refine wpAny_bind (wpAny_bind (wpAny_onRaise ?_))
  show wpAny _ _ (Builtin.SmallTypes.nextOf (.ref i1) >>= _) _ _ ⟨g0, gs, dr, t0, os⟩
  refine wpAny_bind (D1.item i _ _ _ l1 (D1.over st1 k0 S.zf1) fun u1 q1 t1 y1 e1 c1 => wpAny_pure ?_)
  replace c1 : Heap.SameBut i1 g0 q1 := c1
  have o1 : IsTupOf2 q1 TO a1 a2 := c1.extBut _ _ S.Ti1 (k0.extBut _ _ S.TOz hTO)
  refine wpAny_bind (wpAny_seqItems (s := ⟨q1, gs, dr, t1, os⟩) o1 rfl (wpAny_bind (updateSeq_IsTupOf2 (s := ⟨q1, gs, dr, t1, os⟩) o1 fun g1 o2 k1 => ?_)))
  replace o2 : IsTupOf2 g1 TO u1 a2 := o2
  replace k1 : Heap.SameBut TO q1 g1 := k1
  refine wpAny_bind (wpAny_letGo (wpAny_pure (wpAny_bind (wpAny_bind (wpAny_onRaise ?_)))))
  show wpAny _ _ (Builtin.SmallTypes.nextOf (.ref i2) >>= _) _ _ ⟨g1, gs, dr, t1, os⟩
  refine wpAny_bind (D2.item i _ _ _ l2 (D2.over (D2.over (D2.over st2 k0 S.zf2) c1 S.sep1_2) k1 S.Tf2) fun u2 q2 t2 y2 e2 c2 => wpAny_pure ?_)
  replace c2 : Heap.SameBut i2 g1 q2 := c2
  have o3 : IsTupOf2 q2 TO u1 a2 := c2.extBut _ _ S.Ti2 o2
  refine wpAny_bind (wpAny_seqItems (s := ⟨q2, gs, dr, t2, os⟩) o3 rfl (wpAny_bind (updateSeq_IsTupOf2 (s := ⟨q2, gs, dr, t2, os⟩) o3 fun g2 o4 k2 => ?_)))
  replace o4 : IsTupOf2 g2 TO u1 u2 := o4
  replace k2 : Heap.SameBut TO q2 g2 := k2
  refine wpAny_bind (wpAny_letGo (wpAny_pure (wpAny_pure (wpAny_bind (wpAny_seqItems (s := ⟨g2, gs, dr, t2, os⟩) o4 rfl (wpAny_bind (wpAny_newTuple ?_)))))))
  have sz : g2.objs.size = hp.objs.size := by rw [k2.1, c2.1, k1.1, c1.1, k0.1]
  have zz : g2.get? z = some (zipO .ellipsis fl TI TO) := k2.extBut _ _ S.TOz.symm (c2.extBut _ _ S.zi2 (k1.extBut _ _ S.TOz.symm (c1.extBut _ _ S.zi1 z0)))
  have kk : ∀ c o, c ≠ z → c ≠ TO → c ≠ i1 → c ≠ i2 → hp.get? c = some o → g2.get? c = some o := fun c o m1 m2 m3 m4 e =>
    k2.extBut _ _ m2 (c2.extBut _ _ m4 (k1.extBut _ _ m2 (c1.extBut _ _ m3 (k0.extBut _ _ m1 e))))
  have w1 : St1 (i + 1) g2 := D1.over (D1.over (D1.over e1 k1 S.Tf1) c2 S.sep2_1) k2 S.Tf1
  have w2 : St2 (i + 1) g2 := D2.over e2 k2 S.Tf2
  have zl : z < g2.objs.size := Heap.lt_size zz
  show wpAny _ _ (Builtin.SmallTypes.ownedTupleHandOut (.ref z) (.ref g2.objs.size) >>= _) _ _ ⟨g2.push { cls := .type "tuple", data := .seq #[u1, u2] }, gs, dr, t2, os⟩
  refine wpAny_bind ?_
  unfold Builtin.SmallTypes.ownedTupleHandOut
  have z6 : (g2.push { cls := .type "tuple", data := .seq #[u1, u2] }).get? z = some (zipO .ellipsis fl TI TO) := Heap.get?_push_of_some _ zz
  refine wpAny_bind (wpAny_setField_rec z6 (by simp) fun g7 z7 k7 => ?_)
  replace z7 : g7.get? z = some (zipO (rawInt g2.objs.size) fl TI TO) := z7
  refine wpAny_setField_rec z7 (by simp) fun g8 z8 k8 => ?_
  replace z8 : g8.get? z = some (zipO (rawInt g2.objs.size) false TI TO) := z8
  replace k7 : Heap.SameBut z (g2.push { cls := .type "tuple", data := .seq #[u1, u2] }) g7 := k7
  replace k8 : Heap.SameBut z g7 g8 := k8
  have up : ∀ c o, c ≠ z → g2.get? c = some o → g8.get? c = some o := fun c o m e => k8.extBut _ _ m (k7.extBut _ _ m (Heap.get?_push_of_some _ e))
  have p8 : IsTupOf2 g8 g2.objs.size u1 u2 := k8.extBut _ _ (Nat.ne_of_gt zl) (k7.extBut _ _ (Nat.ne_of_gt zl) (Heap.get?_push_size _ rfl))
  have s8 : g8.objs.size = g2.objs.size + 1 := by rw [k8.1, k7.1, Heap.size_push]
  rw [sz] at z8 p8 s8
  refine wpAny_pure ⟨_, rfl, ?_⟩
  show Q (.ref g2.objs.size) ⟨g8, gs, dr, t2, os⟩
  rw [sz]
  exact fin u1 u2 g8 t2 y1 y2 z8 (up _ _ S.TOz o4) (D1.frame _ _ _ w1 fun b hb o e => up b o (fun q => S.zf1 (q ▸ hb)) e) (D2.frame _ _ _ w2 fun b hb o e => up b o (fun q => S.zf2 (q ▸ hb)) e) p8 s8 fun c o m1 m2 m3 m4 e => up c o m1 (kk c o m1 m2 m3 m4 e)
theorem zf_end {f0 : Value} {fl : Bool} {Q : Fin → Shared → Prop} (S : ZipSep2 z TI TO i1 i2 fp1 fp2) (D1 : Draws prog w A i1 fp1 n1 P1 St1) (D2 : Draws prog w A i2 fp2 n2 P2 St2) (hz : s.heap.get? z = some (zipO f0 fl TI TO))
    (fr : ∀ (Q' : Bool → Shared → Prop), Q' true s → wpAny (model prog w) A (Builtin.SmallTypes.ownedTupleIsFree (.ref z)) Q' E s) (hTI : IsTupOf2 s.heap TI (.ref i1) (.ref i2)) (hTO : IsTupOf2 s.heap TO a1 a2) (st1 : St1 i s.heap) (st2 : St2 i s.heap) (l1 : i ≤ n1) (l2 : i ≤ n2) (hend : i = n1 ∨ i = n2)
    (fin : ∀ h' tk e, (∀ c o, c ≠ z → c ≠ TO → c ≠ i1 → c ≠ i2 → s.heap.get? c = some o → h'.get? c = some o) → (∃ o, h'.get? e = some o ∧ o.cls = .type "StopIteration") → E (.ref e) { s with heap := h', toks := tk }) :
    wpAny (model prog w) A (Builtin.«zip.__next__» ⟨[.ref z], []⟩) Q E s := by
  obtain ⟨hp, gs, dr, t0, os⟩ := s
  show wpAny _ _ (field (.ref z) 2 >>= _) _ _ _
  refine wpAny_bind (wpAny_field hz rfl (x := .bool false) rfl ?_)
  show wpAny _ _ (field (.ref z) 3 >>= _) _ _ _
  refine wpAny_bind (wpAny_field hz rfl (x := .ref TI) rfl (wpAny_bind (wpAny_seqItems hTI rfl ?_)))
  show wpAny _ _ (Builtin.SmallTypes.ownedTupleIsFree (.ref z) >>= _) _ _ _
  refine wpAny_bind (fr _ ?_)
  simp only [if_true]
  refine wpAny_bind (wpAny_rule (wpAny_bind (wpAny_field hz rfl (x := .ref TO) rfl ?_)))
  refine wpAny_bind (wpAny_setField_rec hz (by simp) fun g0 z0 k0 => ?_)
  replace z0 : g0.get? z = some (zipO .ellipsis fl TI TO) := z0
  replace k0 : Heap.SameBut z hp g0 := k0
  refine wpAny_bind ?_
  simp only [List.zipIdx_cons, List.zipIdx_nil, List.forIn_cons, List.forIn_nil]
  refine wpAny_bind (wpAny_bind (wpAny_onRaise ?_))
  show wpAny _ _ (Builtin.SmallTypes.nextOf (.ref i1) >>= _) _ _ ⟨g0, gs, dr, t0, os⟩
  by_cases h1 : i < n1
  · refine wpAny_bind (D1.item i _ _ _ h1 (D1.over st1 k0 S.zf1) fun u1 q1 t1 y1 e1 c1 => wpAny_pure ?_)
    replace c1 : Heap.SameBut i1 g0 q1 := c1
    have o1 : IsTupOf2 q1 TO a1 a2 := c1.extBut _ _ S.Ti1 (k0.extBut _ _ S.TOz hTO)
    refine wpAny_bind (wpAny_seqItems (s := ⟨q1, gs, dr, t1, os⟩) o1 rfl (wpAny_bind (updateSeq_IsTupOf2 (s := ⟨q1, gs, dr, t1, os⟩) o1 fun g1 o2 k1 => ?_)))
    replace o2 : IsTupOf2 g1 TO u1 a2 := o2
    replace k1 : Heap.SameBut TO q1 g1 := k1
    have h2 : i = n2 := by omega
    refine wpAny_bind (wpAny_letGo (wpAny_pure (wpAny_bind (wpAny_bind (wpAny_onRaise ?_)))))
    show wpAny _ _ (Builtin.SmallTypes.nextOf (.ref i2) >>= _) _ _ ⟨g1, gs, dr, t1, os⟩
    refine wpAny_bind (D2.done ⟨g1, gs, dr, t1, os⟩ _ _ (by rw [← h2]; exact (D2.over (D2.over (D2.over st2 k0 S.zf2) c1 S.sep1_2) k1 S.Tf2)) fun q e hq he => ?_)
    replace hq : Heap.ExtBut i2 g1 q := hq
    obtain ⟨oe, hoe, hce⟩ := he
    replace hoe : q.get? e = some oe := hoe
    have zq : q.get? z = some (zipO .ellipsis fl TI TO) := hq _ _ S.zi2 (k1.extBut _ _ S.TOz.symm (c1.extBut _ _ S.zi1 z0))
    have ne : e ≠ z := fun x => by subst x; rw [zq] at hoe; cases hoe; simp at hce
    refine wpAny_setField_rec (s := ⟨q, gs, dr, t1, os⟩) zq (by simp) fun q' _ kq => ?_
    replace kq : Heap.SameBut z q q' := kq
    exact fin q' t1 e (fun c o m1 m2 m3 m4 x => kq.extBut _ _ m1 (hq _ _ m4 (k1.extBut _ _ m2 (c1.extBut _ _ m3 (k0.extBut _ _ m1 x))))) ⟨oe, kq.extBut _ _ ne hoe, hce⟩
  · have h2 : i = n1 := by omega
    refine wpAny_bind (D1.done ⟨g0, gs, dr, t0, os⟩ _ _ (by rw [← h2]; exact (D1.over st1 k0 S.zf1)) fun q e hq he => ?_)
    replace hq : Heap.ExtBut i1 g0 q := hq
    obtain ⟨oe, hoe, hce⟩ := he
    replace hoe : q.get? e = some oe := hoe
    have zq : q.get? z = some (zipO .ellipsis fl TI TO) := hq _ _ S.zi1 z0
    have ne : e ≠ z := fun x => by subst x; rw [zq] at hoe; cases hoe; simp at hce
    refine wpAny_setField_rec (s := ⟨q, gs, dr, t0, os⟩) zq (by simp) fun q' _ kq => ?_
    replace kq : Heap.SameBut z q q' := kq
    exact fin q' t0 e (fun c o m1 m2 m3 m4 x => kq.extBut _ _ m1 (hq _ _ m3 (k0.extBut _ _ m1 x))) ⟨oe, kq.extBut _ _ ne hoe, hce⟩
/-- the last pair is held: a new one -/
theorem zk_item {fl : Bool} {T : Addr} {oT : Obj} {Q : Value → Shared → Prop} (S : ZipSep2 z TI TO i1 i2 fp1 fp2) (D1 : Draws prog w A i1 fp1 n1 P1 St1) (D2 : Draws prog w A i2 fp2 n2 P2 St2) (hz : s.heap.get? z = some (zipO (rawInt T) fl TI TO)) (hT : s.heap.get? T = some oT)
    (hTI : IsTupOf2 s.heap TI (.ref i1) (.ref i2)) (st1 : St1 i s.heap) (st2 : St2 i s.heap) (l1 : i < n1) (l2 : i < n2)
    (fin : ∀ u1 u2 h' tk, P1 i u1 → P2 i u2 → h'.get? z = some (zipO (rawInt T) true TI TO) → St1 (i + 1) h' → St2 (i + 1) h' → IsTupOf2 h' s.heap.objs.size u1 u2 → h'.objs.size = s.heap.objs.size + 1 →
      (∀ c o, c ≠ z → c ≠ i1 → c ≠ i2 → s.heap.get? c = some o → h'.get? c = some o) → Q (.ref s.heap.objs.size) { s with heap := h', toks := tk }) :
    wpAny (model prog w) A (Builtin.«zip.__next__» ⟨[.ref z], []⟩) (fun r s' => ∃ v, r = .done (.ret v) ∧ Q v s') E s := by
  obtain ⟨hp, gs, dr, t0, os⟩ := s
  show wpAny _ _ (field (.ref z) 2 >>= _) _ _ _
  refine wpAny_bind (wpAny_field hz rfl (x := .bool false) rfl ?_)
  show wpAny _ _ (field (.ref z) 3 >>= _) _ _ _
  refine wpAny_bind (wpAny_field hz rfl (x := .ref TI) rfl (wpAny_bind (wpAny_seqItems hTI rfl ?_)))
  show wpAny _ _ (Builtin.SmallTypes.ownedTupleIsFree (.ref z) >>= _) _ _ _
  refine wpAny_bind (wpAny_tupleHeld_zip hz hT fun g0 z0 k0 => ?_)
  replace z0 : g0.get? z = some (zipO (rawInt T) true TI TO) := z0
  replace k0 : Heap.SameBut z hp g0 := k0
  simp only [Bool.false_eq_true, if_false]
  refine wpAny_bind ?_
  rw [← Array.forIn_toList]
  simp only [List.forIn_cons, List.forIn_nil]
  refine wpAny_bind (wpAny_bind (wpAny_holding ?_))
  show wpAny _ _ (Builtin.SmallTypes.nextOf (.ref i1) >>= _) _ _ ⟨g0, gs, dr, t0, os⟩
  refine wpAny_bind (D1.item i _ _ _ l1 (D1.over st1 k0 S.zf1) fun u1 q1 t1 y1 e1 c1 => wpAny_pure (wpAny_pure ?_))
  replace c1 : Heap.SameBut i1 g0 q1 := c1
  refine wpAny_bind (wpAny_bind (wpAny_holding ?_))
  show wpAny _ _ (Builtin.SmallTypes.nextOf (.ref i2) >>= _) _ _ ⟨q1, gs, dr, t1, os⟩
  refine wpAny_bind (D2.item i _ _ _ l2 (D2.over (D2.over st2 k0 S.zf2) c1 S.sep1_2) fun u2 q2 t2 y2 e2 c2 => wpAny_pure (wpAny_pure (wpAny_pure ?_)))
  replace c2 : Heap.SameBut i2 q1 q2 := c2
  show wpAny _ _ (newTuple [u1, u2] >>= _) _ _ ⟨q2, gs, dr, t2, os⟩
  refine wpAny_bind (wpAny_newTuple ?_)
  have sz : q2.objs.size = hp.objs.size := by rw [c2.1, c1.1, k0.1]
  have zz : q2.get? z = some (zipO (rawInt T) true TI TO) := c2.extBut _ _ S.zi2 (c1.extBut _ _ S.zi1 z0)
  have kk : ∀ c o, c ≠ z → c ≠ i1 → c ≠ i2 → hp.get? c = some o → q2.get? c = some o := fun c o m1 m3 m4 e => c2.extBut _ _ m4 (c1.extBut _ _ m3 (k0.extBut _ _ m1 e))
  have w1 : St1 (i + 1) q2 := D1.over e1 c2 S.sep2_1
  refine wpAny_pure ⟨_, rfl, ?_⟩
  show Q (.ref q2.objs.size) ⟨q2.push { cls := .type "tuple", data := .seq #[u1, u2] }, gs, dr, t2, os⟩
  have hp' : IsTupOf2 (q2.push { cls := .type "tuple", data := .seq #[u1, u2] }) q2.objs.size u1 u2 := Heap.get?_push_size _ rfl
  have sp : (q2.push { cls := .type "tuple", data := .seq #[u1, u2] }).objs.size = q2.objs.size + 1 := Heap.size_push ..
  rw [sz] at hp' sp ⊢
  exact fin u1 u2 _ t2 y1 y2 (Heap.get?_push_of_some _ zz) (D1.frame _ _ _ w1 fun b hb o e => Heap.get?_push_of_some _ e) (D2.frame _ _ _ e2 fun b hb o e => Heap.get?_push_of_some _ e) hp' sp fun c o m1 m3 m4 e => Heap.get?_push_of_some _ (kk c o m1 m3 m4 e)
theorem zk_end {fl : Bool} {T : Addr} {oT : Obj} {Q : Fin → Shared → Prop} (S : ZipSep2 z TI TO i1 i2 fp1 fp2) (D1 : Draws prog w A i1 fp1 n1 P1 St1) (D2 : Draws prog w A i2 fp2 n2 P2 St2) (hz : s.heap.get? z = some (zipO (rawInt T) fl TI TO)) (hT : s.heap.get? T = some oT)
    (hTI : IsTupOf2 s.heap TI (.ref i1) (.ref i2)) (st1 : St1 i s.heap) (st2 : St2 i s.heap) (l1 : i ≤ n1) (l2 : i ≤ n2) (hend : i = n1 ∨ i = n2)
    (fin : ∀ h' tk e, (∀ c o, c ≠ z → c ≠ TO → c ≠ i1 → c ≠ i2 → s.heap.get? c = some o → h'.get? c = some o) → (∃ o, h'.get? e = some o ∧ o.cls = .type "StopIteration") → E (.ref e) { s with heap := h', toks := tk }) :
    wpAny (model prog w) A (Builtin.«zip.__next__» ⟨[.ref z], []⟩) Q E s := by
  obtain ⟨hp, gs, dr, t0, os⟩ := s
  show wpAny _ _ (field (.ref z) 2 >>= _) _ _ _
  refine wpAny_bind (wpAny_field hz rfl (x := .bool false) rfl ?_)
  show wpAny _ _ (field (.ref z) 3 >>= _) _ _ _
  refine wpAny_bind (wpAny_field hz rfl (x := .ref TI) rfl (wpAny_bind (wpAny_seqItems hTI rfl ?_)))
  show wpAny _ _ (Builtin.SmallTypes.ownedTupleIsFree (.ref z) >>= _) _ _ _
  refine wpAny_bind (wpAny_tupleHeld_zip hz hT fun g0 z0 k0 => ?_)
  replace z0 : g0.get? z = some (zipO (rawInt T) true TI TO) := z0
  replace k0 : Heap.SameBut z hp g0 := k0
  simp only [Bool.false_eq_true, if_false]
  refine wpAny_bind ?_
  rw [← Array.forIn_toList]
  simp only [List.forIn_cons, List.forIn_nil]
  refine wpAny_bind (wpAny_bind (wpAny_holding ?_))
  show wpAny _ _ (Builtin.SmallTypes.nextOf (.ref i1) >>= _) _ _ ⟨g0, gs, dr, t0, os⟩
  by_cases h1 : i < n1
  · refine wpAny_bind (D1.item i _ _ _ h1 (D1.over st1 k0 S.zf1) fun u1 q1 t1 y1 e1 c1 => wpAny_pure (wpAny_pure ?_))
    replace c1 : Heap.SameBut i1 g0 q1 := c1
    have h2 : i = n2 := by omega
    refine wpAny_bind (wpAny_bind (wpAny_holding ?_))
    show wpAny _ _ (Builtin.SmallTypes.nextOf (.ref i2) >>= _) _ _ ⟨q1, gs, dr, t1, os⟩
    refine wpAny_bind (D2.done ⟨q1, gs, dr, t1, os⟩ _ _ (by rw [← h2]; exact (D2.over (D2.over st2 k0 S.zf2) c1 S.sep1_2)) fun q e hq he => ?_)
    replace hq : Heap.ExtBut i2 q1 q := hq
    exact fin q t1 e (fun c o m1 m2 m3 m4 x => hq _ _ m4 (c1.extBut _ _ m3 (k0.extBut _ _ m1 x))) he
  · have h2 : i = n1 := by omega
    refine wpAny_bind (D1.done ⟨g0, gs, dr, t0, os⟩ _ _ (by rw [← h2]; exact (D1.over st1 k0 S.zf1)) fun q e hq he => ?_)
    replace hq : Heap.ExtBut i1 g0 q := hq
    exact fin q t0 e (fun c o m1 m2 m3 m4 x => hq _ _ m3 (k0.extBut _ _ m1 x)) he
/-- a zip between two turns: new, or with its last pair -/
def ZSt2 (h : Heap) (z TI TO i1 i2 : Addr) : Prop := ((∃ fl, h.get? z = some (zipO .none fl TI TO)) ∨ ∃ fl T, h.get? z = some (zipO (rawInt (T : Addr)) fl TI TO)) ∧ IsTupOf2 h TI (.ref i1) (.ref i2) ∧ ∃ a b, IsTupOf2 h TO a b
theorem zn_item {Q : Value → Shared → Prop} (S : ZipSep2 z TI TO i1 i2 fp1 fp2) (D1 : Draws prog w A.in1 i1 fp1 n1 P1 St1) (D2 : Draws prog w A.in1 i2 fp2 n2 P2 St2) (hs : ZSt2 s.heap z TI TO i1 i2) (st1 : St1 i s.heap) (st2 : St2 i s.heap) (l1 : i < n1) (l2 : i < n2)
    (fin : ∀ u1 u2 h' tk, P1 i u1 → P2 i u2 → ZSt2 h' z TI TO i1 i2 → St1 (i + 1) h' → St2 (i + 1) h' → IsTupOf2 h' s.heap.objs.size u1 u2 → h'.objs.size = s.heap.objs.size + 1 →
      (∀ c o, c ≠ z → c ≠ TO → c ≠ i1 → c ≠ i2 → s.heap.get? c = some o → h'.get? c = some o) → Q (.ref s.heap.objs.size) { s with heap := h', toks := tk }) :
    wpAny (model prog w) A (Builtin.SmallTypes.nextOf (.ref z)) Q E s := by
  obtain ⟨hz, hTI, a, b, hTO⟩ := hs
  have ty : s.TypeIs (.ref z) "zip" := by
    rcases hz with ⟨fl, hz⟩ | ⟨fl, T, hz⟩
    · exact ⟨_, hz, rfl⟩
    · exact ⟨_, hz, rfl⟩
  unfold Builtin.SmallTypes.nextOf
  refine wpAny_bind (wpAny_callSpecial?_slot (name := Str.ofString "__next__") ty F.slot_zip_next (wpAny_call_entry F.slot_zip_next ty F.entry_zip_next ?_ (F.args_zip_next_1 _)))
  have go : ∀ (f0 : Value) (fl : Bool), s.heap.get? z = some (zipO f0 fl TI TO) → (∀ (B : Around) (E' : Value → Shared → Prop) (Q' : Bool → Shared → Prop), Q' true s → wpAny (model prog w) B (Builtin.SmallTypes.ownedTupleIsFree (.ref z)) Q' E' s) → _ := fun f0 fl hz fr =>
    zf_item (A := A.in1) (E := E) (Q := fun v s' => wpAny (model prog w) A (pure v) Q E s') S D1 D2 hz (fr _ _) hTI hTO st1 st2 l1 l2 fun u1 u2 h' tk p1 p2 z1 o1 e1 e2 pr sz kp => wpAny_pure (fin u1 u2 h' tk p1 p2 ⟨.inr ⟨_, _, z1⟩, kp _ _ S.TIz S.TITO S.TIi1 S.TIi2 hTI, _, _, o1⟩ e1 e2 pr sz kp)
  rcases hz with ⟨fl, hz⟩ | ⟨fl, T, hz⟩
  · exact go _ _ hz fun B E' Q' q => free_none hz q
  · cases hT : s.heap.get? T with
    | none => exact go _ _ hz fun B E' Q' q => free_gone hz hT q
    | some oT =>
      exact zk_item (A := A.in1) (E := E) (Q := fun v s' => wpAny (model prog w) A (pure v) Q E s') S D1 D2 hz hT hTI st1 st2 l1 l2 fun u1 u2 h' tk p1 p2 z1 e1 e2 pr sz kp => wpAny_pure (fin u1 u2 h' tk p1 p2 ⟨.inr ⟨_, _, z1⟩, kp _ _ S.TIz S.TIi1 S.TIi2 hTI, a, b, kp _ _ S.TOz S.Ti1 S.Ti2 hTO⟩ e1 e2 pr sz fun c o m1 _ m3 m4 e => kp c o m1 m3 m4 e)
theorem zn_end {Q : Value → Shared → Prop} (S : ZipSep2 z TI TO i1 i2 fp1 fp2) (D1 : Draws prog w A.in1 i1 fp1 n1 P1 St1) (D2 : Draws prog w A.in1 i2 fp2 n2 P2 St2) (hs : ZSt2 s.heap z TI TO i1 i2) (st1 : St1 i s.heap) (st2 : St2 i s.heap) (l1 : i ≤ n1) (l2 : i ≤ n2) (hend : i = n1 ∨ i = n2)
    (fin : ∀ h' tk e, (∀ c o, c ≠ z → c ≠ TO → c ≠ i1 → c ≠ i2 → s.heap.get? c = some o → h'.get? c = some o) → (∃ o, h'.get? e = some o ∧ o.cls = .type "StopIteration") → E (.ref e) { s with heap := h', toks := tk }) :
    wpAny (model prog w) A (Builtin.SmallTypes.nextOf (.ref z)) Q E s := by
  obtain ⟨hz, hTI, a, b, hTO⟩ := hs
  have ty : s.TypeIs (.ref z) "zip" := by
    rcases hz with ⟨fl, hz⟩ | ⟨fl, T, hz⟩
    · exact ⟨_, hz, rfl⟩
    · exact ⟨_, hz, rfl⟩
  unfold Builtin.SmallTypes.nextOf
  refine wpAny_bind (wpAny_callSpecial?_slot (name := Str.ofString "__next__") ty F.slot_zip_next (wpAny_call_entry F.slot_zip_next ty F.entry_zip_next ?_ (F.args_zip_next_1 _)))
  rcases hz with ⟨fl, hz⟩ | ⟨fl, T, hz⟩
  · exact zf_end (A := A.in1) S D1 D2 hz (fun Q' q => free_none hz q) hTI hTO st1 st2 l1 l2 hend fin
  · cases hT : s.heap.get? T with
    | none => exact zf_end (A := A.in1) S D1 D2 hz (fun Q' q => free_gone hz hT q) hTI hTO st1 st2 l1 l2 hend fin
    | some oT => exact zk_end (A := A.in1) S D1 D2 hz hT hTI st1 st2 l1 l2 hend fin
end
end Dn
end
section
set_option Elab.async false
set_option linter.all false
set_option maxRecDepth 100000
set_option maxHeartbeats 2000000
/-! Dn60: enumerate over a zip. -/
namespace Dn
open PySem PySem.Spec PyProof.Rows L2
section
variable {prog : Program} {w : World} {A : Around} {E : Value → Shared → Prop} {s : Shared}
theorem en_item {e it : Addr} {i : Nat} {old : Value} {Q : Value → Shared → Prop} {R : Value → Heap → Nat → Prop} (he : IsEnum s.heap e it i old)
    (inner : ∀ (Q' : Value → Shared → Prop), (∀ u h1 tk, R u h1 tk → Q' u { s with heap := h1, toks := tk }) → wpAny (model prog w) A (Builtin.SmallTypes.nextOf (.ref it)) Q' E s)
    (hR : ∀ u h1 tk, R u h1 tk → h1.get? e = s.heap.get? e)
    (fin : ∀ u h1 h' tk, R u h1 tk → IsEnumOut h' e it ((i : Int) + 1) u h1.objs.size → h'.get? h1.objs.size = some { cls := .type "tuple", data := .seq #[.int i tk, u] } → h'.objs.size = h1.objs.size + 1 →
      (∀ b o, b ≠ e → h1.get? b = some o → h'.get? b = some o) → Q (.ref h1.objs.size) { s with heap := h', toks := tk + 1 }) :
    wpAny (model prog w) A (Builtin.«enumerate.__next__» ⟨[.ref e], []⟩) (fun r s' => ∃ v, r = .done (.ret v) ∧ Q v s') E s := by
  obtain ⟨hp, gs, dr, t0, os⟩ := s
  show wpAny _ _ (field (.ref e) 2 >>= _) _ _ _
  refine wpAny_bind (wpAny_field he rfl (x := .ref it) rfl (wpAny_bind (inner _ fun u h1 tk r => ?_)))
  have e1 : IsEnum h1 e it i old := (hR u h1 tk r).trans he
  show wpAny _ _ (field (.ref e) 3 >>= _) _ _ ⟨h1, gs, dr, tk, os⟩
  refine wpAny_bind (wpAny_field e1 rfl (x := rawInt i) rfl ?_)
  show wpAny _ _ (field (.ref e) 4 >>= _) _ _ ⟨h1, gs, dr, tk, os⟩
  refine wpAny_bind (wpAny_field e1 rfl (x := .none) rfl ?_)
  show wpAny _ _ (mkInt i >>= _) _ _ ⟨h1, gs, dr, tk, os⟩
  refine wpAny_bind (wpAny_mkInt ?_)
  show wpAny _ _ (setField (.ref e) 3 (rawInt ((i : Int) + 1)) >>= _) _ _ ⟨h1, gs, dr, tk + 1, os⟩
  refine wpAny_bind (wpAny_setField_rec e1 (by simp) fun h2 e2 k2 => ?_)
  replace k2 : Heap.SameBut e h1 h2 := k2
  replace e2 : IsEnum h2 e it ((i : Int) + 1) old := e2
  show wpAny _ _ (setField (.ref e) 4 .none >>= _) _ _ ⟨h2, gs, dr, tk + 1, os⟩
  refine wpAny_bind (wpAny_setField_rec e2 (by simp) fun h3 e3 k3 => ?_)
  replace k3 : Heap.SameBut e h2 h3 := k3
  replace e3 : IsEnum h3 e it ((i : Int) + 1) old := e3
  show wpAny _ _ (newTuple [.int i tk, u] >>= _) _ _ ⟨h3, gs, dr, tk + 1, os⟩
  refine wpAny_bind (wpAny_newTuple ?_)
  have e4 : IsEnum (h3.push { cls := .type "tuple", data := .seq #[.int i tk, u] }) e it ((i : Int) + 1) old := Heap.get?_push_of_some _ e3
  have sz : h3.objs.size = h1.objs.size := by rw [k3.1, k2.1]
  have el : e < h1.objs.size := Heap.lt_size e1
  have t4 : (h3.push { cls := .type "tuple", data := .seq #[.int i tk, u] }).get? h1.objs.size = some { cls := .type "tuple", data := .seq #[.int i tk, u] } := by rw [← sz]; exact Heap.get?_push_size _ rfl
  have z4 : (h3.push { cls := .type "tuple", data := .seq #[.int i tk, u] }).objs.size = h1.objs.size + 1 := by rw [Heap.size_push, sz]
  have kk : ∀ b o, b ≠ e → h1.get? b = some o → (h3.push { cls := .type "tuple", data := .seq #[.int i tk, u] }).get? b = some o := fun b o m x => Heap.get?_push_of_some _ (k3.extBut b o m (k2.extBut b o m x))
  generalize h3.push { cls := .type "tuple", data := .seq #[.int i tk, u] } = h4 at e4 t4 z4 kk
  show wpAny _ _ (Builtin.SmallTypes.ownedTupleIsFree (.ref e) >>= _) _ _ ⟨h4, gs, dr, tk + 1, os⟩
  rw [sz]
  refine wpAny_bind ?_
  unfold Builtin.SmallTypes.ownedTupleIsFree
  refine wpAny_bind (wpAny_field e4 rfl (x := .none) rfl (wpAny_pure ?_))
  simp only [if_true]
  refine wpAny_bind (wpAny_rule (wpAny_bind (wpAny_field e4 rfl (x := old) rfl (wpAny_bind (wpAny_setField_rec e4 (by simp) fun h5 e5 k5 => ?_)))))
  replace k5 : Heap.SameBut e h4 h5 := k5
  replace e5 : IsEnum h5 e it ((i : Int) + 1) u := e5
  show wpAny _ _ (Builtin.SmallTypes.ownedTupleHandOut (.ref e) (.ref h1.objs.size) >>= _) _ _ ⟨h5, gs, dr, tk + 1, os⟩
  refine wpAny_bind ?_
  unfold Builtin.SmallTypes.ownedTupleHandOut
  refine wpAny_bind (wpAny_setField_rec e5 (by simp) fun h6 e6 k6 => ?_)
  replace k6 : Heap.SameBut e h5 h6 := k6
  replace e6 : IsEnumOut h6 e it ((i : Int) + 1) u h1.objs.size := e6
  refine wpAny_setField_rec e6 (by simp) fun h7 e7 k7 => ?_
  replace k7 : Heap.SameBut e h6 h7 := k7
  replace e7 : IsEnumOut h7 e it ((i : Int) + 1) u h1.objs.size := e7
  have up : ∀ b o, b ≠ e → h4.get? b = some o → h7.get? b = some o := fun b o m x => k7.extBut b o m (k6.extBut b o m (k5.extBut b o m x))
  exact wpAny_bind (wpAny_letGo (wpAny_pure ⟨_, rfl, fin u h1 h7 tk r e7 (up _ _ (Nat.ne_of_gt el) t4) (by rw [k7.1, k6.1, k5.1, z4]) fun b o m x => up b o m (kk b o m x)⟩))
theorem en_next {e it : Addr} {i : Nat} {old : Value} {Q : Option Value → Shared → Prop} {R : Value → Heap → Nat → Prop} (he : IsEnum s.heap e it i old)
    (inner : ∀ (Q' : Value → Shared → Prop) (E' : Value → Shared → Prop), (∀ u h1 tk, R u h1 tk → Q' u { s with heap := h1, toks := tk }) → wpAny (model prog w) A.in1 (Builtin.SmallTypes.nextOf (.ref it)) Q' E' s)
    (hR : ∀ u h1 tk, R u h1 tk → h1.get? e = s.heap.get? e)
    (fin : ∀ u h1 h' tk, R u h1 tk → IsEnumOut h' e it ((i : Int) + 1) u h1.objs.size → h'.get? h1.objs.size = some { cls := .type "tuple", data := .seq #[.int i tk, u] } → h'.objs.size = h1.objs.size + 1 →
      (∀ b o, b ≠ e → h1.get? b = some o → h'.get? b = some o) → Q (some (.ref h1.objs.size)) { s with heap := h', toks := tk + 1 }) :
    wpAny (model prog w) A (pyNext (.ref e)) Q E s := by
  have ty : s.TypeIs (.ref e) "enumerate" := ⟨_, he, rfl⟩
  unfold pyNext
  exact wpAny_bind (wpAny_attempt (wpAny_callSpecial?_slot (name := Str.ofString "__next__") ty F.slot_enumerate_next
    (wpAny_call_entry F.slot_enumerate_next ty F.entry_enumerate_next (en_item he (fun Q' q => inner Q' _ q) hR fun u h1 h' tk a b c d k => wpAny_pure (fin u h1 h' tk a b c d k)) (F.args_enumerate_next_1 _))))
theorem en_stop {e it : Addr} {i : Int} {old : Value} {Q : Option Value → Shared → Prop} {R : Heap → Nat → Prop} (he : IsEnum s.heap e it i old)
    (inner : ∀ (Q' : Value → Shared → Prop) (E' : Value → Shared → Prop), (∀ x h1 tk, R h1 tk → (∃ o, h1.get? x = some o ∧ o.cls = .type "StopIteration") → E' (.ref x) { s with heap := h1, toks := tk }) → wpAny (model prog w) A.in1 (Builtin.SmallTypes.nextOf (.ref it)) Q' E' s)
    (fin : ∀ h1 tk, R h1 tk → Q none { s with heap := h1, toks := tk }) : wpAny (model prog w) A (pyNext (.ref e)) Q E s := by
  have ty : s.TypeIs (.ref e) "enumerate" := ⟨_, he, rfl⟩
  unfold pyNext
  refine wpAny_bind (wpAny_attempt (wpAny_callSpecial?_slot (name := Str.ofString "__next__") ty F.slot_enumerate_next (wpAny_call_entry F.slot_enumerate_next ty F.entry_enumerate_next ?_ (F.args_enumerate_next_1 _))))
  show wpAny _ _ (field (.ref e) 2 >>= _) _ _ _
  refine wpAny_bind (wpAny_field he rfl (x := .ref it) rfl (wpAny_bind (inner _ _ fun x h1 tk r hx => ?_)))
  obtain ⟨o, ho, hc⟩ := hx
  exact wpAny_bind (wpAny_isInstance (T := "StopIteration") (b := true) ⟨o, ho, hc⟩ isSubtype_stop (wpAny_pure (fin h1 tk r)))
end
/-- two new things behind a turn -/
theorem turnedTwo {X : Cx} {pins : List (Addr × Obj)} {σ : L2.St} {H : Hp} {s : Shared} {h' : Heap} {t' : Nat} {ch : List Addr} {T U : Addr} {ob oc : HO} (I : Inv X pins σ H s) (k : ∀ b o, b ∉ ch → s.heap.get? b = some o → h'.get? b = some o) (hf : ∀ b ∈ ch, FpOk X pins H b) (hT : s.heap.objs.size ≤ T) (hU : s.heap.objs.size ≤ U) (hne : U ≠ T)
    (new : ObjOk X.prog X.w (upd (upd H T ob) U oc) h' T ob) (new2 : ObjOk X.prog X.w (upd (upd H T ob) U oc) h' U oc) : Inv X pins σ (upd (upd H T ob) U oc) { s with heap := h', toks := t' } := by
  have hn : H T = none := I.hok.fresh hT
  have hm : H U = none := I.hok.fresh hU
  have off : ∀ b u, H b = some u → (upd (upd H T ob) U oc) b = some u := fun b u e => by rw [upd_ne (ne_of_none e hm), upd_ne (ne_of_none e hn)]; exact e
  have nit : ∀ b u, H b = some u → b ∉ ch := fun b u e z => by
    have q := (hf b z).1
    rw [q] at e; cases e
  refine I.step (g' := s.gens) (d' := s.drawn) (ch := ch) (fun b hb => ⟨(hf b hb).2.2.2.1, (hf b hb).2.1, (hf b hb).2.2.2.2.1, (hf b hb).2.2.2.2.2⟩) (fun b o _ _ hc e _ => k b o hc e) (fun b o _ _ hc e _ => ⟨o.slots, k b o hc e⟩)
    (fun b o _ e n => ?_) (fun b o hc e => ⟨o, k b o hc e⟩) (fun b xs e => off _ _ e) (fun b o u e => off _ _ e) (fun b ps e => ⟨#[], by rw [off _ _ e]; simp⟩) (fun m hq => ?_) (fun b u e => ?_) I.bare
  · rw [upd_ne (Nat.ne_of_lt (Nat.lt_of_lt_of_le (Heap.lt_size e) hU)), upd_ne (Nat.ne_of_lt (Nat.lt_of_lt_of_le (Heap.lt_size e) hT))]; exact n
  · obtain ⟨o, es, ep, ho, r⟩ := hq
    exact ⟨o, es, ep, k _ o (fun z => (hf _ z).2.1 rfl) ho, r⟩
  · by_cases hb : b = U
    · subst hb
      rw [upd_same] at e
      cases e
      exact new2
    · rw [upd_ne hb] at e
      by_cases hb2 : b = T
      · subst hb2
        rw [upd_same] at e
        cases e
        exact new
      · rw [upd_ne hb2] at e
        refine (I.hok b u e).stay (fun c v hc q => k c v ?_ q) (fun c q => off _ _ q) fun c xs q => off _ _ q
        rcases hc with z | z
        · rw [z]; exact nit b u e
        · exact nit c _ z
/-- enumerate(zip(..)): the items in new pairs, each in a new pair behind its number -/
def ItezS (K : PySem.W.Frag) (s1 s2 : SV) : It :=
  ⟨fun i H => ∃ xs ys, s1.has K H xs ∧ s2.has K H ys ∧ i < xs.length ∧ i < ys.length,
    fun i H v H' => ∃ T U x y, v = .ref U ∧ H T = none ∧ H U = none ∧ U ≠ T ∧ H' = upd (upd H T (.tup [x, y])) U (.tup [.int (i : Nat), .ref T]) ∧ (∀ xs, s1.has K H xs → xs[i]? = some x) ∧ ∀ ys, s2.has K H ys → ys[i]? = some y,
    fun i H => ∃ xs ys, s1.has K H xs ∧ s2.has K H ys ∧ i ≤ xs.length ∧ i ≤ ys.length ∧ (i = xs.length ∨ i = ys.length)⟩
theorem turn_ezS {P : Program} {w : World} {K : PySem.W.Frag} {elts : List Expr} {kk : Nat} {tpos : Pos} {s1 s2 : SV} {e z TI TO i1 i2 : Addr} (D : SepS z TI TO i1 i2 s1 s2) (n1 : e ≠ z) (n2 : e ≠ TI) (n3 : e ≠ TO) (n4 : e ≠ i1) (n5 : e ≠ i2) :
    Turn P w K (.Tuple elts kk tpos) (ItezS K s1 s2) [e, z, TI, TO, i1, i2] e (fun i h => (∃ old, IsEnum h e z ((i : Nat) : Int) old) ∧ ZSt2 h z TI TO i1 i2 ∧ s1.at_ i1 i h ∧ s2.at_ i2 i h) where
  mem := by simp
  obj := fun i h st c hc => by
    obtain ⟨⟨old, he⟩, ⟨hz, hTI, x, y, hTO⟩, h1, h2⟩ := st
    have e' : c = e ∨ c = z ∨ c = TI ∨ c = TO ∨ c = i1 ∨ c = i2 := by simpa using hc
    rcases e' with q | q | q | q | q | q
    · rw [q]; exact ⟨_, he, fun v q => nomatch q⟩
    · rw [q]
      rcases hz with ⟨fl, hz⟩ | ⟨fl, T, hz⟩
      · exact ⟨_, hz, fun v q => nomatch q⟩
      · exact ⟨_, hz, fun v q => nomatch q⟩
    · rw [q]; exact ⟨_, hTI, fun v q => nomatch q⟩
    · rw [q]; exact ⟨_, hTO, fun v q => nomatch q⟩
    · rw [q]; exact SV.live h1
    · rw [q]; exact SV.live h2
  keep := fun i h h' st k => by
    obtain ⟨⟨old, he⟩, ⟨hz, hTI, x, y, hTO⟩, h1, h2⟩ := st
    refine ⟨⟨old, k e (by simp) _ he⟩, ⟨?_, k TI (by simp) _ hTI, x, y, k TO (by simp) _ hTO⟩, SV.at_of h1 fun o q => k i1 (by simp) o q, SV.at_of h2 fun o q => k i2 (by simp) o q⟩
    rcases hz with ⟨fl, hz⟩ | ⟨fl, T, hz⟩
    · exact .inl ⟨fl, k z (by simp) _ hz⟩
    · exact .inr ⟨fl, T, k z (by simp) _ hz⟩
  item := by
    intro X hP hw hK hc i pins s σ H E I hf st hg
    subst hP hw hK
    obtain ⟨⟨old, he⟩, zs, h1, h2⟩ := st
    obtain ⟨xs, ys, hx, hy, lx, ly⟩ := hg
    obtain ⟨fp1, P1, St1, D1, t1, k1, v1, m1, o1⟩ := sv_draws I (B := X.A.in1.in1) (I.ok.hd hc) hx h1 D.a1
    obtain ⟨fp2, P2, St2, D2, t2, k2, v2, m2, o2⟩ := sv_draws I (B := X.A.in1.in1) (I.ok.hd hc) hy h2 D.b1
    have hel : e < s.heap.objs.size := Heap.lt_size he
    refine en_next (R := fun u h1 tk => ∃ u1 u2, u = .ref s.heap.objs.size ∧ P1 i u1 ∧ P2 i u2 ∧ ZSt2 h1 z TI TO i1 i2 ∧ St1 (i + 1) h1 ∧ St2 (i + 1) h1 ∧ IsTupOf2 h1 s.heap.objs.size u1 u2 ∧ h1.objs.size = s.heap.objs.size + 1 ∧ ∀ c o, c ≠ z → c ≠ TO → c ≠ i1 → c ≠ i2 → s.heap.get? c = some o → h1.get? c = some o) he
      (fun Q' E' q => zn_item (A := X.A.in1) (D.sep m1 m2 o1 o2) D1 D2 zs t1 t2 lx ly fun u1 u2 h' tk p1 p2 z' e1 e2 pr sz kp => q _ _ _ ⟨u1, u2, rfl, p1, p2, z', e1, e2, pr, sz, kp⟩) ?_ ?_
    · rintro u hh tk ⟨u1, u2, _, _, _, _, _, _, _, _, kp⟩
      rw [he]
      exact kp _ _ n1 n3 n4 n5 he
    · rintro u hh h' tk ⟨u1, u2, rfl, p1, p2, z', e1, e2, pr, sz, kp⟩ eo tu su kq
      refine ⟨_, rfl, wpAny_letOwnedTupleGo_enum (s := { s with heap := h', toks := tk + 1 }) eo fun h'' e'' sb => ?_⟩
      obtain ⟨x, ex, rx⟩ := v1 _ _ p1
      obtain ⟨y, ey, ry⟩ := v2 _ _ p2
      have lT : e ≠ s.heap.objs.size := Nat.ne_of_lt hel
      have lU : e ≠ hh.objs.size := by rw [sz]; exact Nat.ne_of_lt (Nat.lt_succ_of_lt hel)
      have hT2 : h''.get? s.heap.objs.size = some { cls := .type "tuple", data := .seq #[u1, u2] } := (sb.2 _ lT.symm).trans (kq _ _ lT.symm pr)
      have hU2 : h''.get? hh.objs.size = some { cls := .type "tuple", data := .seq #[.int i tk, .ref s.heap.objs.size] } := (sb.2 _ lU.symm).trans tu
      have keep : ∀ c o, c ≠ e → c ≠ z → c ≠ TO → c ≠ i1 → c ≠ i2 → s.heap.get? c = some o → h''.get? c = some o := fun c o q0 q1 q2 q3 q4 x => (sb.2 c q0).trans (kq c o q0 (kp c o q1 q2 q3 q4 x))
      have neU : hh.objs.size ≠ s.heap.objs.size := by rw [sz]; exact Nat.ne_of_gt (Nat.lt_succ_self _)
      have I1 : Inv X pins σ (upd (upd H s.heap.objs.size (.tup [x, y])) hh.objs.size (.tup [.int (i : Nat), .ref s.heap.objs.size])) { s with heap := h'', toks := tk + 1 } :=
        turnedTwo (t' := tk + 1) (ch := [e, z, TI, TO, i1, i2]) I (fun c o hb q => keep c o (fun q' => hb (by simp [q'])) (fun q' => hb (by simp [q'])) (fun q' => hb (by simp [q'])) (fun q' => hb (by simp [q'])) (fun q' => hb (by simp [q'])) q) hf (Nat.le_refl _) (by rw [sz]; exact Nat.le_succ _) neU
          ⟨by show 2 ≤ sizeLine; decide, [u1, u2], .cons rx (.cons ry .nil), ⟨_, hT2, rfl, _, rfl⟩⟩ ⟨by show 2 ≤ sizeLine; decide, [.int i tk, .ref s.heap.objs.size], .cons ⟨_, rfl⟩ (.cons rfl .nil), ⟨_, hU2, rfl, _, rfl⟩⟩
      have fU : H hh.objs.size = none := I.hok.fresh (by rw [sz]; exact Nat.le_succ _)
      refine ⟨.ref hh.objs.size, _, I1, rfl, ⟨_, _, x, y, rfl, I.hok.fresh (Nat.le_refl _), fU, neU, rfl, fun l hl => by rw [sv_inj I hl hx]; exact ex, fun l hl => by rw [sv_inj I hl hy]; exact ey⟩, ⟨⟨.ref s.heap.objs.size, ?_⟩, ?_, ?_, ?_⟩, fun c hcm => ?_⟩
      · have e1 : ((i + 1 : Nat) : Int) = (i : Int) + 1 := by omega
        rw [e1]; exact e''
      · obtain ⟨hz, hTI, a, b, hTO⟩ := z'
        have up : ∀ c o, c ≠ e → hh.get? c = some o → h''.get? c = some o := fun c o q x => (sb.2 c q).trans (kq c o q x)
        refine ⟨?_, up _ _ n2.symm hTI, a, b, up _ _ n3.symm hTO⟩
        rcases hz with ⟨fl, hz⟩ | ⟨fl, T, hz⟩
        · exact .inl ⟨fl, up _ _ n1.symm hz⟩
        · exact .inr ⟨fl, T, up _ _ n1.symm hz⟩
      · exact SV.at_of (k1 _ _ e1) fun o q => (sb.2 _ n4.symm).trans (kq _ o n4.symm q)
      · exact SV.at_of (k2 _ _ e2) fun o q => (sb.2 _ n5.symm).trans (kq _ o n5.symm q)
      · obtain ⟨hz, hTI, a, b, hTO⟩ := zs
        have hlt : c < s.heap.objs.size := by
          have e' : c = e ∨ c = z ∨ c = TI ∨ c = TO ∨ c = i1 ∨ c = i2 := by simpa using hcm
          rcases e' with q | q | q | q | q | q
          · rw [q]; exact hel
          · rw [q]
            rcases hz with ⟨fl, hz⟩ | ⟨fl, T, hz⟩
            · exact Heap.lt_size hz
            · exact Heap.lt_size hz
          · rw [q]; exact Heap.lt_size hTI
          · rw [q]; exact Heap.lt_size hTO
          · rw [q]; obtain ⟨_, e1, _⟩ := SV.live h1; exact Heap.lt_size e1
          · rw [q]; obtain ⟨_, e1, _⟩ := SV.live h2; exact Heap.lt_size e1
        rw [upd_ne (by rw [sz]; exact Nat.ne_of_lt (Nat.lt_succ_of_lt hlt)), upd_ne (Nat.ne_of_lt hlt)]
        exact (hf c hcm).1
  done := by
    intro X hP hw hK hc i pins s σ H E I hf st hg
    subst hP hw hK
    obtain ⟨⟨old, he⟩, zs, h1, h2⟩ := st
    obtain ⟨xs, ys, hx, hy, lx, ly, hend⟩ := hg
    obtain ⟨fp1, P1, St1, D1, t1, k1, v1, m1, o1⟩ := sv_draws I (B := X.A.in1.in1) (I.ok.hd hc) hx h1 D.a1
    obtain ⟨fp2, P2, St2, D2, t2, k2, v2, m2, o2⟩ := sv_draws I (B := X.A.in1.in1) (I.ok.hd hc) hy h2 D.b1
    refine en_stop (R := fun h1 tk => ∀ c o, c ≠ z → c ≠ TO → c ≠ i1 → c ≠ i2 → s.heap.get? c = some o → h1.get? c = some o) he (fun Q' E' q => zn_end (A := X.A.in1) (D.sep m1 m2 o1 o2) D1 D2 zs t1 t2 lx ly hend fun h' tk x kp hx => q _ _ _ kp hx) fun h' tk hk => ?_
    exact ⟨rfl, I.turnedL (t' := tk) (ch := [e, z, TI, TO, i1, i2]) (fun c o hb q => hk c o (fun q' => hb (by simp [q'])) (fun q' => hb (by simp [q'])) (fun q' => hb (by simp [q'])) (fun q' => hb (by simp [q'])) q) hf⟩
  self := fun A i s Q E st h => let ⟨⟨_, he⟩, _⟩ := st; wpAny_pyIter_enum he h
end Dn
end
section
set_option Elab.async false
set_option linter.all false
set_option maxRecDepth 100000
set_option maxHeartbeats 2000000
/-! Dn61: enumerate over a zip: the rule, the reading. -/
namespace Dn
open PySem PySem.Spec PyProof.Rows L2
theorem meets_enum_zip (z TI TO : Addr) (f0 : Value) :
    Meets (Builtin.«enumerate.__new__» ⟨[.type "enumerate", .ref z], []⟩) (fun _ R s => IsZip s.heap z TI TO f0 ∧
      R (.ok (.ret (.ref s.heap.objs.size))) { s with heap := s.heap.push { cls := .type "enumerate", data := .fields #[.none, .bool false, .ref z, rawInt 0, .none, .none] } }) :=
  .of_wp fun prog w A R s h => by
    obtain ⟨hp, gs, dr, tk, os⟩ := s
    obtain ⟨hz, h⟩ := h
    have hsub := sub_enumerate
    have q1 : ∀ {B : Around} {E : Value → Shared → Prop} {Q : Value → Shared → Prop}, Q (.ref z) ⟨hp, gs, dr, tk, os⟩ → wpAny (model prog w) B (pyIter (.ref z)) Q E ⟨hp, gs, dr, tk, os⟩ := fun q => wpAny_pyIter_zip (s := ⟨hp, gs, dr, tk, os⟩) hz q
    wp_walk using q1
    refine wpAny_stack_any fun st => wpAny_pure ?_
    split
    · rename_i c _ _ _ _ _
      cases (c == Value.type "enumerate")
      · wp_walk using q1
        exact ⟨_, rfl, h⟩
      · wp_walk using q1
        exact ⟨_, rfl, h⟩
    · wp_walk using q1
      exact ⟨_, rfl, h⟩
section
variable {prog : Program} {w : World} {A : Around} {E : Value → Shared → Prop} {s : Shared}
theorem call_enum_zip {z TI TO : Addr} {f0 : Value} {Q : Value → Shared → Prop} (hz : IsZip s.heap z TI TO f0)
    (h : ∀ h', IsEnum h' s.heap.objs.size z 0 .none → h'.objs.size = s.heap.objs.size + 1 → (∀ b o, s.heap.get? b = some o → h'.get? b = some o) → Q (.ref s.heap.objs.size) { s with heap := h' }) :
    wpAny (model prog w) A (call (.type "enumerate") [.ref z]) Q E s := by
  refine callType_new F.called_enumerate (by decide) (F.typeCall_enumerate_1 _) (F.newCall_enumerate_1 _) (fun obj => F.args_object_init_2 obj _) F.entry_enumerate_new (meets_enum_zip z TI TO f0) ⟨hz, ?_⟩
  have he : IsEnum (s.heap.push { cls := .type "enumerate", data := .fields #[.none, .bool false, .ref z, rawInt 0, .none, .none] }) s.heap.objs.size z 0 .none := Heap.get?_push_size _ rfl
  show _ ∧ _
  exact ⟨⟨_, he, rfl⟩, h _ he (Heap.size_push ..) fun b o x => Heap.get?_push_of_some _ x⟩
end
def iEzS (K : PySem.W.Frag) (ta : TA) : TI := fun σ H R => ta σ H fun vs H1 => ∃ (s1 s2 : SV) (xs ys : List V), vs = [s1.val, s2.val] ∧ s1.has K H1 xs ∧ s2.has K H1 ys ∧ R (ItezS K s1 s2) H1
theorem pi_ezS {X : Cx} {e e2 : Expr} {ta : TA} {p p2 pos pos2 tpos : Pos} {elts : List Expr} {kk : Nat} (hg : Gl X "enumerate") (hm : X.mg "enumerate" = none) (hg2 : Gl X "zip") (hm2 : X.mg "zip" = none) (ha : PA X [e, e2] ta)
    (hs : starEach [.Call (.Name "zip" p2) [e, e2] [] pos2] X.env = (false, eval (.Call (.Name "zip" p2) [e, e2] [] pos2) X.env) :: starEach [] X.env) (hs2 : starEach [e, e2] X.env = (false, eval e X.env) :: starEach [e2] X.env) (hpl : (backTo pos2 (starEach [e2] X.env)).any (·.1) = false) :
    PI X (.Tuple elts kk tpos) (.Call (.Name "enumerate" p) [.Call (.Name "zip" p2) [e, e2] [] pos2] [] pos) (iEzS X.K ta) := by
  refine ⟨fun pins s σ H R I h => ?_⟩
  refine Call_ (ld_blt I hg hm boot_enumerate (PyProof.Rows.callWith_type1 ?_ hs rfl))
  rw [hs]
  show wpAny _ _ (spliced ((false, eval (.Call (.Name "zip" p2) [e, e2] [] pos2) X.env) :: backTo pos (starEach [] X.env))) _ _ s
  refine Calls.spliced_cons ?_
  refine wpAny_Call_Name_kw (ld_blt I hg2 hm2 PyProof.Rows.boot_zip (PyProof.Rows.callWith_type1 (thn (ha.run pos2 pins s σ H _ I h) fun us s1 ⟨vs, H1, I1, r1, q1⟩ => ?_) hs2 hpl))
  obtain ⟨v1, v2, xs, ys, ex, hx, hy, q⟩ := q1
  subst ex
  cases r1 with
  | cons r rr =>
    cases rr with
    | cons r' rr =>
      cases rr
      obtain ⟨b1, Hh1, B1, c1, t1, o1⟩ := sv_begins I1 hx r
      obtain ⟨b2, Hh2, B2, c2, t2, o2⟩ := sv_begins I1 hy r'
      refine zip_begins2 B1 B2 c1 c2 fun h' hz hTI hTO g1 g2 hsz hk => Calls.spliced_nil ?_
      refine call_enum_zip (s := { s1 with heap := h' }) hz fun h2 he sz2 hk2 => wpAny_pyIter_enum he ?_
      have hsz' : ({ s1 with heap := h' } : Shared).heap.objs.size = s1.heap.objs.size + 5 := hsz
      rw [hsz'] at he ⊢
      have kp : ∀ b o, s1.heap.get? b = some o → h2.get? b = some o := fun b o x => hk2 b o (hk b o x)
      have I2 : Inv X pins σ H1 { s1 with heap := h2 } := I1.kept (t' := s1.toks) kp
      have ne : ∀ a b : Nat, ¬ a = b → (s1.heap.objs.size + a : Nat) ≠ s1.heap.objs.size + b := fun a b h e => h (Nat.add_left_cancel e)
      refine ⟨s1.heap.objs.size + 5, [s1.heap.objs.size + 5, s1.heap.objs.size + 4, s1.heap.objs.size + 2, s1.heap.objs.size + 3, s1.heap.objs.size, s1.heap.objs.size + 1], _, _, H1, rfl, I2,
        turn_ezS (sepS_new o1 o2) (ne 5 4 (by decide)) (ne 5 2 (by decide)) (ne 5 3 (by decide)) (ne 5 0 (by decide)) (ne 5 1 (by decide)), ⟨⟨.none, he⟩, ⟨.inl ⟨false, hk2 _ _ hz⟩, hk2 _ _ hTI, _, _, hk2 _ _ hTO⟩, t1 _ _ (hk2 _ _ g1), t2 _ _ (hk2 _ _ g2)⟩, fun c hcm => ?_, q⟩
      have e' : c = s1.heap.objs.size + 5 ∨ c = s1.heap.objs.size + 4 ∨ c = s1.heap.objs.size + 2 ∨ c = s1.heap.objs.size + 3 ∨ c = s1.heap.objs.size ∨ c = s1.heap.objs.size + 1 := by simpa using hcm
      have hle : s1.heap.objs.size ≤ c := by
        rcases e' with z | z | z | z | z | z
        · rw [z]; exact Nat.le_add_right _ _
        · rw [z]; exact Nat.le_add_right _ _
        · rw [z]; exact Nat.le_add_right _ _
        · rw [z]; exact Nat.le_add_right _ _
        · rw [z]; exact Nat.le_refl _
        · rw [z]; exact Nat.le_add_right _ _
      exact I1.fpOk hle (I1.hok.fresh hle)
theorem wk_ez {K : PySem.W.Frag} {T : Tbs} {W : Wd} {s1 s2 : SV} {l1 l2 : List Dt} (r1 : SvR K W s1 l1) (r2 : SvR K W s2 l2) : WkR K T W (.ez (.ds l1) (.ds l2)) (ItezS K s1 s2) := by
  intro W1 H1 h1 le hr i
  obtain ⟨vs, hv, rv⟩ := r1.has le hr
  obtain ⟨ws, hw, rw'⟩ := r2.has le hr
  have e1 := rv.length
  have e2 := rw'.length
  show (match (if i ≤ l1.length ∧ i ≤ l2.length then pair1 (.int i) (pair2 (some (match l1[i]? with | some x => some (Vx.d x) | none => none)) (some (match l2[i]? with | some x => some (Vx.d x) | none => none))) else none) with | some (some y) => _ | some none => _ | none => True)
  by_cases hi : i ≤ l1.length ∧ i ≤ l2.length
  · rw [if_pos hi]
    cases d1 : l1[i]? with
    | none =>
      have q := List.getElem?_eq_none_iff.mp d1
      exact show (ItezS K s1 s2).stop i H1 from ⟨vs, ws, hv, hw, by omega, by omega, .inl (by omega)⟩
    | some x =>
      have q1 := (List.getElem?_eq_some_iff.mp d1).1
      cases d2 : l2[i]? with
      | none =>
        have q := List.getElem?_eq_none_iff.mp d2
        exact show (ItezS K s1 s2).stop i H1 from ⟨vs, ws, hv, hw, by omega, by omega, .inr (by omega)⟩
      | some y =>
        have q2 := (List.getElem?_eq_some_iff.mp d2).1
        obtain ⟨v, f1, g1⟩ := rv.get d1
        obtain ⟨u, f2, g2⟩ := rw'.get d2
        refine ⟨⟨vs, ws, hv, hw, by omega, by omega⟩, fun z H2 yl => ?_⟩
        obtain ⟨Tn, U, x', y', rfl, hT, hU, hne, rfl, y1, y2⟩ := yl
        have z1 := y1 vs hv
        rw [f1] at z1
        cases z1
        have z2 := y2 ws hw
        rw [f2] at z2
        cases z2
        obtain ⟨hr2, ex2⟩ := hr.new hT (o := .tup [v, u]) (fun ps z => by cases z)
        have hU2 : upd H1 Tn (.tup [v, u]) U = none := by rw [upd_ne hne]; exact hU
        obtain ⟨hr3, ex3⟩ := hr2.new hU2 (o := .tup [.int (i : Nat), .ref Tn]) (fun ps z => by cases z)
        refine ⟨_, ex2.trans ex3, hr3, RepD.tup (.inl (.inl upd_same)) (.cons (.int _) (.cons ?_ .nil))⟩
        exact RepD.le ex3.F (RepD.tup (.inl (.inl upd_same)) (.cons (RepD.le ex2.F g1) (.cons (RepD.le ex2.F g2) .nil)))
  · rw [if_neg hi]
    trivial
section
variable {X : Cx} {g : Gp} {Wx : WX} {pos : Pos}
def wEnZ (fs : DEnv → Mo (List Vx)) : DEnv → Mo Wk := fun ρ => bnd (fs ρ) fun as h => match as with
  | [a, b] => (match srcZ a, srcZ b with
    | some x, some y => .ok (.ez (.ds x) (.ds y)) h
    | _, _ => .stk)
  | _ => .stk
theorem pd_enZ {elts : List Expr} {kk : Nat} {tpos : Pos} {e e2 : Expr} {fs : DEnv → Mo (List Vx)} {p p2 pos2 : Pos} (hg : Gl X "enumerate") (hm : X.mg "enumerate" = none) (hg2 : Gl X "zip") (hm2 : X.mg "zip" = none) (ha : PA X [e, e2] (LA X.K g Wx fs))
    (hs : starEach [.Call (.Name "zip" p2) [e, e2] [] pos2] X.env = (false, eval (.Call (.Name "zip" p2) [e, e2] [] pos2) X.env) :: starEach [] X.env) (hs2 : starEach [e, e2] X.env = (false, eval e X.env) :: starEach [e2] X.env) (hpl : (backTo pos2 (starEach [e2] X.env)).any (·.1) = false) :
    PI X (.Tuple elts kk tpos) (.Call (.Name "enumerate" p) [.Call (.Name "zip" p2) [e, e2] [] pos2] [] pos) (LI X.K g Wx (wEnZ fs)) := by
  refine ⟨fun pins s σ H R I h => (pi_ezS hg hm hg2 hm2 ha hs hs2 hpl).run pins s σ H R I ?_⟩
  refine Lf.imp (Lf.bnd (R := RVs X.K) h) fun v H1 ⟨W1, ρ, y, h1, hr1, er, rr, p1⟩ => ?_
  split at p1
  · rename_i a b
    obtain ⟨x, z, rfl, r1, r2⟩ := rr.two
    split at p1
    · rename_i l1 l2 e1 e2
      obtain ⟨s1, rfl, q1⟩ := srcZ_rep hr1 r1 e1
      obtain ⟨s2, rfl, q2⟩ := srcZ_rep hr1 r2 e2
      obtain ⟨vs, hv, _⟩ := q1.has (WLe.refl _) hr1
      obtain ⟨ws, hw, _⟩ := q2.has (WLe.refl _) hr1
      exact ⟨s1, s2, vs, ws, rfl, hv, hw, p1.ret hr1 (wk_ez q1 q2)⟩
    · exact p1.elim
  · exact p1.elim
end
end Dn
end
section
set_option Elab.async false
set_option linter.all false
set_option maxRecDepth 100000
set_option maxHeartbeats 2000000
/-! Dn62: a[lo::k] of tuples and texts. -/
namespace Dn
open PySem PySem.Spec PyProof.Rows L2
/-- the places lo, lo + k, .. below n -/
def stepN (n lo k : Nat) : Nat := if min lo n < n then (n - min lo n - 1) / k + 1 else 0
def pickS {α : Type} (xs : List α) (lo k : Nat) : List α := (List.range (stepN xs.length lo k)).filterMap fun m => xs[min lo xs.length + m * k]?
section
variable {X : Cx}
def SlR3 (X : Cx) (r : V → Nat → Nat → Hp → VK → Prop) : Prop :=
  ∀ (pins : List (Addr × Obj)) (s : Shared) (σ : L2.St) (H : Hp) (x : V) (v vl vs : Value) (lo k : Nat) (sl : Addr) (Q : VK), Inv X pins σ H s → RelV x v → s.heap.IsSliceOf sl vl .none vs → IsPart vl (some (lo : Int)) → IsPart vs (some (k : Int)) → r x lo k H Q →
    ∃ T id, typeLookup (.type T) "__getitem__" = pure (some (.builtin id)) ∧ s.TypeIs v T ∧ wpAny (model X.prog X.w) X.A (getItem v (.ref sl)) (EP X pins σ Q) X.xe s
theorem SlR3.or {r r' : V → Nat → Nat → Hp → VK → Prop} (h : SlR3 X r) (h' : SlR3 X r') : SlR3 X (fun x lo k H Q => r x lo k H Q ∨ r' x lo k H Q) := by
  intro pins s σ H x v vl vs lo k sl Q I rx hs pl pu q
  rcases q with q | q
  · exact h pins s σ H x v vl vs lo k sl Q I rx hs pl pu q
  · exact h' pins s σ H x v vl vs lo k sl Q I rx hs pl pu q
def tSl3 (r : V → Nat → Nat → Hp → VK → Prop) (te : TE) (tl tk : TO) : TE := fun σ H Q => te σ H fun x H1 => tl σ H1 fun l H2 => tk σ H2 fun u H3 => ∃ lo k : Nat, l = some (lo : Int) ∧ u = some (k : Int) ∧ r x lo k H3 Q
theorem pe_slice3 {e : Expr} {te : TE} {lo : Option Expr} {st : Expr} {tl tk : TO} {pos p2 : Pos} {r : V → Nat → Nat → Hp → VK → Prop} (hr : SlR3 X r) (he : PE X e te) (hl : PO X lo tl) (hk : PO X (some st) tk) : PE X (.Subscript e (.Slice lo none (some st) p2) pos) (tSl3 r te tl tk) := by
  refine ⟨fun pins s σ H Q I h => ?_⟩
  refine Subscript_ (thn (he.run pins s σ H _ I h) fun v s1 ⟨x, H1, I1, r1, q1⟩ => ?_)
  refine wpAny_Slice (thn (hl.run pins s1 σ H1 _ I1 q1) fun vl s2 ⟨l, H2, I2, pl, q2⟩ => ?_)
  rw [evalPart_none]
  refine wpAny_pure (thn (hk.run pins s2 σ H2 _ I2 q2) fun vs s3 ⟨u, H3, I3, pu, q3⟩ => ?_)
  obtain ⟨lo', k', rfl, rfl, q4⟩ := q3
  have I4 : Inv X pins σ H3 { s3 with heap := s3.heap.push { cls := .type "slice", data := .fields #[vl, .none, vs] } } := I3.kept (t' := s3.toks) fun b ob q => Heap.get?_push_of_some _ q
  obtain ⟨T, id, hT, ht, hg⟩ := hr pins { s3 with heap := s3.heap.push { cls := .type "slice", data := .fields #[vl, .none, vs] } } σ H3 x v vl vs lo' k' s3.heap.objs.size Q I4 r1 (Heap.IsSliceOf.new ..) pl pu q4
  show wpAny (model X.prog X.w) X.A (subscriptTail e (.Slice lo none (some st) p2) v (.ref s3.heap.objs.size)) (EP X pins σ Q) X.xe { s3 with heap := s3.heap.push { cls := .type "slice", data := .fields #[vl, .none, vs] } }
  exact tail_any (ops := [v, .ref s3.heap.objs.size]) ht hT hg (by with_unfolding_all rfl)
end
section
variable {prog : Program} {w : World} {A : Around} {E : Value → Shared → Prop} {s : Shared}
theorem adjustS (lo k n : Nat) (hk : 0 < k) : Builtin.Slice.sliceAdjust (some (lo : Int)) none (k : Int) (n : Int) = (((min lo n : Nat) : Int), (n : Int)) := by
  have h1 : ¬ ((k : Int) < 0) := by omega
  unfold Builtin.Slice.sliceAdjust
  simp only [h1, if_false]
  refine Prod.ext ?_ rfl
  show (if (lo : Int) < 0 then max ((lo : Int) + (n : Int)) 0 else min (lo : Int) (n : Int)) = _
  rw [if_neg (by omega)]
  omega
theorem placesS (lo k n : Nat) (hk : 0 < k) : Builtin.Slice.slicePlaces ((min lo n : Nat) : Int) (n : Int) (k : Int) = stepN n lo k := by
  unfold Builtin.Slice.slicePlaces stepN
  have h1 : (k : Int) > 0 := by omega
  simp only [h1, if_true]
  by_cases h : min lo n < n
  · rw [if_pos (by omega : ((min lo n : Nat) : Int) < (n : Int)), if_pos h]
    have e : (n : Int) - ((min lo n : Nat) : Int) - 1 = ((n - min lo n - 1 : Nat) : Int) := by omega
    rw [e]
    have e2 : ((n - min lo n - 1 : Nat) : Int) / (k : Int) = (((n - min lo n - 1) / k : Nat) : Int) := (Int.natCast_ediv _ _).symm
    rw [e2]
    generalize (n - min lo n - 1) / k = c
    show ((c : Int) + 1).toNat = c + 1
    omega
  · rw [if_neg (by omega : ¬ ((min lo n : Nat) : Int) < (n : Int)), if_neg h]
    rfl
theorem appliedS {sl : Addr} {vl vs : Value} {lo k n : Nat} {Q : Int × Int × Nat → Shared → Prop} (hs : s.heap.IsSliceOf sl vl .none vs) (pl : IsPart vl (some (lo : Int))) (pk : IsPart vs (some (k : Int))) (hk : 0 < k)
    (h : Q (((min lo n : Nat) : Int), (k : Int), stepN n lo k) s) : wpAny (model prog w) A (Builtin.Slice.sliceApplied (.ref sl) (pure (n : Int))) Q E s := by
  obtain ⟨os, hos, hcs, hds⟩ := id hs
  unfold Builtin.Slice.sliceApplied Builtin.Slice.sliceFields
  refine wpAny_bind (wpAny_bind (wpAny_field hos hds (x := vl) rfl (wpAny_bind (wpAny_field hos hds (x := .none) rfl (wpAny_bind (wpAny_field hos hds (x := vs) rfl (wpAny_pure ?_)))))))
  refine wpAny_bind (HT.slicePart_ pk ?_)
  show wpAny _ _ (if ((k : Int) == 0) = true then _ else _) _ _ s
  rw [if_neg (by simp; omega)]
  refine wpAny_bind (HT.slicePart_ pl (wpAny_bind (slicePart_none (wpAny_bind (wpAny_pure ?_)))))
  show wpAny _ _ (match Builtin.Slice.sliceAdjust (some (lo : Int)) none (k : Int) (n : Int) with | (lo, hi) => pure (lo, (k : Int), Builtin.Slice.slicePlaces lo hi (k : Int))) _ _ s
  rw [adjustS lo k n hk]
  show wpAny _ _ (pure (((min lo n : Nat) : Int), (k : Int), Builtin.Slice.slicePlaces ((min lo n : Nat) : Int) (n : Int) (k : Int))) _ _ s
  rw [placesS lo k n hk]
  exact wpAny_pure h
theorem pickE (xs : Array Value) (i k c : Nat) : ((List.range c).filterMap fun (m : Nat) => xs[((i : Int) + (m : Int) * (k : Int)).toNat]?).toArray = ((List.range c).filterMap fun m => xs.toList[i + m * k]?).toArray := by
  congr 2
  funext m
  have : ((i : Int) + (m : Int) * (k : Int)).toNat = i + m * k := by
    rw [← Int.natCast_mul, ← Int.natCast_add, Int.toNat_natCast]
  rw [this, Array.getElem?_toList]
theorem getItem_tupS {t sl : Addr} {items : Array Value} {vl vs : Value} {lo k : Nat} {Q : Value → Shared → Prop} (ht : IsTup s.heap t items) (hs : s.heap.IsSliceOf sl vl .none vs) (pl : IsPart vl (some (lo : Int))) (pk : IsPart vs (some (k : Int))) (hk : 0 < k)
    (hw : ¬ (k = 1 ∧ min lo items.size = 0)) (h : Q (.ref s.heap.objs.size) { s with heap := s.heap.push { cls := .type "tuple", data := .seq (pickS items.toList lo k).toArray } }) (hsz : (pickS items.toList lo k).length ≤ sizeLine) :
    wpAny (model prog w) A (getItem (.ref t) (.ref sl)) Q E s := by
  have htake : sizeOk (.seq (pickS items.toList lo k).toArray) := by
    show (pickS items.toList lo k).toArray.size ≤ sizeLine
    rw [List.size_toArray]; exact hsz
  obtain ⟨os, hos, hcs, hds⟩ := id hs
  have hTs : s.TypeIs (.ref sl) "slice" := ⟨os, hos, hcs⟩
  unfold getItem
  try with_reducible refine wpAny_holding ?_
  first | refine wpAny_bind (wpAny_pure ?_) | skip
  refine wpAny_bind (wpAny_sequenceKey ht.typeIs (by decide) ?_)
  refine wpAny_bind (wpAny_callSpecial?_slot (name := Str.ofString "__getitem__") ht.typeIs PyProof.Rows.slot_tuple_getitem (wpAny_call_entry PyProof.Rows.slot_tuple_getitem ht.typeIs entry_tuple_getitem ?_ (args_tuple_getitem _ _)))
  show wpAny _ _ (Builtin.Tuple.tupleItemsOf (.ref t) >>= _) _ _ s
  refine wpAny_bind (tupleItemsOf_ ht (wpAny_bind (wpAny_typeOf hTs ?_)))
  rw [if_pos (by decide)]
  refine wpAny_bind (appliedS hs pl pk hk ?_)
  have hno : ¬ ((((min lo items.size : Nat) : Int) == 0 && (k : Int) == 1 && stepN items.size lo k == items.size) = true) := by
    intro q
    rw [Bool.and_eq_true, Bool.and_eq_true] at q
    have q1 : ((min lo items.size : Nat) : Int) = 0 := eq_of_beq q.1.1
    have q2 : (k : Int) = 1 := eq_of_beq q.1.2
    exact hw ⟨by omega, by omega⟩
  show wpAny _ _ (if (((min lo items.size : Nat) : Int) == 0 && (k : Int) == 1 && stepN items.size lo k == items.size) = true then _ else _) _ _ s
  rw [if_neg hno, pickE]
  have e : ((List.range (stepN items.size lo k)).filterMap fun m => items.toList[min lo items.size + m * k]?) = pickS items.toList lo k := by
    unfold pickS; rw [Array.length_toList]
  rw [e]
  first
    | exact wpAny_bind (m := Builtin.Tuple.tupleExact _) (wpAny_newObj_type (wpAny_pure ⟨_, rfl, wpAny_pure h⟩) htake)
    | exact wpAny_bind (m := Builtin.Tuple.tupleExact _) (wpAny_newObj_type (wpAny_bind (wpAny_pure (wpAny_pure ⟨_, rfl, wpAny_pure h⟩))) htake)
    | exact wpAny_bind (wpAny_bind (m := Builtin.Tuple.tupleExact _) (wpAny_newObj_type (wpAny_pure (wpAny_pure ⟨_, rfl, wpAny_pure h⟩)) htake))
    | exact wpAny_bind (wpAny_bind (m := Builtin.Tuple.tupleExact _) (wpAny_newObj_type (wpAny_pure ⟨_, rfl, wpAny_pure h⟩) htake))
end
end Dn
end
section
set_option Elab.async false
set_option linter.all false
set_option maxRecDepth 100000
set_option maxHeartbeats 2000000
/-! Dn63: a[lo::k]: the reading. -/
namespace Dn
open PySem PySem.Spec PyProof.Rows L2
theorem pickS_len {α : Type} (xs : List α) (lo k : Nat) : (pickS xs lo k).length ≤ stepN xs.length lo k := by
  unfold pickS
  exact Nat.le_trans (List.length_filterMap_le _ _) (by rw [List.length_range]; exact Nat.le_refl _)
theorem range_get {α : Type} (xs : List α) : (List.range xs.length).filterMap (fun m => xs[m]?) = xs := by
  have h : ∀ (n : Nat), n ≤ xs.length → (List.range n).filterMap (fun m => xs[m]?) = xs.take n := by
    intro n
    induction n with
    | zero => intro _; simp
    | succ n ih =>
      intro hn
      rw [List.range_succ, List.filterMap_append, ih (by omega), List.take_add_one]
      have : xs[n]? = some xs[n] := List.getElem?_eq_getElem (by omega)
      simp [this]
  have := h xs.length (Nat.le_refl _)
  rwa [List.take_length] at this
theorem pickS_whole {α : Type} (xs : List α) (lo : Nat) (h : min lo xs.length = 0) : pickS xs lo 1 = xs := by
  unfold pickS stepN
  rw [h]
  by_cases h0 : xs.length = 0
  · have : xs = [] := List.eq_nil_of_length_eq_zero h0
    subst this; rfl
  · rw [if_pos (by omega)]
    have e : (xs.length - 0 - 1) / 1 + 1 = xs.length := by rw [Nat.div_one]; omega
    rw [e]
    have e2 : (fun m => xs[0 + m * 1]?) = fun m => xs[m]? := by funext m; rw [Nat.zero_add, Nat.mul_one]
    rw [e2]
    exact range_get xs
theorem strIxS (lo k n : Nat) (hk : 0 < k) : Builtin.Str.strSliceIndices (some (lo : Int)) none (k : Int) n = (List.range (stepN n lo k)).map fun m => min lo n + m * k := by
  unfold Builtin.Str.strSliceIndices sliceRange
  have h1 : (k : Int) > 0 := by omega
  have h2 : ¬ ((lo : Int) < 0) := by omega
  simp only [h1, if_true, h2, if_false]
  have e0 : max 0 (min (lo : Int) (n : Int)) = ((min lo n : Nat) : Int) := by omega
  rw [e0]
  have e1 : (if ((min lo n : Nat) : Int) < (n : Int) then ((n : Int) - ((min lo n : Nat) : Int) + (k : Int) - 1) / (k : Int) else 0).toNat = stepN n lo k := by
    unfold stepN
    by_cases h : min lo n < n
    · rw [if_pos (by omega : ((min lo n : Nat) : Int) < (n : Int)), if_pos h]
      have e : (n : Int) - ((min lo n : Nat) : Int) + (k : Int) - 1 = ((n - min lo n - 1 + k : Nat) : Int) := by omega
      rw [e]
      have e2 : ((n - min lo n - 1 + k : Nat) : Int) / (k : Int) = (((n - min lo n - 1 + k) / k : Nat) : Int) := (Int.natCast_ediv _ _).symm
      rw [e2, Int.toNat_natCast, Nat.add_div_right _ hk]
    · rw [if_neg (by omega : ¬ ((min lo n : Nat) : Int) < (n : Int)), if_neg h]
      rfl
  rw [e1]
  refine List.map_congr_left fun m _ => ?_
  have : ((min lo n : Nat) : Int) + (k : Int) * (m : Int) = ((min lo n + m * k : Nat) : Int) := by
    rw [Int.natCast_add, Int.natCast_mul, Int.mul_comm (k : Int)]
  rw [this, Int.toNat_natCast]
def rSl3T (K : PySem.W.Frag) : V → Nat → Nat → Hp → VK → Prop := fun x lo k H Q => ∃ a xs, x = .ref a ∧ SqT K H a xs ∧ 0 < k ∧ (pickS xs lo k).length ≤ sizeLine ∧ (if k = 1 ∧ min lo xs.length = 0 then Q (.ref a) H else ∀ p, H p = none → Q (.ref p) (upd H p (.tup (pickS xs lo k))))
def rSl3S : V → Nat → Nat → Hp → VK → Prop := fun x lo k H Q => ∃ z, x = .str (toStr z) ∧ 0 < k ∧ z.length ≤ sizeLine ∧ (pickS z lo k).length ≤ sizeLine ∧ Q (.str (toStr (pickS z lo k))) H
theorem vals_pick {xs : List V} {us : List Value} (r : Vals xs us) (lo k : Nat) : Vals (pickS xs lo k) (pickS us lo k) := by
  unfold pickS
  have hl : xs.length = us.length := r.length
  rw [← hl]
  generalize List.range (stepN xs.length lo k) = L
  induction L with
  | nil => exact .nil
  | cons m L ih =>
    by_cases h : min lo xs.length + m * k < xs.length
    · have e1 : xs[min lo xs.length + m * k]? = some xs[min lo xs.length + m * k] := List.getElem?_eq_getElem h
      obtain ⟨u, e2, r2⟩ := r.get e1
      simp only [List.filterMap_cons, e1, e2]
      exact .cons r2 ih
    · have e1 : xs[min lo xs.length + m * k]? = none := List.getElem?_eq_none (by omega)
      have e2 : us[min lo xs.length + m * k]? = none := List.getElem?_eq_none (by omega)
      simp only [List.filterMap_cons, e1, e2]
      exact ih
section
variable {X : Cx}
theorem sl3_tup : SlR3 X (rSl3T X.K) := by
  intro pins s σ H x v vl vs lo k sl Q I rx hs pl pk h
  obtain ⟨a, xs, rfl, hx, hk, hsz, q⟩ := h
  cases rx
  obtain ⟨its, r, ht, hz⟩ := I.tuple hx
  have hlen : its.length = xs.length := r.length.symm
  have rp := vals_pick r lo k
  refine ⟨"tuple", _, PyProof.Rows.slot_tuple_getitem.lookup, ht.typeIs, ?_⟩
  by_cases hw : k = 1 ∧ min lo xs.length = 0
  · rw [if_pos hw] at q
    -- the whole is the tuple itself
    obtain ⟨rfl, hw2⟩ := hw
    have ht' : IsTup s.heap a its.toArray := ht
    obtain ⟨os, hos, hcs, hds⟩ := id hs
    have hTs : s.TypeIs (.ref sl) "slice" := ⟨os, hos, hcs⟩
    obtain ⟨⟨cls, dd, data, sls⟩, ho, hc, n, hd⟩ := id ht'
    simp only at hc hd
    subst hc hd
    unfold getItem
    try with_reducible refine wpAny_holding ?_
    first | refine wpAny_bind (wpAny_pure ?_) | skip
    refine wpAny_bind (wpAny_sequenceKey ht.typeIs (by decide) ?_)
    refine wpAny_bind (wpAny_callSpecial?_slot (name := Str.ofString "__getitem__") ht.typeIs PyProof.Rows.slot_tuple_getitem (wpAny_call_entry PyProof.Rows.slot_tuple_getitem ht.typeIs entry_tuple_getitem ?_ (args_tuple_getitem _ _)))
    show wpAny _ _ (Builtin.Tuple.tupleItemsOf (.ref a) >>= _) _ _ s
    refine wpAny_bind (tupleItemsOf_ ht' (wpAny_bind (wpAny_typeOf hTs ?_)))
    rw [if_pos (by decide)]
    refine wpAny_bind (appliedS hs pl pk hk ?_)
    have hs2 : its.toArray.size = xs.length := by rw [List.size_toArray]; exact hlen
    have hst : stepN its.toArray.size lo 1 = its.toArray.size := by
      unfold stepN
      rw [hs2, hw2]
      by_cases h0 : xs.length = 0
      · rw [if_neg (by omega), h0]
      · rw [if_pos (by omega), Nat.div_one]; omega
    show wpAny _ _ (if (((min lo its.toArray.size : Nat) : Int) == 0 && ((1 : Nat) : Int) == 1 && stepN its.toArray.size lo 1 == its.toArray.size) = true then _ else _) _ _ s
    rw [if_pos (by rw [hst, hs2, hw2]; simp)]
    wp_walk using AutoSeq1.wpAny_loadPart' ho
    exact ⟨_, rfl, wpAny_pure ⟨.ref a, H, I, rfl, q⟩⟩
  · rw [if_neg hw] at q
    have hs2 : its.toArray.size = xs.length := by rw [List.size_toArray]; exact hlen
    refine getItem_tupS ht hs pl pk hk (by rw [hs2]; exact hw) ?_ (by show (pickS its lo k).length ≤ _; rw [← rp.length]; exact hsz)
    refine ⟨.ref s.heap.objs.size, _, I.laid (t' := s.toks) (o := .tup (pickS xs lo k)) (fun b ob q => Heap.get?_push_of_some _ q) (Nat.le_refl _) ?_, rfl, q _ (I.hok.fresh (Nat.le_refl _))⟩
    exact ⟨hsz, _, rp, IsTup.new _ _⟩
theorem sl3_str : SlR3 X rSl3S := by
  intro pins s σ H x v vl vs lo k sl Q I rx hs pl pk h
  obtain ⟨z, rfl, hk, hz, hsz, q⟩ := h
  obtain ⟨t, rfl⟩ := rx
  obtain ⟨os, hos, hcs, hds⟩ := hs
  obtain ⟨l, rfl, el⟩ := IsPart.raw pl
  obtain ⟨u, rfl, eu⟩ := IsPart.raw pk
  refine ⟨"str", _, F.slot_str_getitem.lookup, typeIs_str _ _ _, ?_⟩
  refine wpAny_getItem_str_slice (l := l) (u := none) (st := u) ⟨os, hos, hcs, hds⟩ (by rw [eu]; show ((k : Int) == 0) = false; simp; omega) ?_
  have hlen : (toStr z).length = z.length := by show (toStr z).cps.size = _; simp
  have ep : slicePicked (toStr z) l none u = (List.range (stepN z.length lo k)).map fun m => min lo z.length + m * k := by
    unfold slicePicked
    rw [el, eu, hlen]
    exact strIxS lo k z.length hk
  have er : ((slicePicked (toStr z) l none u).filterMap ((toStr z).cps[·]?)) = pickS z lo k := by
    rw [ep, List.filterMap_map]
    unfold pickS
    congr 1
    funext m
    show (toStr z).cps[min lo z.length + m * k]? = _
    simp
  unfold sliceMade
  rw [er]
  by_cases c : ((u.map (·.1)).getD 1 == 1 && (slicePicked (toStr z) l none u).length == (toStr z).length) = true
  · rw [if_pos c]
    rw [eu] at c
    have c1 := (Bool.and_eq_true _ _ ▸ c).1
    have c2 := (Bool.and_eq_true _ _ ▸ c).2
    have k1 : k = 1 := by
      have : (k : Int) = 1 := eq_of_beq c1
      omega
    subst k1
    have c3 : (slicePicked (toStr z) l none u).length = (toStr z).length := eq_of_beq c2
    rw [ep, List.length_map, List.length_range, hlen] at c3
    have hm : min lo z.length = 0 := by
      unfold stepN at c3
      by_cases h0 : min lo z.length < z.length
      · rw [if_pos h0, Nat.div_one] at c3; omega
      · rw [if_neg h0] at c3; omega
    rw [pickS_whole z lo hm] at q
    exact ⟨.str (toStr z), H, I, ⟨t, rfl⟩, q⟩
  · rw [if_neg c]
    exact ⟨by show (toStr (pickS z lo k)).cps.size ≤ sizeLine; simpa using hsz, .str _, H, I.tok _, ⟨_, rfl⟩, q⟩
end
section
variable {X : Cx} {g : Gp} {Wx : WX} {a st : Expr} {lo : Option Expr} {fa : DEnv → Mo Vx} {fl fk : DEnv → Mo (Option Int)} {pos p2 : Pos}
def dSlS (a : Vx) (lo k : Option Int) : Mo Vx := fun h => match a, lo, k with
  | .d (.tup ds), some l, some k => if 0 ≤ l ∧ 0 < k ∧ (pickS ds l.toNat k.toNat).length ≤ 16777216 then .ok (.d (.tup (pickS ds l.toNat k.toNat))) h else .stk
  | .d (.str s), some l, some k => if 0 ≤ l ∧ 0 < k ∧ (pickS s l.toNat k.toNat).length ≤ 16777216 then .ok (.d (.str (pickS s l.toNat k.toNat))) h else .stk
  | _, _, _ => .stk
def eSlS (fa : DEnv → Mo Vx) (fl fk : DEnv → Mo (Option Int)) : DEnv → Mo Vx := fun ρ => bnd (fa ρ) fun x => bnd (fl ρ) fun l => bnd (fk ρ) fun u => dSlS x l u
theorem RepDs.pick {K : PySem.W.Frag} {F : Hp} {vs : List V} {ds : List Dt} (r : RepDs K F vs ds) (lo k : Nat) : RepDs K F (pickS vs lo k) (pickS ds lo k) := by
  unfold pickS
  have hl : vs.length = ds.length := r.length
  rw [← hl]
  generalize List.range (stepN vs.length lo k) = L
  induction L with
  | nil => exact .nil
  | cons m L ih =>
    by_cases h : min lo vs.length + m * k < vs.length
    · have e1 : ds[min lo vs.length + m * k]? = some ds[min lo vs.length + m * k] := List.getElem?_eq_getElem (by omega)
      obtain ⟨u, e2, r2⟩ := r.get e1
      simp only [List.filterMap_cons, e1, e2]
      exact .cons r2 ih
    · have e1 : vs[min lo vs.length + m * k]? = none := List.getElem?_eq_none (by omega)
      have e2 : ds[min lo vs.length + m * k]? = none := List.getElem?_eq_none (by omega)
      simp only [List.filterMap_cons, e1, e2]
      exact ih
theorem pickS_mem {z : List Nat} {lo k c : Nat} (h : c ∈ pickS z lo k) : c ∈ z := by
  unfold pickS at h
  obtain ⟨m, _, e⟩ := List.mem_filterMap.mp h
  exact List.mem_of_getElem? e
theorem pd_slS (ha : PE X a (LE X.K g Wx fa)) (hl : PO X lo (LO X.K g Wx fl)) (hk : PO X (some st) (LO X.K g Wx fk)) : PE X (.Subscript a (.Slice lo none (some st) p2) pos) (LE X.K g Wx (eSlS fa fl fk)) := by
  refine (pe_slice3 (sl3_tup.or sl3_str) ha hl hk).imp fun σ H Q p => ?_
  refine Lf.imp (Lf.bnd (R := RV X.K) p) fun v H1 ⟨W1, ρ, y, h1, hr1, er, rr, p1⟩ => ?_
  refine ⟨W1, ρ, h1, hr1, er, (Post.bnd (R := fun _ (a b : Option Int) => a = b) p1).imp (fun l H2 ⟨W2, l2, h2, ex2, hr2, e2, p2⟩ => ?_) fun _ _ _ q => q⟩
  refine ⟨W2, ρ, h2, hr2, er.le ex2.le, (Post.bnd (R := fun _ (a b : Option Int) => a = b) p2).imp (fun u H3 ⟨W3, u2, h3, ex3, hr3, e3, p3⟩ => ?_) fun _ _ _ q => q⟩
  subst e2 e3
  have rr3 : RepV X.K W3 v y := RepV.le (ex2.le.trans ex3.le) rr
  unfold dSlS at p3
  split at p3
  · rename_i ds l' k' _ _
    split at p3
    · rename_i hc
      obtain ⟨c0, c1, c2⟩ := hc
      obtain ⟨a1, vs, rfl, q1, q2, q3⟩ := repTup hr3 rr3
      have hl' : l' = ((l'.toNat : Nat) : Int) := by omega
      have hk' : k' = ((k'.toNat : Nat) : Int) := by omega
      refine ⟨l'.toNat, k'.toNat, by rw [← hl'], by rw [← hk'], .inl ⟨a1, vs, rfl, q1, by omega, by rw [sizeLine_eq, (q3.pick _ _).length]; exact c2, ?_⟩⟩
      by_cases hw : k'.toNat = 1 ∧ min l'.toNat vs.length = 0
      · rw [if_pos hw]
        refine p3.ret hr3 ?_
        rw [hw.1, pickS_whole ds _ (by rw [← q3.length]; exact hw.2)]
        exact rr3
      · rw [if_neg hw]
        exact p3.newT hr3 (q3.pick _ _)
    · exact p3.elim
  · rename_i z l' k' _ _
    split at p3
    · rename_i hc
      obtain ⟨c0, c1, c2⟩ := hc
      obtain ⟨rfl, ok⟩ := repStr rr3
      have hl' : l' = ((l'.toNat : Nat) : Int) := by omega
      have hk' : k' = ((k'.toNat : Nat) : Int) := by omega
      exact ⟨l'.toNat, k'.toNat, by rw [← hl'], by rw [← hk'], .inr ⟨z, rfl, by omega, ok.1, by rw [sizeLine_eq]; exact c2, p3.ret hr3 (.str _ ⟨by rw [sizeLine_eq]; exact c2, fun c hc => ok.2 c (pickS_mem hc)⟩)⟩⟩
    · exact p3.elim
  · exact p3.elim
end
end Dn
end
section
set_option Elab.async false
set_option linter.all false
set_option maxRecDepth 100000
set_option maxHeartbeats 2000000
/-! Dn64: a call with nothing handed. -/
namespace Dn
open PySem PySem.Spec PyProof.Rows L2
section
variable {X : Cx} {g : Gp} {Wx : WX} {pos : Pos}
theorem pd_call0 {k : Nat} {fa : Addr} {fd : FuncData} {ps : List PySem.Str} {f : List Vx → Mo Vx} {dvs : List V} {ds : List Value} {dd : List Dt} {x : PySem.Str} {p : Pos} (F : FnOk X.prog X.w X.K X.mg X.base (L2.CX X.prog X.w) k fa fd ps (spD X.K g ps.length f)) (hr : Room k X.A) (hg : Gl X x) (hm : X.mg x = some (.ref fa))
    (hk : PySem.W.keepIn X.K (.ref fa) = true) (hb : Binds X.K fd ps ds) (hd : Vals dvs ds) (rd : RepDs X.K (fun _ => none) dvs dd) (tk : Takes X Wx) (hin : Ins Wx) (hdb : (x == ("__debug__" : PySem.Str)) = false) (hn : dd.length = ps.length) :
    PE X (.Call (.Name x p) [] [] pos) (LE X.K g Wx (eCall (fun ys => callM [] f (ys ++ dd.map Vx.d)) aNil)) := by
  refine (pe_call0 (E := fun c d H => ∃ σ, Wx c d σ H) F hr hg hm hk hb hd (passes_call (W := Wx) tk fun c d σ H ⟨σ', q⟩ => hin _ _ _ _ _ q) hdb).imp fun σ H Q p => ?_
  obtain ⟨W, ρ, h, hr0, er, p⟩ := p
  have p : Post X.K g (RV X.K) W H (callM [] f (([] : List Vx) ++ dd.map Vx.d) h) Q (fun c d H' => Wx c d σ H') := p
  have rdd : RepVs X.K W dvs (dd.map Vx.d) := .of_plain (RepDs.le (fun _ o z => absurd (show (none : Option HO) = some o from z) (by simp)) rd)
  refine call_sound (g := g) (hy := []) (f := f) hr0 (RepVs.nil.append rdd) ?_ (p.imp (fun _ _ q => q) fun c d H' q => ⟨σ, q⟩)
  rw [List.nil_append, rd.length]
  exact hn
end
end Dn
end
section
set_option Elab.async false
set_option linter.all false
set_option maxRecDepth 100000
set_option maxHeartbeats 2000000
/-! Dn72: enumerate over a list, a tuple, a text. -/
namespace Dn
open PySem PySem.Spec PyProof.Rows L2
theorem meets_enumB {v : Value} {o : Obj} {H : Heap → Prop} (B : Begins v o H) :
    Meets (Builtin.«enumerate.__new__» ⟨[.type "enumerate", v], []⟩) (fun _ R s => H s.heap ∧
      R (.ok (.ret (.ref (s.heap.push o).objs.size))) { s with heap := (s.heap.push o).push { cls := .type "enumerate", data := .fields #[.none, .bool false, .ref s.heap.objs.size, rawInt 0, .none, .none] } }) :=
  .of_wp fun prog w A R s h => by
    obtain ⟨hp, g, d, tk, os⟩ := s
    obtain ⟨h1, h⟩ := h
    have hsub := sub_enumerate
    have q1 : ∀ {A' : Around} {E : Value → Shared → Prop} {Q : Value → Shared → Prop}, Q (.ref hp.objs.size) ⟨hp.push o, g, d, tk, os⟩ → wpAny (model prog w) A' (pyIter v) Q E ⟨hp, g, d, tk, os⟩ :=
      fun q => B.iter prog w _ _ ⟨hp, g, d, tk, os⟩ _ h1 q
    wp_walk using q1
    refine wpAny_stack_any fun st => wpAny_pure ?_
    split
    · rename_i c _ _ _ _ _
      cases (c == Value.type "enumerate")
      · wp_walk using q1
        exact ⟨_, rfl, h⟩
      · wp_walk using q1
        exact ⟨_, rfl, h⟩
    · wp_walk using q1
      exact ⟨_, rfl, h⟩
section
variable {prog : Program} {w : World} {A : Around} {E : Value → Shared → Prop} {s : Shared}
theorem enum_begins1 {v : Value} {o : Obj} {H : Heap → Prop} {Q : Value → Shared → Prop} (B : Begins v o H) (h1 : H s.heap)
    (h : ∀ h', IsEnum h' (s.heap.objs.size + 1) s.heap.objs.size 0 .none → h'.get? s.heap.objs.size = some o → h'.objs.size = s.heap.objs.size + 2 →
      (∀ b o, s.heap.get? b = some o → h'.get? b = some o) → Q (.ref (s.heap.objs.size + 1)) { s with heap := h' }) :
    wpAny (model prog w) A (call (.type "enumerate") [v]) Q E s := by
  refine callType_new F.called_enumerate (by decide) (F.typeCall_enumerate_1 _) (F.newCall_enumerate_1 _) (fun obj => F.args_object_init_2 obj _) F.entry_enumerate_new
    (meets_enumB B) ⟨h1, ?_⟩
  have hz : (s.heap.push o).objs.size = s.heap.objs.size + 1 := Heap.size_push ..
  show _ ∧ _
  rw [hz]
  have he : IsEnum ((s.heap.push o).push { cls := .type "enumerate", data := .fields #[.none, .bool false, .ref s.heap.objs.size, rawInt 0, .none, .none] }) (s.heap.objs.size + 1) s.heap.objs.size 0 .none := by
    have := Heap.get?_push_size (s.heap.push o) (o := { cls := .type "enumerate", data := .fields #[.none, .bool false, .ref s.heap.objs.size, rawInt 0, .none, .none] }) rfl
    rw [hz] at this; exact this
  refine ⟨⟨_, he, rfl⟩, h _ he (Heap.get?_push_of_some _ (Heap.get?_push_size _ B.free)) (by rw [Heap.size_push, hz]) fun b o x => Heap.get?_push_of_some _ (Heap.get?_push_of_some _ x)⟩
end
def IteS (K : PySem.W.Frag) (sv : SV) : It :=
  ⟨fun i H => ∃ xs, sv.has K H xs ∧ i < xs.length,
    fun i H v H' => ∃ U x, v = .ref U ∧ H U = none ∧ H' = upd H U (.tup [.int (i : Nat), x]) ∧ ∀ xs, sv.has K H xs → xs[i]? = some x,
    fun i H => ∃ xs, sv.has K H xs ∧ i = xs.length⟩
theorem turn_eS {P : Program} {w : World} {K : PySem.W.Frag} {elts : List Expr} {kk : Nat} {tpos : Pos} {sv : SV} {e it : Addr} (n1 : e ≠ it) (o1 : sv.off it) (o2 : sv.off e) :
    Turn P w K (.Tuple elts kk tpos) (IteS K sv) [e, it] e (fun i h => (∃ old, IsEnum h e it ((i : Nat) : Int) old) ∧ sv.at_ it i h) where
  mem := by simp
  obj := fun i h st c hc => by
    obtain ⟨⟨old, he⟩, h1⟩ := st
    have e' : c = e ∨ c = it := by simpa using hc
    rcases e' with q | q
    · rw [q]; exact ⟨_, he, fun v q => nomatch q⟩
    · rw [q]; exact SV.live h1
  keep := fun i h h' st k => by
    obtain ⟨⟨old, he⟩, h1⟩ := st
    exact ⟨⟨old, k e (by simp) _ he⟩, SV.at_of h1 fun o q => k it (by simp) o q⟩
  item := by
    intro X hP hw hK hc i pins s σ H E I hf st hg
    subst hP hw hK
    obtain ⟨⟨old, he⟩, h1⟩ := st
    obtain ⟨xs, hx, lx⟩ := hg
    obtain ⟨fp, Pn, St, D, t1, k1, v1, m1, f1⟩ := sv_draws I (B := X.A.in1.in1) (I.ok.hd hc) hx h1 o1
    have hel : e < s.heap.objs.size := Heap.lt_size he
    refine en_next (R := fun u h1 tk => Pn i u ∧ St (i + 1) h1 ∧ Heap.SameBut it s.heap h1) he
      (fun Q' E' q => (Draws.of_in1 D).item i s _ _ lx t1 fun u h' tk p st' kp => q u h' tk ⟨p, st', kp⟩) ?_ ?_
    · rintro u hh tk ⟨p, st', kp⟩
      exact kp.2 _ n1
    · rintro u hh h' tk ⟨p, st', kp⟩ eo tu su kq
      refine ⟨_, rfl, wpAny_letOwnedTupleGo_enum (s := { s with heap := h', toks := tk + 1 }) eo fun h'' e'' sb => ?_⟩
      obtain ⟨x, ex, rx⟩ := v1 _ _ p
      have sz : hh.objs.size = s.heap.objs.size := kp.1
      have lU : e ≠ hh.objs.size := by rw [sz]; exact Nat.ne_of_lt hel
      have hU2 : h''.get? hh.objs.size = some { cls := .type "tuple", data := .seq #[.int i tk, u] } := (sb.2 _ lU.symm).trans tu
      have keep : ∀ c o, c ≠ e → c ≠ it → s.heap.get? c = some o → h''.get? c = some o := fun c o q0 q1 x => (sb.2 c q0).trans (kq c o q0 ((kp.2 c q1).trans x))
      have new : ObjOk X.prog X.w (upd H hh.objs.size (.tup [.int (i : Nat), x])) h'' hh.objs.size (.tup [.int (i : Nat), x]) :=
        ⟨by show 2 ≤ sizeLine; decide, [.int i tk, u], .cons ⟨_, rfl⟩ (.cons rx .nil), ⟨_, hU2, rfl, _, rfl⟩⟩
      have I1 : Inv X pins σ (upd H hh.objs.size (.tup [.int (i : Nat), x])) { s with heap := h'', toks := tk + 1 } :=
        I.turnedNew (t' := tk + 1) (ch := [e, it]) (fun c o hb q => keep c o (fun q' => hb (by simp [q'])) (fun q' => hb (by simp [q'])) q) hf (by rw [sz]; exact Nat.le_refl _) new
      refine ⟨.ref hh.objs.size, _, I1, rfl, ⟨_, x, rfl, I.hok.fresh (by rw [sz]; exact Nat.le_refl _), rfl, fun l hl => by rw [sv_inj I hl hx]; exact ex⟩, ⟨⟨u, ?_⟩, ?_⟩, fun c hcm => ?_⟩
      · have e1 : ((i + 1 : Nat) : Int) = (i : Int) + 1 := by omega
        rw [e1]; exact e''
      · exact SV.at_of (k1 _ _ st') fun o q => (sb.2 _ n1.symm).trans (kq _ o n1.symm q)
      · have hlt : c < s.heap.objs.size := by
          have e' : c = e ∨ c = it := by simpa using hcm
          rcases e' with q | q
          · rw [q]; exact hel
          · rw [q]; obtain ⟨_, e1, _⟩ := SV.live h1; exact Heap.lt_size e1
        rw [upd_ne (by rw [sz]; exact Nat.ne_of_lt hlt)]
        exact (hf c hcm).1
  done := by
    intro X hP hw hK hc i pins s σ H E I hf st hg
    subst hP hw hK
    obtain ⟨⟨old, he⟩, h1⟩ := st
    obtain ⟨xs, hx, rfl⟩ := hg
    obtain ⟨fp, Pn, St, D, t1, k1, v1, m1, f1⟩ := sv_draws I (B := X.A.in1.in1) (I.ok.hd hc) hx h1 o1
    refine en_stop (R := fun h1 tk => tk = s.toks ∧ Heap.ExtBut it s.heap h1) he (fun Q' E' q => (Draws.of_in1 D).done s _ _ t1 fun h' e kp hx => q e h' s.toks ⟨rfl, kp⟩ hx) fun h' tk hk => ?_
    obtain ⟨rfl, hk⟩ := hk
    exact ⟨rfl, I.turnedL (t' := s.toks) (ch := [e, it]) (fun c o hb q => hk c o (fun q' => hb (by simp [q'])) q) hf⟩
  self := fun A i s Q E st h => let ⟨⟨_, he⟩, _⟩ := st; wpAny_pyIter_enum he h
def iEnS (K : PySem.W.Frag) (ta : TA) : TI := fun σ H R => ta σ H fun vs H1 => ∃ (sv : SV) (xs : List V), vs = [sv.val] ∧ sv.has K H1 xs ∧ R (IteS K sv) H1
theorem pi_enS {X : Cx} {e : Expr} {ta : TA} {p pos tpos : Pos} {elts : List Expr} {kk : Nat} (hg : Gl X "enumerate") (hm : X.mg "enumerate" = none) (ha : PA X [e] ta)
    (hs : starEach [e] X.env = (false, eval e X.env) :: starEach [] X.env) :
    PI X (.Tuple elts kk tpos) (.Call (.Name "enumerate" p) [e] [] pos) (iEnS X.K ta) := by
  refine ⟨fun pins s σ H R I h => ?_⟩
  refine Call_ (ld_blt I hg hm boot_enumerate (PyProof.Rows.callWith_type1 (thn (ha.run pos pins s σ H _ I h) fun us s1 ⟨vs, H1, I1, r1, q1⟩ => ?_) hs rfl))
  obtain ⟨sv, xs, ex, hx, q⟩ := q1
  subst ex
  cases r1 with
  | cons r rr =>
    cases rr
    obtain ⟨b1, Hh1, B1, c1, t1, o1⟩ := sv_begins I1 hx r
    refine enum_begins1 B1 c1 fun h' he g1 hsz hk => wpAny_pyIter_enum he ?_
    have I2 : Inv X pins σ H1 { s1 with heap := h' } := I1.kept (t' := s1.toks) hk
    refine ⟨s1.heap.objs.size + 1, [s1.heap.objs.size + 1, s1.heap.objs.size], _, _, H1, rfl, I2,
      turn_eS (Nat.succ_ne_self _) (o1 _ (Nat.le_refl _)) (o1 _ (Nat.le_add_right _ _)), ⟨⟨.none, he⟩, t1 _ _ g1⟩, fun c hcm => ?_, q⟩
    have e' : c = s1.heap.objs.size + 1 ∨ c = s1.heap.objs.size := by simpa using hcm
    have hle : s1.heap.objs.size ≤ c := by
      rcases e' with z | z
      · rw [z]; exact Nat.le_add_right _ _
      · rw [z]; exact Nat.le_refl _
    exact I1.fpOk hle (I1.hok.fresh hle)
theorem wk_eS {K : PySem.W.Frag} {T : Tbs} {W : Wd} {sv : SV} {l : List Dt} (r : SvR K W sv l) : WkR K T W (.en (.ds l)) (IteS K sv) := by
  intro W1 H1 h1 le hr i
  obtain ⟨vs, hv, rv⟩ := r.has le hr
  have e1 := rv.length
  show (match (if i ≤ l.length then pair1 (.int i) (some (match l[i]? with | some x => some (Vx.d x) | none => none)) else none) with | some (some y) => _ | some none => _ | none => True)
  by_cases hle : i ≤ l.length
  case neg => rw [if_neg hle]; trivial
  rw [if_pos hle]
  cases d1 : l[i]? with
  | none =>
    have q := List.getElem?_eq_none_iff.mp d1
    exact show (IteS K sv).stop i H1 from ⟨vs, hv, by omega⟩
  | some x =>
    have q1 := (List.getElem?_eq_some_iff.mp d1).1
    obtain ⟨v, f1, g1⟩ := rv.get d1
    refine ⟨⟨vs, hv, by omega⟩, fun z H2 yl => ?_⟩
    obtain ⟨U, x', rfl, hU, rfl, y1⟩ := yl
    have z1 := y1 vs hv
    rw [f1] at z1
    cases z1
    obtain ⟨hr2, ex2⟩ := hr.new hU (o := .tup [.int (i : Nat), v]) (fun ps z => by cases z)
    exact ⟨_, ex2, hr2, RepD.tup (.inl (.inl upd_same)) (.cons (.int _) (.cons (RepD.le ex2.F g1) .nil))⟩
section
variable {X : Cx} {g : Gp} {Wx : WX} {pos : Pos}
def wEnS (fa : DEnv → Mo Vx) : DEnv → Mo Wk := fun ρ => bnd (fa ρ) fun y h => match srcZ y with
  | some x => .ok (.en (.ds x)) h
  | none => .stk
theorem pd_enS {elts : List Expr} {kk : Nat} {tpos : Pos} {e : Expr} {fa : DEnv → Mo Vx} {p : Pos} (hg : Gl X "enumerate") (hm : X.mg "enumerate" = none) (he : PE X e (LE X.K g Wx fa)) (hs : starEach [e] X.env = (false, eval e X.env) :: starEach [] X.env) :
    PI X (.Tuple elts kk tpos) (.Call (.Name "enumerate" p) [e] [] pos) (LI X.K g Wx (wEnS fa)) := by
  refine ⟨fun pins s σ H R I h => (pi_enS hg hm (pda_cons he pda_nil hs) hs).run pins s σ H R I ?_⟩
  have h : Lf X.K g (fun W J wk => WkR X.K g.T W wk J) Wx (wEnS fa) σ H R := h
  obtain ⟨W, ρ, h0, hr, er, p⟩ := h
  refine ⟨W, ρ, h0, hr, er, ?_⟩
  unfold wEnS Dn.bnd at p
  unfold aCons aNil Dn.bnd
  cases hf : fa ρ h0 with
  | stk => rw [hf] at p; exact p.elim
  | err c pp h' => rw [hf] at p; exact p
  | ok y h' =>
    rw [hf] at p
    simp only at p
    intro W' vs H' ex hr' rv
    obtain ⟨v, rfl, r1⟩ := rv.one
    split at p
    · rename_i l e1
      obtain ⟨sv, rfl, q1⟩ := srcZ_rep hr' r1 e1
      obtain ⟨vs, hv, _⟩ := q1.has (WLe.refl _) hr'
      exact ⟨sv, vs, rfl, hv, p W' _ H' ex hr' (wk_eS q1)⟩
    · exact p.elim
end
end Dn
end
section
set_option Elab.async false
set_option linter.all false
set_option maxRecDepth 100000
set_option maxHeartbeats 4000000
/-! Dn102: exceptions of own classes as values: made, asked by isinstance, their field read. -/
namespace Dn
open PySem PySem.Spec PyProof.Rows L2

theorem exd_tbl {e : Addr} {fs : List (PySem.Str × V)} {ps : Array Value} : exd e fs ≠ .tbl ps := fun z => by
  have z' : HO.ext _ = HO.tbl ps := z
  cases z'
section
variable {K : PySem.W.Frag} {T : Tbs} {g : Gp} {W W2 : Wd} {H H2 : Hp} {h h2 : DH}
/-- the exception and its dict stand for good -/
theorem HRel.made (r : HRel K T W H h) {a C dx : Addr} (na : H a = none) (ex : Ext W (upd H a (exo a C none)) W2 H2) (r2 : HRel K T W2 H2 h2) (ndx : H2 dx = none) (hda : dx ≠ a) {fs : List (PySem.Str × V)} :
    let Wf : Wd := ⟨upd (upd W2.F dx (exd dx fs)) a (exo a C (some dx)), W2.θ⟩
    let Hf := upd (upd H2 dx (exd dx fs)) a (exo a C (some dx))
    HRel K T Wf Hf h2 ∧ Ext W H Wf Hf ∧ HLe W2.F Wf.F := by
  intro Wf Hf
  have ea : H2 a = some (exo a C none) := ex.frame a _ upd_same ((r.add na (o := exo a C none)).1.notθ upd_same) (fun ps => exo_tbl)
  have at_ : ∀ b, b ≠ dx → b ≠ a → Hf b = H2 b := fun b h1 h3 => by
    show upd (upd H2 dx (exd dx fs)) a (exo a C (some dx)) b = _
    rw [upd_ne h3, upd_ne h1]
  have atF : ∀ b, b ≠ dx → b ≠ a → Wf.F b = W2.F b := fun b h1 h3 => by
    show upd (upd W2.F dx (exd dx fs)) a (exo a C (some dx)) b = _
    rw [upd_ne h3, upd_ne h1]
  have n2 : ∀ b u, H2 b = some u → b ≠ dx := fun b u e => ne_of_none e ndx
  have fa2 : W2.F a = none := by
    cases q : W2.F a with
    | none => rfl
    | some u =>
      rcases ex.newF a u q with z | z | z
      · have := r.fro a u z; rw [na] at this; cases this
      · rw [upd_same] at z; cases z
      · exact absurd z ((r.add na (o := exo a C none)).1.notθ upd_same)
  have fdx : W2.F dx = none := by
    cases q : W2.F dx with
    | none => rfl
    | some u => have := r2.fro dx u q; rw [ndx] at this; cases this
  have up : ∀ b, upd H a (exo a C none) b = none → H b = none := fun b e => by
    by_cases q : b = a
    · subst q; exact na
    · rw [upd_ne q] at e; exact e
  have ndx0 : H dx = none := up dx (ex.dom dx ndx)
  have nθ : ∀ (k : Nat) (b : Addr), W2.θ[k]? = some b → b ≠ dx ∧ b ≠ a := fun k b e => by
    obtain ⟨xs, hx⟩ := r2.has (List.mem_of_getElem? e)
    exact ⟨n2 b _ hx, fun z => by rw [z, ea] at hx; exact exo_not_lst (Option.some.inj hx)⟩
  have leF : HLe W2.F Wf.F := fun b u e => by
    rw [atF b (ne_of_none e fdx) (ne_of_none e fa2)]; exact e
  have wl : WLe W2 Wf := ⟨leF, [], by simp [Wf]⟩
  refine ⟨⟨fun b u e => ?_, fun b u e => ?_, r2.len, fun k b u e1 e2 => ?_, fun k b u e1 e2 nd => ?_, r2.nd, fun p hp => ?_⟩, ⟨ex.F.trans leF, ?_, fun b u e n nt => ?_, fun b e => ?_, fun b u e => ?_⟩, leF⟩
  · by_cases q : b = a
    · subst q
      have e' : upd (upd W2.F dx (exd dx fs)) b (exo b C (some dx)) b = some u := e
      rw [upd_same] at e'
      show upd (upd H2 dx (exd dx fs)) b (exo b C (some dx)) b = some u
      rw [upd_same]; exact e'
    · by_cases q2 : b = dx
      · subst q2
        have e' : upd (upd W2.F b (exd b fs)) a (exo a C (some b)) b = some u := e
        rw [upd_ne q, upd_same] at e'
        show upd (upd H2 b (exd b fs)) a (exo a C (some b)) b = some u
        rw [upd_ne q, upd_same]; exact e'
      · rw [atF b q2 q] at e
        rw [at_ b q2 q]; exact r2.fro b u e
  · by_cases q : b = a
    · subst q
      have e' : upd (upd W2.F dx (exd dx fs)) b (exo b C (some dx)) b = some u := e
      rw [upd_same] at e'
      cases e'
      exact fun ps => exo_tbl
    · by_cases q2 : b = dx
      · subst q2
        have e' : upd (upd W2.F b (exd b fs)) a (exo a C (some b)) b = some u := e
        rw [upd_ne q, upd_same] at e'
        cases e'
        exact fun ps => exd_tbl
      · rw [atF b q2 q] at e
        exact r2.ntb b u e
  · have hh := r2.obj k b u e1 e2
    obtain ⟨m1, m2⟩ := nθ k b e1
    cases u with
    | lst zs => obtain ⟨ws, h1, h3⟩ := hh; exact ⟨ws, (at_ b m1 m2).trans h1, h3.le wl⟩
    | dead => obtain ⟨ws, h1⟩ := hh; exact ⟨ws, (at_ b m1 m2).trans h1⟩
  · obtain ⟨m1, m2⟩ := nθ k b e1
    rw [atF b m1 m2]
    exact r2.liv k b u e1 e2 nd
  · obtain ⟨ps, h1, h3, h4⟩ := r2.tab p hp
    have pa : p.1 ≠ a := fun z => by
      rw [z, ea] at h1
      exact exo_tbl (Option.some.inj h1)
    refine ⟨ps, (at_ p.1 (n2 _ _ h1) pa).trans h1, h3, fun pos cv hc => ?_⟩
    obtain ⟨c, e1, e2⟩ := h4 pos cv hc
    have ca : c ≠ a := fun z => by
      subst z
      rw [ea] at e2
      exact exo_ne_code (Option.some.inj e2)
    exact ⟨c, e1, (at_ c (n2 _ _ e2) ca).trans e2⟩
  · obtain ⟨new, e1, e2⟩ := ex.θ
    exact ⟨new, e1, fun b hb => up b (e2 b hb)⟩
  · have hba : b ≠ a := fun z => by rw [z, na] at e; cases e
    have q := ex.frame b u (by rw [upd_ne hba]; exact e) n nt
    rw [at_ b (n2 b u q) hba]; exact q
  · by_cases q : b = a
    · subst q; exact na
    · by_cases q2 : b = dx
      · subst q2; exact ndx0
      · rw [at_ b q2 q] at e
        exact up b (ex.dom b e)
  · by_cases q : b = a
    · subst q; exact .inr (.inl na)
    · by_cases q2 : b = dx
      · subst q2; exact .inr (.inl ndx0)
      · rw [atF b q2 q] at e
        rcases ex.newF b u e with z | z | z
        · exact .inl z
        · exact .inr (.inl (up b z))
        · exact .inr (.inr z)
end
/-! ### X(e) as a value -/
def tMkV (K : PySem.W.Frag) (g : Gp) (C : Addr) (f : PySem.Str) (D : List Vx → Mo Vx) (ta : TA) : TE := fun σ H Q => ta σ H fun vs H1 => ∀ a, H1 a = none → spI K g C f D (.ref a :: vs) (upd H1 a (exo a C none))
  (fun v H2 => v = .non ∧ Q (.ref a) H2) (fun _ _ _ => False)
def eMkX (n f : PySem.Str) (D : List Vx → Mo Vx) (fa : DEnv → Mo Vx) : DEnv → Mo Vx := fun ρ => bnd (fa ρ) fun y => bnd (noErr (callM [false] D [y])) fun z h => match z with
  | .d p => .ok (.x n f p) h
  | _ => .stk
section
variable {X : Cx} {g : Gp} {Wx : WX} {C fI : Addr} {f x pn : PySem.Str} {D : List Vx → Mo Vx} {e : Expr} {ta : TA} {p pos : Pos} {k : Nat} {fd : FuncData}
theorem pmkV (T : OexE X.K C fI f) (F1 : FnOk X.prog X.w X.K X.mg X.base (L2.CX X.prog X.w) k fI fd ["self", pn] (spI X.K g C f D)) (hr : Room (k + 1) X.A) (hb : Binds X.K fd ["self", pn] []) (hg : Gl X x) (hm : X.mg x = some (.ref C)) (ha : PA X [e] ta)
    (hdb : (x == ("__debug__" : PySem.Str)) = false) (he : starEach [e] X.env = (false, eval e X.env) :: starEach [] X.env) (hpl : (backTo pos (starEach [] X.env)).any (·.1) = false) : PE X (.Call (.Name x p) [e] [] pos) (tMkV X.K g C f D ta) := by
  refine ⟨fun pins s σ H Q I hw => ?_⟩
  obtain ⟨nm, q, N, bs, bm, sn, sub, ab, col, dd, k0, k1, k2, k3, k5, hC, hbm⟩ := T.cls
  refine wpAny_Call_Name_kw (ld_glob I hg hm ?_ hdb)
  refine PySem.W.callWith_K (h₀ := X.base) I.ok.mod.kin T.kC (thn (ha.run pos pins s σ H _ I hw) fun us s1 ⟨vs, H1, I1, r1, q1⟩ => ⟨I1.kIn, ?_⟩) he hpl
  show wpAny _ _ (call (.ref C) us) _ _ _
  obtain ⟨hq, gs, dr, tk, os⟩ := s1
  have big : hq.objs.size ≤ hq.objs.size + 1 := Nat.le_succ _
  have hn : H1 (hq.objs.size + 1) = none := I1.hok.fresh big
  have hsp := q1 (hq.objs.size + 1) hn
  have kk : ∀ z o, hq.get? z = some o → ((hq.push (PySem.W.kdv_tup us)).push (PySem.HandSPX.excO C hq.objs.size)).get? z = some o := fun z o e => Heap.get?_push_of_some _ (Heap.get?_push_of_some _ e)
  have hget : ((hq.push (PySem.W.kdv_tup us)).push (PySem.HandSPX.excO C hq.objs.size)).get? (hq.objs.size + 1) = some (PySem.HandSPX.excO C hq.objs.size) := by heap_get
  have I2 : Inv X pins σ (upd H1 (hq.objs.size + 1) (exo (hq.objs.size + 1) C none)) ⟨(hq.push (PySem.W.kdv_tup us)).push (PySem.HandSPX.excO C hq.objs.size), gs, dr, tk, os⟩ :=
    I1.laid (t' := tk) (a := hq.objs.size + 1) (o := exo (hq.objs.size + 1) C none) kk big (exo_ok hget)
  have r2 : Vals (V.ref (hq.objs.size + 1) :: vs) (Value.ref (hq.objs.size + 1) :: us) := .cons rfl r1
  have hl : (Value.ref (hq.objs.size + 1) :: us ++ []).length = (["self", pn] : List PySem.Str).length := by
    have e1 := r2.length
    rw [F1.len _ _ _ _ hsp] at e1
    simpa using e1.symm
  have hus : us.length ≤ sizeLine := by
    have e2 : us.length = 1 := by simpa using hl
    rw [e2, sizeLine_eq]
    exact (by decide : 1 ≤ 16777216)
  have b1 := hb _ (Value.ref (hq.objs.size + 1) :: us) I2.kIn hl
  refine wpAny_call (PySem.HandSPX.call_own F.excBase_Exception (fun Y => refsE_has Y hbm) (I1.kIn _ _ hC) (PySem.W.looks_findIn I1.kIn T.iC) (fun self => PySem.W.bind_fn I1.kIn self T.tI) hus
    (codeAny_mono (F1.run _ X.stack _ _ ⟨Value.ref (hq.objs.size + 1) :: us, []⟩ (Value.ref (hq.objs.size + 1) :: us ++ []) _ _ (fun _ _ _ => False) (hr.make C us []) (I2.env0.make C us []) b1 (by rw [List.append_nil]; exact r2) hsp) fun r s2 hq2 => ?_))
  cases r with
  | error er =>
    have hq2 : L2.CX X.prog X.w X.stack _ _ (fun _ _ _ => False) er s2 := hq2
    obtain ⟨_, _, _, _, _, _, _, _, _, _, _, _, z⟩ := hq2
    exact z.elim
  | ok fl =>
    cases fl with
    | ret u =>
      obtain ⟨v, H2, os2, bare2, un2, hok2, rv, ev, q2⟩ := hq2
      subst ev
      exact ⟨rv, .ref (hq.objs.size + 1), H2, I2.call' (ch := []) os2 un2 hok2 bare2 (fun b z => absurd z (by simp)), rfl, q2⟩
    | next => exact False.elim hq2
    | brk => exact False.elim hq2
    | cont => exact False.elim hq2
theorem pd_mkX {fa : DEnv → Mo Vx} (T : OexE X.K (He.ga X.K x) fI f) (F1 : FnOk X.prog X.w X.K X.mg X.base (L2.CX X.prog X.w) k fI fd ["self", pn] (spI X.K g (He.ga X.K x) f D)) (hr : Room (k + 1) X.A) (hb : Binds X.K fd ["self", pn] []) (hg : Gl X x) (hm : X.mg x = some (.ref (He.ga X.K x)))
    (ha : PE X e (LE X.K g Wx fa)) (hdb : (x == ("__debug__" : PySem.Str)) = false) (he : starEach [e] X.env = (false, eval e X.env) :: starEach [] X.env) (hpl : (backTo pos (starEach [] X.env)).any (·.1) = false) :
    PE X (.Call (.Name x p) [e] [] pos) (LE X.K g Wx (eMkX x f D fa)) := by
  refine (pmkV (D := D) T F1 hr hb hg hm (pa_cons ha pa_nil he) hdb he hpl).imp fun σ H0 Q q => ?_
  refine Lf.imp (Lf.bnd (R := RV X.K) q) fun v H1 ⟨W1, ρ, y, h1, hr1, er, rr, p1⟩ => ?_
  intro a na
  obtain ⟨hrA, exA⟩ := hr1.add na (o := exo a (He.ga X.K x) none)
  refine ⟨a, v, W1, h1, y, rfl, upd_same, hrA, rr, ?_⟩
  unfold Dn.bnd noErr at p1
  cases hm2 : callM [false] D [y] h1 with
  | stk => rw [hm2] at p1; exact p1.elim
  | err c pp h2 => rw [hm2] at p1; exact p1.elim
  | ok z h2 =>
    rw [hm2] at p1
    intro W2 v' H2 ex2 hr2 rz dx ndx hda
    obtain ⟨hf1, hf2, hf3⟩ := hr1.made (C := He.ga X.K x) na (fs := [(f, v')]) ex2 hr2 ndx hda
    refine ⟨rfl, ?_⟩
    cases z with
    | d pp =>
      refine p1 _ _ _ hf2 hf1 ⟨a, dx, v', rfl, upd_same, ?_, RepD.le hf3 rz⟩
      show upd (upd W2.F dx (exd dx [(f, v')])) a _ dx = _
      rw [upd_ne hda, upd_same]
    | _ => exact p1.elim
end
/-! ### isinstance(e, T) -/
structure ExC (K : PySem.W.Frag) (D : Addr) : Prop where
  hc : (PySem.W.clsIn K D).isSome = true
  hg : PySem.W.findIn K (.ref D) "__getattribute__" = some (some (.builtin "BaseException.__getattribute__"))
  hk : PySem.W.findIn K (.ref D) "__getattr__" = some none
  hs : PySem.W.subIn K (.ref D) (.type "BaseException") = some true
  ha : PySem.W.findIn K (.ref D) "__class__" = some (some (.builtin "object.__class__"))
  hn : PySem.W.specialIn K (.builtin "object.__class__") "__get__" = some (some (.builtin "getset_descriptor.__get__"))
  ht : PySem.W.takesIn K (.builtin "object.__class__") = some true
  hm : PySem.W.mroIn K D (.type "object") = some true
def excB (K : PySem.W.Frag) (D : Addr) : Bool := (PySem.W.clsIn K D).isSome && (decide (PySem.W.findIn K (.ref D) "__getattribute__" = some (some (.builtin "BaseException.__getattribute__"))) && (decide (PySem.W.findIn K (.ref D) "__getattr__" = some none) &&
  (decide (PySem.W.subIn K (.ref D) (.type "BaseException") = some true) && (decide (PySem.W.findIn K (.ref D) "__class__" = some (some (.builtin "object.__class__"))) && (decide (PySem.W.specialIn K (.builtin "object.__class__") "__get__" = some (some (.builtin "getset_descriptor.__get__"))) &&
    (decide (PySem.W.takesIn K (.builtin "object.__class__") = some true) && decide (PySem.W.mroIn K D (.type "object") = some true)))))))
theorem excB_ok {K : PySem.W.Frag} {D : Addr} (h : excB K D = true) : ExC K D := by
  unfold excB at h
  simp only [Bool.and_eq_true, decide_eq_true_eq] at h
  obtain ⟨h1, h2, h3, h4, h5, h6, h7, h8⟩ := h
  exact ⟨h1, h2, h3, h4, h5, h6, h7, h8⟩
/-- every class of the list is such a one -/
def xcB (K : PySem.W.Frag) (xs : Exs) : Bool := xs.all fun p => oexB K (He.ga K p.1) (He.ma K (He.ga K p.1) "__init__") p.2 && excB K (He.ga K p.1)
theorem xcB_ok {K : PySem.W.Frag} {xs : Exs} (h : xcB K xs = true) {n f : PySem.Str} (m : (n, f) ∈ xs) : OexE K (He.ga K n) (He.ma K (He.ga K n) "__init__") f ∧ ExC K (He.ga K n) := by
  have q := List.all_eq_true.mp h (n, f) m
  rw [Bool.and_eq_true] at q
  exact ⟨oexB_ok q.1, excB_ok q.2⟩
/-- what isinstance answers for each class -/
def isB (K : PySem.W.Frag) (c : Value) (tb : List (PySem.Str × Bool)) : Bool := tb.all fun p => decide (PySem.W.kitOne K (.ref (He.ga K p.1)) c = some p.2)
theorem isB_ok {K : PySem.W.Frag} {c : Value} {tb : List (PySem.Str × Bool)} (h : isB K c tb = true) {n : PySem.Str} {b : Bool} (m : (n, b) ∈ tb) : PySem.W.kitOne K (.ref (He.ga K n)) c = some b := of_decide_eq_true (List.all_eq_true.mp h (n, b) m)
def lkB : List (PySem.Str × Bool) → PySem.Str → Option Bool
  | [], _ => none
  | (m, b) :: r, n => if m = n then some b else lkB r n
theorem lkB_mem {n : PySem.Str} {b : Bool} : ∀ {l : List (PySem.Str × Bool)}, lkB l n = some b → (n, b) ∈ l
  | [], e => by cases e
  | (m, c) :: r, e => by
    unfold lkB at e
    split at e
    · rename_i q; cases e; rw [q]; exact List.mem_cons_self
    · exact List.mem_cons_of_mem _ (lkB_mem e)
def hasX : Exs → PySem.Str → PySem.Str → Bool
  | [], _, _ => false
  | (m, c) :: r, n, f => (decide (m = n) && decide (c = f)) || hasX r n f
theorem hasX_mem {n f : PySem.Str} : ∀ {l : Exs}, hasX l n f = true → (n, f) ∈ l
  | [], e => by cases e
  | (m, c) :: r, e => by
    unfold hasX at e
    rw [Bool.or_eq_true, Bool.and_eq_true] at e
    rcases e with ⟨h1, h2⟩ | e
    · rw [of_decide_eq_true h1, of_decide_eq_true h2]; exact List.mem_cons_self
    · exact List.mem_cons_of_mem _ (hasX_mem e)
def eIsX (xs : Exs) (tb : List (PySem.Str × Bool)) (fa : DEnv → Mo Vx) : DEnv → Mo Vx := fun ρ => bnd (fa ρ) fun y h => match y with
  | .x n f _ => if hasX xs n f = true then (match lkB tb n with
    | some b => .ok (.d (.bl b)) h
    | none => .stk) else .stk
  | _ => .stk
def eFldX (xs : Exs) (f : PySem.Str) (fa : DEnv → Mo Vx) : DEnv → Mo Vx := fun ρ => bnd (fa ρ) fun y h => match y with
  | .x n f' p => if hasX xs n f' = true then (if f' = f then .ok (.d p) h else .stk) else .stk
  | _ => .stk
def rIsX (K : PySem.W.Frag) : List V → Hp → VK → Prop := fun xs H Q => ∃ (a C dx : Addr) (fs : List (PySem.Str × V)) (c : V) (u : Value) (b : Bool), xs = [.ref a, c] ∧ ClsV c u ∧ H a = some (exo a C (some dx)) ∧ H dx = some (exd dx fs) ∧ ExC K C ∧ PySem.W.kitOne K (.ref C) u = some b ∧ Q (.bl b) H
section
variable {X : Cx} {g : Gp} {Wx : WX} {a : Expr} {fa : DEnv → Mo Vx} {pos : Pos}
theorem exo_inst {pins : List (Addr × Obj)} {σ : L2.St} {H : Hp} {s : Shared} {b C dx : Addr} {fs : List (PySem.Str × V)} (I : Inv X pins σ H s) (e1 : H b = some (exo b C (some dx))) (e2 : H dx = some (exd dx fs)) :
    ∃ ox od mA, PySem.W.InstAt s.heap b ox C (some od) ∧ s.heap.Ns1 dx mA ∧ s.heap.get? dx = some od ∧ (∀ f, RelO (fs.lookup f) (mA f)) ∧ ox.dict = some dx := by
  obtain ⟨t1, ho⟩ := exo_at I.hok e1
  obtain ⟨mA, hns, rel⟩ := exd_at I.hok e2
  obtain ⟨od, es, ep, hod, hr⟩ := id hns
  exact ⟨_, od, mA, ⟨ho, rfl, rfl, hod⟩, hns, hod, rel, rfl⟩
theorem call_isX : CallR X (.builtin "isinstance") (rIsX X.K) := by
  intro pins s σ H xs us Q I r h
  obtain ⟨b0, C, dx, fs, c, u, b, rfl, k, e1, e2, E, e, q⟩ := h
  obtain ⟨u1, u2, rfl, r1, r2⟩ := vals2 r
  have ec := k.eq r2
  subst ec
  obtain rfl : u1 = Value.ref b0 := r1
  obtain ⟨ox, od, mA, J, _⟩ := exo_inst I e1 e2
  exact PySem.W.kia_one (PySem.W.kitx_exc E.hc E.hg E.hk E.hs E.ha E.hn E.ht E.hm) I.kIn J e (fun z => nomatch z) fun tk => ⟨.bl b, H, I.tok tk, rfl, q⟩
theorem pd_isX {xs : Exs} {tb : List (PySem.Str × Bool)} {x : PySem.Str} {c : V} {u : Value} {p p1 : Pos} (hc : xcB X.K xs = true) (ht0 : isB X.K u tb = true) (kc : ClsV c u) (hg : Gl X "isinstance") (hm : X.mg "isinstance" = none) (ha : PE X a (LE X.K g Wx fa)) (ht : PE X (.Name x p1) (fun _ H Q => Q c H))
    (hs : starEach [a, .Name x p1] X.env = (false, eval a X.env) :: starEach [.Name x p1] X.env) (hs2 : starEach [.Name x p1] X.env = (false, eval (.Name x p1) X.env) :: starEach [] X.env) (hpl : (backTo pos (starEach [.Name x p1] X.env)).any (·.1) = false) :
    PE X (.Call (.Name "isinstance" p) [a, .Name x p1] [] pos) (LE X.K g Wx (eIsX xs tb fa)) := by
  refine (pe_callB call_isX hg hm boot_isinstance (pa_cons ha (pa_cons ht pa_nil hs2) hs) (by decide) (by decide) hs hpl).imp fun σ H Q p => ?_
  refine Lf.imp (Lf.bnd (R := RV X.K) p) fun v H1 ⟨W1, ρ, y, h1, hr1, er, rr, p1⟩ => ?_
  cases y with
  | x n f pp =>
    simp only at p1
    split at p1
    · rename_i hx
      split at p1
      · rename_i b eb
        obtain ⟨a1, dx, y1, rfl, e1, e2, e3⟩ := rr
        refine ⟨a1, _, dx, _, c, u, b, rfl, kc, hr1.fro _ _ e1, hr1.fro _ _ e2, (xcB_ok hc (hasX_mem hx)).2, isB_ok ht0 (lkB_mem eb), ?_⟩
        exact p1.ret hr1 (RepD.bl _)
      · exact p1.elim
    · exact p1.elim
  | _ => exact p1.elim
/-- e.f -/
theorem pd_fldX {xs : Exs} {f : PySem.Str} (hc : xcB X.K xs = true) (ha : PE X a (LE X.K g Wx fa)) (hb : attributeBase a f X.env (eval a X.env) = eval a X.env) : PE X (.Attribute a f pos) (LE X.K g Wx (eFldX xs f fa)) := by
  refine ⟨fun pins s σ H Q I hw => ?_⟩
  refine attr_of hb (thn (ha.run pins s σ H _ I (Lf.bnd (R := RV X.K) hw)) fun u s1 hh => ?_)
  obtain ⟨x, H1, I1, rx, W1, ρ, y, h1, hr1, er, rr, p1⟩ := hh
  cases y with
  | x n f' pp =>
    simp only at p1
    split at p1
    · rename_i hx
      split at p1
      · rename_i ef
        subst ef
        obtain ⟨a1, dx, y1, rfl, e1, e2, e3⟩ := rr
        obtain rfl : u = Value.ref a1 := rx
        obtain ⟨T, _⟩ := xcB_ok hc (hasX_mem hx)
        obtain ⟨ox, od0, mA, J, hns, hod, rel, hdx⟩ := exo_inst I1 (hr1.fro _ _ e1) (hr1.fro _ _ e2)
        obtain ⟨od, ho, hl⟩ := lookIn_ns hns
        rw [hod] at ho
        cases ho
        have l1 : List.lookup f' [(f', y1)] = some y1 := by simp [List.lookup]
        obtain ⟨u, hu, ru⟩ := RelO.some_of (v := y1) (o := mA f') (by rw [← l1]; exact rel f')
        exact HandSPX.exc_get I1.kIn J T.ga T.gg T.exC (PySem.W.findObj_own T.hdC T.noN rfl (by rw [hl, hu])) (handed_of ru) ⟨y1, H1, I1.tok _, ru, p1.ret hr1 e3⟩
      · exact p1.elim
    · exact p1.elim
  | _ => exact p1.elim
end
end Dn
end
section
set_option Elab.async false
set_option linter.all false
set_option maxRecDepth 100000
set_option maxHeartbeats 4000000
/-! Dn103: raise X(e) from None where nothing is handled; a def called in an except suite; try: raise .. except B as n: return isinstance(n, C) and f(n.g, x). -/
namespace Dn
open PySem PySem.Spec PyProof.Rows L2 HotX

theorem raise_madeN {prog : Program} {w : World} {A : Around} {E : Value → Shared → Prop} {env : Env} {s : Shared} {x c : Sem Value} {Q : Flow → Shared → Prop} (hh : A.handled = none)
    (hcs : ∀ (s : Shared) (Q' : Value → Shared → Prop), Q' .none s → wpAny (model prog w) A c Q' E s)
    (h : wpAny (model prog w) A x (fun v s₁ => ∃ a oe vs cls, v = .ref a ∧ s₁.heap.get? a = some oe ∧ oe.cls = cls ∧ oe.data = .fields vs ∧ vs[1]? = some .none ∧ 4 < vs.size ∧
      PySem.W.Looks (model prog w) s₁.heap (isSubtype cls (.type "BaseException")) true ∧ PySem.W.Looks (model prog w) (noneFrom s₁.heap a) (typeOf cls) (.type "type") ∧
      E (.ref a) { s₁ with heap := noneFrom s₁.heap a }) E s) :
    wpAny (model prog w) A (raiseStmt env (some x) (some c)) Q E s := by
  unfold raiseStmt
  dsimp only
  refine wpAny_bind (wpAny_mono h (fun v s₁ h₁ => ?_) fun _ _ x => x)
  obtain ⟨a, oe, vs, cls, rfl, ha, hcls, hd, h1, hi, L1, L3, hE⟩ := h₁
  have LT : PySem.W.Looks (model prog w) s₁.heap (typeOf (.ref a)) cls := fun A Q E s k q => wpAny_typeOf_ref (k _ _ ha) (by rw [hcls]; exact q)
  have LI : PySem.W.Looks (model prog w) s₁.heap (isInstance (.ref a) (.type "BaseException")) true := LT.andThen L1
  have hnt : ∀ {Q' : Bool → Shared → Prop}, Q' false s₁ → wpAny (model prog w) A (isType (.ref a)) Q' E s₁ := by
    intro Q' hq
    simp only [isType, loadHead]
    refine wpAny_bind (wpAny_loadPart ha ?_)
    rw [hd]; exact wpAny_pure hq
  have hd3 := Obj.data_mapFields hd (·.setIfInBounds 3 .none)
  have ha3 := Heap.get?_update_self (Obj.mapFields (·.setIfInBounds 3 .none)) ha (Obj.isFreed_of_fields hd3)
  obtain ⟨ha4, hd4⟩ := noneFrom_at ha hd
  have s3 : 3 < vs.size := by omega
  have s4 : 4 < (vs.setIfInBounds 3 Value.none).size := by rw [set_size]; exact hi
  have h14 : ((vs.setIfInBounds 3 Value.none).setIfInBounds 4 (Value.bool true))[1]? = some Value.none := set_other (by decide) (set_other (by decide) h1)
  have hcls4 : ((oe.mapFields (·.setIfInBounds 3 .none)).mapFields (·.setIfInBounds 4 (.bool true))).cls = cls := by rw [Obj.cls_mapFields, Obj.cls_mapFields]; exact hcls
  have LT4 : PySem.W.Looks (model prog w) (noneFrom s₁.heap a) (typeOf (.ref a)) cls := fun A Q E s k q => wpAny_typeOf_ref (k _ _ ha4) (by rw [hcls4]; exact q)
  have hnt4 : ∀ {Q' : Bool → Shared → Prop}, Q' false { s₁ with heap := noneFrom s₁.heap a } → wpAny (model prog w) A (isType (.ref a)) Q' E { s₁ with heap := noneFrom s₁.heap a } := by
    intro Q' hq
    simp only [isType, loadHead]
    refine wpAny_bind (wpAny_loadPart ha4 ?_)
    rw [hd4]; exact wpAny_pure hq
  have rest : wpAny (model prog w) A (do
      let b ← isType (.ref a)
      if b = true then do
        let e ← holding [.ref a] (raisedFor (.ref a) (.ref a))
        setFlight e none
        raiseNew e
      else do
        let e ← raisedInstance (.ref a)
        setFlight e none
        raiseNew e : Sem Flow) Q E { s₁ with heap := noneFrom s₁.heap a } := by
    refine wpAny_bind (hnt4 ?_)
    simp only [Bool.false_eq_true, if_false]
    unfold raisedInstance
    refine wpAny_bind (wpAny_bind (LT4.here (wpAny_bind (L3.here ?_))))
    rw [if_pos (beq_self_eq_true _)]
    refine wpAny_pure ?_
    unfold setFlight raiseNew
    refine wpAny_bind (wpAny_bind (wpAny_field ha4 hd4 h14 ?_))
    rw [if_neg (by decide)]
    refine wpAny_pure (wpAny_bind (wpAny_handled ?_))
    rw [hh]
    first
      | exact wpAny_throw hE
      | exact wpAny_bind (wpAny_pure (wpAny_throw hE))
  refine wpAny_bind (wpAny_holding (hcs _ _ (wpAny_bind (wpAny_pure ?_))))
  dsimp only
  refine wpAny_bind (wpAny_holding ?_)
  unfold excFromValue isExcClass
  refine wpAny_bind (wpAny_bind (hnt ?_))
  simp only [Bool.false_eq_true, if_false]
  refine wpAny_pure ?_
  simp only [Bool.false_eq_true, if_false]
  refine wpAny_bind (LI.here ?_)
  simp only [if_true]
  refine wpAny_pure ?_
  first
  | rw [if_pos (show (Value.none == Value.none) = true from rfl)]
  | (show wpAny _ _ (if (Value.none == Value.none) = true then _ else _) _ _ _; rw [if_pos (show (Value.none == Value.none) = true from rfl)])
  | simp only [beq_self_eq_true, if_true]
  first
  | refine wpAny_bind (wpAny_pure (wpAny_bind (wpAny_setField ha hd s3 (wpAny_bind (wpAny_setField ha3 hd3 s4 ?_)))))
  | refine wpAny_bind (wpAny_pure (wpAny_bind (wpAny_bind (wpAny_setField ha hd s3 (wpAny_bind (wpAny_setField ha3 hd3 s4 ?_))))))
  | refine wpAny_bind (wpAny_bind (wpAny_pure (wpAny_bind (wpAny_setField ha hd s3 (wpAny_setField ha3 hd3 s4 ?_)))))
  first
  | exact rest
  | (dsimp only; exact rest)
  | (refine wpAny_pure ?_; exact rest)
  | (simp only [bind_pure_comp] ; exact rest)
/-- raise X(..) from None, nothing handled -/
theorem ps_raiseN {X : Cx} {W : WX} {e : Expr} {t : L2.St → Hp → XK → Prop} {j : Nat} {cpos pos : Pos} (hc : X.calm = true) (tk : L2N.Takes X W) (he : L2H.PMk5 X e t) :
    PS X (.Raise (some e) (some (.Constant .none j cpos)) pos) (fun _ σ H => t σ H fun cls d H' => W cls d σ H') := by
  refine ⟨fun pins s σ H D I h => ?_⟩
  show wpAny _ _ (do standAt pos; raiseStmt X.env (some (do let v ← eval e X.env; standAt pos; pure v)) (some (do let v ← eval (.Constant .none j cpos) X.env; standAt pos; pure v))) _ _ _
  refine wpAny_bind (wpAny_standAt (raise_madeN (I.ok.hd hc) (fun s2 Q2 q2 => wpAny_bind (Constant_none (wpAny_bind (wpAny_standAt (wpAny_pure q2))))) (wpAny_bind (wpAny_mono (he pins s σ H _ I h) (fun u s1 hu => wpAny_bind (wpAny_standAt (wpAny_pure ?_))) fun _ _ x => x))))
  obtain ⟨⟨a, oe, vs, sI, H', cls, d, rfl, J, k, hne, ha, hz, hd, h1, na, os, ag, r, q⟩, h5⟩ := hu
  have hi : 4 < vs.size := h5 a oe vs rfl ha hd
  have k4 : ∀ b u, sI.heap.get? b = some u → (noneFrom s1.heap a).get? b = some u := fun b u z => by
    have nab : a ≠ b := fun y => by
      rw [← y, hne] at z
      cases z
    rw [noneFrom_other nab]
    exact k b u z
  obtain ⟨r1, _⟩ := r (model X.prog X.w) s1.heap (J.kIn.keeps k)
  obtain ⟨_, r2⟩ := r (model X.prog X.w) (noneFrom s1.heap a) (J.kIn.keeps k4)
  obtain ⟨ha4, hd4⟩ := noneFrom_at ha hd
  have h12 : ((vs.setIfInBounds 3 Value.none).setIfInBounds 4 (Value.bool true))[1]? = some Value.none := set_other (by decide) (set_other (by decide) h1)
  refine ⟨a, oe, vs, cls, rfl, ha, hz.1, hd, h1, hi, r1, r2, tk _ _ (L2N.XE.new (s' := { s1 with heap := noneFrom s1.heap a }) J k4 hne ha4
    ⟨by rw [Obj.cls_mapFields, Obj.cls_mapFields]; exact hz.1, by rw [HandSPX.dict_mapFields, HandSPX.dict_mapFields]; exact hz.2.1, fun vs2 e2 => ?_⟩ hd4 h12 na os ag q)⟩
  rw [hd4] at e2
  cases e2
  exact set_other (by decide) (set_other (by decide) (hz.2.2 vs hd))
section
variable {X : Cx} {g : Gp} {Wx : WX} {C fI : Addr} {f x pn : PySem.Str} {D : List Vx → Mo Vx} {e : Expr} {ta : TA} {p pos : Pos} {k : Nat} {fd : FuncData}
theorem pmkE5 (T : OexE X.K C fI f) (F1 : FnOk X.prog X.w X.K X.mg X.base (L2.CX X.prog X.w) k fI fd ["self", pn] (spI X.K g C f D)) (hr : Room (k + 1) X.A) (hb : Binds X.K fd ["self", pn] []) (hg : Gl X x) (hm : X.mg x = some (.ref C)) (ha : PA X [e] ta)
    (hdb : (x == ("__debug__" : PySem.Str)) = false) (he : starEach [e] X.env = (false, eval e X.env) :: starEach [] X.env) (hpl : (backTo pos (starEach [] X.env)).any (·.1) = false) : L2H.PMk5 X (.Call (.Name x p) [e] [] pos) (tMkE X.K g C f D ta) := by
  intro pins s σ H Q I hw
  obtain ⟨nm, q, N, bs, bm, sn, sub, ab, col, dd, k0, k1, k2, k3, k5, hC, hbm⟩ := T.cls
  refine wpAny_Call_Name_kw (ld_glob I hg hm ?_ hdb)
  refine PySem.W.callWith_K (h₀ := X.base) I.ok.mod.kin T.kC (thn (ha.run pos pins s σ H _ I hw) fun us s1 ⟨vs, H1, I1, r1, q1⟩ => ⟨I1.kIn, ?_⟩) he hpl
  show wpAny _ _ (call (.ref C) us) _ _ _
  obtain ⟨hq, gs, dr, tk, os⟩ := s1
  have big : hq.objs.size ≤ hq.objs.size + 1 := Nat.le_succ _
  have hn : H1 (hq.objs.size + 1) = none := I1.hok.fresh big
  have hsp := q1 (hq.objs.size + 1) hn
  have kk : ∀ z o, hq.get? z = some o → ((hq.push (PySem.W.kdv_tup us)).push (PySem.HandSPX.excO C hq.objs.size)).get? z = some o := fun z o e => Heap.get?_push_of_some _ (Heap.get?_push_of_some _ e)
  have hget : ((hq.push (PySem.W.kdv_tup us)).push (PySem.HandSPX.excO C hq.objs.size)).get? (hq.objs.size + 1) = some (PySem.HandSPX.excO C hq.objs.size) := by heap_get
  have I2 : Inv X pins σ (upd H1 (hq.objs.size + 1) (exo (hq.objs.size + 1) C none)) ⟨(hq.push (PySem.W.kdv_tup us)).push (PySem.HandSPX.excO C hq.objs.size), gs, dr, tk, os⟩ :=
    I1.laid (t' := tk) (a := hq.objs.size + 1) (o := exo (hq.objs.size + 1) C none) kk big (exo_ok hget)
  have r2 : Vals (V.ref (hq.objs.size + 1) :: vs) (Value.ref (hq.objs.size + 1) :: us) := .cons rfl r1
  have hl : (Value.ref (hq.objs.size + 1) :: us ++ []).length = (["self", pn] : List PySem.Str).length := by
    have e1 := r2.length
    rw [F1.len _ _ _ _ hsp] at e1
    simpa using e1.symm
  have hus : us.length ≤ sizeLine := by
    have e2 : us.length = 1 := by simpa using hl
    rw [e2, sizeLine_eq]
    exact (by decide : 1 ≤ 16777216)
  have b1 := hb _ (Value.ref (hq.objs.size + 1) :: us) I2.kIn hl
  refine wpAny_call (PySem.HandSPX.call_own F.excBase_Exception (fun Y => refsE_has Y hbm) (I1.kIn _ _ hC) (PySem.W.looks_findIn I1.kIn T.iC) (fun self => PySem.W.bind_fn I1.kIn self T.tI) hus
    (codeAny_mono (F1.run _ X.stack _ _ ⟨Value.ref (hq.objs.size + 1) :: us, []⟩ (Value.ref (hq.objs.size + 1) :: us ++ []) _ _ (fun _ _ _ => False) (hr.make C us []) (I2.env0.make C us []) b1 (by rw [List.append_nil]; exact r2) hsp) fun r s2 hq2 => ?_))
  cases r with
  | error er =>
    have hq2 : L2.CX X.prog X.w X.stack _ _ (fun _ _ _ => False) er s2 := hq2
    obtain ⟨_, _, _, _, _, _, _, _, _, _, _, _, z⟩ := hq2
    exact z.elim
  | ok fl =>
    cases fl with
    | ret u =>
      obtain ⟨v, H2, os2, bare2, un2, hok2, rv, ev, d, fs, ea, ed, hd1, q2⟩ := hq2
      subst ev
      obtain ⟨h2, g2, d2, t2, os'⟩ := s2
      obtain ⟨t0, G, J, kG, ge, hoe, na⟩ := mk_end0 (d2 := d2) (t2 := t2) I1 big kk un2 hok2 os2 bare2 ea ed hd1
      refine ⟨rv, ⟨_, _, _, ⟨G, g2, d2, t2, os'⟩, _, .ref C, some d, rfl, J, kG, ge, hoe, ⟨rfl, rfl, fun vs e => by cases e; rfl⟩, rfl, rfl, na, rfl, bare2, raises_own T.exC T.tyC, q2⟩, fun a oe vs e1 e2 e3 => ?_⟩
      cases e1
      have e2' : h2.get? (hq.objs.size + 1) = some oe := e2
      rw [hoe] at e2'
      cases e2'
      cases e3
      show (4 : Nat) < 6
      decide
    | next => exact False.elim hq2
    | brk => exact False.elim hq2
    | cont => exact False.elim hq2
theorem pd_raiseN {fa : DEnv → Mo Vx} {c j : Nat} {cpos pos2 : Pos} (hc : X.calm = true) (tk : L2N.Takes X Wx) (hx : g.xs[c]? = some (x, f)) (T : OexE X.K (He.ga X.K x) fI f) (F1 : FnOk X.prog X.w X.K X.mg X.base (L2.CX X.prog X.w) k fI fd ["self", pn] (spI X.K g (He.ga X.K x) f D)) (hr : Room (k + 1) X.A) (hb : Binds X.K fd ["self", pn] []) (hg : Gl X x) (hm : X.mg x = some (.ref (He.ga X.K x)))
    (ha : PE X e (LE X.K g Wx fa)) (hdb : (x == ("__debug__" : PySem.Str)) = false) (he : starEach [e] X.env = (false, eval e X.env) :: starEach [] X.env) (hpl : (backTo pos (starEach [] X.env)).any (·.1) = false) :
    PS X (.Raise (some (.Call (.Name x p) [e] [] pos)) (some (.Constant .none j cpos)) pos2) (LS X.K g Wx (sRaise c D fa)) := by
  refine (ps_raiseN hc tk (pmkE5 (D := D) T F1 hr hb hg hm (pa_cons ha pa_nil he) hdb he hpl)).imp fun D0 σ H0 q => ?_
  refine Lf.imp (Lf.bnd (R := RV X.K) q) fun v H1 ⟨W1, ρ, y, h1, hr1, er, rr, p1⟩ => ?_
  intro a na
  obtain ⟨hrA, exA⟩ := hr1.add na (o := exo a (He.ga X.K x) none)
  refine ⟨a, v, W1, h1, y, rfl, upd_same, hrA, rr, ?_⟩
  unfold Dn.bnd noErr at p1
  cases hm2 : callM [false] D [y] h1 with
  | stk => rw [hm2] at p1; exact p1.elim
  | err c pp h2 => rw [hm2] at p1; exact p1.elim
  | ok z h2 =>
    rw [hm2] at p1
    intro W2 v' H2 ex2 hr2 rz dx ndx hda
    refine ⟨rfl, dx, [(f, v')], upd_same, ?_, ?_, ?_⟩
    · rw [upd_ne hda, upd_same]
    · have q1 := ex2.dom dx ndx
      rw [upd_ne hda] at q1
      exact q1
    · obtain ⟨hf1, hf2⟩ := hr1.raised (C := He.ga X.K x) na (o := .xd [(f, v')]) (fs := [(f, v')]) ex2 hr2 ndx hda (fun ps z => by cases z)
      cases z with
      | d pp => exact p1 W2 _ _ _ hf2 hf1 ⟨x, f, hx, rfl, dx, v', rfl, upd_same, rz⟩
      | _ => exact p1.elim
end
/-! ### a def in an except suite -/
section
variable {P : Program} {w : World} {K : PySem.W.Frag} {mg : PySem.Str → Option Value} {base : Heap} {g : Gp}
theorem fn_okH {x qual : PySem.Str} {params : Arguments} {body : List Stmt} {scope : Scope} {dvs : List V} {kws : List (PySem.Str × V)} {f : Addr} {fd : FuncData} {N ps : List PySem.Str} {k nl n : Nat} {fb : SF} (F : FunD K x qual params body scope dvs kws f fd) (S : FnScope N ps scope) (hn : N.length = nl) (hp : ps.length = n)
    (hb : ∀ (cdv : Value) (A : Around) (outer : List Env) (s : Shared) (H : Hp) (E : XK) (p : Addr × Obj), L2H.RoomH k (A.deeper (envOfC qual scope s.heap.objs.size f cdv)) →
      PSs (L2H.cxH (L2.CX P w) P w K mg base N qual scope f cdv A outer s H E p) body (LS K g (fun _ _ _ _ => False) fb)) :
    L2H.FnH P w K mg base (L2.CX P w) (k + 1) f fd ps (spD K g n fun ys => noErr (fnM nl fb ys)) := by
  subst hn hp
  obtain ⟨oc, od, dV, kV, doc, pm, an, cdv, ct, osl, rfl, lk, hcd, _, _⟩ := F.ex
  refine L2H.fn_ofH lk hcd S (fun vs H Q E h => h.1) fun A outer s H vs Q E p hot hr h => ⟨_, hb cdv A outer s H E p hr, ?_⟩
  obtain ⟨hl, W, h0, ys, r, rv, pp⟩ := h
  refine ⟨W, start0 N.length ys, h0, r, start_rel rv, ?_⟩
  have pq : Post K g (RV K) W H (noErr (fnM N.length fb ys) h0) Q E := pp
  unfold noErr fnM at pq
  cases hm : fb (start0 N.length ys) h0 with
  | stk => unfold Dn.bnd at pq; rw [hm] at pq; exact pq.elim
  | err c d h1 => unfold Dn.bnd at pq; rw [hm] at pq; exact pq.elim
  | ok o h1 =>
    unfold Dn.bnd at pq
    rw [hm] at pq
    obtain ⟨o, ρ⟩ := o
    intro W' v H' ex hr' rr
    cases v with
    | nx σ =>
      cases o with
      | nx => exact Post.ret (v := V.non) (pq.later ex) hr' RepD.non
      | _ => exact rr.elim
    | rt v =>
      cases o with
      | rt y => exact Post.ret (v := v) (pq.later ex) hr' rr
      | _ => exact rr.elim
    | bk σ =>
      cases o with
      | bk => exact pq.elim
      | _ => exact rr.elim
    | ct σ =>
      cases o with
      | ct => exact pq.elim
      | _ => exact rr.elim
end
theorem FunD.one {K : PySem.W.Frag} {x qual : PySem.Str} {params : Arguments} {body : List Stmt} {scope : Scope} {dvs : List V} {kws : List (PySem.Str × V)} {f : Addr} {fd fd2 : FuncData} (F : FunD K x qual params body scope dvs kws f fd) (G : FunD K x qual params body scope dvs kws f fd2) : fd = fd2 := by
  obtain ⟨_, _, _, _, _, _, _, _, _, _, _, l1, _⟩ := F.ex
  obtain ⟨_, _, _, _, _, _, _, _, _, _, _, l2, _⟩ := G.ex
  rw [l1] at l2
  cases l2
  rfl
theorem room64H {k : Nat} {A : Around} (r : L2H.RoomH k A) : A.units + 64 < cLine := by
  have := r.un
  omega
theorem room0H {k : Nat} {A : Around} (r : L2H.RoomH k A) : A.units < cLine := by
  have := r.un
  omega
theorem insH : Ins (fun _ _ _ _ => False) := fun _ _ _ _ _ q => q
/-- what isn't walked -/
def sStk : SF := fun _ => stk
theorem pds_stk {X : Cx} {g : Gp} {Wx : WX} {b : List Stmt} : PSs X b (LS X.K g Wx sStk) := ⟨fun pins s σ H D I h => by
  obtain ⟨W, ρ, h0, hr, er, p⟩ := h
  exact p.elim⟩
/-! ### the exception that a suite holds -/
def rIsP (K : PySem.W.Frag) (a : Addr) (cls : Value) (d : Option Addr) : List V → Hp → VK → Prop := fun xs H Q => ∃ (C dd : Addr) (fs : List (PySem.Str × V)) (c : V) (u : Value) (b : Bool), xs = [.ref a, c] ∧ cls = .ref C ∧ d = some dd ∧ H dd = some (.xd fs) ∧ ClsV c u ∧ ExC K C ∧ PySem.W.kitOne K (.ref C) u = some b ∧ Q (.bl b) H
theorem call_isP {X : Cx} {a : Addr} {oe : Obj} {cls : Value} {d : Option Addr} {pn : List (Addr × Obj)} (hz : Zc cls d oe) (hf : ∃ vs, oe.data = .fields vs) : CallR (X.suite a ((a, oe) :: pn)) (.builtin "isinstance") (rIsP X.K a cls d) := by
  intro pins s σ H xs us Q I r h
  obtain ⟨C, dd, fs, c, u, b, rfl, ec, ed, ea, k, E, e, q⟩ := h
  subst ec
  subst ed
  obtain ⟨u1, u2, rfl, r1, r2⟩ := vals2 r
  have eu := k.eq r2
  subst eu
  obtain rfl : u1 = Value.ref a := r1
  obtain ⟨hget, _⟩ := I.pin (a, oe) (List.mem_append_left _ List.mem_cons_self)
  obtain ⟨vs, hd⟩ := hf
  have hx : ObjOk X.prog X.w H s.heap dd (.xd fs) := I.hok dd _ ea
  obtain ⟨mA, hns, hr⟩ := hx
  obtain ⟨od, es, ep, hod, _⟩ := id hns
  have J : PySem.W.InstAt s.heap a oe C (some od) := ⟨hget, hz.1, by unfold PySem.W.notCls; rw [hd] <;> rfl, by rw [hz.2]; exact hod⟩
  exact PySem.W.kia_one (PySem.W.kitx_exc E.hc E.hg E.hk E.hs E.ha E.hn E.ht E.hm) I.kIn J e (fun z => nomatch z) fun tk => ⟨.bl b, H, I.tok tk, rfl, q⟩
theorem takesN0 {X : Cx} : L2N.Takes X (fun _ _ _ _ => False) := fun _ _ x => by
  obtain ⟨_, _, _, _, _, _, _, _, _, _, _, _, _, _, _, _, z⟩ := x
  exact z.elim
theorem passes0 {X : Cx} {σ : L2.St} : PassesAt (L2.CX X.prog X.w) X σ (fun _ _ _ => False) := fun _ _ _ _ _ _ c => by
  obtain ⟨_, _, _, _, _, _, _, _, _, _, _, _, z⟩ := c
  exact z.elim
theorem ps_len {X : Cx} {b : Stmt} {t : TS} (h : PS X b t) : PS X b (fun D σ H => σ.length = X.N.length → t D σ H) := ⟨fun pins s σ H D I w => h.run pins s σ H D I (w I.len)⟩
/-- try: raise X(e) from None / except B as n: return isinstance(n, X2) and f(n.g, v): slot i is n's, slot j is v's -/
def sTryX (j : Nat) (Din : List Vx → Mo Vx) (fa : DEnv → Mo Vx) (Ds : List Vx → Mo Vx) : SF := fun ρ => bnd (noErr (fa ρ)) fun y => bnd (noErr (callM [false] Din [y])) fun z h => match z with
  | .d p => (match ρ[j]? with
    | some (some y2) => bnd (noErr (callM [false, false] Ds [.d p, y2])) (fun r => ret (.rt r, ρ)) h
    | _ => .stk)
  | _ => .stk
section
variable {X : Cx} {g : Gp} {Wx : WX} {f x pn x2 b n so vn : PySem.Str} {Din Ds : List Vx → Mo Vx} {e : Expr} {k kr : Nat} {fd fds : FuncData} {fas : Addr} {c i j jj : Nat} {fa : DEnv → Mo Vx} {pss : List PySem.Str} {cp p p1 p2 p3 p4 p5 p6 p7 p8 p9 pos pos2 pos3 pos4 pos5 pos6 pos7 : Pos}
theorem pd_tryX (hst : X.stack = X.env :: X.outer) (hfr : X.env.frame = some X.env.locals) (hN : X.N.Nodup) (hi : X.N[i]? = some n) (hj : X.N[j]? = some vn) (hij : i ≠ j) (hln : X.env.kindOf n = some .local) (hvn : Vis X.env.scope n) (hvv : Vis X.env.scope vn) (hc : X.calm = true)
    (hx : g.xs[c]? = some (x, f)) (hxc : xcB X.K g.xs = true) (hexm : PySem.W.exmOne X.K (.ref (He.ga X.K x)) (.ref (He.ga X.K b)) = some true) (hkit : PySem.W.kitOne X.K (.ref (He.ga X.K x)) (.ref (He.ga X.K x2)) = some true)
    (hb : Names X b (.ref (He.ga X.K b))) (hgx2 : Gl X x2) (hmx2 : X.mg x2 = some (.ref (He.ga X.K x2))) (hdx2 : (x2 == ("__debug__" : PySem.Str)) = false)
    (hgi : Gl X "isinstance") (hmi : X.mg "isinstance" = none)
    (F1 : FnOk X.prog X.w X.K X.mg X.base (L2.CX X.prog X.w) k (He.ma X.K (He.ga X.K x) "__init__") fd ["self", pn] (spI X.K g (He.ga X.K x) f Din)) (hr : Room (k + 1) X.A) (hbI : Binds X.K fd ["self", pn] []) (hg : Gl X x) (hm : X.mg x = some (.ref (He.ga X.K x)))
    (ha : ∀ (W : WX) (pn : List (Addr × Obj)) (xe : Value → Shared → Prop), PE (X.tr pn xe) e (LE X.K g W fa)) (hdb : (x == ("__debug__" : PySem.Str)) = false) (he : ∀ (pn : List (Addr × Obj)) (xe : Value → Shared → Prop), starEach [e] (X.tr pn xe).env = (false, eval e (X.tr pn xe).env) :: starEach [] (X.tr pn xe).env) (hpl : (backTo pos (starEach [] X.env)).any (·.1) = false)
    (Fs : L2H.FnH X.prog X.w X.K X.mg X.base (L2.CX X.prog X.w) kr fas fds pss (spD X.K g pss.length Ds)) (hps : pss.length = 2) (hrs : L2H.RoomH kr X.A) (hgs : Gl X so) (hms : X.mg so = some (.ref fas)) (hks : PySem.W.keepIn X.K (.ref fas) = true) (hbs : Binds X.K fds pss []) (hds : (so == ("__debug__" : PySem.Str)) = false)
    (hbse : ∀ (X2 : Cx), attributeBase (.Name n p5) f X2.env (eval (.Name n p5) X2.env) = eval (.Name n p5) X2.env)
    (hdn : (n == ("__debug__" : PySem.Str)) = false) (hdn2 : (n == ("__classdict__" : PySem.Str)) = false) (hdv : (vn == ("__debug__" : PySem.Str)) = false) (hdv2 : (vn == ("__classdict__" : PySem.Str)) = false) :
    PS X (.Try [.Raise (some (.Call (.Name x p) [e] [] pos)) (some (.Constant .none jj cp)) pos2] [.ExceptHandler (some (.Name b p1)) (some n) [.Return (some (.BoolOp .And [.Call (.Name "isinstance" p2) [.Name n p3, .Name x2 p4] [] pos3, .Call (.Name so p6) [.Attribute (.Name n p5) f p7, .Name vn p8] [] pos4] p9)) pos5] pos6] [] [] pos7)
      (LS X.K g Wx (sTryX j Din fa Ds)) := by
  have hT := xcB_ok hxc (List.mem_of_getElem? hx)
  refine (ps_len (L2N.ps_try_as (X := X) (i := i) (Wout := fun _ _ _ _ => False) (c := .ref (He.ga X.K b)) (tb := fun W => LS X.K g W (sRaise c Din fa))
    (ts := fun a cls d => tRet (tAndV (fun σ H Q => (tCons (tVar i) (tCons (fun _ H Q => Q (.ref (He.ga X.K x2)) H) tNil)) σ H fun vs H1 => rIsP X.K a cls d vs H1 Q)
      (tCallS (spD X.K g pss.length Ds) (fun _ _ _ _ => False) (tCons (tFldE (He.ga X.K x) f a cls d (tVar i)) (tCons (tVar j) tNil)))))
    hst hfr hN hi hln hb takesN0 (fun W pn xe tk ps => ?_) (fun a oe cls d pn hz hf => ?_))).imp fun D σ H q hlen => ?_
  · exact pss_one (pd_raiseN (X := X.tr pn xe) (pn := _) hc tk hx hT.1 F1 hr hbI hg hm (ha W pn xe) hdb (he pn xe) hpl)
  · have vnm : PE (X.suite a ((a, oe) :: pn)) (.Name n p3) (tVar i) := pe_var hi hvn hdn hdn2
    have vnm5 : PE (X.suite a ((a, oe) :: pn)) (.Name n p5) (tVar i) := pe_var hi hvn hdn hdn2
    have vvn : PE (X.suite a ((a, oe) :: pn)) (.Name vn p8) (tVar j) := pe_var hj hvv hdv hdv2
    have cl2 : PE (X.suite a ((a, oe) :: pn)) (.Name x2 p4) (fun _ H Q => Q (.ref (He.ga X.K x2)) H) := pe_glob (X := X.suite a ((a, oe) :: pn)) (v := .ref (He.ga X.K x2)) hgx2 hmx2 rfl hdx2
    have hot : L2H.HotC (X.suite a ((a, oe) :: pn)) := by
      obtain ⟨vs, hd⟩ := hf
      exact ⟨(a, oe), ⟨rfl, vs, hd, hz.2.2 vs hd⟩, List.mem_cons_self⟩
    have P1 := pe_callB (X := X.suite a ((a, oe) :: pn)) (p := p2) (pos := pos3) (call_isP (X := X) hz.zc hf) hgi hmi boot_isinstance (pa_cons vnm (pa_cons cl2 pa_nil rfl) rfl) (by decide) (by decide) rfl rfl
    have P2 : PE (X.suite a ((a, oe) :: pn)) (.Call (.Name so p6) [.Attribute (.Name n p5) f p7, .Name vn p8] [] pos4) _ := L2H.pe_callH (E := fun _ _ _ _ => False) Fs ⟨hrs.dp, hrs.un⟩ hot hgs hms hks hbs (fun σ => passes0) (pa_cons (pe_fldE (f := f) hT.1 hz.zc hf vnm5 (hbse X)) (pa_cons vvn pa_nil rfl) rfl) hds rfl rfl
    exact pss_one (ps_ret (pe_and P1 (pe_one P2)))
  · obtain ⟨W, ρ, h, hrr, er, p⟩ := q
    refine ⟨W, ρ, h, hrr, er, ?_⟩
    unfold sTryX at p
    unfold sRaise
    unfold Dn.bnd noErr at p
    unfold Dn.bnd noErr
    cases hfa : fa ρ h with
    | stk => rw [hfa] at p; exact p.elim
    | err c1 d1 h1 => rw [hfa] at p; exact p.elim
    | ok y h1 =>
      rw [hfa] at p
      simp only at p ⊢
      cases hcm : callM [false] Din [y] h1 with
      | stk => rw [hcm] at p; exact p.elim
      | err c1 d1 h2 => rw [hcm] at p; exact p.elim
      | ok z h2 =>
        rw [hcm] at p
        simp only at p ⊢
        cases z with
        | d pd =>
          simp only at p ⊢
          cases hρ : ρ[j]? with
          | none => rw [hρ] at p; exact p.elim
          | some o =>
            cases o with
            | none => rw [hρ] at p; exact p.elim
            | some y2 =>
              rw [hρ] at p
              simp only at p
              intro W' cls dd H' ex hr' rx
              obtain ⟨x', f', ex', rfl, d, v, rfl, eh, rd⟩ := rx
              rw [hx] at ex'
              cases ex'
              obtain ⟨w, hw, rw2⟩ := er.at_ j y2 hρ
              refine ⟨true, hexm, fun _ a na => ?_, fun z => by cases z⟩
              have hil : i < σ.length := by
                rw [hlen]; exact (List.getElem?_eq_some_iff.mp hi).1
              refine ⟨V.ref a, by rw [List.getElem?_set_self hil], ?_⟩
              refine ⟨_, d, _, _, _, true, rfl, rfl, rfl, eh, ClsV.own _, hT.2, hkit, ⟨true, rfl, ?_⟩⟩
              rw [if_pos rfl]
              refine ⟨V.ref a, by rw [List.getElem?_set_self hil], rfl, rfl, d, v, rfl, eh, ?_⟩
              refine ⟨w, by rw [List.getElem?_set_ne hij]; exact hw, ?_⟩
              refine call_sound (hy := [false, false]) hr' (.cons (y := .d pd) rd (.cons (RepV.le ex.le rw2) .nil)) (by rw [hps]; rfl) ?_
              cases hcs : callM [false, false] Ds [.d pd, y2] h2 with
              | stk => rw [hcs] at p; exact p.elim
              | err c1 d1 h3 => rw [hcs] at p; exact p.elim
              | ok r h3 =>
                rw [hcs] at p
                intro W3 v3 H3 ex3 hr3 rr3
                exact p W3 (OutV.rt v3) H3 (ex.trans ex3) hr3 rr3
        | _ => exact p.elim
end
end Dn
end
section
set_option Elab.async false
set_option linter.all false
set_option maxRecDepth 100000
set_option maxHeartbeats 0
/-! DnH: the run of the head, looked at part by part (each part a run of its own: so the kernel holds less at once). -/
namespace Dn
open PySem PySem.Spec PyProof.Rows L2
abbrev WhT : Type := Option (Shared × PySem.W.SharedT)
noncomputable abbrev headW (P : Program) (M : Nat) (w : World) : WhT := HandSHeadRun.wholeF (fun p => HandSHeadRun.stepQ (HandSHeadRun.denQ HandSHeadRun.tabQ) p w) HandSHeadRun.fenceQ M P
abbrev KxT (n : Nat) (x : Shared × PySem.W.SharedT) : PySem.W.Frag := He.frT (HandSHeadRun.getT x.2) (He.asD (HandSHeadRun.getT x.2) n)
section
variable {W : WhT} {n : Nat}
theorem fa_app {l m : List He.Fa} (a : (W.map fun x => l.all fun f => f.ok (KxT n x)) = some true) (b : (W.map fun x => m.all fun f => f.ok (KxT n x)) = some true) : (W.map fun x => (l ++ m).all fun f => f.ok (KxT n x)) = some true := by
  cases W with
  | none => cases a
  | some x =>
    have a1 : (l.all fun f => f.ok (KxT n x)) = true := Option.some.inj a
    have b1 : (m.all fun f => f.ok (KxT n x)) = true := Option.some.inj b
    show some ((l ++ m).all fun f => f.ok (KxT n x)) = some true
    rw [List.all_append, a1, b1]; rfl
theorem fn_app {l m : List He.DefD} (a : (W.map fun x => l.all fun f => f.ok (KxT n x)) = some true) (b : (W.map fun x => m.all fun f => f.ok (KxT n x)) = some true) : (W.map fun x => (l ++ m).all fun f => f.ok (KxT n x)) = some true := by
  cases W with
  | none => cases a
  | some x =>
    have a1 : (l.all fun f => f.ok (KxT n x)) = true := Option.some.inj a
    have b1 : (m.all fun f => f.ok (KxT n x)) = true := Option.some.inj b
    show some ((l ++ m).all fun f => f.ok (KxT n x)) = some true
    rw [List.all_append, a1, b1]; rfl
theorem fv_app {l m : List He.DefD} (a : (W.map fun x => l.map fun d => He.fnW (KxT n x) d.at_) = some (l.map He.DefD.val)) (b : (W.map fun x => m.map fun d => He.fnW (KxT n x) d.at_) = some (m.map He.DefD.val)) : (W.map fun x => (l ++ m).map fun d => He.fnW (KxT n x) d.at_) = some ((l ++ m).map He.DefD.val) := by
  cases W with
  | none => cases a
  | some x =>
    have a1 : (l.map fun d => He.fnW (KxT n x) d.at_) = l.map He.DefD.val := Option.some.inj a
    have b1 : (m.map fun d => He.fnW (KxT n x) d.at_) = m.map He.DefD.val := Option.some.inj b
    show some ((l ++ m).map fun d => He.fnW (KxT n x) d.at_) = some ((l ++ m).map He.DefD.val)
    rw [List.map_append, a1, b1, List.map_append]
theorem runI_of {r : PySem.W.OpenRow} {q : Program} {M : Nat} {loose : List PySem.Str} {w : World} {fas : List He.Fa} {fns : List He.DefD} {tfL : List He.Defn} {exK : PySem.W.Frag → Bool}
    (a : ((headW r.prog M w).map fun x => (HandSHeadRun.looksF r.prog x.1.heap x.2.abs, HandSHeadRun.seenQ q loose (importedModules r.prog.main.body) (fun s => PySem.W.xlAt q [] s && PySem.W.recOk r.toRowW.records s) x.2.abs)) = some (true, PySem.W.openGood q loose))
    (b : ((headW r.prog M w).map fun x => fas.all fun f => f.ok (KxT n x)) = some true)
    (c : ((headW r.prog M w).map fun x => fns.all fun d => d.ok (KxT n x)) = some true)
    (d : ((headW r.prog M w).map fun x => fns.map fun d => He.fnW (KxT n x) d.at_) = some (fns.map He.DefD.val))
    (e : ((headW r.prog M w).map fun x => exK (KxT n x) && He.tabsB (HandSHeadRun.getT x.2) tfL (KxT n x)) = some true) :
    HandSHeadRun.RunEqI r q (He.hookX n fas fns [] tfL exK) (fun s => He.obsX n fas fns [] tfL exK (HandSHeadRun.getT s)) M loose w := by
  unfold HandSHeadRun.RunEqI
  have key : ∀ W : WhT, (W.map fun x => (HandSHeadRun.looksF r.prog x.1.heap x.2.abs, HandSHeadRun.seenQ q loose (importedModules r.prog.main.body) (fun s => PySem.W.xlAt q [] s && PySem.W.recOk r.toRowW.records s) x.2.abs)) = some (true, PySem.W.openGood q loose) →
      (W.map fun x => fas.all fun f => f.ok (KxT n x)) = some true → (W.map fun x => fns.all fun d => d.ok (KxT n x)) = some true → (W.map fun x => fns.map fun d => He.fnW (KxT n x) d.at_) = some (fns.map He.DefD.val) →
      (W.map fun x => exK (KxT n x) && He.tabsB (HandSHeadRun.getT x.2) tfL (KxT n x)) = some true →
      (W.map fun x => (HandSHeadRun.looksF r.prog x.1.heap x.2.abs, HandSHeadRun.seenQ q loose (importedModules r.prog.main.body) (fun s => PySem.W.xlAt q [] s && PySem.W.recOk r.toRowW.records s) x.2.abs, He.obsX n fas fns [] tfL exK (HandSHeadRun.getT x.2))) = some (true, PySem.W.openGood q loose, He.valX fns [] w) := by
    intro W a b c d e
    cases W with
    | none => cases a
    | some x =>
      have a1 := Option.some.inj a
      have b1 : (fas.all fun f => f.ok (KxT n x)) = true := Option.some.inj b
      have c1 : (fns.all fun d => d.ok (KxT n x)) = true := Option.some.inj c
      have d1 : (fns.map fun d => He.fnW (KxT n x) d.at_) = fns.map He.DefD.val := Option.some.inj d
      have e1 : (exK (KxT n x) && He.tabsB (HandSHeadRun.getT x.2) tfL (KxT n x)) = true := Option.some.inj e
      obtain ⟨a2, a3⟩ := Prod.mk.inj a1
      have o : He.obsX n fas fns [] tfL exK (HandSHeadRun.getT x.2) = He.valX fns [] w := by
        show (((((fas.all fun f => f.ok (KxT n x)) && fns.all fun d => d.ok (KxT n x)), fns.map fun d => He.fnW (KxT n x) d.at_), []), (exK (KxT n x) && He.tabsB (HandSHeadRun.getT x.2) tfL (KxT n x))) = (((true, fns.map He.DefD.val), []), true)
        rw [b1, c1, d1, e1]; rfl
      show some (HandSHeadRun.looksF r.prog x.1.heap x.2.abs, HandSHeadRun.seenQ q loose (importedModules r.prog.main.body) (fun s => PySem.W.xlAt q [] s && PySem.W.recOk r.toRowW.records s) x.2.abs, He.obsX n fas fns [] tfL exK (HandSHeadRun.getT x.2)) = _
      rw [a2, a3, o]
  exact key _ a b c d e
end
end Dn
end
section
set_option Elab.async false
set_option linter.all false
set_option maxRecDepth 100000
set_option maxHeartbeats 0
/-! DnG: as DnH, for a program without imports at its head. -/
section
open PySem PySem.W PySem.Calls PyProof.Rows
noncomputable abbrev Dn.bootH (w : World) : Heap := boot_heap w.params
end
namespace Dn
open PySem PySem.Spec PyProof.Rows L2
noncomputable abbrev headE (P : Program) (M : Nat) (w : World) (os : OsState) : Option PySem.W.SharedT := HandSHeadRun.endF (HandSHeadRun.stepQ (HandSHeadRun.denQ HandSHeadRun.tabQ) P w) M P w os
abbrev KxE (n : Nat) (x : PySem.W.SharedT) : PySem.W.Frag := He.frT (HandSHeadRun.getT x) (He.asD (HandSHeadRun.getT x) n)
section
variable {n : Nat}
theorem runE_of {r : PySem.W.OpenRow} {q : Program} {M : Nat} {loose : List PySem.Str} {w : World} {fas : List He.Fa} {fns : List He.DefD} {tfL : List He.Defn} {exK : PySem.W.Frag → Bool}
    (a : ∀ os, ((headE r.prog M w os).map fun x => (HandSHeadRun.looksF r.prog (bootH w) x.abs, HandSHeadRun.seenQ q loose (importedModules r.prog.main.body) (fun s => PySem.W.xlAt q [] s && PySem.W.recOk r.toRowW.records s) x.abs)) = some (true, PySem.W.openGood q loose))
    (b : ∀ os, ((headE r.prog M w os).map fun x => fas.all fun f => f.ok (KxE n x)) = some true)
    (c : ∀ os, ((headE r.prog M w os).map fun x => fns.all fun d => d.ok (KxE n x)) = some true)
    (d : ∀ os, ((headE r.prog M w os).map fun x => fns.map fun d => He.fnW (KxE n x) d.at_) = some (fns.map He.DefD.val))
    (e : ∀ os, ((headE r.prog M w os).map fun x => exK (KxE n x) && He.tabsB (HandSHeadRun.getT x) tfL (KxE n x)) = some true) :
    HandSHeadRun.RunEq r q (He.hookX n fas fns [] tfL exK) (fun s => He.obsX n fas fns [] tfL exK (HandSHeadRun.getT s)) M loose w := by
  intro os
  have key : ∀ W : Option PySem.W.SharedT, (W.map fun x => (HandSHeadRun.looksF r.prog (bootH w) x.abs, HandSHeadRun.seenQ q loose (importedModules r.prog.main.body) (fun s => PySem.W.xlAt q [] s && PySem.W.recOk r.toRowW.records s) x.abs)) = some (true, PySem.W.openGood q loose) →
      (W.map fun x => fas.all fun f => f.ok (KxE n x)) = some true → (W.map fun x => fns.all fun d => d.ok (KxE n x)) = some true → (W.map fun x => fns.map fun d => He.fnW (KxE n x) d.at_) = some (fns.map He.DefD.val) →
      (W.map fun x => exK (KxE n x) && He.tabsB (HandSHeadRun.getT x) tfL (KxE n x)) = some true →
      (W.map fun x => (HandSHeadRun.looksF r.prog (bootH w) x.abs, HandSHeadRun.seenQ q loose (importedModules r.prog.main.body) (fun s => PySem.W.xlAt q [] s && PySem.W.recOk r.toRowW.records s) x.abs, He.obsX n fas fns [] tfL exK (HandSHeadRun.getT x))) = some (true, PySem.W.openGood q loose, He.valX fns [] w) := by
    intro W a b c d e
    cases W with
    | none => cases a
    | some x =>
      have a1 := Option.some.inj a
      have b1 : (fas.all fun f => f.ok (KxE n x)) = true := Option.some.inj b
      have c1 : (fns.all fun d => d.ok (KxE n x)) = true := Option.some.inj c
      have d1 : (fns.map fun d => He.fnW (KxE n x) d.at_) = fns.map He.DefD.val := Option.some.inj d
      have e1 : (exK (KxE n x) && He.tabsB (HandSHeadRun.getT x) tfL (KxE n x)) = true := Option.some.inj e
      obtain ⟨a2, a3⟩ := Prod.mk.inj a1
      have o : He.obsX n fas fns [] tfL exK (HandSHeadRun.getT x) = He.valX fns [] w := by
        show (((((fas.all fun f => f.ok (KxE n x)) && fns.all fun d => d.ok (KxE n x)), fns.map fun d => He.fnW (KxE n x) d.at_), []), (exK (KxE n x) && He.tabsB (HandSHeadRun.getT x) tfL (KxE n x))) = (((true, fns.map He.DefD.val), []), true)
        rw [b1, c1, d1, e1]; rfl
      show some (HandSHeadRun.looksF r.prog (bootH w) x.abs, HandSHeadRun.seenQ q loose (importedModules r.prog.main.body) (fun s => PySem.W.xlAt q [] s && PySem.W.recOk r.toRowW.records s) x.abs, He.obsX n fas fns [] tfL exK (HandSHeadRun.getT x)) = _
      rw [a2, a3, o]
  exact key _ (a os) (b os) (c os) (d os) (e os)
end
end Dn
end
section
set_option Elab.async false
set_option linter.all false
set_option maxRecDepth 100000
set_option maxHeartbeats 4000000
namespace Dn
open PySem PySem.Spec PyProof.Rows L2
def top (i : Nat) : Stmt := PySem.Challenge.pw_inkwright_k00_errors.main.body.getD i (.Pass ⟨0, 0, 0, 0⟩)
def xsL : Exs := [("BadValue", "at"), ("BadText", "line"), ("TooFew", "step"), ("WrongKind", "step"), ("NoWord", "step"), ("NoPoint", "step"), ("TooMuch", "step")]
def tabL (K : PySem.W.Frag) : List (Addr × PySem.Str) := []
def csL (K : PySem.W.Frag) : List (Addr × Addr) := []
def g0 (K : PySem.W.Frag) : Gp := ⟨xsL, tabsOf (tabL K)⟩
def tb_LookupError : List (PySem.Str × Bool) := [("BadValue", false), ("BadText", false), ("TooFew", false), ("WrongKind", false), ("NoWord", false), ("NoPoint", false), ("TooMuch", false)]
def tb_ValueError : List (PySem.Str × Bool) := [("BadValue", false), ("BadText", false), ("TooFew", false), ("WrongKind", false), ("NoWord", false), ("NoPoint", false), ("TooMuch", false)]
def tb_Exception : List (PySem.Str × Bool) := [("BadValue", true), ("BadText", true), ("TooFew", true), ("WrongKind", true), ("NoWord", true), ("NoPoint", true), ("TooMuch", true)]
def tb_InkError : List (PySem.Str × Bool) := [("BadValue", true), ("BadText", true), ("TooFew", true), ("WrongKind", true), ("NoWord", true), ("NoPoint", true), ("TooMuch", true)]
def tb_TooMuch : List (PySem.Str × Bool) := [("BadValue", false), ("BadText", false), ("TooFew", false), ("WrongKind", false), ("NoWord", false), ("NoPoint", false), ("TooMuch", true)]
def tb_NoPoint : List (PySem.Str × Bool) := [("BadValue", false), ("BadText", false), ("TooFew", false), ("WrongKind", false), ("NoWord", false), ("NoPoint", true), ("TooMuch", false)]
def tb_NoWord : List (PySem.Str × Bool) := [("BadValue", false), ("BadText", false), ("TooFew", false), ("WrongKind", false), ("NoWord", true), ("NoPoint", false), ("TooMuch", false)]
def tb_WrongKind : List (PySem.Str × Bool) := [("BadValue", false), ("BadText", false), ("TooFew", false), ("WrongKind", true), ("NoWord", false), ("NoPoint", false), ("TooMuch", false)]
def tb_TooFew : List (PySem.Str × Bool) := [("BadValue", false), ("BadText", false), ("TooFew", true), ("WrongKind", false), ("NoWord", false), ("NoPoint", false), ("TooMuch", false)]
def tb_BadText : List (PySem.Str × Bool) := [("BadValue", false), ("BadText", true), ("TooFew", false), ("WrongKind", false), ("NoWord", false), ("NoPoint", false), ("TooMuch", false)]
def tb_BadValue : List (PySem.Str × Bool) := [("BadValue", true), ("BadText", false), ("TooFew", false), ("WrongKind", false), ("NoWord", false), ("NoPoint", false), ("TooMuch", false)]
def D_in_tuples : He.DefD := ⟨("in_tuples", none), "in_tuples", "in_tuples", defArgs (top 1), defBody (top 1), defScope (top 1), [], []⟩
def D_I_BadValue : He.DefD := ⟨("BadValue", some "__init__"), "__init__", "BadValue.__init__", defArgs (clsInit (top 4)), defBody (clsInit (top 4)), defScope (clsInit (top 4)), [], []⟩
def D_I_BadText : He.DefD := ⟨("BadText", some "__init__"), "__init__", "BadText.__init__", defArgs (clsInit (top 5)), defBody (clsInit (top 5)), defScope (clsInit (top 5)), [], []⟩
def D_I_TooFew : He.DefD := ⟨("TooFew", some "__init__"), "__init__", "TooFew.__init__", defArgs (clsInit (top 6)), defBody (clsInit (top 6)), defScope (clsInit (top 6)), [], []⟩
def D_I_WrongKind : He.DefD := ⟨("WrongKind", some "__init__"), "__init__", "WrongKind.__init__", defArgs (clsInit (top 7)), defBody (clsInit (top 7)), defScope (clsInit (top 7)), [], []⟩
def D_I_NoWord : He.DefD := ⟨("NoWord", some "__init__"), "__init__", "NoWord.__init__", defArgs (clsInit (top 8)), defBody (clsInit (top 8)), defScope (clsInit (top 8)), [], []⟩
def D_I_NoPoint : He.DefD := ⟨("NoPoint", some "__init__"), "__init__", "NoPoint.__init__", defArgs (clsInit (top 9)), defBody (clsInit (top 9)), defScope (clsInit (top 9)), [], []⟩
def D_I_TooMuch : He.DefD := ⟨("TooMuch", some "__init__"), "__init__", "TooMuch.__init__", defArgs (clsInit (top 10)), defBody (clsInit (top 10)), defScope (clsInit (top 10)), [], []⟩
def D__law_so : He.DefD := ⟨("_law_so", none), "_law_so", "_law_so", defArgs (top 12), defBody (top 12), defScope (top 12), [], []⟩
def D__law_numbers : He.DefD := ⟨("_law_numbers", none), "_law_numbers", "_law_numbers", defArgs (top 13), defBody (top 13), defScope (top 13), [], []⟩
def D__law_draw : He.DefD := ⟨("_law_draw", none), "_law_draw", "_law_draw", defArgs (top 14), defBody (top 14), defScope (top 14), [], []⟩
def D__law_take : He.DefD := ⟨("_law_take", none), "_law_take", "_law_take", defArgs (top 15), defBody (top 15), defScope (top 15), [], []⟩
def D__law_wide : He.DefD := ⟨("_law_wide", none), "_law_wide", "_law_wide", defArgs (top 16), defBody (top 16), defScope (top 16), [], []⟩
def D_law : He.DefD := ⟨("law", none), "law", "law", defArgs (top 17), defBody (top 17), defScope (top 17), [], []⟩
def fns0 : List He.DefD := [D_in_tuples, D_I_BadValue, D_I_BadText, D_I_TooFew, D_I_WrongKind, D_I_NoWord, D_I_NoPoint, D_I_TooMuch, D__law_so, D__law_numbers, D__law_draw, D__law_take]
def fns1 : List He.DefD := [D__law_wide, D_law]
def fns : List He.DefD := fns0 ++ fns1
def fas0 : List He.Fa := [.free "isinstance", .free "list", .free "tuple", .glo "in_tuples", .free "bool", .free "int", .free "len", .free "range", .free "str", .glo "_law_so", .glo "_law_draw", .glo "_law_take"]
def fas1 : List He.Fa := [.free "Exception", .free "LookupError", .free "ValueError", .glo "_law_numbers", .glo "_law_wide", .glo "BadText", .glo "BadValue", .glo "NoPoint", .glo "NoWord", .glo "TooFew", .glo "TooMuch", .glo "WrongKind"]
def fas2 : List He.Fa := [.glo "InkError", .glo "law"]
def fas : List He.Fa := fas0 ++ fas1 ++ fas2
structure FX (K : PySem.W.Frag) : Prop where
  defs : ∀ {d : He.DefD}, d ∈ fns → ∃ fd, FunD K d.name d.qual d.params d.body d.scope (d.dvs K) (d.kws K) (He.fAd K d.at_) fd
  facts : ∀ {f : He.Fa}, f ∈ fas → f.ok K = true
  oex_BadValue : oexB K (He.ga K "BadValue") (He.ma K (He.ga K "BadValue") "__init__") "at" = true
  oex_BadText : oexB K (He.ga K "BadText") (He.ma K (He.ga K "BadText") "__init__") "line" = true
  oex_TooFew : oexB K (He.ga K "TooFew") (He.ma K (He.ga K "TooFew") "__init__") "step" = true
  oex_WrongKind : oexB K (He.ga K "WrongKind") (He.ma K (He.ga K "WrongKind") "__init__") "step" = true
  oex_NoWord : oexB K (He.ga K "NoWord") (He.ma K (He.ga K "NoWord") "__init__") "step" = true
  oex_NoPoint : oexB K (He.ga K "NoPoint") (He.ma K (He.ga K "NoPoint") "__init__") "step" = true
  oex_TooMuch : oexB K (He.ga K "TooMuch") (He.ma K (He.ga K "TooMuch") "__init__") "step" = true
  exm : exmB K xsL = true
  xc : xcB K xsL = true
  is_LookupError : isB K (.type "LookupError") tb_LookupError = true
  is_ValueError : isB K (.type "ValueError") tb_ValueError = true
  is_Exception : isB K (.type "Exception") tb_Exception = true
  is_InkError : isB K (.ref (He.ga K "InkError")) tb_InkError = true
  is_TooMuch : isB K (.ref (He.ga K "TooMuch")) tb_TooMuch = true
  is_NoPoint : isB K (.ref (He.ga K "NoPoint")) tb_NoPoint = true
  is_NoWord : isB K (.ref (He.ga K "NoWord")) tb_NoWord = true
  is_WrongKind : isB K (.ref (He.ga K "WrongKind")) tb_WrongKind = true
  is_TooFew : isB K (.ref (He.ga K "TooFew")) tb_TooFew = true
  is_BadText : isB K (.ref (He.ga K "BadText")) tb_BadText = true
  is_BadValue : isB K (.ref (He.ga K "BadValue")) tb_BadValue = true
  exB : decide (PySem.W.exmOne K (.ref (He.ga K "NoPoint")) (.ref (He.ga K "InkError")) = some true) = true
def exK (K : PySem.W.Frag) : Bool := oexB K (He.ga K "BadValue") (He.ma K (He.ga K "BadValue") "__init__") "at" && (oexB K (He.ga K "BadText") (He.ma K (He.ga K "BadText") "__init__") "line" && (oexB K (He.ga K "TooFew") (He.ma K (He.ga K "TooFew") "__init__") "step" && (oexB K (He.ga K "WrongKind") (He.ma K (He.ga K "WrongKind") "__init__") "step" && (oexB K (He.ga K "NoWord") (He.ma K (He.ga K "NoWord") "__init__") "step" && (oexB K (He.ga K "NoPoint") (He.ma K (He.ga K "NoPoint") "__init__") "step" && (oexB K (He.ga K "TooMuch") (He.ma K (He.ga K "TooMuch") "__init__") "step" && (exmB K xsL && (xcB K xsL && (isB K (.type "LookupError") tb_LookupError && (isB K (.type "ValueError") tb_ValueError && (isB K (.type "Exception") tb_Exception && (isB K (.ref (He.ga K "InkError")) tb_InkError && (isB K (.ref (He.ga K "TooMuch")) tb_TooMuch && (isB K (.ref (He.ga K "NoPoint")) tb_NoPoint && (isB K (.ref (He.ga K "NoWord")) tb_NoWord && (isB K (.ref (He.ga K "WrongKind")) tb_WrongKind && (isB K (.ref (He.ga K "TooFew")) tb_TooFew && (isB K (.ref (He.ga K "BadText")) tb_BadText && (isB K (.ref (He.ga K "BadValue")) tb_BadValue && (decide (PySem.W.exmOne K (.ref (He.ga K "NoPoint")) (.ref (He.ga K "InkError")) = some true)))))))))))))))))))))
theorem fx_mk {K : PySem.W.Frag} (hd : ∀ {d : He.DefD}, d ∈ fns → ∃ fd, FunD K d.name d.qual d.params d.body d.scope (d.dvs K) (d.kws K) (He.fAd K d.at_) fd) (hf : ∀ {f : He.Fa}, f ∈ fas → f.ok K = true) (h : exK K = true) : FX K := by
  unfold exK at h
  obtain ⟨h0, h⟩ := He.ba h
  obtain ⟨h1, h⟩ := He.ba h
  obtain ⟨h2, h⟩ := He.ba h
  obtain ⟨h3, h⟩ := He.ba h
  obtain ⟨h4, h⟩ := He.ba h
  obtain ⟨h5, h⟩ := He.ba h
  obtain ⟨h6, h⟩ := He.ba h
  obtain ⟨h7, h⟩ := He.ba h
  obtain ⟨h8, h⟩ := He.ba h
  obtain ⟨h9, h⟩ := He.ba h
  obtain ⟨h10, h⟩ := He.ba h
  obtain ⟨h11, h⟩ := He.ba h
  obtain ⟨h12, h⟩ := He.ba h
  obtain ⟨h13, h⟩ := He.ba h
  obtain ⟨h14, h⟩ := He.ba h
  obtain ⟨h15, h⟩ := He.ba h
  obtain ⟨h16, h⟩ := He.ba h
  obtain ⟨h17, h⟩ := He.ba h
  obtain ⟨h18, h⟩ := He.ba h
  obtain ⟨h19, h⟩ := He.ba h
  exact ⟨hd, hf, h0, h1, h2, h3, h4, h5, h6, h7, h8, h9, h10, h11, h12, h13, h14, h15, h16, h17, h18, h19, h⟩
def lawIx : Nat := 13
def lawFa : Nat := 25
/-! in_tuples -/
def d_in_tuples : Nat → List Vx → Mo Vx
  | 0, _ => stk
  | n + 1, ys => fnM 2 (sCons (sIf (tVal (eIsi [.list, .tuple] (eVar 0))) (sCons (sRet (eCall bTuple (aCons (eLc true (wVal (eVar 0)) (.nm 1) tYesD (eCall (fun ys => callM [false] (d_in_tuples n) (ys ++ ([] : List Dt).map Vx.d)) (aCons (eVar 1) aNil)) [1]) aNil))) sNil) sNil) (sCons (sRet (eVar 0)) sNil)) ys
theorem S_in_tuples : FnScope ["value", "item"] ["value"] (defScope (top 1)) := ⟨rfl, rfl, rfl, by decide +kernel, rfl, by decide +kernel, by decide +kernel⟩
theorem ok_in_tuples {P : Program} {w : World} {K : PySem.W.Frag} {h : Heap} {mg : PySem.Str → Option Value} {base : Heap} (KX : K.In h) (G : h.Ns mainGlobals mg) (c : FX K) (TBs : ∀ p ∈ csL K, LamX.TabB base mg p.1 p.2) (n : Nat) : ∃ fd, FunD K "in_tuples" "in_tuples" (defArgs (top 1)) (defBody (top 1)) (defScope (top 1)) (D_in_tuples.dvs K) [] (He.ga K "in_tuples") fd ∧ (Binds K fd ["value"] []) ∧ FnOk P w K mg base (L2.CX P w) (n + 0) (He.ga K "in_tuples") fd ["value"] (spD K (g0 K) 1 (d_in_tuples n)) := by
  obtain ⟨fd, F⟩ := c.defs (d := D_in_tuples) (List.mem_of_getElem? (i := 0) rfl)
  have m_isinstance : mg "isinstance" = none := He.free_ok KX G (c.facts (f := .free "isinstance") (List.mem_of_getElem? (i := 0) rfl))
  have m_list : mg "list" = none := He.free_ok KX G (c.facts (f := .free "list") (List.mem_of_getElem? (i := 1) rfl))
  have m_tuple : mg "tuple" = none := He.free_ok KX G (c.facts (f := .free "tuple") (List.mem_of_getElem? (i := 2) rfl))
  have m_in_tuples : mg "in_tuples" = some (.ref (He.ga K "in_tuples")) := He.glo_ok KX G (c.facts (f := .glo "in_tuples") (List.mem_of_getElem? (i := 3) rfl))
  have bF : Binds K fd ["value"] [] := F.bindsN fun _ _ _ _ _ _ us hl => match us, hl with | [_], _ => rfl
  refine ⟨fd, F, bF, ?_⟩
  induction n with
  | zero => exact ⟨fun vs H Q E h => h.1, fun A outer s H args us vs Q E hr he hb hv h => by obtain ⟨_, W, h0, ys, _, _, p⟩ := h; exact p.elim⟩
  | succ n F_self =>
    have FD_in_tuples := F
    have b_in_tuples := bF
    have v_in_tuples : Vals [] [] := .nil
    refine fn_ok F S_in_tuples rfl rfl fun cdv A outer s H E hr tk po => ?_
    have hU := room64 hr
    have hU0 := room0 hr
    have hN := S_in_tuples.nd
    exact (pds_cons insE (pd_if (pdt_val (pd_isi2 (c := .list) (d := .tuple) rfl m_isinstance (pd_var (i := 0) rfl (visB_ok rfl) (by decide) (by decide)) (pe_tyn rfl m_list (by decide +kernel) (by decide) (by decide)) (pe_tyn rfl m_tuple (by decide +kernel) (by decide) (by decide)) rfl rfl rfl rfl rfl) (fun _ => rfl)) (pds_cons insE (pd_ret (pd_callTy cd_tuple rfl m_tuple (by decide +kernel) (pda_cons (pd_lc [("item", 1)] rfl hN (pd_wval (pd_var (i := 0) rfl (visB_ok rfl) (by decide) (by decide))) rfl rfl (tg_nm 1) rfl (fun _ _ _ _ _ => (pg_name (i := 1) hN rfl (locB_ok rfl) (by first | exact .inl rfl | exact .inr rfl))) (fun _ _ _ _ _ => pts_nilD) (fun _ _ _ _ _ => (pd_call (hy := [false]) (dd := []) (F_self.mono (by omega)) hr rfl m_in_tuples FD_in_tuples.kp b_in_tuples v_in_tuples .nil takes0 ins0 (by decide) (pda_cons (pd_var (i := 1) rfl (visB_ok rfl) (by decide) (by decide)) pda_nil rfl) rfl rfl rfl ((alen_cons alen_nil)))) (fun _ => rfl)) pda_nil rfl) (by decide) (by decide) rfl rfl)) pds_nil) pds_nil) (pds_cons insE (pd_ret (pd_var (i := 0) rfl (visB_ok rfl) (by decide) (by decide))) pds_nil))
/-! BadValue.__init__ -/
theorem SI_BadValue : FnScope ["self", "at"] ["self", "at"] (defScope (clsInit (top 4))) := ⟨rfl, rfl, rfl, by decide +kernel, rfl, by decide +kernel, by decide +kernel⟩
theorem okI_BadValue {P : Program} {w : World} {K : PySem.W.Frag} {h : Heap} {mg : PySem.Str → Option Value} {base : Heap} (KX : K.In h) (G : h.Ns mainGlobals mg) (c : FX K) (TBs : ∀ p ∈ csL K, LamX.TabB base mg p.1 p.2) : ∃ fd, Binds K fd ["self", "at"] [] ∧ FnOk P w K mg base (L2.CX P w) 25 (He.ma K (He.ga K "BadValue") "__init__") fd ["self", "at"] (spI K (g0 K) (He.ga K "BadValue") "at" (d_in_tuples 24)) := by
  obtain ⟨fd, F⟩ := c.defs (d := D_I_BadValue) (List.mem_of_getElem? (i := 1) rfl)
  have T_BadValue := oexB_ok c.oex_BadValue
  have m_in_tuples : mg "in_tuples" = some (.ref (He.ga K "in_tuples")) := He.glo_ok KX G (c.facts (f := .glo "in_tuples") (List.mem_of_getElem? (i := 3) rfl))
  obtain ⟨fd_in, FD_in, b_in, F_in⟩ := ok_in_tuples (P := P) (w := w) (mg := mg) (base := base) KX G c TBs 24
  refine ⟨fd, F.bindsN fun _ _ _ _ _ _ us hl => (match us, hl with | [_, _], _ => rfl), init_ok F SI_BadValue fun cdv A outer s H E hr tk => ?_⟩
  exact pss_one (ps_ostE T_BadValue rfl (visB_ok rfl) (pd_call (hy := [false]) (dd := []) F_in hr rfl m_in_tuples FD_in.kp b_in .nil .nil tk insE (by decide) (pda_cons (pd_var (i := 1) rfl (visB_ok rfl) (by decide) (by decide)) pda_nil rfl) rfl rfl rfl (alen_cons alen_nil)) rfl)
/-! BadText.__init__ -/
theorem SI_BadText : FnScope ["self", "line"] ["self", "line"] (defScope (clsInit (top 5))) := ⟨rfl, rfl, rfl, by decide +kernel, rfl, by decide +kernel, by decide +kernel⟩
theorem okI_BadText {P : Program} {w : World} {K : PySem.W.Frag} {h : Heap} {mg : PySem.Str → Option Value} {base : Heap} (KX : K.In h) (G : h.Ns mainGlobals mg) (c : FX K) (TBs : ∀ p ∈ csL K, LamX.TabB base mg p.1 p.2) : ∃ fd, Binds K fd ["self", "line"] [] ∧ FnOk P w K mg base (L2.CX P w) 25 (He.ma K (He.ga K "BadText") "__init__") fd ["self", "line"] (spI K (g0 K) (He.ga K "BadText") "line" (d_in_tuples 24)) := by
  obtain ⟨fd, F⟩ := c.defs (d := D_I_BadText) (List.mem_of_getElem? (i := 2) rfl)
  have T_BadText := oexB_ok c.oex_BadText
  have m_in_tuples : mg "in_tuples" = some (.ref (He.ga K "in_tuples")) := He.glo_ok KX G (c.facts (f := .glo "in_tuples") (List.mem_of_getElem? (i := 3) rfl))
  obtain ⟨fd_in, FD_in, b_in, F_in⟩ := ok_in_tuples (P := P) (w := w) (mg := mg) (base := base) KX G c TBs 24
  refine ⟨fd, F.bindsN fun _ _ _ _ _ _ us hl => (match us, hl with | [_, _], _ => rfl), init_ok F SI_BadText fun cdv A outer s H E hr tk => ?_⟩
  exact pss_one (ps_ostE T_BadText rfl (visB_ok rfl) (pd_call (hy := [false]) (dd := []) F_in hr rfl m_in_tuples FD_in.kp b_in .nil .nil tk insE (by decide) (pda_cons (pd_var (i := 1) rfl (visB_ok rfl) (by decide) (by decide)) pda_nil rfl) rfl rfl rfl (alen_cons alen_nil)) rfl)
/-! TooFew.__init__ -/
theorem SI_TooFew : FnScope ["self", "step"] ["self", "step"] (defScope (clsInit (top 6))) := ⟨rfl, rfl, rfl, by decide +kernel, rfl, by decide +kernel, by decide +kernel⟩
theorem okI_TooFew {P : Program} {w : World} {K : PySem.W.Frag} {h : Heap} {mg : PySem.Str → Option Value} {base : Heap} (KX : K.In h) (G : h.Ns mainGlobals mg) (c : FX K) (TBs : ∀ p ∈ csL K, LamX.TabB base mg p.1 p.2) : ∃ fd, Binds K fd ["self", "step"] [] ∧ FnOk P w K mg base (L2.CX P w) 25 (He.ma K (He.ga K "TooFew") "__init__") fd ["self", "step"] (spI K (g0 K) (He.ga K "TooFew") "step" (d_in_tuples 24)) := by
  obtain ⟨fd, F⟩ := c.defs (d := D_I_TooFew) (List.mem_of_getElem? (i := 3) rfl)
  have T_TooFew := oexB_ok c.oex_TooFew
  have m_in_tuples : mg "in_tuples" = some (.ref (He.ga K "in_tuples")) := He.glo_ok KX G (c.facts (f := .glo "in_tuples") (List.mem_of_getElem? (i := 3) rfl))
  obtain ⟨fd_in, FD_in, b_in, F_in⟩ := ok_in_tuples (P := P) (w := w) (mg := mg) (base := base) KX G c TBs 24
  refine ⟨fd, F.bindsN fun _ _ _ _ _ _ us hl => (match us, hl with | [_, _], _ => rfl), init_ok F SI_TooFew fun cdv A outer s H E hr tk => ?_⟩
  exact pss_one (ps_ostE T_TooFew rfl (visB_ok rfl) (pd_call (hy := [false]) (dd := []) F_in hr rfl m_in_tuples FD_in.kp b_in .nil .nil tk insE (by decide) (pda_cons (pd_var (i := 1) rfl (visB_ok rfl) (by decide) (by decide)) pda_nil rfl) rfl rfl rfl (alen_cons alen_nil)) rfl)
/-! WrongKind.__init__ -/
theorem SI_WrongKind : FnScope ["self", "step"] ["self", "step"] (defScope (clsInit (top 7))) := ⟨rfl, rfl, rfl, by decide +kernel, rfl, by decide +kernel, by decide +kernel⟩
theorem okI_WrongKind {P : Program} {w : World} {K : PySem.W.Frag} {h : Heap} {mg : PySem.Str → Option Value} {base : Heap} (KX : K.In h) (G : h.Ns mainGlobals mg) (c : FX K) (TBs : ∀ p ∈ csL K, LamX.TabB base mg p.1 p.2) : ∃ fd, Binds K fd ["self", "step"] [] ∧ FnOk P w K mg base (L2.CX P w) 25 (He.ma K (He.ga K "WrongKind") "__init__") fd ["self", "step"] (spI K (g0 K) (He.ga K "WrongKind") "step" (d_in_tuples 24)) := by
  obtain ⟨fd, F⟩ := c.defs (d := D_I_WrongKind) (List.mem_of_getElem? (i := 4) rfl)
  have T_WrongKind := oexB_ok c.oex_WrongKind
  have m_in_tuples : mg "in_tuples" = some (.ref (He.ga K "in_tuples")) := He.glo_ok KX G (c.facts (f := .glo "in_tuples") (List.mem_of_getElem? (i := 3) rfl))
  obtain ⟨fd_in, FD_in, b_in, F_in⟩ := ok_in_tuples (P := P) (w := w) (mg := mg) (base := base) KX G c TBs 24
  refine ⟨fd, F.bindsN fun _ _ _ _ _ _ us hl => (match us, hl with | [_, _], _ => rfl), init_ok F SI_WrongKind fun cdv A outer s H E hr tk => ?_⟩
  exact pss_one (ps_ostE T_WrongKind rfl (visB_ok rfl) (pd_call (hy := [false]) (dd := []) F_in hr rfl m_in_tuples FD_in.kp b_in .nil .nil tk insE (by decide) (pda_cons (pd_var (i := 1) rfl (visB_ok rfl) (by decide) (by decide)) pda_nil rfl) rfl rfl rfl (alen_cons alen_nil)) rfl)
/-! NoWord.__init__ -/
theorem SI_NoWord : FnScope ["self", "step"] ["self", "step"] (defScope (clsInit (top 8))) := ⟨rfl, rfl, rfl, by decide +kernel, rfl, by decide +kernel, by decide +kernel⟩
theorem okI_NoWord {P : Program} {w : World} {K : PySem.W.Frag} {h : Heap} {mg : PySem.Str → Option Value} {base : Heap} (KX : K.In h) (G : h.Ns mainGlobals mg) (c : FX K) (TBs : ∀ p ∈ csL K, LamX.TabB base mg p.1 p.2) : ∃ fd, Binds K fd ["self", "step"] [] ∧ FnOk P w K mg base (L2.CX P w) 25 (He.ma K (He.ga K "NoWord") "__init__") fd ["self", "step"] (spI K (g0 K) (He.ga K "NoWord") "step" (d_in_tuples 24)) := by
  obtain ⟨fd, F⟩ := c.defs (d := D_I_NoWord) (List.mem_of_getElem? (i := 5) rfl)
  have T_NoWord := oexB_ok c.oex_NoWord
  have m_in_tuples : mg "in_tuples" = some (.ref (He.ga K "in_tuples")) := He.glo_ok KX G (c.facts (f := .glo "in_tuples") (List.mem_of_getElem? (i := 3) rfl))
  obtain ⟨fd_in, FD_in, b_in, F_in⟩ := ok_in_tuples (P := P) (w := w) (mg := mg) (base := base) KX G c TBs 24
  refine ⟨fd, F.bindsN fun _ _ _ _ _ _ us hl => (match us, hl with | [_, _], _ => rfl), init_ok F SI_NoWord fun cdv A outer s H E hr tk => ?_⟩
  exact pss_one (ps_ostE T_NoWord rfl (visB_ok rfl) (pd_call (hy := [false]) (dd := []) F_in hr rfl m_in_tuples FD_in.kp b_in .nil .nil tk insE (by decide) (pda_cons (pd_var (i := 1) rfl (visB_ok rfl) (by decide) (by decide)) pda_nil rfl) rfl rfl rfl (alen_cons alen_nil)) rfl)
/-! NoPoint.__init__ -/
theorem SI_NoPoint : FnScope ["self", "step"] ["self", "step"] (defScope (clsInit (top 9))) := ⟨rfl, rfl, rfl, by decide +kernel, rfl, by decide +kernel, by decide +kernel⟩
theorem okI_NoPoint {P : Program} {w : World} {K : PySem.W.Frag} {h : Heap} {mg : PySem.Str → Option Value} {base : Heap} (KX : K.In h) (G : h.Ns mainGlobals mg) (c : FX K) (TBs : ∀ p ∈ csL K, LamX.TabB base mg p.1 p.2) : ∃ fd, Binds K fd ["self", "step"] [] ∧ FnOk P w K mg base (L2.CX P w) 25 (He.ma K (He.ga K "NoPoint") "__init__") fd ["self", "step"] (spI K (g0 K) (He.ga K "NoPoint") "step" (d_in_tuples 24)) := by
  obtain ⟨fd, F⟩ := c.defs (d := D_I_NoPoint) (List.mem_of_getElem? (i := 6) rfl)
  have T_NoPoint := oexB_ok c.oex_NoPoint
  have m_in_tuples : mg "in_tuples" = some (.ref (He.ga K "in_tuples")) := He.glo_ok KX G (c.facts (f := .glo "in_tuples") (List.mem_of_getElem? (i := 3) rfl))
  obtain ⟨fd_in, FD_in, b_in, F_in⟩ := ok_in_tuples (P := P) (w := w) (mg := mg) (base := base) KX G c TBs 24
  refine ⟨fd, F.bindsN fun _ _ _ _ _ _ us hl => (match us, hl with | [_, _], _ => rfl), init_ok F SI_NoPoint fun cdv A outer s H E hr tk => ?_⟩
  exact pss_one (ps_ostE T_NoPoint rfl (visB_ok rfl) (pd_call (hy := [false]) (dd := []) F_in hr rfl m_in_tuples FD_in.kp b_in .nil .nil tk insE (by decide) (pda_cons (pd_var (i := 1) rfl (visB_ok rfl) (by decide) (by decide)) pda_nil rfl) rfl rfl rfl (alen_cons alen_nil)) rfl)
/-! TooMuch.__init__ -/
theorem SI_TooMuch : FnScope ["self", "step"] ["self", "step"] (defScope (clsInit (top 10))) := ⟨rfl, rfl, rfl, by decide +kernel, rfl, by decide +kernel, by decide +kernel⟩
theorem okI_TooMuch {P : Program} {w : World} {K : PySem.W.Frag} {h : Heap} {mg : PySem.Str → Option Value} {base : Heap} (KX : K.In h) (G : h.Ns mainGlobals mg) (c : FX K) (TBs : ∀ p ∈ csL K, LamX.TabB base mg p.1 p.2) : ∃ fd, Binds K fd ["self", "step"] [] ∧ FnOk P w K mg base (L2.CX P w) 25 (He.ma K (He.ga K "TooMuch") "__init__") fd ["self", "step"] (spI K (g0 K) (He.ga K "TooMuch") "step" (d_in_tuples 24)) := by
  obtain ⟨fd, F⟩ := c.defs (d := D_I_TooMuch) (List.mem_of_getElem? (i := 7) rfl)
  have T_TooMuch := oexB_ok c.oex_TooMuch
  have m_in_tuples : mg "in_tuples" = some (.ref (He.ga K "in_tuples")) := He.glo_ok KX G (c.facts (f := .glo "in_tuples") (List.mem_of_getElem? (i := 3) rfl))
  obtain ⟨fd_in, FD_in, b_in, F_in⟩ := ok_in_tuples (P := P) (w := w) (mg := mg) (base := base) KX G c TBs 24
  refine ⟨fd, F.bindsN fun _ _ _ _ _ _ us hl => (match us, hl with | [_, _], _ => rfl), init_ok F SI_TooMuch fun cdv A outer s H E hr tk => ?_⟩
  exact pss_one (ps_ostE T_TooMuch rfl (visB_ok rfl) (pd_call (hy := [false]) (dd := []) F_in hr rfl m_in_tuples FD_in.kp b_in .nil .nil tk insE (by decide) (pda_cons (pd_var (i := 1) rfl (visB_ok rfl) (by decide) (by decide)) pda_nil rfl) rfl rfl rfl (alen_cons alen_nil)) rfl)
/-! _law_so -/
def d__law_so : Nat → List Vx → Mo Vx
  | 0, _ => stk
  | n + 1, ys => fnM 3 (sCons (sIf (tTst (eBin dIs (eVar 1) (eC .non))) (sCons (sRet (eBin dIs (eVar 0) (eC .non))) sNil) sNil) (sCons (sIf (tVal (eIsi [.tuple] (eVar 1))) (sCons (sIf (tOrD (tNotD (tVal (eIsi [.tuple] (eVar 0)))) (tTst (eBin dNe (eCall bLen (aCons (eVar 0) aNil)) (eCall bLen (aCons (eVar 1) aNil))))) (sCons (sRet (eC (.bl false))) sNil) sNil) (sCons (sFor (wRng1 (aCons (eCall bLen (aCons (eVar 1) aNil)) aNil)) (.nm 2) (sCons (sIf (tNotD (tVal (eCall (fun ys => callM [false, false] (d__law_so n) (ys ++ ([] : List Dt).map Vx.d)) (aCons (eBin dIx (eVar 0) (eVar 2)) (aCons (eBin dIx (eVar 1) (eVar 2)) aNil))))) (sCons (sRet (eC (.bl false))) sNil) sNil) sNil)) (sCons (sRet (eC (.bl true))) sNil))) sNil) (sCons (sIf (tOrD (tVal (eIsi [.bool] (eVar 1))) (tVal (eIsi [.bool] (eVar 0)))) (sCons (sRet (eAnd (eIsi [.bool] (eVar 1)) (eAnd (eIsi [.bool] (eVar 0)) (eBin dEq (eVar 0) (eVar 1))))) sNil) sNil) (sCons (sIf (tVal (eIsi [.int] (eVar 1))) (sCons (sRet (eAnd (eIsi [.int] (eVar 0)) (eBin dEq (eVar 0) (eVar 1)))) sNil) sNil) (sCons (sRet (eAnd (eIsi [.str] (eVar 1)) (eAnd (eIsi [.str] (eVar 0)) (eBin dEq (eVar 0) (eVar 1))))) sNil))))) ys
theorem S__law_so : FnScope ["found", "meant", "k"] ["found", "meant"] (defScope (top 12)) := ⟨rfl, rfl, rfl, by decide +kernel, rfl, by decide +kernel, by decide +kernel⟩
theorem ok__law_so {P : Program} {w : World} {K : PySem.W.Frag} {h : Heap} {mg : PySem.Str → Option Value} {base : Heap} (KX : K.In h) (G : h.Ns mainGlobals mg) (c : FX K) (TBs : ∀ p ∈ csL K, LamX.TabB base mg p.1 p.2) (n : Nat) : ∃ fd, FunD K "_law_so" "_law_so" (defArgs (top 12)) (defBody (top 12)) (defScope (top 12)) (D__law_so.dvs K) [] (He.ga K "_law_so") fd ∧ (Binds K fd ["found", "meant"] []) ∧ FnOk P w K mg base (L2.CX P w) (n + 0) (He.ga K "_law_so") fd ["found", "meant"] (spD K (g0 K) 2 (d__law_so n)) := by
  obtain ⟨fd, F⟩ := c.defs (d := D__law_so) (List.mem_of_getElem? (i := 8) rfl)
  have m_bool : mg "bool" = none := He.free_ok KX G (c.facts (f := .free "bool") (List.mem_of_getElem? (i := 4) rfl))
  have m_int : mg "int" = none := He.free_ok KX G (c.facts (f := .free "int") (List.mem_of_getElem? (i := 5) rfl))
  have m_isinstance : mg "isinstance" = none := He.free_ok KX G (c.facts (f := .free "isinstance") (List.mem_of_getElem? (i := 0) rfl))
  have m_len : mg "len" = none := He.free_ok KX G (c.facts (f := .free "len") (List.mem_of_getElem? (i := 6) rfl))
  have m_range : mg "range" = none := He.free_ok KX G (c.facts (f := .free "range") (List.mem_of_getElem? (i := 7) rfl))
  have m_str : mg "str" = none := He.free_ok KX G (c.facts (f := .free "str") (List.mem_of_getElem? (i := 8) rfl))
  have m_tuple : mg "tuple" = none := He.free_ok KX G (c.facts (f := .free "tuple") (List.mem_of_getElem? (i := 2) rfl))
  have m__law_so : mg "_law_so" = some (.ref (He.ga K "_law_so")) := He.glo_ok KX G (c.facts (f := .glo "_law_so") (List.mem_of_getElem? (i := 9) rfl))
  have bF : Binds K fd ["found", "meant"] [] := F.bindsN fun _ _ _ _ _ _ us hl => match us, hl with | [_, _], _ => rfl
  refine ⟨fd, F, bF, ?_⟩
  induction n with
  | zero => exact ⟨fun vs H Q E h => h.1, fun A outer s H args us vs Q E hr he hb hv h => by obtain ⟨_, W, h0, ys, _, _, p⟩ := h; exact p.elim⟩
  | succ n F_self =>
    have FD__law_so := F
    have b__law_so := bF
    have v__law_so : Vals [] [] := .nil
    refine fn_ok F S__law_so rfl rfl fun cdv A outer s H E hr tk po => ?_
    have hU := room64 hr
    have hU0 := room0 hr
    have hN := S__law_so.nd
    exact (pds_cons insE (pd_if (pdt_cmp od_is (pd_var (i := 1) rfl (visB_ok rfl) (by decide) (by decide)) pd_non rfl) (pds_cons insE (pd_ret (pd_cmp od_is (pd_var (i := 0) rfl (visB_ok rfl) (by decide) (by decide)) pd_non rfl)) pds_nil) pds_nil) (pds_cons insE (pd_if (pdt_val (pd_isi (c := .tuple) rfl m_isinstance (pd_var (i := 1) rfl (visB_ok rfl) (by decide) (by decide)) (pe_tyn rfl m_tuple (by decide +kernel) (by decide) (by decide)) rfl rfl rfl) (fun _ => rfl)) (pds_cons insE (pd_if (PW.pt (pdw_or (pdt_not (pdt_val (pd_isi (c := .tuple) rfl m_isinstance (pd_var (i := 0) rfl (visB_ok rfl) (by decide) (by decide)) (pe_tyn rfl m_tuple (by decide +kernel) (by decide) (by decide)) rfl rfl rfl) (fun _ => rfl))) (pdw_or1 (pdt_cmp (od_ne hU) (pd_callB cd_len rfl m_len (by decide +kernel) (pda_cons (pd_var (i := 0) rfl (visB_ok rfl) (by decide) (by decide)) pda_nil rfl) (by decide) (by decide) rfl rfl) (pd_callB cd_len rfl m_len (by decide +kernel) (pda_cons (pd_var (i := 1) rfl (visB_ok rfl) (by decide) (by decide)) pda_nil rfl) (by decide) (by decide) rfl rfl) rfl)))) (pds_cons insE (pd_ret pd_bl) pds_nil) pds_nil) (pds_cons insE (pd_for insE po rfl (tg_nm 2) (pd_rng1 rfl m_range (pda_cons (pd_callB cd_len rfl m_len (by decide +kernel) (pda_cons (pd_var (i := 1) rfl (visB_ok rfl) (by decide) (by decide)) pda_nil rfl) (by decide) (by decide) rfl rfl) pda_nil rfl) rfl) (pg_name (i := 2) hN rfl (locB_ok rfl) (by first | exact .inl rfl | exact .inr rfl)) (pds_cons insE (pd_if (pdt_not (pdt_val (pd_call (hy := [false, false]) (dd := []) (F_self.mono (by omega)) hr rfl m__law_so FD__law_so.kp b__law_so v__law_so .nil tk insE (by decide) (pda_cons (pd_ix (pd_var (i := 0) rfl (visB_ok rfl) (by decide) (by decide)) (pd_var (i := 2) rfl (visB_ok rfl) (by decide) (by decide)) (fun _ _ => rfl)) (pda_cons (pd_ix (pd_var (i := 1) rfl (visB_ok rfl) (by decide) (by decide)) (pd_var (i := 2) rfl (visB_ok rfl) (by decide) (by decide)) (fun _ _ => rfl)) pda_nil rfl) rfl) rfl rfl rfl ((alen_cons (alen_cons alen_nil)))) (fun _ => rfl))) (pds_cons insE (pd_ret pd_bl) pds_nil) pds_nil) pds_nil) (fun _ => rfl)) (pds_cons insE (pd_ret pd_bl) pds_nil))) pds_nil) (pds_cons insE (pd_if (PW.pt (pdw_or (pdt_val (pd_isi (c := .bool) rfl m_isinstance (pd_var (i := 1) rfl (visB_ok rfl) (by decide) (by decide)) (pe_tyn rfl m_bool (by decide +kernel) (by decide) (by decide)) rfl rfl rfl) (fun _ => rfl)) (pdw_or1 (pdt_val (pd_isi (c := .bool) rfl m_isinstance (pd_var (i := 0) rfl (visB_ok rfl) (by decide) (by decide)) (pe_tyn rfl m_bool (by decide +kernel) (by decide) (by decide)) rfl rfl rfl) (fun _ => rfl))))) (pds_cons insE (pd_ret (pd_and (pd_isi (c := .bool) rfl m_isinstance (pd_var (i := 1) rfl (visB_ok rfl) (by decide) (by decide)) (pe_tyn rfl m_bool (by decide +kernel) (by decide) (by decide)) rfl rfl rfl) (pd_and (pd_isi (c := .bool) rfl m_isinstance (pd_var (i := 0) rfl (visB_ok rfl) (by decide) (by decide)) (pe_tyn rfl m_bool (by decide +kernel) (by decide) (by decide)) rfl rfl rfl) (pd_one (pd_cmp (od_eq hU) (pd_var (i := 0) rfl (visB_ok rfl) (by decide) (by decide)) (pd_var (i := 1) rfl (visB_ok rfl) (by decide) (by decide)) rfl))))) pds_nil) pds_nil) (pds_cons insE (pd_if (pdt_val (pd_isi (c := .int) rfl m_isinstance (pd_var (i := 1) rfl (visB_ok rfl) (by decide) (by decide)) (pe_tyn rfl m_int (by decide +kernel) (by decide) (by decide)) rfl rfl rfl) (fun _ => rfl)) (pds_cons insE (pd_ret (pd_and (pd_isi (c := .int) rfl m_isinstance (pd_var (i := 0) rfl (visB_ok rfl) (by decide) (by decide)) (pe_tyn rfl m_int (by decide +kernel) (by decide) (by decide)) rfl rfl rfl) (pd_one (pd_cmp (od_eq hU) (pd_var (i := 0) rfl (visB_ok rfl) (by decide) (by decide)) (pd_var (i := 1) rfl (visB_ok rfl) (by decide) (by decide)) rfl)))) pds_nil) pds_nil) (pds_cons insE (pd_ret (pd_and (pd_isi (c := .str) rfl m_isinstance (pd_var (i := 1) rfl (visB_ok rfl) (by decide) (by decide)) (pe_tyn rfl m_str (by decide +kernel) (by decide) (by decide)) rfl rfl rfl) (pd_and (pd_isi (c := .str) rfl m_isinstance (pd_var (i := 0) rfl (visB_ok rfl) (by decide) (by decide)) (pe_tyn rfl m_str (by decide +kernel) (by decide) (by decide)) rfl rfl rfl) (pd_one (pd_cmp (od_eq hU) (pd_var (i := 0) rfl (visB_ok rfl) (by decide) (by decide)) (pd_var (i := 1) rfl (visB_ok rfl) (by decide) (by decide)) rfl))))) pds_nil)))))
/-! _law_numbers -/
def d__law_numbers : List Vx → Mo Vx := fun ys => fnM 6 (sCons (sSet (.nm 1) (eNew aNil)) (sCons (sFor (wVal (eSl (eVar 0) oNone (oSome (eC (.int 63))))) (.nm 2) (sCons (sIf (tTst (eBin dGe (eVar 2) (eBin dPow (eC (.int 10)) (eC (.int 18))))) (sCons (sSet (.nm 3) (eVar 2)) (sCons (sFor (wRng1 (aCons (eC (.int 60)) aNil)) (.nm 4) (sCons (sIf (tTst (eBin dEq (eVar 3) (eC (.int 0)))) (sCons sBk sNil) sNil) (sCons (sExpr (eMt .list mAppend (eVar 1) (aCons (eBin dMod (eCall bInt (aCons (eVar 3) aNil)) (eC (.int 997))) aNil))) (sCons (sSet (.nm 3) (eBin dFdiv (eVar 3) (eC (.int 997)))) sNil)))) sNil)) (sCons (sFor (wRng1 (aCons (eC (.int 4)) aNil)) (.nm 4) (sCons (sSet (.nm 5) (eBin dMod (eCall bInt (aCons (eBin dAdd (eBin dAdd (eBin dMul (eVar 2) (eC (.int 48271))) (eBin dMul (eVar 4) (eC (.int 69621)))) (eC (.int 11))) aNil)) (eC (.int 2147483647)))) (sCons (sExpr (eMt .list mAppend (eVar 1) (aCons (eBin dMod (eCall bInt (aCons (eBin dAdd (eBin dMul (eVar 5) (eC (.int 16807))) (eVar 4)) aNil)) (eC (.int 2147483629))) aNil))) sNil))) sNil)) sNil)) (sCons (sIf (tTst (eBin dEq (eCall bLen (aCons (eVar 1) aNil)) (eC (.int 0)))) (sCons (sExpr (eMt .list mAppend (eVar 1) (aCons (eC (.int 0)) aNil))) sNil) sNil) (sCons (sRet (eVar 1)) sNil)))) ys
theorem S__law_numbers : FnScope ["script", "row", "single", "left", "k", "stirred"] ["script"] (defScope (top 13)) := ⟨rfl, rfl, rfl, by decide +kernel, rfl, by decide +kernel, by decide +kernel⟩
theorem ok__law_numbers {P : Program} {w : World} {K : PySem.W.Frag} {h : Heap} {mg : PySem.Str → Option Value} {base : Heap} (KX : K.In h) (G : h.Ns mainGlobals mg) (c : FX K) (TBs : ∀ p ∈ csL K, LamX.TabB base mg p.1 p.2) : ∃ fd, FunD K "_law_numbers" "_law_numbers" (defArgs (top 13)) (defBody (top 13)) (defScope (top 13)) (D__law_numbers.dvs K) [] (He.ga K "_law_numbers") fd ∧ (Binds K fd ["script"] []) ∧ FnOk P w K mg base (L2.CX P w) 1 (He.ga K "_law_numbers") fd ["script"] (spD K (g0 K) 1 d__law_numbers) := by
  obtain ⟨fd, F⟩ := c.defs (d := D__law_numbers) (List.mem_of_getElem? (i := 9) rfl)
  have m_int : mg "int" = none := He.free_ok KX G (c.facts (f := .free "int") (List.mem_of_getElem? (i := 5) rfl))
  have m_len : mg "len" = none := He.free_ok KX G (c.facts (f := .free "len") (List.mem_of_getElem? (i := 6) rfl))
  have m_range : mg "range" = none := He.free_ok KX G (c.facts (f := .free "range") (List.mem_of_getElem? (i := 7) rfl))
  refine ⟨fd, F, F.bindsN fun _ _ _ _ _ _ us hl => match us, hl with | [_], _ => rfl, fn_ok F S__law_numbers rfl rfl fun cdv A outer s H E hr tk po => ?_⟩
  have hU := room64 hr
  have hU0 := room0 hr
  have hN := S__law_numbers.nd
  exact (pds_cons insE (pd_set (i := 1) hN rfl (locB_ok rfl) (pd_new pda_nil) rfl (by first | exact .inl rfl | exact .inr rfl)) (pds_cons insE (pd_for insE po rfl (tg_nm 2) (pd_wval (pd_sl (pd_var (i := 0) rfl (visB_ok rfl) (by decide) (by decide)) pdo_none (pdo_some pd_int))) (pg_name (i := 2) hN rfl (locB_ok rfl) (by first | exact .inl rfl | exact .inr rfl)) (pds_cons insE (pd_if (pdt_cmp od_ge (pd_var (i := 2) rfl (visB_ok rfl) (by decide) (by decide)) (pd_op od_pow pd_int pd_int) rfl) (pds_cons insE (pd_set (i := 3) hN rfl (locB_ok rfl) (pd_var (i := 2) rfl (visB_ok rfl) (by decide) (by decide)) rfl (by first | exact .inl rfl | exact .inr rfl)) (pds_cons insE (pd_for insE po rfl (tg_nm 4) (pd_rng1 rfl m_range (pda_cons pd_int pda_nil rfl) rfl) (pg_name (i := 4) hN rfl (locB_ok rfl) (by first | exact .inl rfl | exact .inr rfl)) (pds_cons insE (pd_if (pdt_cmp (od_eq hU) (pd_var (i := 3) rfl (visB_ok rfl) (by decide) (by decide)) pd_int rfl) (pds_cons insE pd_brk pds_nil) pds_nil) (pds_cons insE (pd_expr (pd_mt (T := .list) PySem.F.plainAttrs_list PySem.F.slot_list_append PySem.F.type_list_append od_app (pd_var (i := 1) rfl (visB_ok rfl) (by decide) (by decide)) (pda_cons (pd_op od_mod (pd_callTy cd_int rfl m_int (by decide +kernel) (pda_cons (pd_var (i := 3) rfl (visB_ok rfl) (by decide) (by decide)) pda_nil rfl) (by decide) (by decide) rfl rfl) pd_int) pda_nil rfl) rfl rfl rfl rfl rfl) rfl) (pds_cons insE (pd_set (i := 3) hN rfl (locB_ok rfl) (pd_op od_fdiv (pd_var (i := 3) rfl (visB_ok rfl) (by decide) (by decide)) pd_int) rfl (by first | exact .inl rfl | exact .inr rfl)) pds_nil))) (fun _ => rfl)) pds_nil)) (pds_cons insE (pd_for insE po rfl (tg_nm 4) (pd_rng1 rfl m_range (pda_cons pd_int pda_nil rfl) rfl) (pg_name (i := 4) hN rfl (locB_ok rfl) (by first | exact .inl rfl | exact .inr rfl)) (pds_cons insE (pd_set (i := 5) hN rfl (locB_ok rfl) (pd_op od_mod (pd_callTy cd_int rfl m_int (by decide +kernel) (pda_cons (pd_op od_add (pd_op od_add (pd_op od_mul (pd_var (i := 2) rfl (visB_ok rfl) (by decide) (by decide)) pd_int) (pd_op od_mul (pd_var (i := 4) rfl (visB_ok rfl) (by decide) (by decide)) pd_int)) pd_int) pda_nil rfl) (by decide) (by decide) rfl rfl) pd_int) rfl (by first | exact .inl rfl | exact .inr rfl)) (pds_cons insE (pd_expr (pd_mt (T := .list) PySem.F.plainAttrs_list PySem.F.slot_list_append PySem.F.type_list_append od_app (pd_var (i := 1) rfl (visB_ok rfl) (by decide) (by decide)) (pda_cons (pd_op od_mod (pd_callTy cd_int rfl m_int (by decide +kernel) (pda_cons (pd_op od_add (pd_op od_mul (pd_var (i := 5) rfl (visB_ok rfl) (by decide) (by decide)) pd_int) (pd_var (i := 4) rfl (visB_ok rfl) (by decide) (by decide))) pda_nil rfl) (by decide) (by decide) rfl rfl) pd_int) pda_nil rfl) rfl rfl rfl rfl rfl) rfl) pds_nil)) (fun _ => rfl)) pds_nil)) pds_nil) (fun _ => rfl)) (pds_cons insE (pd_if (pdt_cmp (od_eq hU) (pd_callB cd_len rfl m_len (by decide +kernel) (pda_cons (pd_var (i := 1) rfl (visB_ok rfl) (by decide) (by decide)) pda_nil rfl) (by decide) (by decide) rfl rfl) pd_int rfl) (pds_cons insE (pd_expr (pd_mt (T := .list) PySem.F.plainAttrs_list PySem.F.slot_list_append PySem.F.type_list_append od_app (pd_var (i := 1) rfl (visB_ok rfl) (by decide) (by decide)) (pda_cons pd_int pda_nil rfl) rfl rfl rfl rfl rfl) rfl) pds_nil) pds_nil) (pds_cons insE (pd_ret (pd_var (i := 1) rfl (visB_ok rfl) (by decide) (by decide))) pds_nil))))
/-! _law_draw -/
def d__law_draw : List Vx → Mo Vx := fun ys => fnM 4 (sCons (sIf (tTst (eBin dLt (eVar 1) (eCall bLen (aCons (eVar 0) aNil)))) (sCons (sRet (eBin dMod (eCall bInt (aCons (eBin dIx (eVar 0) (eVar 1)) aNil)) (eVar 2))) sNil) sNil) (sCons (sSet (.nm 3) (eBin dMod (eCall bInt (aCons (eBin dAdd (eBin dAdd (eBin dMul (eBin dIx (eVar 0) (eBin dMod (eCall bInt (aCons (eVar 1) aNil)) (eCall bLen (aCons (eVar 0) aNil)))) (eC (.int 40692))) (eBin dMul (eVar 1) (eC (.int 7919)))) (eC (.int 3))) aNil)) (eC (.int 2147483399)))) (sCons (sRet (eBin dMod (eCall bInt (aCons (eBin dMod (eCall bInt (aCons (eBin dAdd (eBin dMul (eVar 3) (eC (.int 48271))) (eVar 1)) aNil)) (eC (.int 2147483647))) aNil)) (eVar 2))) sNil))) ys
theorem S__law_draw : FnScope ["row", "at", "limit", "stirred"] ["row", "at", "limit"] (defScope (top 14)) := ⟨rfl, rfl, rfl, by decide +kernel, rfl, by decide +kernel, by decide +kernel⟩
theorem ok__law_draw {P : Program} {w : World} {K : PySem.W.Frag} {h : Heap} {mg : PySem.Str → Option Value} {base : Heap} (KX : K.In h) (G : h.Ns mainGlobals mg) (c : FX K) (TBs : ∀ p ∈ csL K, LamX.TabB base mg p.1 p.2) : ∃ fd, FunD K "_law_draw" "_law_draw" (defArgs (top 14)) (defBody (top 14)) (defScope (top 14)) (D__law_draw.dvs K) [] (He.ga K "_law_draw") fd ∧ (Binds K fd ["row", "at", "limit"] []) ∧ FnOk P w K mg base (L2.CX P w) 1 (He.ga K "_law_draw") fd ["row", "at", "limit"] (spD K (g0 K) 3 d__law_draw) := by
  obtain ⟨fd, F⟩ := c.defs (d := D__law_draw) (List.mem_of_getElem? (i := 10) rfl)
  have m_int : mg "int" = none := He.free_ok KX G (c.facts (f := .free "int") (List.mem_of_getElem? (i := 5) rfl))
  have m_len : mg "len" = none := He.free_ok KX G (c.facts (f := .free "len") (List.mem_of_getElem? (i := 6) rfl))
  refine ⟨fd, F, F.bindsN fun _ _ _ _ _ _ us hl => match us, hl with | [_, _, _], _ => rfl, fn_ok F S__law_draw rfl rfl fun cdv A outer s H E hr tk po => ?_⟩
  have hU := room64 hr
  have hU0 := room0 hr
  have hN := S__law_draw.nd
  exact (pds_cons insE (pd_if (pdt_cmp (od_lt hU0) (pd_var (i := 1) rfl (visB_ok rfl) (by decide) (by decide)) (pd_callB cd_len rfl m_len (by decide +kernel) (pda_cons (pd_var (i := 0) rfl (visB_ok rfl) (by decide) (by decide)) pda_nil rfl) (by decide) (by decide) rfl rfl) rfl) (pds_cons insE (pd_ret (pd_op od_mod (pd_callTy cd_int rfl m_int (by decide +kernel) (pda_cons (pd_ix (pd_var (i := 0) rfl (visB_ok rfl) (by decide) (by decide)) (pd_var (i := 1) rfl (visB_ok rfl) (by decide) (by decide)) (fun _ _ => rfl)) pda_nil rfl) (by decide) (by decide) rfl rfl) (pd_var (i := 2) rfl (visB_ok rfl) (by decide) (by decide)))) pds_nil) pds_nil) (pds_cons insE (pd_set (i := 3) hN rfl (locB_ok rfl) (pd_op od_mod (pd_callTy cd_int rfl m_int (by decide +kernel) (pda_cons (pd_op od_add (pd_op od_add (pd_op od_mul (pd_ix (pd_var (i := 0) rfl (visB_ok rfl) (by decide) (by decide)) (pd_op od_mod (pd_callTy cd_int rfl m_int (by decide +kernel) (pda_cons (pd_var (i := 1) rfl (visB_ok rfl) (by decide) (by decide)) pda_nil rfl) (by decide) (by decide) rfl rfl) (pd_callB cd_len rfl m_len (by decide +kernel) (pda_cons (pd_var (i := 0) rfl (visB_ok rfl) (by decide) (by decide)) pda_nil rfl) (by decide) (by decide) rfl rfl)) (fun _ _ => rfl)) pd_int) (pd_op od_mul (pd_var (i := 1) rfl (visB_ok rfl) (by decide) (by decide)) pd_int)) pd_int) pda_nil rfl) (by decide) (by decide) rfl rfl) pd_int) rfl (by first | exact .inl rfl | exact .inr rfl)) (pds_cons insE (pd_ret (pd_op od_mod (pd_callTy cd_int rfl m_int (by decide +kernel) (pda_cons (pd_op od_mod (pd_callTy cd_int rfl m_int (by decide +kernel) (pda_cons (pd_op od_add (pd_op od_mul (pd_var (i := 3) rfl (visB_ok rfl) (by decide) (by decide)) pd_int) (pd_var (i := 1) rfl (visB_ok rfl) (by decide) (by decide))) pda_nil rfl) (by decide) (by decide) rfl rfl) pd_int) pda_nil rfl) (by decide) (by decide) rfl rfl) (pd_var (i := 2) rfl (visB_ok rfl) (by decide) (by decide)))) pds_nil)))
/-! _law_take -/
def d__law_take : List Vx → Mo Vx := fun ys => fnM 3 (sCons (sPut (eVar 1) (eC (.int 0)) (eBin dAdd (eBin dIx (eVar 1) (eC (.int 0))) (eC (.int 1))) dPut) (sCons (sRet (eCall (fun ys => callM [false, false, false] d__law_draw (ys ++ ([] : List Dt).map Vx.d)) (aCons (eVar 0) (aCons (eBin dSub (eBin dIx (eVar 1) (eC (.int 0))) (eC (.int 1))) (aCons (eVar 2) aNil))))) sNil)) ys
theorem S__law_take : FnScope ["row", "spot", "limit"] ["row", "spot", "limit"] (defScope (top 15)) := ⟨rfl, rfl, rfl, by decide +kernel, rfl, by decide +kernel, by decide +kernel⟩
theorem ok__law_take {P : Program} {w : World} {K : PySem.W.Frag} {h : Heap} {mg : PySem.Str → Option Value} {base : Heap} (KX : K.In h) (G : h.Ns mainGlobals mg) (c : FX K) (TBs : ∀ p ∈ csL K, LamX.TabB base mg p.1 p.2) : ∃ fd, FunD K "_law_take" "_law_take" (defArgs (top 15)) (defBody (top 15)) (defScope (top 15)) (D__law_take.dvs K) [] (He.ga K "_law_take") fd ∧ (Binds K fd ["row", "spot", "limit"] []) ∧ FnOk P w K mg base (L2.CX P w) 2 (He.ga K "_law_take") fd ["row", "spot", "limit"] (spD K (g0 K) 3 d__law_take) := by
  obtain ⟨fd, F⟩ := c.defs (d := D__law_take) (List.mem_of_getElem? (i := 11) rfl)
  have m__law_draw : mg "_law_draw" = some (.ref (He.ga K "_law_draw")) := He.glo_ok KX G (c.facts (f := .glo "_law_draw") (List.mem_of_getElem? (i := 10) rfl))
  obtain ⟨fd__law_draw, FD__law_draw, b__law_draw, F__law_draw⟩ := ok__law_draw (P := P) (w := w) (mg := mg) (base := base) KX G c TBs
  have v__law_draw : Vals [] [] := .nil
  refine ⟨fd, F, F.bindsN fun _ _ _ _ _ _ us hl => match us, hl with | [_, _, _], _ => rfl, fn_ok F S__law_take rfl rfl fun cdv A outer s H E hr tk po => ?_⟩
  have hU := room64 hr
  have hU0 := room0 hr
  have hN := S__law_take.nd
  exact (pds_cons insE (pd_put pu_list (pd_var (i := 1) rfl (visB_ok rfl) (by decide) (by decide)) pd_int (pd_op od_add (pd_ix (pd_var (i := 1) rfl (visB_ok rfl) (by decide) (by decide)) pd_int (fun _ _ => rfl)) pd_int) (fun _ => rfl) rfl rfl rfl) (pds_cons insE (pd_ret (pd_call (hy := [false, false, false]) (dd := []) (F__law_draw.mono (by decide)) hr rfl m__law_draw FD__law_draw.kp b__law_draw v__law_draw .nil tk insE (by decide) (pda_cons (pd_var (i := 0) rfl (visB_ok rfl) (by decide) (by decide)) (pda_cons (pd_op od_sub (pd_ix (pd_var (i := 1) rfl (visB_ok rfl) (by decide) (by decide)) pd_int (fun _ _ => rfl)) pd_int) (pda_cons (pd_var (i := 2) rfl (visB_ok rfl) (by decide) (by decide)) pda_nil rfl) rfl) rfl) rfl rfl rfl ((alen_cons (alen_cons (alen_cons alen_nil)))))) pds_nil))
/-! _law_wide -/
def d__law_wide : List Vx → Mo Vx := fun ys => fnM 6 (sCons (sSet (.nm 3) (eCall (fun ys => callM [false, true, false] d__law_take (ys ++ ([] : List Dt).map Vx.d)) (aCons (eVar 0) (aCons (eVar 1) (aCons (eC (.int 997)) aNil))))) (sCons (sSet (.nm 4) (eCall (fun ys => callM [false, true, false] d__law_take (ys ++ ([] : List Dt).map Vx.d)) (aCons (eVar 0) (aCons (eVar 1) (aCons (eC (.int 997)) aNil))))) (sCons (sSet (.nm 5) (eCall (fun ys => callM [false, true, false] d__law_take (ys ++ ([] : List Dt).map Vx.d)) (aCons (eVar 0) (aCons (eVar 1) (aCons (eC (.int 997)) aNil))))) (sCons (sRet (eBin dMod (eCall bInt (aCons (eBin dAdd (eBin dAdd (eBin dMul (eVar 3) (eC (.int 994009))) (eBin dMul (eVar 4) (eC (.int 997)))) (eVar 5)) aNil)) (eVar 2))) sNil)))) ys
theorem S__law_wide : FnScope ["row", "spot", "limit", "first", "second", "third"] ["row", "spot", "limit"] (defScope (top 16)) := ⟨rfl, rfl, rfl, by decide +kernel, rfl, by decide +kernel, by decide +kernel⟩
theorem ok__law_wide {P : Program} {w : World} {K : PySem.W.Frag} {h : Heap} {mg : PySem.Str → Option Value} {base : Heap} (KX : K.In h) (G : h.Ns mainGlobals mg) (c : FX K) (TBs : ∀ p ∈ csL K, LamX.TabB base mg p.1 p.2) : ∃ fd, FunD K "_law_wide" "_law_wide" (defArgs (top 16)) (defBody (top 16)) (defScope (top 16)) (D__law_wide.dvs K) [] (He.ga K "_law_wide") fd ∧ (Binds K fd ["row", "spot", "limit"] []) ∧ FnOk P w K mg base (L2.CX P w) 3 (He.ga K "_law_wide") fd ["row", "spot", "limit"] (spD K (g0 K) 3 d__law_wide) := by
  obtain ⟨fd, F⟩ := c.defs (d := D__law_wide) (List.mem_of_getElem? (i := 12) rfl)
  have m_int : mg "int" = none := He.free_ok KX G (c.facts (f := .free "int") (List.mem_of_getElem? (i := 5) rfl))
  have m__law_take : mg "_law_take" = some (.ref (He.ga K "_law_take")) := He.glo_ok KX G (c.facts (f := .glo "_law_take") (List.mem_of_getElem? (i := 11) rfl))
  obtain ⟨fd__law_take, FD__law_take, b__law_take, F__law_take⟩ := ok__law_take (P := P) (w := w) (mg := mg) (base := base) KX G c TBs
  have v__law_take : Vals [] [] := .nil
  refine ⟨fd, F, F.bindsN fun _ _ _ _ _ _ us hl => match us, hl with | [_, _, _], _ => rfl, fn_ok F S__law_wide rfl rfl fun cdv A outer s H E hr tk po => ?_⟩
  have hU := room64 hr
  have hU0 := room0 hr
  have hN := S__law_wide.nd
  exact (pds_cons insE (pd_set (i := 3) hN rfl (locB_ok rfl) (pd_call (hy := [false, true, false]) (dd := []) (F__law_take.mono (by decide)) hr rfl m__law_take FD__law_take.kp b__law_take v__law_take .nil tk insE (by decide) (pda_cons (pd_var (i := 0) rfl (visB_ok rfl) (by decide) (by decide)) (pda_cons (pd_var (i := 1) rfl (visB_ok rfl) (by decide) (by decide)) (pda_cons pd_int pda_nil rfl) rfl) rfl) rfl rfl rfl ((alen_cons (alen_cons (alen_cons alen_nil))))) rfl (by first | exact .inl rfl | exact .inr rfl)) (pds_cons insE (pd_set (i := 4) hN rfl (locB_ok rfl) (pd_call (hy := [false, true, false]) (dd := []) (F__law_take.mono (by decide)) hr rfl m__law_take FD__law_take.kp b__law_take v__law_take .nil tk insE (by decide) (pda_cons (pd_var (i := 0) rfl (visB_ok rfl) (by decide) (by decide)) (pda_cons (pd_var (i := 1) rfl (visB_ok rfl) (by decide) (by decide)) (pda_cons pd_int pda_nil rfl) rfl) rfl) rfl rfl rfl ((alen_cons (alen_cons (alen_cons alen_nil))))) rfl (by first | exact .inl rfl | exact .inr rfl)) (pds_cons insE (pd_set (i := 5) hN rfl (locB_ok rfl) (pd_call (hy := [false, true, false]) (dd := []) (F__law_take.mono (by decide)) hr rfl m__law_take FD__law_take.kp b__law_take v__law_take .nil tk insE (by decide) (pda_cons (pd_var (i := 0) rfl (visB_ok rfl) (by decide) (by decide)) (pda_cons (pd_var (i := 1) rfl (visB_ok rfl) (by decide) (by decide)) (pda_cons pd_int pda_nil rfl) rfl) rfl) rfl rfl rfl ((alen_cons (alen_cons (alen_cons alen_nil))))) rfl (by first | exact .inl rfl | exact .inr rfl)) (pds_cons insE (pd_ret (pd_op od_mod (pd_callTy cd_int rfl m_int (by decide +kernel) (pda_cons (pd_op od_add (pd_op od_add (pd_op od_mul (pd_var (i := 3) rfl (visB_ok rfl) (by decide) (by decide)) pd_int) (pd_op od_mul (pd_var (i := 4) rfl (visB_ok rfl) (by decide) (by decide)) pd_int)) (pd_var (i := 5) rfl (visB_ok rfl) (by decide) (by decide))) pda_nil rfl) (by decide) (by decide) rfl rfl) (pd_var (i := 2) rfl (visB_ok rfl) (by decide) (by decide)))) pds_nil))))
/-! _law_so, in an except suite -/
def dH__law_so : List Vx → Mo Vx := fun ys => noErr (fnM 3 (sCons (sIf (tTst (eBin dIs (eVar 1) (eC .non))) (sCons (sRet (eBin dIs (eVar 0) (eC .non))) sNil) sNil) (sCons (sIf (tVal (eIsi [.tuple] (eVar 1))) sStk sNil) (sCons (sIf (tOrD (tVal (eIsi [.bool] (eVar 1))) (tVal (eIsi [.bool] (eVar 0)))) (sCons (sRet (eAnd (eIsi [.bool] (eVar 1)) (eAnd (eIsi [.bool] (eVar 0)) (eBin dEq (eVar 0) (eVar 1))))) sNil) sNil) (sCons (sIf (tVal (eIsi [.int] (eVar 1))) (sCons (sRet (eAnd (eIsi [.int] (eVar 0)) (eBin dEq (eVar 0) (eVar 1)))) sNil) sNil) (sCons (sRet (eAnd (eIsi [.str] (eVar 1)) (eAnd (eIsi [.str] (eVar 0)) (eBin dEq (eVar 0) (eVar 1))))) sNil))))) ys)
theorem okH__law_so {P : Program} {w : World} {K : PySem.W.Frag} {h : Heap} {mg : PySem.Str → Option Value} {base : Heap} (KX : K.In h) (G : h.Ns mainGlobals mg) (c : FX K) (TBs : ∀ p ∈ csL K, LamX.TabB base mg p.1 p.2) : ∃ fd, FunD K "_law_so" "_law_so" (defArgs (top 12)) (defBody (top 12)) (defScope (top 12)) (D__law_so.dvs K) [] (He.ga K "_law_so") fd ∧ Binds K fd ["found", "meant"] [] ∧ L2H.FnH P w K mg base (L2.CX P w) 1 (He.ga K "_law_so") fd ["found", "meant"] (spD K (g0 K) 2 dH__law_so) := by
  obtain ⟨fd, F⟩ := c.defs (d := D__law_so) (List.mem_of_getElem? (i := 8) rfl)
  have m_bool : mg "bool" = none := He.free_ok KX G (c.facts (f := .free "bool") (List.mem_of_getElem? (i := 4) rfl))
  have m_int : mg "int" = none := He.free_ok KX G (c.facts (f := .free "int") (List.mem_of_getElem? (i := 5) rfl))
  have m_isinstance : mg "isinstance" = none := He.free_ok KX G (c.facts (f := .free "isinstance") (List.mem_of_getElem? (i := 0) rfl))
  have m_str : mg "str" = none := He.free_ok KX G (c.facts (f := .free "str") (List.mem_of_getElem? (i := 8) rfl))
  have m_tuple : mg "tuple" = none := He.free_ok KX G (c.facts (f := .free "tuple") (List.mem_of_getElem? (i := 2) rfl))
  refine ⟨fd, F, F.bindsN fun _ _ _ _ _ _ us hl => (match us, hl with | [_, _], _ => rfl), fn_okH F S__law_so rfl rfl fun cdv A outer s H E pp hr => ?_⟩
  have hU := room64H hr
  have hU0 := room0H hr
  have hN := S__law_so.nd
  exact (pds_cons insH (pd_if (pdt_cmp od_is (pd_var (i := 1) rfl (visB_ok rfl) (by decide) (by decide)) pd_non rfl) (pds_cons insH (pd_ret (pd_cmp od_is (pd_var (i := 0) rfl (visB_ok rfl) (by decide) (by decide)) pd_non rfl)) pds_nil) pds_nil) (pds_cons insH (pd_if (pdt_val (pd_isi (c := .tuple) rfl m_isinstance (pd_var (i := 1) rfl (visB_ok rfl) (by decide) (by decide)) (pe_tyn rfl m_tuple (by decide +kernel) (by decide) (by decide)) rfl rfl rfl) (fun _ => rfl)) pds_stk pds_nil) (pds_cons insH (pd_if (PW.pt (pdw_or (pdt_val (pd_isi (c := .bool) rfl m_isinstance (pd_var (i := 1) rfl (visB_ok rfl) (by decide) (by decide)) (pe_tyn rfl m_bool (by decide +kernel) (by decide) (by decide)) rfl rfl rfl) (fun _ => rfl)) (pdw_or1 (pdt_val (pd_isi (c := .bool) rfl m_isinstance (pd_var (i := 0) rfl (visB_ok rfl) (by decide) (by decide)) (pe_tyn rfl m_bool (by decide +kernel) (by decide) (by decide)) rfl rfl rfl) (fun _ => rfl))))) (pds_cons insH (pd_ret (pd_and (pd_isi (c := .bool) rfl m_isinstance (pd_var (i := 1) rfl (visB_ok rfl) (by decide) (by decide)) (pe_tyn rfl m_bool (by decide +kernel) (by decide) (by decide)) rfl rfl rfl) (pd_and (pd_isi (c := .bool) rfl m_isinstance (pd_var (i := 0) rfl (visB_ok rfl) (by decide) (by decide)) (pe_tyn rfl m_bool (by decide +kernel) (by decide) (by decide)) rfl rfl rfl) (pd_one (pd_cmp (od_eq hU) (pd_var (i := 0) rfl (visB_ok rfl) (by decide) (by decide)) (pd_var (i := 1) rfl (visB_ok rfl) (by decide) (by decide)) rfl))))) pds_nil) pds_nil) (pds_cons insH (pd_if (pdt_val (pd_isi (c := .int) rfl m_isinstance (pd_var (i := 1) rfl (visB_ok rfl) (by decide) (by decide)) (pe_tyn rfl m_int (by decide +kernel) (by decide) (by decide)) rfl rfl rfl) (fun _ => rfl)) (pds_cons insH (pd_ret (pd_and (pd_isi (c := .int) rfl m_isinstance (pd_var (i := 0) rfl (visB_ok rfl) (by decide) (by decide)) (pe_tyn rfl m_int (by decide +kernel) (by decide) (by decide)) rfl rfl rfl) (pd_one (pd_cmp (od_eq hU) (pd_var (i := 0) rfl (visB_ok rfl) (by decide) (by decide)) (pd_var (i := 1) rfl (visB_ok rfl) (by decide) (by decide)) rfl)))) pds_nil) pds_nil) (pds_cons insH (pd_ret (pd_and (pd_isi (c := .str) rfl m_isinstance (pd_var (i := 1) rfl (visB_ok rfl) (by decide) (by decide)) (pe_tyn rfl m_str (by decide +kernel) (by decide) (by decide)) rfl rfl rfl) (pd_and (pd_isi (c := .str) rfl m_isinstance (pd_var (i := 0) rfl (visB_ok rfl) (by decide) (by decide)) (pe_tyn rfl m_str (by decide +kernel) (by decide) (by decide)) rfl rfl rfl) (pd_one (pd_cmp (od_eq hU) (pd_var (i := 0) rfl (visB_ok rfl) (by decide) (by decide)) (pd_var (i := 1) rfl (visB_ok rfl) (by decide) (by decide)) rfl))))) pds_nil)))))
/-! law -/
def d_law : List Vx → Mo Vx := fun ys => fnM 11 (sCons (sSet (.nm 1) (eCall (fun ys => callM [false] d__law_numbers (ys ++ ([] : List Dt).map Vx.d)) (aCons (eVar 0) aNil))) (sCons (sSet (.nm 2) (eNew (aCons (eC (.int 0)) aNil))) (sCons (sSet (.nm 3) (eBin dSub (eCall (fun ys => callM [false, true, false] d__law_wide (ys ++ ([] : List Dt).map Vx.d)) (aCons (eVar 1) (aCons (eVar 2) (aCons (eC (.int 100000)) aNil)))) (eC (.int 50)))) (sCons (sSet (.nm 4) (eNew (aCons (eMkX "BadValue" "at" (d_in_tuples 24) (eVar 3)) (aCons (eMkX "BadText" "line" (d_in_tuples 24) (eVar 3)) (aCons (eMkX "TooFew" "step" (d_in_tuples 24) (eVar 3)) (aCons (eMkX "WrongKind" "step" (d_in_tuples 24) (eVar 3)) (aCons (eMkX "NoWord" "step" (d_in_tuples 24) (eVar 3)) (aCons (eMkX "NoPoint" "step" (d_in_tuples 24) (eVar 3)) (aCons (eMkX "TooMuch" "step" (d_in_tuples 24) (eVar 3)) aNil))))))))) (sCons (sFor (wRng1 (aCons (eC (.int 7)) aNil)) (.nm 5) (sCons (sSet (.nm 6) (eBin dIx (eVar 4) (eVar 5))) (sCons (sIf (tOrD (tNotD (tVal (eIsX xsL tb_InkError (eVar 6)))) (tOrD (tNotD (tVal (eIsX xsL tb_Exception (eVar 6)))) (tOrD (tVal (eIsX xsL tb_ValueError (eVar 6))) (tVal (eIsX xsL tb_LookupError (eVar 6)))))) (sCons (sRet (eC (.bl false))) sNil) sNil) (sCons (sSet (.nm 7) (eLst (aCons (eIsX xsL tb_BadValue (eVar 6)) (aCons (eIsX xsL tb_BadText (eVar 6)) (aCons (eIsX xsL tb_TooFew (eVar 6)) (aCons (eIsX xsL tb_WrongKind (eVar 6)) (aCons (eIsX xsL tb_NoWord (eVar 6)) (aCons (eIsX xsL tb_NoPoint (eVar 6)) (aCons (eIsX xsL tb_TooMuch (eVar 6)) aNil))))))))) (sCons (sIf (tTst (eBin dNe (eVar 7) (eLc true (wRng1 (aCons (eC (.int 7)) aNil)) (.nm 8) tYesD (eBin dEq (eVar 8) (eVar 5)) [8]))) (sCons (sRet (eC (.bl false))) sNil) sNil) sNil))))) (sCons (sIf (tOrD (tNotD (tVal (eCall (fun ys => callM [false, false] (d__law_so 24) (ys ++ ([] : List Dt).map Vx.d)) (aCons (eFldX xsL "at" (eBin dIx (eVar 4) (eC (.int 0)))) (aCons (eVar 3) aNil))))) (tOrD (tNotD (tVal (eCall (fun ys => callM [false, false] (d__law_so 24) (ys ++ ([] : List Dt).map Vx.d)) (aCons (eFldX xsL "line" (eBin dIx (eVar 4) (eC (.int 1)))) (aCons (eVar 3) aNil))))) (tOrD (tNotD (tVal (eCall (fun ys => callM [false, false] (d__law_so 24) (ys ++ ([] : List Dt).map Vx.d)) (aCons (eFldX xsL "step" (eBin dIx (eVar 4) (eC (.int 2)))) (aCons (eVar 3) aNil))))) (tOrD (tNotD (tVal (eCall (fun ys => callM [false, false] (d__law_so 24) (ys ++ ([] : List Dt).map Vx.d)) (aCons (eFldX xsL "step" (eBin dIx (eVar 4) (eC (.int 3)))) (aCons (eVar 3) aNil))))) (tOrD (tNotD (tVal (eCall (fun ys => callM [false, false] (d__law_so 24) (ys ++ ([] : List Dt).map Vx.d)) (aCons (eFldX xsL "step" (eBin dIx (eVar 4) (eC (.int 4)))) (aCons (eVar 3) aNil))))) (tOrD (tNotD (tVal (eCall (fun ys => callM [false, false] (d__law_so 24) (ys ++ ([] : List Dt).map Vx.d)) (aCons (eFldX xsL "step" (eBin dIx (eVar 4) (eC (.int 5)))) (aCons (eVar 3) aNil))))) (tNotD (tVal (eCall (fun ys => callM [false, false] (d__law_so 24) (ys ++ ([] : List Dt).map Vx.d)) (aCons (eFldX xsL "step" (eBin dIx (eVar 4) (eC (.int 6)))) (aCons (eVar 3) aNil))))))))))) (sCons (sRet (eC (.bl false))) sNil) sNil) (sCons (sSet (.nm 9) (eMkX "WrongKind" "step" (d_in_tuples 24) (eLst (aCons (eC (.int 1)) (aCons (eLst (aCons (eC (.int 2)) (aCons (eTup (aCons (eC (.int 3)) aNil)) aNil))) aNil))))) (sCons (sIf (tNotD (tVal (eCall (fun ys => callM [false, false] (d__law_so 24) (ys ++ ([] : List Dt).map Vx.d)) (aCons (eFldX xsL "step" (eVar 9)) (aCons (eTup (aCons (eC (.int 1)) (aCons (eTup (aCons (eC (.int 2)) (aCons (eTup (aCons (eC (.int 3)) aNil)) aNil))) aNil))) aNil))))) (sCons (sRet (eC (.bl false))) sNil) sNil) (sCons (sTryX 3 (d_in_tuples 24) (eVar 3) dH__law_so) sNil))))))))) ys
theorem S_law : FnScope ["script", "row", "spot", "at", "made", "k", "one", "held", "j", "told", "why"] ["script"] (defScope (top 17)) := ⟨rfl, rfl, rfl, by decide +kernel, rfl, by decide +kernel, by decide +kernel⟩
theorem ok_law {P : Program} {w : World} {K : PySem.W.Frag} {h : Heap} {mg : PySem.Str → Option Value} {base : Heap} (KX : K.In h) (G : h.Ns mainGlobals mg) (c : FX K) (TBs : ∀ p ∈ csL K, LamX.TabB base mg p.1 p.2) : ∃ fd, FunD K "law" "law" (defArgs (top 17)) (defBody (top 17)) (defScope (top 17)) (D_law.dvs K) [] (He.ga K "law") fd ∧ (Binds K fd ["script"] []) ∧ FnOk P w K mg base (L2.CX P w) 27 (He.ga K "law") fd ["script"] (spD K (g0 K) 1 d_law) := by
  obtain ⟨fd, F⟩ := c.defs (d := D_law) (List.mem_of_getElem? (i := 13) rfl)
  have m_Exception : mg "Exception" = none := He.free_ok KX G (c.facts (f := .free "Exception") (List.mem_of_getElem? (i := 12) rfl))
  have m_LookupError : mg "LookupError" = none := He.free_ok KX G (c.facts (f := .free "LookupError") (List.mem_of_getElem? (i := 13) rfl))
  have m_ValueError : mg "ValueError" = none := He.free_ok KX G (c.facts (f := .free "ValueError") (List.mem_of_getElem? (i := 14) rfl))
  have m_isinstance : mg "isinstance" = none := He.free_ok KX G (c.facts (f := .free "isinstance") (List.mem_of_getElem? (i := 0) rfl))
  have m_range : mg "range" = none := He.free_ok KX G (c.facts (f := .free "range") (List.mem_of_getElem? (i := 7) rfl))
  have m__law_numbers : mg "_law_numbers" = some (.ref (He.ga K "_law_numbers")) := He.glo_ok KX G (c.facts (f := .glo "_law_numbers") (List.mem_of_getElem? (i := 15) rfl))
  obtain ⟨fd__law_numbers, FD__law_numbers, b__law_numbers, F__law_numbers⟩ := ok__law_numbers (P := P) (w := w) (mg := mg) (base := base) KX G c TBs
  have v__law_numbers : Vals [] [] := .nil
  have m__law_so : mg "_law_so" = some (.ref (He.ga K "_law_so")) := He.glo_ok KX G (c.facts (f := .glo "_law_so") (List.mem_of_getElem? (i := 9) rfl))
  obtain ⟨fd__law_so, FD__law_so, b__law_so, F__law_so⟩ := ok__law_so (P := P) (w := w) (mg := mg) (base := base) KX G c TBs 24
  have v__law_so : Vals [] [] := .nil
  have m__law_wide : mg "_law_wide" = some (.ref (He.ga K "_law_wide")) := He.glo_ok KX G (c.facts (f := .glo "_law_wide") (List.mem_of_getElem? (i := 16) rfl))
  obtain ⟨fd__law_wide, FD__law_wide, b__law_wide, F__law_wide⟩ := ok__law_wide (P := P) (w := w) (mg := mg) (base := base) KX G c TBs
  have v__law_wide : Vals [] [] := .nil
  have m_BadText : mg "BadText" = some (.ref (He.ga K "BadText")) := He.glo_ok KX G (c.facts (f := .glo "BadText") (List.mem_of_getElem? (i := 17) rfl))
  have T_BadText := oexB_ok c.oex_BadText
  obtain ⟨fdI_BadText, bI_BadText, FI_BadText⟩ := okI_BadText (P := P) (w := w) (mg := mg) (base := base) KX G c TBs
  have m_BadValue : mg "BadValue" = some (.ref (He.ga K "BadValue")) := He.glo_ok KX G (c.facts (f := .glo "BadValue") (List.mem_of_getElem? (i := 18) rfl))
  have T_BadValue := oexB_ok c.oex_BadValue
  obtain ⟨fdI_BadValue, bI_BadValue, FI_BadValue⟩ := okI_BadValue (P := P) (w := w) (mg := mg) (base := base) KX G c TBs
  have m_NoPoint : mg "NoPoint" = some (.ref (He.ga K "NoPoint")) := He.glo_ok KX G (c.facts (f := .glo "NoPoint") (List.mem_of_getElem? (i := 19) rfl))
  have T_NoPoint := oexB_ok c.oex_NoPoint
  obtain ⟨fdI_NoPoint, bI_NoPoint, FI_NoPoint⟩ := okI_NoPoint (P := P) (w := w) (mg := mg) (base := base) KX G c TBs
  have m_NoWord : mg "NoWord" = some (.ref (He.ga K "NoWord")) := He.glo_ok KX G (c.facts (f := .glo "NoWord") (List.mem_of_getElem? (i := 20) rfl))
  have T_NoWord := oexB_ok c.oex_NoWord
  obtain ⟨fdI_NoWord, bI_NoWord, FI_NoWord⟩ := okI_NoWord (P := P) (w := w) (mg := mg) (base := base) KX G c TBs
  have m_TooFew : mg "TooFew" = some (.ref (He.ga K "TooFew")) := He.glo_ok KX G (c.facts (f := .glo "TooFew") (List.mem_of_getElem? (i := 21) rfl))
  have T_TooFew := oexB_ok c.oex_TooFew
  obtain ⟨fdI_TooFew, bI_TooFew, FI_TooFew⟩ := okI_TooFew (P := P) (w := w) (mg := mg) (base := base) KX G c TBs
  have m_TooMuch : mg "TooMuch" = some (.ref (He.ga K "TooMuch")) := He.glo_ok KX G (c.facts (f := .glo "TooMuch") (List.mem_of_getElem? (i := 22) rfl))
  have T_TooMuch := oexB_ok c.oex_TooMuch
  obtain ⟨fdI_TooMuch, bI_TooMuch, FI_TooMuch⟩ := okI_TooMuch (P := P) (w := w) (mg := mg) (base := base) KX G c TBs
  have m_WrongKind : mg "WrongKind" = some (.ref (He.ga K "WrongKind")) := He.glo_ok KX G (c.facts (f := .glo "WrongKind") (List.mem_of_getElem? (i := 23) rfl))
  have T_WrongKind := oexB_ok c.oex_WrongKind
  obtain ⟨fdI_WrongKind, bI_WrongKind, FI_WrongKind⟩ := okI_WrongKind (P := P) (w := w) (mg := mg) (base := base) KX G c TBs
  have m_InkError : mg "InkError" = some (.ref (He.ga K "InkError")) := He.glo_ok KX G (c.facts (f := .glo "InkError") (List.mem_of_getElem? (i := 24) rfl))
  obtain ⟨fdH__law_so, FDH__law_so, bH__law_so, FH__law_so⟩ := okH__law_so (P := P) (w := w) (mg := mg) (base := base) KX G c TBs
  obtain rfl : fdH__law_so = fd__law_so := FunD.one FDH__law_so FD__law_so
  refine ⟨fd, F, F.bindsN fun _ _ _ _ _ _ us hl => match us, hl with | [_], _ => rfl, fn_ok F S_law rfl rfl fun cdv A outer s H E hr tk po => ?_⟩
  have hU := room64 hr
  have hU0 := room0 hr
  have hN := S_law.nd
  exact (pds_cons insE (pd_set (i := 1) hN rfl (locB_ok rfl) (pd_call (hy := [false]) (dd := []) (F__law_numbers.mono (by decide)) hr rfl m__law_numbers FD__law_numbers.kp b__law_numbers v__law_numbers .nil tk insE (by decide) (pda_cons (pd_var (i := 0) rfl (visB_ok rfl) (by decide) (by decide)) pda_nil rfl) rfl rfl rfl ((alen_cons alen_nil))) rfl (by first | exact .inl rfl | exact .inr rfl)) (pds_cons insE (pd_set (i := 2) hN rfl (locB_ok rfl) (pd_new (pda_cons pd_int pda_nil rfl)) rfl (by first | exact .inl rfl | exact .inr rfl)) (pds_cons insE (pd_set (i := 3) hN rfl (locB_ok rfl) (pd_op od_sub (pd_call (hy := [false, true, false]) (dd := []) (F__law_wide.mono (by decide)) hr rfl m__law_wide FD__law_wide.kp b__law_wide v__law_wide .nil tk insE (by decide) (pda_cons (pd_var (i := 1) rfl (visB_ok rfl) (by decide) (by decide)) (pda_cons (pd_var (i := 2) rfl (visB_ok rfl) (by decide) (by decide)) (pda_cons pd_int pda_nil rfl) rfl) rfl) rfl rfl rfl ((alen_cons (alen_cons (alen_cons alen_nil))))) pd_int) rfl (by first | exact .inl rfl | exact .inr rfl)) (pds_cons insE (pd_set (i := 4) hN rfl (locB_ok rfl) (pd_new (pda_cons (pd_mkX T_BadValue (FI_BadValue.mono (by decide)) (k := 25) hr bI_BadValue rfl m_BadValue (pd_var (i := 3) rfl (visB_ok rfl) (by decide) (by decide)) (by decide) rfl rfl) (pda_cons (pd_mkX T_BadText (FI_BadText.mono (by decide)) (k := 25) hr bI_BadText rfl m_BadText (pd_var (i := 3) rfl (visB_ok rfl) (by decide) (by decide)) (by decide) rfl rfl) (pda_cons (pd_mkX T_TooFew (FI_TooFew.mono (by decide)) (k := 25) hr bI_TooFew rfl m_TooFew (pd_var (i := 3) rfl (visB_ok rfl) (by decide) (by decide)) (by decide) rfl rfl) (pda_cons (pd_mkX T_WrongKind (FI_WrongKind.mono (by decide)) (k := 25) hr bI_WrongKind rfl m_WrongKind (pd_var (i := 3) rfl (visB_ok rfl) (by decide) (by decide)) (by decide) rfl rfl) (pda_cons (pd_mkX T_NoWord (FI_NoWord.mono (by decide)) (k := 25) hr bI_NoWord rfl m_NoWord (pd_var (i := 3) rfl (visB_ok rfl) (by decide) (by decide)) (by decide) rfl rfl) (pda_cons (pd_mkX T_NoPoint (FI_NoPoint.mono (by decide)) (k := 25) hr bI_NoPoint rfl m_NoPoint (pd_var (i := 3) rfl (visB_ok rfl) (by decide) (by decide)) (by decide) rfl rfl) (pda_cons (pd_mkX T_TooMuch (FI_TooMuch.mono (by decide)) (k := 25) hr bI_TooMuch rfl m_TooMuch (pd_var (i := 3) rfl (visB_ok rfl) (by decide) (by decide)) (by decide) rfl rfl) pda_nil rfl) rfl) rfl) rfl) rfl) rfl) rfl)) rfl (by first | exact .inl rfl | exact .inr rfl)) (pds_cons insE (pd_for insE po rfl (tg_nm 5) (pd_rng1 rfl m_range (pda_cons pd_int pda_nil rfl) rfl) (pg_name (i := 5) hN rfl (locB_ok rfl) (by first | exact .inl rfl | exact .inr rfl)) (pds_cons insE (pd_set (i := 6) hN rfl (locB_ok rfl) (pd_ix (pd_var (i := 4) rfl (visB_ok rfl) (by decide) (by decide)) (pd_var (i := 5) rfl (visB_ok rfl) (by decide) (by decide)) (fun _ _ => rfl)) rfl (by first | exact .inl rfl | exact .inr rfl)) (pds_cons insE (pd_if (PW.pt (pdw_or (pdt_not (pdt_val (pd_isX (xs := xsL) (tb := tb_InkError) (c := .ref (He.ga K "InkError")) (u := .ref (He.ga K "InkError")) c.xc c.is_InkError (.own _) rfl m_isinstance (pd_var (i := 6) rfl (visB_ok rfl) (by decide) (by decide)) (pe_glob rfl m_InkError rfl (by decide)) rfl rfl rfl) (fun _ => rfl))) (pdw_or (pdt_not (pdt_val (pd_isX (xs := xsL) (tb := tb_Exception) (c := .ty "Exception") (u := .type "Exception") c.xc c.is_Exception (.ty _) rfl m_isinstance (pd_var (i := 6) rfl (visB_ok rfl) (by decide) (by decide)) (pe_tyn rfl m_Exception (by decide +kernel) (by decide) (by decide)) rfl rfl rfl) (fun _ => rfl))) (pdw_or (pdt_val (pd_isX (xs := xsL) (tb := tb_ValueError) (c := .ty "ValueError") (u := .type "ValueError") c.xc c.is_ValueError (.ty _) rfl m_isinstance (pd_var (i := 6) rfl (visB_ok rfl) (by decide) (by decide)) (pe_tyn rfl m_ValueError (by decide +kernel) (by decide) (by decide)) rfl rfl rfl) (fun _ => rfl)) (pdw_or1 (pdt_val (pd_isX (xs := xsL) (tb := tb_LookupError) (c := .ty "LookupError") (u := .type "LookupError") c.xc c.is_LookupError (.ty _) rfl m_isinstance (pd_var (i := 6) rfl (visB_ok rfl) (by decide) (by decide)) (pe_tyn rfl m_LookupError (by decide +kernel) (by decide) (by decide)) rfl rfl rfl) (fun _ => rfl))))))) (pds_cons insE (pd_ret pd_bl) pds_nil) pds_nil) (pds_cons insE (pd_set (i := 7) hN rfl (locB_ok rfl) (pd_lst (pda_cons (pd_isX (xs := xsL) (tb := tb_BadValue) (c := .ref (He.ga K "BadValue")) (u := .ref (He.ga K "BadValue")) c.xc c.is_BadValue (.own _) rfl m_isinstance (pd_var (i := 6) rfl (visB_ok rfl) (by decide) (by decide)) (pe_glob rfl m_BadValue rfl (by decide)) rfl rfl rfl) (pda_cons (pd_isX (xs := xsL) (tb := tb_BadText) (c := .ref (He.ga K "BadText")) (u := .ref (He.ga K "BadText")) c.xc c.is_BadText (.own _) rfl m_isinstance (pd_var (i := 6) rfl (visB_ok rfl) (by decide) (by decide)) (pe_glob rfl m_BadText rfl (by decide)) rfl rfl rfl) (pda_cons (pd_isX (xs := xsL) (tb := tb_TooFew) (c := .ref (He.ga K "TooFew")) (u := .ref (He.ga K "TooFew")) c.xc c.is_TooFew (.own _) rfl m_isinstance (pd_var (i := 6) rfl (visB_ok rfl) (by decide) (by decide)) (pe_glob rfl m_TooFew rfl (by decide)) rfl rfl rfl) (pda_cons (pd_isX (xs := xsL) (tb := tb_WrongKind) (c := .ref (He.ga K "WrongKind")) (u := .ref (He.ga K "WrongKind")) c.xc c.is_WrongKind (.own _) rfl m_isinstance (pd_var (i := 6) rfl (visB_ok rfl) (by decide) (by decide)) (pe_glob rfl m_WrongKind rfl (by decide)) rfl rfl rfl) (pda_cons (pd_isX (xs := xsL) (tb := tb_NoWord) (c := .ref (He.ga K "NoWord")) (u := .ref (He.ga K "NoWord")) c.xc c.is_NoWord (.own _) rfl m_isinstance (pd_var (i := 6) rfl (visB_ok rfl) (by decide) (by decide)) (pe_glob rfl m_NoWord rfl (by decide)) rfl rfl rfl) (pda_cons (pd_isX (xs := xsL) (tb := tb_NoPoint) (c := .ref (He.ga K "NoPoint")) (u := .ref (He.ga K "NoPoint")) c.xc c.is_NoPoint (.own _) rfl m_isinstance (pd_var (i := 6) rfl (visB_ok rfl) (by decide) (by decide)) (pe_glob rfl m_NoPoint rfl (by decide)) rfl rfl rfl) (pda_cons (pd_isX (xs := xsL) (tb := tb_TooMuch) (c := .ref (He.ga K "TooMuch")) (u := .ref (He.ga K "TooMuch")) c.xc c.is_TooMuch (.own _) rfl m_isinstance (pd_var (i := 6) rfl (visB_ok rfl) (by decide) (by decide)) (pe_glob rfl m_TooMuch rfl (by decide)) rfl rfl rfl) pda_nil rfl) rfl) rfl) rfl) rfl) rfl) rfl)) rfl (by first | exact .inl rfl | exact .inr rfl)) (pds_cons insE (pd_if (pdt_cmp (od_ne hU) (pd_var (i := 7) rfl (visB_ok rfl) (by decide) (by decide)) (pd_lc [("j", 8)] rfl hN (pd_rng1 rfl m_range (pda_cons pd_int pda_nil rfl) rfl) rfl rfl (tg_nm 8) rfl (fun _ _ _ _ _ => (pg_name (i := 8) hN rfl (locB_ok rfl) (by first | exact .inl rfl | exact .inr rfl))) (fun _ _ _ _ _ => pts_nilD) (fun _ _ _ _ _ => (pd_cmp (od_eq hU) (pd_var (i := 8) rfl (visB_ok rfl) (by decide) (by decide)) (pd_var (i := 5) rfl (visB_ok rfl) (by decide) (by decide)) rfl)) (fun _ => rfl)) rfl) (pds_cons insE (pd_ret pd_bl) pds_nil) pds_nil) pds_nil)))) (fun _ => rfl)) (pds_cons insE (pd_if (PW.pt (pdw_or (pdt_not (pdt_val (pd_call (hy := [false, false]) (dd := []) (F__law_so.mono (by decide)) hr rfl m__law_so FD__law_so.kp b__law_so v__law_so .nil tk insE (by decide) (pda_cons (pd_fldX (xs := xsL) c.xc (pd_ix (pd_var (i := 4) rfl (visB_ok rfl) (by decide) (by decide)) pd_int (fun _ _ => rfl)) rfl) (pda_cons (pd_var (i := 3) rfl (visB_ok rfl) (by decide) (by decide)) pda_nil rfl) rfl) rfl rfl rfl ((alen_cons (alen_cons alen_nil)))) (fun _ => rfl))) (pdw_or (pdt_not (pdt_val (pd_call (hy := [false, false]) (dd := []) (F__law_so.mono (by decide)) hr rfl m__law_so FD__law_so.kp b__law_so v__law_so .nil tk insE (by decide) (pda_cons (pd_fldX (xs := xsL) c.xc (pd_ix (pd_var (i := 4) rfl (visB_ok rfl) (by decide) (by decide)) pd_int (fun _ _ => rfl)) rfl) (pda_cons (pd_var (i := 3) rfl (visB_ok rfl) (by decide) (by decide)) pda_nil rfl) rfl) rfl rfl rfl ((alen_cons (alen_cons alen_nil)))) (fun _ => rfl))) (pdw_or (pdt_not (pdt_val (pd_call (hy := [false, false]) (dd := []) (F__law_so.mono (by decide)) hr rfl m__law_so FD__law_so.kp b__law_so v__law_so .nil tk insE (by decide) (pda_cons (pd_fldX (xs := xsL) c.xc (pd_ix (pd_var (i := 4) rfl (visB_ok rfl) (by decide) (by decide)) pd_int (fun _ _ => rfl)) rfl) (pda_cons (pd_var (i := 3) rfl (visB_ok rfl) (by decide) (by decide)) pda_nil rfl) rfl) rfl rfl rfl ((alen_cons (alen_cons alen_nil)))) (fun _ => rfl))) (pdw_or (pdt_not (pdt_val (pd_call (hy := [false, false]) (dd := []) (F__law_so.mono (by decide)) hr rfl m__law_so FD__law_so.kp b__law_so v__law_so .nil tk insE (by decide) (pda_cons (pd_fldX (xs := xsL) c.xc (pd_ix (pd_var (i := 4) rfl (visB_ok rfl) (by decide) (by decide)) pd_int (fun _ _ => rfl)) rfl) (pda_cons (pd_var (i := 3) rfl (visB_ok rfl) (by decide) (by decide)) pda_nil rfl) rfl) rfl rfl rfl ((alen_cons (alen_cons alen_nil)))) (fun _ => rfl))) (pdw_or (pdt_not (pdt_val (pd_call (hy := [false, false]) (dd := []) (F__law_so.mono (by decide)) hr rfl m__law_so FD__law_so.kp b__law_so v__law_so .nil tk insE (by decide) (pda_cons (pd_fldX (xs := xsL) c.xc (pd_ix (pd_var (i := 4) rfl (visB_ok rfl) (by decide) (by decide)) pd_int (fun _ _ => rfl)) rfl) (pda_cons (pd_var (i := 3) rfl (visB_ok rfl) (by decide) (by decide)) pda_nil rfl) rfl) rfl rfl rfl ((alen_cons (alen_cons alen_nil)))) (fun _ => rfl))) (pdw_or (pdt_not (pdt_val (pd_call (hy := [false, false]) (dd := []) (F__law_so.mono (by decide)) hr rfl m__law_so FD__law_so.kp b__law_so v__law_so .nil tk insE (by decide) (pda_cons (pd_fldX (xs := xsL) c.xc (pd_ix (pd_var (i := 4) rfl (visB_ok rfl) (by decide) (by decide)) pd_int (fun _ _ => rfl)) rfl) (pda_cons (pd_var (i := 3) rfl (visB_ok rfl) (by decide) (by decide)) pda_nil rfl) rfl) rfl rfl rfl ((alen_cons (alen_cons alen_nil)))) (fun _ => rfl))) (pdw_or1 (pdt_not (pdt_val (pd_call (hy := [false, false]) (dd := []) (F__law_so.mono (by decide)) hr rfl m__law_so FD__law_so.kp b__law_so v__law_so .nil tk insE (by decide) (pda_cons (pd_fldX (xs := xsL) c.xc (pd_ix (pd_var (i := 4) rfl (visB_ok rfl) (by decide) (by decide)) pd_int (fun _ _ => rfl)) rfl) (pda_cons (pd_var (i := 3) rfl (visB_ok rfl) (by decide) (by decide)) pda_nil rfl) rfl) rfl rfl rfl ((alen_cons (alen_cons alen_nil)))) (fun _ => rfl))))))))))) (pds_cons insE (pd_ret pd_bl) pds_nil) pds_nil) (pds_cons insE (pd_set (i := 9) hN rfl (locB_ok rfl) (pd_mkX T_WrongKind (FI_WrongKind.mono (by decide)) (k := 25) hr bI_WrongKind rfl m_WrongKind (pd_lst (pda_cons pd_int (pda_cons (pd_lst (pda_cons pd_int (pda_cons (pd_tup (pda_cons pd_int pda_nil rfl)) pda_nil rfl) rfl)) pda_nil rfl) rfl)) (by decide) rfl rfl) rfl (by first | exact .inl rfl | exact .inr rfl)) (pds_cons insE (pd_if (pdt_not (pdt_val (pd_call (hy := [false, false]) (dd := []) (F__law_so.mono (by decide)) hr rfl m__law_so FD__law_so.kp b__law_so v__law_so .nil tk insE (by decide) (pda_cons (pd_fldX (xs := xsL) c.xc (pd_var (i := 9) rfl (visB_ok rfl) (by decide) (by decide)) rfl) (pda_cons (pd_tup (pda_cons pd_int (pda_cons (pd_tup (pda_cons pd_int (pda_cons (pd_tup (pda_cons pd_int pda_nil rfl)) pda_nil rfl) rfl)) pda_nil rfl) rfl)) pda_nil rfl) rfl) rfl rfl rfl ((alen_cons (alen_cons alen_nil)))) (fun _ => rfl))) (pds_cons insE (pd_ret pd_bl) pds_nil) pds_nil) (pds_cons insE (pd_tryX (i := 10) (j := 3) (c := 5) rfl rfl hN rfl rfl (by decide) rfl (visB_ok rfl) (visB_ok rfl) rfl rfl c.xc (of_decide_eq_true c.exB) (isB_ok c.is_NoPoint (List.mem_of_getElem? (i := 5) rfl)) ⟨rfl, by decide, .inl m_InkError⟩ rfl m_NoPoint (by decide) rfl m_isinstance (FI_NoPoint.mono (by decide)) (k := 25) hr bI_NoPoint rfl m_NoPoint (fun W pn xe => pd_var (i := 3) rfl (visB_ok rfl) (by decide) (by decide)) (by decide) (fun _ _ => rfl) rfl FH__law_so rfl ((L2H.roomH_of hr).mono (by decide)) rfl m__law_so FD__law_so.kp b__law_so (by decide) (fun _ => rfl) (by decide) (by decide) (by decide) (by decide)) pds_nil)))))))))
end Dn
end
section
set_option Elab.async false
set_option linter.all false
set_option maxRecDepth 100000
set_option maxHeartbeats 4000000
namespace Dn
open PySem PySem.Spec PyProof.Rows L2
def M__law_wide : List Vx → Mo Vx := fun ys => fnM 6 (sCons (sSet (.nm 3) (eCall (fun ys => callM [false, true, false] takeM (ys ++ ([] : List Dt).map Vx.d)) (aCons (eVar 0) (aCons (eVar 1) (aCons (eC (.int 997)) aNil))))) (sCons (sSet (.nm 4) (eCall (fun ys => callM [false, true, false] takeM (ys ++ ([] : List Dt).map Vx.d)) (aCons (eVar 0) (aCons (eVar 1) (aCons (eC (.int 997)) aNil))))) (sCons (sSet (.nm 5) (eCall (fun ys => callM [false, true, false] takeM (ys ++ ([] : List Dt).map Vx.d)) (aCons (eVar 0) (aCons (eVar 1) (aCons (eC (.int 997)) aNil))))) (sCons (sRet (eBin dMod (eCall bInt (aCons (eBin dAdd (eBin dAdd (eBin dMul (eVar 3) (eC (.int 994009))) (eBin dMul (eVar 4) (eC (.int 997)))) (eVar 5)) aNil)) (eVar 2))) sNil)))) ys
def c0 : SF := sSet (.nm 1) (eCall (fun ys => callM [false] numbersM (ys ++ ([] : List Dt).map Vx.d)) (aCons (eVar 0) aNil))
def c1 : SF := sSet (.nm 2) (eNew (aCons (eC (.int 0)) aNil))
def c2 : SF := sSet (.nm 3) (eBin dSub (eCall (fun ys => callM [false, true, false] M__law_wide (ys ++ ([] : List Dt).map Vx.d)) (aCons (eVar 1) (aCons (eVar 2) (aCons (eC (.int 100000)) aNil)))) (eC (.int 50)))
def c3 : SF := sSet (.nm 4) (eNew (aCons (eMkX "BadValue" "at" (M_in_tuples 24) (eVar 3)) (aCons (eMkX "BadText" "line" (M_in_tuples 24) (eVar 3)) (aCons (eMkX "TooFew" "step" (M_in_tuples 24) (eVar 3)) (aCons (eMkX "WrongKind" "step" (M_in_tuples 24) (eVar 3)) (aCons (eMkX "NoWord" "step" (M_in_tuples 24) (eVar 3)) (aCons (eMkX "NoPoint" "step" (M_in_tuples 24) (eVar 3)) (aCons (eMkX "TooMuch" "step" (M_in_tuples 24) (eVar 3)) aNil))))))))
def c4_0 : SF := sSet (.nm 6) (eBin dIx (eVar 4) (eVar 5))
def c4_1 : SF := sIf (tOrD (tNotD (tVal (eIsX xsL tb_InkError (eVar 6)))) (tOrD (tNotD (tVal (eIsX xsL tb_Exception (eVar 6)))) (tOrD (tVal (eIsX xsL tb_ValueError (eVar 6))) (tVal (eIsX xsL tb_LookupError (eVar 6)))))) (sCons (sRet (eC (.bl false))) sNil) sNil
def c4_2 : SF := sSet (.nm 7) (eLst (aCons (eIsX xsL tb_BadValue (eVar 6)) (aCons (eIsX xsL tb_BadText (eVar 6)) (aCons (eIsX xsL tb_TooFew (eVar 6)) (aCons (eIsX xsL tb_WrongKind (eVar 6)) (aCons (eIsX xsL tb_NoWord (eVar 6)) (aCons (eIsX xsL tb_NoPoint (eVar 6)) (aCons (eIsX xsL tb_TooMuch (eVar 6)) aNil))))))))
def c4_3 : SF := sIf (tTst (eBin dNe (eVar 7) (eLc true (wRng1 (aCons (eC (.int 7)) aNil)) (.nm 8) tYesD (eBin dEq (eVar 8) (eVar 5)) [8]))) (sCons (sRet (eC (.bl false))) sNil) sNil
def c4_b : SF := sCons c4_0 (sCons c4_1 (sCons c4_2 (sCons c4_3 sNil)))
def c4_w : DEnv → Mo Wk := wRng1 (aCons (eC (.int 7)) aNil)
def c4 : SF := sFor c4_w (.nm 5) c4_b
def c5 : SF := sIf (tOrD (tNotD (tVal (eCall (fun ys => callM [false, false] (M__law_so 24) (ys ++ ([] : List Dt).map Vx.d)) (aCons (eFldX xsL "at" (eBin dIx (eVar 4) (eC (.int 0)))) (aCons (eVar 3) aNil))))) (tOrD (tNotD (tVal (eCall (fun ys => callM [false, false] (M__law_so 24) (ys ++ ([] : List Dt).map Vx.d)) (aCons (eFldX xsL "line" (eBin dIx (eVar 4) (eC (.int 1)))) (aCons (eVar 3) aNil))))) (tOrD (tNotD (tVal (eCall (fun ys => callM [false, false] (M__law_so 24) (ys ++ ([] : List Dt).map Vx.d)) (aCons (eFldX xsL "step" (eBin dIx (eVar 4) (eC (.int 2)))) (aCons (eVar 3) aNil))))) (tOrD (tNotD (tVal (eCall (fun ys => callM [false, false] (M__law_so 24) (ys ++ ([] : List Dt).map Vx.d)) (aCons (eFldX xsL "step" (eBin dIx (eVar 4) (eC (.int 3)))) (aCons (eVar 3) aNil))))) (tOrD (tNotD (tVal (eCall (fun ys => callM [false, false] (M__law_so 24) (ys ++ ([] : List Dt).map Vx.d)) (aCons (eFldX xsL "step" (eBin dIx (eVar 4) (eC (.int 4)))) (aCons (eVar 3) aNil))))) (tOrD (tNotD (tVal (eCall (fun ys => callM [false, false] (M__law_so 24) (ys ++ ([] : List Dt).map Vx.d)) (aCons (eFldX xsL "step" (eBin dIx (eVar 4) (eC (.int 5)))) (aCons (eVar 3) aNil))))) (tNotD (tVal (eCall (fun ys => callM [false, false] (M__law_so 24) (ys ++ ([] : List Dt).map Vx.d)) (aCons (eFldX xsL "step" (eBin dIx (eVar 4) (eC (.int 6)))) (aCons (eVar 3) aNil))))))))))) (sCons (sRet (eC (.bl false))) sNil) sNil
def c6 : SF := sSet (.nm 9) (eMkX "WrongKind" "step" (M_in_tuples 24) (eLst (aCons (eC (.int 1)) (aCons (eLst (aCons (eC (.int 2)) (aCons (eTup (aCons (eC (.int 3)) aNil)) aNil))) aNil))))
def c7 : SF := sIf (tNotD (tVal (eCall (fun ys => callM [false, false] (M__law_so 24) (ys ++ ([] : List Dt).map Vx.d)) (aCons (eFldX xsL "step" (eVar 9)) (aCons (eTup (aCons (eC (.int 1)) (aCons (eTup (aCons (eC (.int 2)) (aCons (eTup (aCons (eC (.int 3)) aNil)) aNil))) aNil))) aNil))))) (sCons (sRet (eC (.bl false))) sNil) sNil
def c8 : SF := sTryX 3 (M_in_tuples 24) (eVar 3) dH__law_so
theorem law_eq : d_law = fun ys => fnM 11 (sCons c0 (sCons c1 (sCons c2 (sCons c3 (sCons c4 (sCons c5 (sCons c6 (sCons c7 (sCons c8 sNil))))))))) ys := rfl
end Dn
end
section
set_option Elab.async false
set_option linter.all false
set_option maxRecDepth 100000
set_option maxHeartbeats 4000000
namespace Dn
open PySem PySem.Spec PyProof.Rows L2
theorem wide_run {rs : List Int} (hr : rs ≠ []) {n : Int} (hn : 0 ≤ n) : ∃ v : Int, callM [false, true, false] M__law_wide [.d (rowD rs), .r 0, .d (.int 100000)] (Sp n) = .ok (.d (.int v)) (Sp (n + 1 + 1 + 1)) := by
  obtain ⟨p, e1, _⟩ := takeS hr hn 997 (by decide)
  obtain ⟨q, e2, _⟩ := takeS hr (show 0 ≤ n + 1 by omega) 997 (by decide)
  obtain ⟨r, e3, _⟩ := takeS hr (show 0 ≤ n + 1 + 1 by omega) 997 (by decide)
  have L : ∀ (p q r : Int) (h : DH), ∃ v : Int, sRet (eBin dMod (eCall bInt (aCons (eBin dAdd (eBin dAdd (eBin dMul (eVar 3) (eC (.int 994009))) (eBin dMul (eVar 4) (eC (.int 997)))) (eVar 5)) aNil)) (eVar 2)) [some (.d (rowD rs)), some (.r 0), some (.d (.int 100000)), some (.d (.int p)), some (.d (.int q)), some (.d (.int r))] h = .ok (.rt (.d (.int v)), [some (.d (rowD rs)), some (.r 0), some (.d (.int 100000)), some (.d (.int p)), some (.d (.int q)), some (.d (.int r))]) h := fun p q r h => by
    have m : ∀ (i c : Int), c.natAbs < 18446744073709551616 → dMul (.d (.int i)) (.d (.int c)) h = .ok (.d (.int (i * c))) h := fun i c hc => if_pos (mul_c i c hc)
    exact ⟨(p * 994009 + q * 997 + r) % 100000, sRet_ok (eBin_ok (eCall_ok (as := [.d (.int (p * 994009 + q * 997 + r))]) (aCons_ok (eBin_ok (eBin_ok (eBin_ok rfl rfl (m p 994009 (by decide))) (eBin_ok rfl rfl (m q 997 (by decide))) rfl) rfl rfl) rfl) rfl) rfl (if_pos (e := Rz.stk) (show (0 : Int) < 100000 by decide)))⟩
  obtain ⟨v, e4⟩ := L p q r (Sp (n + 1 + 1 + 1))
  refine ⟨v, callS3 (fnM_rt (a1 := [some (.d (rowD rs)), some (.r 0), some (.d (.int 100000)), some (.d (.int p)), some (.d (.int q)), some (.d (.int r))]) ?_)⟩
  refine Eq.trans (sCons_nx (sSet_ok (eCall_ok (as := [.d (rowD rs), .r 0, .d (.int 997)]) rfl e1) rfl)) ?_
  refine Eq.trans (sCons_nx (sSet_ok (eCall_ok (as := [.d (rowD rs), .r 0, .d (.int 997)]) rfl e2) rfl)) ?_
  refine Eq.trans (sCons_nx (sSet_ok (eCall_ok (as := [.d (rowD rs), .r 0, .d (.int 997)]) rfl e3) rfl)) ?_
  exact sCons_rt e4
/-- the seven -/
def mk7 (a : Int) : Ob := .lst [.x "BadValue" "at" (.int a), .x "BadText" "line" (.int a), .x "TooFew" "step" (.int a), .x "WrongKind" "step" (.int a), .x "NoWord" "step" (.int a), .x "NoPoint" "step" (.int a), .x "TooMuch" "step" (.int a)]
theorem in_int (a : Int) : M_in_tuples 24 [.d (.int a)] [] = .ok (.d (.int a)) [] := by kernel_rfl
theorem c3_run (x0 x1 : Option Vx) (a n : Int) : c3 [x0, x1, some (.r 0), some (.d (.int a)), none, none, none, none, none, none, none] (Sp n) = .ok (.nx, [x0, x1, some (.r 0), some (.d (.int a)), some (.r 1), none, none, none, none, none, none]) [.lst [.d (.int n)], mk7 a] := by
  unfold c3 mk7
  kernel_rfl
theorem c4_run (x0 x1 : Option Vx) (a n : Int) : ∃ q5 q6 q7 q8, c4 [x0, x1, some (.r 0), some (.d (.int a)), some (.r 1), none, none, none, none, none, none] [.lst [.d (.int n)], mk7 a] = .ok (.nx, [x0, x1, some (.r 0), some (.d (.int a)), some (.r 1), q5, q6, q7, q8, none, none]) [.lst [.d (.int n)], mk7 a] := by
  refine ⟨some (.d (.int 6)), some (.x "TooMuch" "step" (.int a)), some (.d (.lst [.bl false, .bl false, .bl false, .bl false, .bl false, .bl false, .bl true])), none, ?_⟩
  kernel_rfl

theorem so_i (a : Int) (h : DH) : callM [false, false] (M__law_so 24) [.d (.int a), .d (.int a)] h = .ok (.d (.bl true)) h := call2 (so_int 23 a) h
theorem c5_run (x0 x1 q5 q6 q7 q8 : Option Vx) (a n : Int) : c5 [x0, x1, some (.r 0), some (.d (.int a)), some (.r 1), q5, q6, q7, q8, none, none] [.lst [.d (.int n)], mk7 a] = .ok (.nx, [x0, x1, some (.r 0), some (.d (.int a)), some (.r 1), q5, q6, q7, q8, none, none]) [.lst [.d (.int n)], mk7 a] := by
  have S : ∀ (f : PySem.Str) (k : Int), eFldX xsL f (eBin dIx (eVar 4) (eC (.int k))) [x0, x1, some (.r 0), some (.d (.int a)), some (.r 1), q5, q6, q7, q8, none, none] [.lst [.d (.int n)], mk7 a] = .ok (.d (.int a)) [.lst [.d (.int n)], mk7 a] →
      tNotD (tVal (eCall (fun ys => callM [false, false] (M__law_so 24) (ys ++ ([] : List Dt).map Vx.d)) (aCons (eFldX xsL f (eBin dIx (eVar 4) (eC (.int k)))) (aCons (eVar 3) aNil)))) [x0, x1, some (.r 0), some (.d (.int a)), some (.r 1), q5, q6, q7, q8, none, none] [.lst [.d (.int n)], mk7 a] = .ok false [.lst [.d (.int n)], mk7 a] := fun f k e =>
    tNotD_ok (b := true) (tVal_ok (eCall_ok (as := [.d (.int a), .d (.int a)]) (aCons_ok e rfl) (so_i a _)) rfl)
  refine (sIf_f (h1 := [.lst [.d (.int n)], mk7 a]) ?_).trans rfl
  refine Eq.trans (tOrD_f (S _ _ (by kernel_rfl))) ?_
  refine Eq.trans (tOrD_f (S _ _ (by kernel_rfl))) ?_
  refine Eq.trans (tOrD_f (S _ _ (by kernel_rfl))) ?_
  refine Eq.trans (tOrD_f (S _ _ (by kernel_rfl))) ?_
  refine Eq.trans (tOrD_f (S _ _ (by kernel_rfl))) ?_
  refine Eq.trans (tOrD_f (S _ _ (by kernel_rfl))) ?_
  exact S _ _ (by kernel_rfl)
theorem c6_run (x0 x1 q5 q6 q7 q8 : Option Vx) (a n : Int) : ∃ q9, c6 [x0, x1, some (.r 0), some (.d (.int a)), some (.r 1), q5, q6, q7, q8, none, none] [.lst [.d (.int n)], mk7 a] = .ok (.nx, [x0, x1, some (.r 0), some (.d (.int a)), some (.r 1), q5, q6, q7, q8, q9, none]) [.lst [.d (.int n)], mk7 a] ∧
    c7 [x0, x1, some (.r 0), some (.d (.int a)), some (.r 1), q5, q6, q7, q8, q9, none] [.lst [.d (.int n)], mk7 a] = .ok (.nx, [x0, x1, some (.r 0), some (.d (.int a)), some (.r 1), q5, q6, q7, q8, q9, none]) [.lst [.d (.int n)], mk7 a] :=
  ⟨some (.x "WrongKind" "step" (.tup [.int 1, .tup [.int 2, .tup [.int 3]]])), by kernel_rfl, by kernel_rfl⟩
theorem dH_int (a : Int) : dH__law_so [.d (.int a), .d (.int a)] [] = .ok (.d (.bl true)) [] := by
  have e : ∀ fb : SF, fb = fb := fun _ => rfl
  unfold dH__law_so noErr
  rw [fnM_rt (y := .d (.bl true)) (h1 := []) (a1 := [some (.d (.int a)), some (.d (.int a)), none]) ?_]
  refine Eq.trans (sCons_nx (a1 := [some (.d (.int a)), some (.d (.int a)), none]) (h1 := []) rfl) ?_
  refine Eq.trans (sCons_nx (a1 := [some (.d (.int a)), some (.d (.int a)), none]) (h1 := []) rfl) ?_
  refine Eq.trans (sCons_nx (a1 := [some (.d (.int a)), some (.d (.int a)), none]) (h1 := []) rfl) ?_
  refine sCons_rt (Eq.trans (sIf_t (h1 := []) rfl) (sCons_rt (sRet_ok (Eq.trans (eAnd_t (x := .d (.bl true)) (h1 := []) (h2 := []) rfl rfl) (eBin_ok rfl rfl ?_)))))
  rw [dEq_i]; simp
theorem c8_run (x0 x1 q5 q6 q7 q8 q9 : Option Vx) (a n : Int) : c8 [x0, x1, some (.r 0), some (.d (.int a)), some (.r 1), q5, q6, q7, q8, q9, none] [.lst [.d (.int n)], mk7 a] = .ok (.rt (.d (.bl true)), [x0, x1, some (.r 0), some (.d (.int a)), some (.r 1), q5, q6, q7, q8, q9, none]) [.lst [.d (.int n)], mk7 a] := by
  have e1 : noErr (eVar 3 [x0, x1, some (.r 0), some (.d (.int a)), some (.r 1), q5, q6, q7, q8, q9, none]) [.lst [.d (.int n)], mk7 a] = .ok (.d (.int a)) [.lst [.d (.int n)], mk7 a] := rfl
  have e2 : noErr (callM [false] (M_in_tuples 24) [.d (.int a)]) [.lst [.d (.int n)], mk7 a] = .ok (.d (.int a)) [.lst [.d (.int n)], mk7 a] := by unfold noErr; rw [call1 (in_int a)]
  have e3 : noErr (callM [false, false] dH__law_so [.d (.int a), .d (.int a)]) [.lst [.d (.int n)], mk7 a] = .ok (.d (.bl true)) [.lst [.d (.int n)], mk7 a] := by unfold noErr; rw [call2 (dH_int a)]
  unfold c8 sTryX
  exact Eq.trans (bnd_ok e1) (Eq.trans (bnd_ok e2) (Eq.trans (bnd_ok e3) rfl))
theorem law_plain (ns : List Int) (hl : ns.length ≤ 63) (hb : ∀ z ∈ ns, Builtin.Int.intBits z ≤ 1048576) : ∃ h', d_law [.s ns] [] = .ok (.d (.bl true)) h' := by
  obtain ⟨rs, en, hr, _⟩ := numbers_call ns hl
  obtain ⟨v, e2⟩ := wide_run hr (n := 0) (by decide)
  obtain ⟨q5, q6, q7, q8, e4⟩ := c4_run (some (.s ns)) (some (.d (rowD rs))) (v - 50) (0 + 1 + 1 + 1)
  obtain ⟨q9, e6, e7⟩ := c6_run (some (.s ns)) (some (.d (rowD rs))) q5 q6 q7 q8 (v - 50) (0 + 1 + 1 + 1)
  refine ⟨[.lst [.d (.int (0 + 1 + 1 + 1))], mk7 (v - 50)], ?_⟩
  rw [law_eq]
  refine fnM_rt (a1 := [some (.s ns), some (.d (rowD rs)), some (.r 0), some (.d (.int (v - 50))), some (.r 1), q5, q6, q7, q8, q9, none]) ?_
  refine Eq.trans (sCons_nx (a1 := [some (.s ns), some (.d (rowD rs)), none, none, none, none, none, none, none, none, none]) (h1 := []) (sSet_ok (eCall_ok (as := [.s ns]) rfl (en [])) rfl)) ?_
  refine Eq.trans (sCons_nx (a1 := [some (.s ns), some (.d (rowD rs)), some (.r 0), none, none, none, none, none, none, none, none]) (h1 := Sp 0) rfl) ?_
  refine Eq.trans (sCons_nx (a1 := [some (.s ns), some (.d (rowD rs)), some (.r 0), some (.d (.int (v - 50))), none, none, none, none, none, none, none]) (h1 := Sp (0 + 1 + 1 + 1)) (sSet_ok (eBin_ok (eCall_ok (as := [.d (rowD rs), .r 0, .d (.int 100000)]) rfl e2) rfl rfl) rfl)) ?_
  refine Eq.trans (sCons_nx (c3_run _ _ _ _)) (Eq.trans (sCons_nx e4) (Eq.trans (sCons_nx (c5_run _ _ _ _ _ _ _ _)) (Eq.trans (sCons_nx e6) (Eq.trans (sCons_nx e7) ?_))))
  exact sCons_rt (c8_run _ _ _ _ _ _ _ _ _)
end Dn
end
section
set_option Elab.async false
set_option linter.all false
set_option maxRecDepth 100000
set_option maxHeartbeats 0
namespace Dn
open PySem PySem.Spec PyProof.Rows L2
abbrev R : PySem.W.OpenRow := PySem.W.OpenLaw.row PySem.Challenge.rw_inkwright_k00_errors
def loose0 : List PySem.Str := ["in_tuples", "InkError", "BadValue", "BadText", "TooFew", "WrongKind", "NoWord", "NoPoint", "TooMuch", "_law_so", "_law_numbers", "_law_draw"]
def loose1 : List PySem.Str := ["_law_take", "_law_wide"]
def loose : List PySem.Str := List.flatten [loose0, loose1]
def tfL : List He.Defn := []
abbrev hk : PySem.W.Hook := He.hookX 4 fas fns [] tfL exK
def ob (s : PySem.W.SharedT) : He.AlX := He.obsX 4 fas fns [] tfL exK (HandSHeadRun.getT s)
theorem ob_eq (s : PySem.W.SharedT) : ob s = hk.obs s.abs := He.obsX_eq (HandSHeadRun.getT_eq s)
theorem hr_a (w : World) (os : OsState) : ((headE R.prog 12000 w os).map fun x => (HandSHeadRun.looksF R.prog (bootH w) x.abs, HandSHeadRun.seenQ (PySem.W.view R.prog [17]) loose (importedModules R.prog.main.body) (fun s => PySem.W.xlAt (PySem.W.view R.prog [17]) [] s && PySem.W.recOk R.toRowW.records s) x.abs)) = some (true, PySem.W.openGood (PySem.W.view R.prog [17]) loose) := by kernel_rfl
theorem hr_b (w : World) (os : OsState) : ((headE R.prog 12000 w os).map fun x => fas.all fun f => f.ok (KxE 4 x)) = some true := by kernel_rfl
theorem hr_c (w : World) (os : OsState) : ((headE R.prog 12000 w os).map fun x => fns.all fun d => d.ok (KxE 4 x)) = some true := by kernel_rfl
theorem hr_d (w : World) (os : OsState) : ((headE R.prog 12000 w os).map fun x => fns.map fun d => He.fnW (KxE 4 x) d.at_) = some (fns.map He.DefD.val) := by kernel_rfl
theorem hr_e (w : World) (os : OsState) : ((headE R.prog 12000 w os).map fun x => exK (KxE 4 x) && He.tabsB (HandSHeadRun.getT x) tfL (KxE 4 x)) = some true := by kernel_rfl
theorem head_run (w : World) : HandSHeadRun.RunEq R (PySem.W.view R.prog [17]) hk ob 12000 loose w := runE_of (hr_a w) (hr_b w) (hr_c w) (hr_d w) (hr_e w)
theorem fx_of {w : World} {h : Heap} {K : PySem.W.Frag} (c : He.SaysX fas fns [] tfL exK w h K) : FX K := fx_mk (fun hd => c.t.d.defs hd) (fun hf => c.t.d.facts hf) c.more
theorem csL_eq (K : PySem.W.Frag) : csL K = tfL.map (He.cT K) := rfl
theorem law_at {w : World} {mg : PySem.Str → Option Value} {fa : Addr} {h : Heap} (Y : hk.says w h) (G : h.Ns mainGlobals mg) (hmg : mg ("law" : PySem.Str) = some (.ref fa)) :
    ∃ K : PySem.W.Frag, K.In h ∧ LamX.LawAtS PySem.Challenge.rw_inkwright_k00_errors w K (L2.CX PySem.Challenge.rw_inkwright_k00_errors.prog w) 27 63 "script" mg fa h := by
  obtain ⟨K, KX, c⟩ := Y
  have C := fx_of c
  have m_law : mg "law" = some (.ref (He.ga K "law")) := He.glo_ok KX G (C.facts (f := .glo "law") (List.mem_of_getElem? (i := lawFa) rfl))
  have e := hmg.symm.trans m_law
  cases e
  obtain ⟨fdL, FL⟩ := C.defs (d := D_law) (List.mem_of_getElem? (i := lawIx) rfl)
  refine ⟨K, KX, fdL, csL K, spD K (g0 K) 1 d_law, fun p hp => ?_, fun p hp => ?_, fun p hp => ?_, fun s u => FL.bindsA (ps := ["script"]) (fun _ _ _ _ _ _ us hl => match us, hl with | [_], _ => rfl) s [u] rfl, fun H a ns hl hbits hH hS => ?_, fun base hB hG TBs => ?_⟩
  · rw [csL_eq] at hp
    obtain ⟨q, hq, rfl⟩ := List.mem_map.mp hp
    exact c.empty q hq
  · rw [csL_eq] at hp
    obtain ⟨q, hq, rfl⟩ := List.mem_map.mp hp
    exact c.out q hq
  · rw [csL_eq] at hp
    obtain ⟨q, hq, rfl⟩ := List.mem_map.mp hp
    exact PySem.W.codeHd_of_K KX (c.hd q hq)
  · exact spD_true (tab_of_cs (tl := tabL K) rfl hH) hS (law_plain ns hl hbits)
  · obtain ⟨fd2, F2, _, ok⟩ := ok_law (P := PySem.Challenge.rw_inkwright_k00_errors.prog) (w := w) (base := base) KX G C TBs
    have e2 : fd2 = fdL := fd_same F2 FL
    rw [e2] at ok
    exact ok
end Dn
open PySem PySem.W PySem.Calls PyProof.Rows
theorem PySem.Challenge.cw_inkwright_k00_errors_holds : PySem.Challenge.rw_inkwright_k00_errors.Holds := by
  w_on; o_law
  refine HandSHeadRun.head_any (r := OpenLaw.row PySem.Challenge.rw_inkwright_k00_errors) (q := view (OpenLaw.row PySem.Challenge.rw_inkwright_k00_errors).prog [17]) (H := Dn.hk) (ob := Dn.ob) (M := 12000) (loose := Dn.loose) (d := HandSHeadRun.topDef (OpenLaw.row PySem.Challenge.rw_inkwright_k00_errors).prog 17) (kwd := []) Dn.ob_eq
    (by kernel_rfl) (fun s => by kernel_rfl) Dn.head_run (by kernel_rfl) (by kernel_rfl) (by kernel_rfl) (by rfl) (by first | assumption | decide +kernel) (by decide +kernel) ⟨rfl, rfl, rfl, rfl, rfl, by decide +kernel⟩ ?hw ?hc
  case hw => w_witness2
  case hc =>
    refine LamX.walk_ofTsE (l := PySem.Challenge.rw_inkwright_k00_errors) (n := 63) (k := 27) (x := "script") (CX := fun w => L2.CX PySem.Challenge.rw_inkwright_k00_errors.prog w) rfl (by decide) (by kernel_rfl) ⟨rfl, by decide, by decide⟩ ?F (fun w H s e s2 z => Dn.cx_none z)
    intro w mg fa h Y G hmg0
    have hmg : mg ("law" : PySem.Str) = some (.ref fa) := by
      have e : (HandSHeadRun.topDef (OpenLaw.row PySem.Challenge.rw_inkwright_k00_errors).prog 17).name = ("law" : PySem.Str) := by kernel_rfl
      rw [← e]
      exact hmg0
    exact Dn.law_at Y G hmg
end
