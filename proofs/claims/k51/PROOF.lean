import PyProof.Rows.All
import Wide.All
import OpenK.AllK
import Wide.FinOn
import HandS.ForMost
import HandS.ForExc
import HandS.Wide
import HandS.WideBits
import HandS.Nested
import HandS.NestedHot
import HandS.HeadHook2
import HandS.TupAny
import HandS.Deep
import PyProof.StrBlock2
import HandS.IsInst
import HandS.Gcd
import HandS.StrMore
import HandS.FStr
import HandS.Walk
import HandS.NoneIn
import HandS.Flow
import HandS.WordsExc
import HandS.Defaults
import HandS.HeadHook4
import HandS.ExcInit
import HandS.TryMany
import HandS.Lambda
import HandS.HeadWalk
import KE.KStateDown
import HandS.Ends
import HandS.Head0
import HandS.Head1
import HandS.Head2
import HandS.HeadEnd
import HandS.Head3
import HandS.NestedK
import PySem.Challenge.RW_inkwright_k51_all_small_words
section
set_option Elab.async false
set_option linter.all false
set_option maxRecDepth 100000
set_option maxHeartbeats 2000000
/-! Dn1: plain data, results, worlds, what stands for what. -/
namespace Dn
open PySem PySem.Spec PyProof.Rows L2

/-- plain data: never changed in place -/
inductive Dt where
  | non | bl (b : Bool) | int (i : Int) | str (s : List Nat) | tup (ds : List Dt) | lst (ds : List Dt)
  deriving Inhabited
/-- what a name may hold: plain data; the k-th object of the plain heap; a caught exception; the script -/
inductive Vx where
  | d (x : Dt) | r (k : Nat) | x (c : Nat) (p : Dt) | s (ns : List Int)
  deriving Inhabited
inductive Ob where
  | lst (vs : List Vx) | dead
abbrev DH := List Ob
inductive Rz (α : Type) where
  | ok (a : α) (h : DH) | err (c : Nat) (p : Dt) (h : DH) | stk
abbrev Mo (α : Type) := DH → Rz α
section
variable {α β : Type}
@[reducible] def ret (a : α) : Mo α := fun h => .ok a h
def bnd (m : Mo α) (k : α → Mo β) : Mo β := fun h => match m h with
  | .ok a h' => k a h'
  | .err c p h' => .err c p h'
  | .stk => .stk
def stk : Mo α := fun _ => .stk
def raise (c : Nat) (p : Dt) : Mo α := fun h => .err c p h
end

/-! ### what stands for what -/
def okS (s : List Nat) : Prop := s.length ≤ sizeLine ∧ ∀ c ∈ s, c < 0x110000
abbrev toStr (s : List Nat) : Str := ⟨s.toArray⟩
mutual
inductive RepD (K : PySem.W.Frag) (F : Hp) : V → Dt → Prop
  | non : RepD K F .non .non
  | bl (b : Bool) : RepD K F (.bl b) (.bl b)
  | int (i : Int) : RepD K F (.int i) (.int i)
  | str (s : List Nat) (h : okS s) : RepD K F (.str (toStr s)) (.str s)
  | tup {a : Addr} {vs : List V} {ds : List Dt} : SqT K F a vs → RepDs K F vs ds → RepD K F (.ref a) (.tup ds)
  | lst {a : Addr} {vs : List V} {ds : List Dt} : F a = some (.lst vs) → RepDs K F vs ds → RepD K F (.ref a) (.lst ds)
inductive RepDs (K : PySem.W.Frag) (F : Hp) : List V → List Dt → Prop
  | nil : RepDs K F [] []
  | cons {v : V} {d : Dt} {vs : List V} {ds : List Dt} : RepD K F v d → RepDs K F vs ds → RepDs K F (v :: vs) (d :: ds)
end
def HLe (F F' : Hp) : Prop := ∀ a o, F a = some o → F' a = some o
theorem HLe.refl (F : Hp) : HLe F F := fun _ _ h => h
theorem HLe.trans {F G H : Hp} (a : HLe F G) (b : HLe G H) : HLe F H := fun x o h => b x o (a x o h)
theorem SqL.le {K : PySem.W.Frag} {F F' : Hp} {a : Addr} {vs : List V} (h : SqL K F a vs) (le : HLe F F') : SqL K F' a vs := by
  rcases h with (h | ⟨o, h⟩) | h
  · exact .inl (.inl (le _ _ h))
  · exact .inl (.inr ⟨o, le _ _ h⟩)
  · exact .inr h
theorem SqT.le {K : PySem.W.Frag} {F F' : Hp} {a : Addr} {vs : List V} (h : SqT K F a vs) (le : HLe F F') : SqT K F' a vs := by
  rcases h with (h | ⟨o, h⟩) | h
  · exact .inl (.inl (le _ _ h))
  · exact .inl (.inr ⟨o, le _ _ h⟩)
  · exact .inr h
section
variable {K : PySem.W.Frag} {F F' : Hp}
mutual
theorem RepD.le (le : HLe F F') : ∀ {d : Dt} {v : V}, RepD K F v d → RepD K F' v d
  | .non, _, h => by cases h; exact .non
  | .bl _, _, h => by cases h; exact .bl _
  | .int _, _, h => by cases h; exact .int _
  | .str _, _, h => by cases h with | str _ h => exact .str _ h
  | .tup _, _, h => by cases h with | tup h1 h2 => exact .tup (SqT.le h1 le) (RepDs.le le h2)
  | .lst _, _, h => by cases h with | lst h1 h2 => exact .lst (le _ _ h1) (RepDs.le le h2)
theorem RepDs.le (le : HLe F F') : ∀ {ds : List Dt} {vs : List V}, RepDs K F vs ds → RepDs K F' vs ds
  | [], _, h => by cases h; exact .nil
  | _ :: _, _, h => by cases h with | cons h1 h2 => exact .cons (RepD.le le h1) (RepDs.le le h2)
end
theorem RepDs.length {vs : List V} {ds : List Dt} (h : RepDs K F vs ds) : vs.length = ds.length := by
  induction ds generalizing vs with
  | nil => cases h; rfl
  | cons d ds ih => cases h with | cons h1 h2 => simp [ih h2]
theorem RepDs.get {vs : List V} {ds : List Dt} (h : RepDs K F vs ds) {i : Nat} {d : Dt} (e : ds[i]? = some d) : ∃ v, vs[i]? = some v ∧ RepD K F v d := by
  induction ds generalizing vs i with
  | nil => simp at e
  | cons x ds ih =>
    cases h with
    | cons h1 h2 =>
      cases i with
      | zero => simp at e; subst e; exact ⟨_, rfl, h1⟩
      | succ i => obtain ⟨v, e1, e2⟩ := ih h2 (by simpa using e); exact ⟨v, by simpa using e1, e2⟩
theorem RepDs.getv {vs : List V} {ds : List Dt} (h : RepDs K F vs ds) {i : Nat} {v : V} (e : vs[i]? = some v) : ∃ d, ds[i]? = some d ∧ RepD K F v d := by
  induction ds generalizing vs i with
  | nil => cases h; simp at e
  | cons x ds ih =>
    cases h with
    | cons h1 h2 =>
      cases i with
      | zero => simp at e; subst e; exact ⟨_, rfl, h1⟩
      | succ i => obtain ⟨v, e1, e2⟩ := ih h2 (by simpa using e); exact ⟨v, by simpa using e1, e2⟩
theorem RepDs.append {vs ws : List V} {ds es : List Dt} (h : RepDs K F vs ds) (g : RepDs K F ws es) : RepDs K F (vs ++ ws) (ds ++ es) := by
  induction ds generalizing vs with
  | nil => cases h; exact g
  | cons x ds ih => cases h with | cons h1 h2 => exact .cons h1 (ih h2)
theorem RepDs.take {vs : List V} {ds : List Dt} (h : RepDs K F vs ds) (n : Nat) : RepDs K F (vs.take n) (ds.take n) := by
  induction ds generalizing vs n with
  | nil => cases h; simp; exact .nil
  | cons x ds ih =>
    cases h with
    | cons h1 h2 =>
      cases n with
      | zero => exact .nil
      | succ n => exact .cons h1 (ih h2 n)
theorem RepDs.drop {vs : List V} {ds : List Dt} (h : RepDs K F vs ds) (n : Nat) : RepDs K F (vs.drop n) (ds.drop n) := by
  induction ds generalizing vs n with
  | nil => cases h; simp; exact .nil
  | cons x ds ih =>
    cases h with
    | cons h1 h2 =>
      cases n with
      | zero => exact .cons h1 h2
      | succ n => exact ih h2 n
theorem RepDs.reverse {vs : List V} {ds : List Dt} (h : RepDs K F vs ds) : RepDs K F vs.reverse ds.reverse := by
  induction ds generalizing vs with
  | nil => cases h; exact .nil
  | cons x ds ih =>
    cases h with
    | cons h1 h2 =>
      rw [List.reverse_cons, List.reverse_cons]
      exact (ih h2).append (.cons h1 .nil)
end

/-! ### worlds -/
structure Wd where
  F : Hp
  θ : List Addr
def RepV (K : PySem.W.Frag) (W : Wd) (v : V) : Vx → Prop
  | .d x => RepD K W.F v x
  | .r k => ∃ a, W.θ[k]? = some a ∧ v = .ref a
  | .x _ _ => False
  | .s ns => ∃ a, v = .ref a ∧ SqL K W.F a (ns.map V.int)
inductive RepVs (K : PySem.W.Frag) (W : Wd) : List V → List Vx → Prop
  | nil : RepVs K W [] []
  | cons {v : V} {y : Vx} {vs : List V} {ys : List Vx} : RepV K W v y → RepVs K W vs ys → RepVs K W (v :: vs) (y :: ys)
structure WLe (W W' : Wd) : Prop where
  F : HLe W.F W'.F
  θ : ∃ new, W'.θ = W.θ ++ new
theorem WLe.refl (W : Wd) : WLe W W := ⟨HLe.refl _, [], by simp⟩
theorem WLe.trans {A B C : Wd} (a : WLe A B) (b : WLe B C) : WLe A C := by
  obtain ⟨x, e1⟩ := a.θ
  obtain ⟨y, e2⟩ := b.θ
  exact ⟨a.F.trans b.F, x ++ y, by rw [e2, e1, List.append_assoc]⟩
theorem WLe.at_ {W W' : Wd} (le : WLe W W') {k : Nat} {a : Addr} (e : W.θ[k]? = some a) : W'.θ[k]? = some a := by
  obtain ⟨new, h⟩ := le.θ
  rw [h, List.getElem?_append_left (List.getElem?_eq_some_iff.mp e).1]
  exact e
section
variable {K : PySem.W.Frag} {W W' : Wd}
theorem RepV.le (le : WLe W W') {v : V} {y : Vx} (h : RepV K W v y) : RepV K W' v y := by
  cases y with
  | d x => exact RepD.le le.F h
  | r k => obtain ⟨a, e, rfl⟩ := h; exact ⟨a, le.at_ e, rfl⟩
  | x _ _ => exact h
  | s ns => obtain ⟨a, rfl, e⟩ := h; exact ⟨a, rfl, SqL.le e le.F⟩
theorem RepVs.le (le : WLe W W') {vs : List V} {ys : List Vx} (h : RepVs K W vs ys) : RepVs K W' vs ys := by
  induction h with
  | nil => exact .nil
  | cons h1 _ ih => exact .cons (h1.le le) ih
theorem RepVs.length {vs : List V} {ys : List Vx} (h : RepVs K W vs ys) : vs.length = ys.length := by
  induction h with
  | nil => rfl
  | cons h1 _ ih => simp [ih]
theorem RepVs.get {vs : List V} {ys : List Vx} (h : RepVs K W vs ys) : ∀ {i : Nat} {y : Vx}, ys[i]? = some y → ∃ v, vs[i]? = some v ∧ RepV K W v y := by
  induction h with
  | nil => intro i y e; simp at e
  | cons h1 _ ih =>
    intro i y e
    cases i with
    | zero => simp at e; subst e; exact ⟨_, rfl, h1⟩
    | succ i => obtain ⟨v, e1, e2⟩ := ih (by simpa using e); exact ⟨v, by simpa using e1, e2⟩
theorem RepVs.append {vs ws : List V} {ys zs : List Vx} (h : RepVs K W vs ys) (g : RepVs K W ws zs) : RepVs K W (vs ++ ws) (ys ++ zs) := by
  induction h with
  | nil => exact g
  | cons h1 _ ih => exact .cons h1 ih
theorem RepVs.set {vs : List V} {ys : List Vx} (h : RepVs K W vs ys) {v : V} {y : Vx} (g : RepV K W v y) : ∀ (i : Nat), RepVs K W (vs.set i v) (ys.set i y) := by
  induction h with
  | nil => intro i; simp; exact .nil
  | cons h1 h2 ih =>
    intro i
    cases i with
    | zero => exact .cons g h2
    | succ i => exact .cons h1 (ih i)
theorem RepVs.dropLast {vs : List V} {ys : List Vx} (h : RepVs K W vs ys) : RepVs K W vs.dropLast ys.dropLast := by
  induction h with
  | nil => exact .nil
  | @cons v y vs ys h1 h2 ih =>
    cases h2 with
    | nil => exact .nil
    | cons a b => exact .cons h1 ih
/-- values that are all plain data -/
def plains : List Vx → Option (List Dt)
  | [] => some []
  | .d x :: r => (match plains r with | some ds => some (x :: ds) | none => none)
  | _ :: _ => none
theorem plains_map (ds : List Dt) : plains (ds.map Vx.d) = some ds := by
  induction ds with
  | nil => rfl
  | cons x r ih => simp [plains, ih]
theorem RepVs.plain {vs : List V} {ys : List Vx} (h : RepVs K W vs ys) : ∀ {ds : List Dt}, plains ys = some ds → RepDs K W.F vs ds := by
  induction h with
  | nil => intro ds e; cases e; exact .nil
  | @cons v y vs ys h1 h2 ih =>
    intro ds e
    cases y with
    | d x =>
      unfold plains at e
      split at e
      · rename_i es he; cases e; exact .cons h1 (ih he)
      · cases e
    | r k => cases e
    | x _ _ => cases e
    | s _ => cases e
theorem RepVs.of_plain {vs : List V} {ds : List Dt} (h : RepDs K W.F vs ds) : RepVs K W vs (ds.map Vx.d) := by
  induction ds generalizing vs with
  | nil => cases h; exact .nil
  | cons x r ih => cases h with | cons h1 h2 => exact .cons h1 (ih h2)
end

/-- what the code objects' tables tell of the program -/
abbrev Tbs := List NdefX.NTab
def notTbl (o : HO) : Prop := ∀ ps, o ≠ .tbl ps

def ObRep (K : PySem.W.Frag) (W : Wd) (H : Hp) (a : Addr) : Ob → Prop
  | .lst ys => ∃ xs, H a = some (.lst xs) ∧ RepVs K W xs ys
  | .dead => ∃ xs, H a = some (.lst xs)
/-- the heap h stands in H -/
structure HRel (K : PySem.W.Frag) (T : Tbs) (W : Wd) (H : Hp) (h : DH) : Prop where
  fro : HLe W.F H
  ntb : ∀ a o, W.F a = some o → notTbl o
  len : W.θ.length = h.length
  obj : ∀ (k : Nat) (a : Addr) (o : Ob), W.θ[k]? = some a → h[k]? = some o → ObRep K W H a o
  liv : ∀ (k : Nat) (a : Addr) (o : Ob), W.θ[k]? = some a → h[k]? = some o → o ≠ .dead → W.F a = none
  nd : W.θ.Nodup
  tab : NdefX.TabsN T H
/-- from W, H to W', H' -/
structure Ext (W : Wd) (H : Hp) (W' : Wd) (H' : Hp) : Prop where
  F : HLe W.F W'.F
  θ : ∃ new, W'.θ = W.θ ++ new ∧ ∀ a ∈ new, H a = none
  frame : ∀ a o, H a = some o → a ∉ W.θ → notTbl o → H' a = some o
  dom : ∀ a, H' a = none → H a = none
  newF : ∀ a o, W'.F a = some o → W.F a = some o ∨ H a = none ∨ a ∈ W.θ
section
variable {K : PySem.W.Frag} {T : Tbs} {W W1 W2 : Wd} {H H1 H2 : Hp} {h : DH}
theorem Ext.le (e : Ext W H W1 H1) : WLe W W1 := ⟨e.F, let ⟨n, h, _⟩ := e.θ; ⟨n, h⟩⟩
theorem Ext.refl (W : Wd) (H : Hp) : Ext W H W H := ⟨HLe.refl _, ⟨[], by simp, by simp⟩, fun _ _ h _ _ => h, fun _ h => h, fun _ _ h => .inl h⟩
theorem Ext.trans (a : Ext W H W1 H1) (b : Ext W1 H1 W2 H2) : Ext W H W2 H2 := by
  obtain ⟨n1, e1, f1⟩ := a.θ
  obtain ⟨n2, e2, f2⟩ := b.θ
  refine ⟨a.F.trans b.F, ⟨n1 ++ n2, by rw [e2, e1, List.append_assoc], fun x hx => ?_⟩, fun x o hx hn nt => ?_, fun x hx => a.dom x (b.dom x hx), fun x o hx => ?_⟩
  · rcases List.mem_append.mp hx with hx | hx
    · exact f1 x hx
    · exact a.dom x (f2 x hx)
  · refine b.frame x o (a.frame x o hx hn nt) (fun hm => ?_) nt
    rw [e1] at hm
    rcases List.mem_append.mp hm with hm | hm
    · exact hn hm
    · rw [f1 x hm] at hx; cases hx
  · rcases b.newF x o hx with h | h | h
    · exact a.newF x o h
    · exact .inr (.inl (a.dom x h))
    · rw [e1] at h
      rcases List.mem_append.mp h with h | h
      · exact .inr (.inr h)
      · exact .inr (.inl (f1 x h))
theorem SqL.of_rel (r : HRel K T W H h) {a : Addr} {vs : List V} (s : SqL K W.F a vs) : SqL K H a vs := SqL.le s r.fro
theorem SqT.of_rel (r : HRel K T W H h) {a : Addr} {vs : List V} (s : SqT K W.F a vs) : SqT K H a vs := SqT.le s r.fro
/-- a new thing that is known for good -/
theorem HRel.new (r : HRel K T W H h) {p : Addr} {o : HO} (np : H p = none) (nt : notTbl o) :
    HRel K T ⟨upd W.F p o, W.θ⟩ (upd H p o) h ∧ Ext W H ⟨upd W.F p o, W.θ⟩ (upd H p o) := by
  have fp : W.F p = none := by
    cases q : W.F p with
    | none => rfl
    | some u => rw [r.fro _ _ q] at np; cases np
  have le : HLe W.F (upd W.F p o) := fun a u e => by rw [upd_ne (ne_of_none e fp)]; exact e
  have leH : HLe H (upd H p o) := fun a u e => by rw [upd_ne (ne_of_none e np)]; exact e
  have hwl : WLe W ⟨upd W.F p o, W.θ⟩ := ⟨le, [], by simp⟩
  refine ⟨⟨fun a u e => ?_, fun a u e => ?_, r.len, fun k a u e1 e2 => ?_, fun k a u e1 e2 nd => ?_, r.nd, r.tab.ext leH⟩, le, ⟨[], by simp, by simp⟩, fun a u e _ _ => leH a u e, fun a e => ?_, fun a u e => ?_⟩
  · by_cases q : a = p
    · subst q; simp only [upd_same] at e ⊢; exact e
    · simp only [upd_ne q] at e ⊢; exact r.fro a u e
  · by_cases q : a = p
    · subst q; simp only [upd_same] at e; cases e; exact nt
    · simp only [upd_ne q] at e; exact r.ntb a u e
  · have hh := r.obj k a u e1 e2
    cases u with
    | lst ys => obtain ⟨xs, h1, h2⟩ := hh; exact ⟨xs, leH _ _ h1, h2.le hwl⟩
    | dead => obtain ⟨xs, h1⟩ := hh; exact ⟨xs, leH _ _ h1⟩
  · have hh := r.obj k a u e1 e2
    have hn : a ≠ p := by
      cases u with
      | lst ys => obtain ⟨xs, h1, _⟩ := hh; exact ne_of_none h1 np
      | dead => obtain ⟨xs, h1⟩ := hh; exact ne_of_none h1 np
    simp only [upd_ne hn]
    exact r.liv k a u e1 e2 nd
  · by_cases q : a = p
    · subst q; rw [upd_same] at e; cases e
    · rw [upd_ne q] at e; exact e
  · by_cases q : a = p
    · subst q; exact .inr (.inl np)
    · simp only [upd_ne q] at e; exact .inl e
end
end Dn
end
section
set_option Elab.async false
set_option linter.all false
set_option maxRecDepth 100000
set_option maxHeartbeats 2000000
/-! Dn2: results and what is wanted of them; a function on plain values as a reading; expressions' glue. -/
namespace Dn
open PySem PySem.Spec PyProof.Rows L2

abbrev DEnv := List (Option Vx)
/-- the exceptions of the program: the class's name, its field -/
abbrev Exs := List (Str × Str)
def RepX (K : PySem.W.Frag) (xs : Exs) (W : Wd) (H : Hp) (cls : Value) (dd : Option Addr) (c : Nat) (p : Dt) : Prop :=
  ∃ n f, xs[c]? = some (n, f) ∧ cls = .ref (He.ga K n) ∧ ∃ d v, dd = some d ∧ H d = some (.xd [(f, v)]) ∧ RepD K W.F v p
/-- the parameters of a program -/
structure Gp where
  xs : Exs
  T : Tbs
def Post {α β : Type} (K : PySem.W.Frag) (g : Gp) (R : Wd → β → α → Prop) (W : Wd) (H : Hp) (r : Rz α) (Q : β → Hp → Prop) (E : XK) : Prop :=
  match r with
  | .ok y h' => ∀ W' v H', Ext W H W' H' → HRel K g.T W' H' h' → R W' v y → Q v H'
  | .err c p h' => ∀ W' cls dd H', Ext W H W' H' → HRel K g.T W' H' h' → RepX K g.xs W' H' cls dd c p → E cls dd H'
  | .stk => False
structure ERel (K : PySem.W.Frag) (W : Wd) (σ : L2.St) (ρ : DEnv) : Prop where
  len : σ.length = ρ.length
  at_ : ∀ (i : Nat) (y : Vx), ρ[i]? = some (some y) → ∃ v, σ[i]? = some (some v) ∧ RepV K W v y
def Lf {α β : Type} (K : PySem.W.Frag) (g : Gp) (R : Wd → β → α → Prop) (Wx : WX) (f : DEnv → Mo α) (σ : L2.St) (H : Hp) (Q : β → Hp → Prop) : Prop :=
  ∃ W ρ h, HRel K g.T W H h ∧ ERel K W σ ρ ∧ Post K g R W H (f ρ h) Q (fun c d H' => Wx c d σ H')
section
variable {K : PySem.W.Frag} {g : Gp} {W W1 : Wd} {H H1 : Hp} {h : DH} {α β γ δ : Type} {R : Wd → β → α → Prop} {S : Wd → δ → γ → Prop} {σ : L2.St} {ρ : DEnv} {Wx : WX}
theorem ERel.le (e : ERel K W σ ρ) (le : WLe W W1) : ERel K W1 σ ρ := ⟨e.len, fun i y h => let ⟨v, h1, h2⟩ := e.at_ i y h; ⟨v, h1, h2.le le⟩⟩
theorem ERel.set (e : ERel K W σ ρ) {i : Nat} {v : V} {y : Vx} (r : RepV K W v y) : ERel K W (σ.set i (some v)) (ρ.set i (some y)) := by
  refine ⟨by simpa using e.len, fun j z hz => ?_⟩
  by_cases hj : i = j
  · subst hj
    have hlt : i < ρ.length := by
      have := (List.getElem?_eq_some_iff.mp hz).1
      simpa using this
    rw [List.getElem?_set_self hlt] at hz
    cases hz
    exact ⟨v, by rw [List.getElem?_set_self (by rw [e.len]; exact hlt)], r⟩
  · rw [List.getElem?_set_ne hj] at hz ⊢
    exact e.at_ j z hz
theorem Post.imp {r : Rz α} {Q Q' : β → Hp → Prop} {E E' : XK} (p : Post K g R W H r Q E) (hQ : ∀ v H', Q v H' → Q' v H') (hE : ∀ c d H', E c d H' → E' c d H') : Post K g R W H r Q' E' := by
  cases r with
  | ok y h' => exact fun W' v H' e q rr => hQ _ _ (p W' v H' e q rr)
  | err c p' h' => exact fun W' cls dd H' e q rr => hE _ _ _ (p W' cls dd H' e q rr)
  | stk => exact p
/-- from an earlier place -/
theorem Post.later {r : Rz α} {Q : β → Hp → Prop} {E : XK} (p : Post K g R W H r Q E) (e : Ext W H W1 H1) : Post K g R W1 H1 r Q E := by
  cases r with
  | ok y h' => exact fun W' v H' e' q rr => p W' v H' (e.trans e') q rr
  | err c p' h' => exact fun W' cls dd H' e' q rr => p W' cls dd H' (e.trans e') q rr
  | stk => exact p
/-- first m, then k -/
theorem Post.bnd {m : Mo α} {k : α → Mo γ} {Q : δ → Hp → Prop} {E : XK} (p : Post K g S W H (bnd m k h) Q E) :
    Post K g R W H (m h) (fun v H1 => ∃ W1 y h1, Ext W H W1 H1 ∧ HRel K g.T W1 H1 h1 ∧ R W1 v y ∧ Post K g S W1 H1 (k y h1) Q E) E := by
  unfold Dn.bnd at p
  cases e : m h with
  | ok y h1 =>
    rw [e] at p
    exact fun W' v H' ex q rr => ⟨W', y, h1, ex, q, rr, p.later ex⟩
  | err c p' h' =>
    rw [e] at p
    exact fun W' cls dd H' ex q rr => p W' cls dd H' ex q rr
  | stk => rw [e] at p; exact p
theorem Post.ret {y : α} {v : β} {Q : β → Hp → Prop} {E : XK} (p : Post K g R W H (.ok y h) Q E) (r : HRel K g.T W H h) (rr : R W v y) : Q v H := p W v H (Ext.refl _ _) r rr
/-- a new thing known for good, as the answer -/
theorem Post.new {y : α} {p : Addr} {o : HO} {Q : β → Hp → Prop} {E : XK} {v : β} (P : Post K g R W H (.ok y h) Q E) (r : HRel K g.T W H h) (np : H p = none) (nt : notTbl o) (rr : R ⟨upd W.F p o, W.θ⟩ v y) : Q v (upd H p o) :=
  let ⟨a, b⟩ := r.new np nt
  P _ v _ b a rr
theorem Lf.bnd {m : DEnv → Mo α} {k : DEnv → α → Mo γ} {Q : δ → Hp → Prop} (p : Lf K g S Wx (fun ρ => bnd (m ρ) (k ρ)) σ H Q) :
    Lf K g R Wx m σ H (fun v H1 => ∃ W1 ρ y h1, HRel K g.T W1 H1 h1 ∧ ERel K W1 σ ρ ∧ R W1 v y ∧ Post K g S W1 H1 (k ρ y h1) Q (fun c d H' => Wx c d σ H')) := by
  obtain ⟨W, ρ, h, hr, er, p⟩ := p
  refine ⟨W, ρ, h, hr, er, (Post.bnd (R := R) p).imp (fun v H1 ⟨W1, y, h1, ex, hr1, rr, p1⟩ => ⟨W1, ρ, y, h1, hr1, er.le ex.le, rr, p1⟩) fun _ _ _ q => q⟩
theorem Lf.imp {m : DEnv → Mo α} {Q Q' : β → Hp → Prop} (p : Lf K g R Wx m σ H Q) (hQ : ∀ v H', Q v H' → Q' v H') : Lf K g R Wx m σ H Q' := by
  obtain ⟨W, ρ, h, hr, er, p⟩ := p
  exact ⟨W, ρ, h, hr, er, p.imp hQ fun _ _ _ q => q⟩
end
end Dn
namespace L2
open PySem PySem.Spec PyProof.Rows
theorem PE.imp {X : Cx} {e : Expr} {t t' : TE} (h : PE X e t) (q : ∀ σ H Q, t' σ H Q → t σ H Q) : PE X e t' := ⟨fun pins s σ H Q I w => h.run pins s σ H Q I (q σ H Q w)⟩
theorem PT.imp {X : Cx} {e : Expr} {t t' : TT} (h : PT X e t) (q : ∀ σ H Q, t' σ H Q → t σ H Q) : PT X e t' := ⟨fun pins s σ H Q I w => h.run pins s σ H Q I (q σ H Q w)⟩
theorem PW.imp {X : Cx} {e : Expr} {t t' : TT} (h : PW X e t) (q : ∀ σ H Q, t' σ H Q → t σ H Q) : PW X e t' := ⟨fun wh pins s σ H Q I w => h.run wh pins s σ H Q I (q σ H Q w)⟩
theorem PA.imp {X : Cx} {e : List Expr} {t t' : TA} (h : PA X e t) (q : ∀ σ H Q, t' σ H Q → t σ H Q) : PA X e t' := ⟨fun pos pins s σ H Q I w => h.run pos pins s σ H Q I (q σ H Q w)⟩
theorem PS.imp {X : Cx} {e : Stmt} {t t' : TS} (h : PS X e t) (q : ∀ D σ H, t' D σ H → t D σ H) : PS X e t' := ⟨fun pins s σ H Q I w => h.run pins s σ H Q I (q Q σ H w)⟩
theorem PSs.imp {X : Cx} {e : List Stmt} {t t' : TS} (h : PSs X e t) (q : ∀ D σ H, t' D σ H → t D σ H) : PSs X e t' := ⟨fun pins s σ H Q I w => h.run pins s σ H Q I (q Q σ H w)⟩

end L2
namespace Dn
open PySem PySem.Spec PyProof.Rows L2
/-! ### the readings -/
abbrev LE (K : PySem.W.Frag) (g : Gp) (Wx : WX) (f : DEnv → Mo Vx) : TE := Lf K g (fun W v y => RepV K W v y) Wx f
abbrev LT (K : PySem.W.Frag) (g : Gp) (Wx : WX) (f : DEnv → Mo Bool) : TT := Lf K g (fun _ (b c : Bool) => b = c) Wx f
abbrev LA (K : PySem.W.Frag) (g : Gp) (Wx : WX) (f : DEnv → Mo (List Vx)) : TA := Lf K g (fun W vs ys => RepVs K W vs ys) Wx f
/-- a rule on two values -/
def OpD (X : Cx) (g : Gp) (f : Value → Value → Sem Value) (dop : Vx → Vx → Mo Vx) : Prop :=
  ∃ r : R2, OpR X f r ∧ ∀ (W : Wd) (H : Hp) (h : DH) (x y : V) (a b : Vx) (Q : VK) (E : XK), HRel X.K g.T W H h → RepV X.K W x a → RepV X.K W y b → Post X.K g (fun W v y => RepV X.K W v y) W H (dop a b h) Q E → r x y H Q
def UnD (X : Cx) (g : Gp) (f : Value → Sem Value) (dop : Vx → Mo Vx) : Prop :=
  ∃ r : V → Hp → VK → Prop, UnR X f r ∧ ∀ (W : Wd) (H : Hp) (h : DH) (x : V) (a : Vx) (Q : VK) (E : XK), HRel X.K g.T W H h → RepV X.K W x a → Post X.K g (fun W v y => RepV X.K W v y) W H (dop a h) Q E → r x H Q
def CallD (X : Cx) (g : Gp) (f : Value) (dop : List Vx → Mo Vx) : Prop :=
  ∃ r : List V → Hp → VK → Prop, CallR X f r ∧ ∀ (W : Wd) (H : Hp) (h : DH) (xs : List V) (as : List Vx) (Q : VK) (E : XK), HRel X.K g.T W H h → RepVs X.K W xs as → Post X.K g (fun W v y => RepV X.K W v y) W H (dop as h) Q E → r xs H Q
section
variable {X : Cx} {g : Gp} {Wx : WX} {a b c : Expr} {fa fb fc : DEnv → Mo Vx} {ft : DEnv → Mo Bool} {pos : Pos}
def eBin (dop : Vx → Vx → Mo Vx) (fa fb : DEnv → Mo Vx) : DEnv → Mo Vx := fun ρ => bnd (fa ρ) fun x => bnd (fb ρ) fun y => dop x y
def eUn (dop : Vx → Mo Vx) (fa : DEnv → Mo Vx) : DEnv → Mo Vx := fun ρ => bnd (fa ρ) dop
theorem two_ {r : R2} {dop : Vx → Vx → Mo Vx} (hd : ∀ (W : Wd) (H : Hp) (h : DH) (x y : V) (a b : Vx) (Q : VK) (E : XK), HRel X.K g.T W H h → RepV X.K W x a → RepV X.K W y b → Post X.K g (fun W v y => RepV X.K W v y) W H (dop a b h) Q E → r x y H Q)
    {σ : L2.St} {H : Hp} {Q : VK} (p : LE X.K g Wx (eBin dop fa fb) σ H Q) : tOp r (LE X.K g Wx fa) (LE X.K g Wx fb) σ H Q := by
  refine Lf.imp (Lf.bnd (R := fun W v y => RepV X.K W v y) p) fun v H1 ⟨W1, ρ, y, h1, hr1, er, rr, p1⟩ => ?_
  refine ⟨W1, ρ, h1, hr1, er, (Post.bnd (R := fun W v y => RepV X.K W v y) p1).imp (fun v2 H2 ⟨W2, y2, h2, ex, hr2, rr2, p2⟩ => ?_) fun _ _ _ q => q⟩
  exact hd W2 H2 h2 v v2 y y2 Q _ hr2 (RepV.le ex.le rr) rr2 p2
theorem pd_op {op : Operator} {dop : Vx → Vx → Mo Vx} (ho : OpD X g (binaryOp op) dop) (ha : PE X a (LE X.K g Wx fa)) (hb : PE X b (LE X.K g Wx fb)) : PE X (.BinOp a op b pos) (LE X.K g Wx (eBin dop fa fb)) := by
  obtain ⟨r, h1, h2⟩ := ho
  exact (pe_op h1 ha hb).imp fun σ H Q p => two_ h2 p
theorem pd_cmp {op : CmpOp} {dop : Vx → Vx → Mo Vx} (ho : OpD X g (compareOp op) dop) (ha : PE X a (LE X.K g Wx fa)) (hb : PE X b (LE X.K g Wx fb)) (hm : behindInMarks op b = false) : PE X (.Compare a [op] [b] pos) (LE X.K g Wx (eBin dop fa fb)) := by
  obtain ⟨r, h1, h2⟩ := ho
  exact (pe_cmpR h1 ha hb hm).imp fun σ H Q p => two_ h2 p
theorem pd_un {op : UnaryOp} {dop : Vx → Mo Vx} (ho : UnD X g (unaryOp op) dop) (ha : PE X a (LE X.K g Wx fa)) : PE X (.UnaryOp op a pos) (LE X.K g Wx (eUn dop fa)) := by
  obtain ⟨r, h1, h2⟩ := ho
  refine (pe_un h1 ha).imp fun σ H Q p => ?_
  refine Lf.imp (Lf.bnd (R := fun W v y => RepV X.K W v y) p) fun v H1 ⟨W1, ρ, y, h1, hr1, er, rr, p1⟩ => ?_
  exact h2 W1 H1 h1 v y Q _ hr1 rr p1

/-! names and constants -/
def eVar (i : Nat) : DEnv → Mo Vx := fun ρ h => match ρ[i]? with
  | some (some y) => .ok y h
  | _ => .stk
def eC (d : Dt) : DEnv → Mo Vx := fun _ => ret (.d d)
theorem pd_var {i : Nat} {x : Str} (hN : X.N[i]? = some x) (hv : Vis X.env.scope x) (hd : (x == ("__debug__" : Str)) = false) (hcd : (x == ("__classdict__" : Str)) = false) : PE X (.Name x pos) (LE X.K g Wx (eVar i)) := by
  refine (pe_var hN hv hd hcd).imp fun σ H Q p => ?_
  obtain ⟨W, ρ, h, hr, er, p⟩ := p
  unfold eVar at p
  split at p
  · rename_i y e
    obtain ⟨v, e1, e2⟩ := er.at_ i y e
    exact ⟨v, e1, p.ret hr e2⟩
  · exact p.elim
theorem lf_c {d : Dt} {v : V} (r : ∀ F, RepD X.K F v d) {σ : L2.St} {H : Hp} {Q : VK} (p : LE X.K g Wx (eC d) σ H Q) : Q v H := by
  obtain ⟨W, ρ, h, hr, er, p⟩ := p
  exact p.ret hr (r W.F)
theorem pd_int {i : Int} {j : Nat} : PE X (.Constant (.int i) j pos) (LE X.K g Wx (eC (.int i))) := pe_int.imp fun σ H Q p => lf_c (fun _ => .int i) p
theorem pd_bl {i : Bool} {j : Nat} : PE X (.Constant (.bool i) j pos) (LE X.K g Wx (eC (.bl i))) := pe_bl.imp fun σ H Q p => lf_c (fun _ => .bl i) p
theorem pd_non {j : Nat} : PE X (.Constant .none j pos) (LE X.K g Wx (eC .non)) := pe_non.imp fun σ H Q p => lf_c (fun _ => .non) p
theorem pd_str {s : List Nat} {x : Str} {j : Nat} (e : x = toStr s) (ok : okS s) : PE X (.Constant (.str x) j pos) (LE X.K g Wx (eC (.str s))) := by
  subst e
  exact pe_str.imp fun σ H Q p => lf_c (fun _ => .str s ok) p
/-- a module's constant -/
theorem pd_glob {x : Str} {v : V} {u : Value} {d : Dt} (hg : Gl X x) (hm : X.mg x = some u) (r : RelV v u) (rd : RepD X.K (fun _ => none) v d) (hd : (x == ("__debug__" : Str)) = false) : PE X (.Name x pos) (LE X.K g Wx (eC d)) :=
  (pe_glob hg hm r hd).imp fun σ H Q p => lf_c (fun F => RepD.le (fun _ o z => absurd (show (none : Option HO) = some o from z) (by simp)) rd) p

/-! truth, tests -/
def truD : Vx → DH → Option Bool
  | .d .non, _ => some false
  | .d (.bl b), _ => some b
  | .d (.int i), _ => some (!decide (i = 0))
  | .d (.str s), _ => some (!s.isEmpty)
  | .d (.tup ds), _ => some (!ds.isEmpty)
  | .d (.lst ds), _ => some (!ds.isEmpty)
  | .r k, h => (match h[k]? with | some (.lst ys) => some (!ys.isEmpty) | _ => none)
  | .x _ _, _ => none
  | .s _, _ => none
def truM (y : Vx) : Mo Bool := fun h => match truD y h with
  | some b => .ok b h
  | none => .stk
def tVal (fa : DEnv → Mo Vx) : DEnv → Mo Bool := fun ρ => bnd (fa ρ) truM
theorem tru_rep {W : Wd} {H : Hp} {h : DH} {v : V} {y : Vx} {b : Bool} (hr : HRel X.K g.T W H h) (r : RepV X.K W v y) (e : truD y h = some b) : TruV X.K v H b := by
  cases y with
  | d x =>
    cases x with
    | non => cases r; cases e; rfl
    | bl c => cases r; cases e; rfl
    | int i =>
      cases r; cases e
      show (!decide (i = 0)) = (i != 0)
      rw [bne, Bool.beq_eq_decide_eq]
    | str s =>
      cases r with
      | str _ ok =>
        cases e
        refine ⟨by have := ok.1; show (toStr s).cps.size ≤ _; simpa using this, ?_⟩
        show (!s.isEmpty) = (((s.toArray.size : Nat) : Int) != 0)
        cases s <;> simp <;> omega
    | tup ds =>
      cases r with
      | tup h1 h2 =>
        cases e
        refine .inr (.inl ⟨_, SqT.of_rel hr h1, ?_⟩)
        have := h2.length
        cases ds <;> cases h2 <;> rfl
    | lst ds =>
      cases r with
      | lst h1 h2 =>
        cases e
        refine .inl ⟨_, SqL.of (hr.fro _ _ h1), ?_⟩
        cases ds <;> cases h2 <;> rfl
  | r k =>
    obtain ⟨a, e1, rfl⟩ := r
    have e : (match h[k]? with | some (.lst ys) => some (!ys.isEmpty) | _ => none) = some b := e
    split at e
    · rename_i ys hk
      cases e
      obtain ⟨xs, hx, hv⟩ := hr.obj k a _ e1 hk
      refine .inl ⟨xs, .inl (.inl hx), ?_⟩
      cases hv <;> rfl
    · cases e
  | x _ _ => exact r.elim
  | s _ => cases e
theorem lt_val {σ : L2.St} {H : Hp} {Q : Bool → Hp → Prop} (p : LT X.K g Wx (tVal fa) σ H Q) : LE X.K g Wx fa σ H (fun x H1 => ∃ k, TruV X.K x H1 k ∧ Q k H1) := by
  refine Lf.imp (Lf.bnd (R := fun W v y => RepV X.K W v y) p) fun v H1 ⟨W1, ρ, y, h1, hr1, er, rr, p1⟩ => ?_
  unfold truM at p1
  split at p1
  · rename_i b e
    exact ⟨b, tru_rep hr1 rr e, p1.ret hr1 rfl⟩
  · exact p1.elim
/-- a test by an expression that is no not, and, or, comparison, if-expression -/
theorem pdt_val (ha : PE X a (LE X.K g Wx fa)) (he : ∀ whole, isTrue a X.env whole = (do let v ← whole; standAt a.pos; holding [v] (truthy v))) : PT X a (LT X.K g Wx (tVal fa)) :=
  (pt_truth ha he).imp fun σ H Q p => lt_val p
def tNotD (ft : DEnv → Mo Bool) : DEnv → Mo Bool := fun ρ => bnd (ft ρ) fun b => ret (!b)
theorem pdt_not (ha : PT X a (LT X.K g Wx ft)) : PT X (.UnaryOp .Not a pos) (LT X.K g Wx (tNotD ft)) := by
  refine (pt_not ha).imp fun σ H Q p => ?_
  refine Lf.imp (Lf.bnd (R := fun _ (b c : Bool) => b = c) p) fun v H1 ⟨W1, ρ, y, h1, hr1, er, rr, p1⟩ => ?_
  subst rr
  exact p1.ret hr1 rfl
end
end Dn
end
section
set_option Elab.async false
set_option linter.all false
set_option maxRecDepth 100000
set_option maxHeartbeats 2000000
/-! Dn3: operators on plain values. -/
namespace Dn
open PySem PySem.Spec PyProof.Rows L2

/-! ### helpers -/
abbrev RV (K : PySem.W.Frag) : Wd → V → Vx → Prop := fun W v y => RepV K W v y
/-- the list that a value is -/
def asL : Vx → DH → Option (List Vx)
  | .d (.lst ds), _ => some (ds.map Vx.d)
  | .r k, h => (match h[k]? with | some (.lst ys) => some ys | _ => none)
  | _, _ => none
/-- the data that a value is -/
def asD : Vx → DH → Option Dt
  | .d x, _ => some x
  | .r k, h => (match h[k]? with | some (.lst ys) => (match plains ys with | some ds => some (.lst ds) | none => none) | _ => none)
  | _, _ => none
section
variable {K : PySem.W.Frag} {g : Gp} {W : Wd} {H : Hp} {h : DH} {v : V} {y : Vx}
theorem asL_rep (hr : HRel K g.T W H h) (r : RepV K W v y) {ys : List Vx} (e : asL y h = some ys) : ∃ a xs, v = .ref a ∧ H a = some (.lst xs) ∧ RepVs K W xs ys := by
  cases y with
  | d x =>
    cases x with
    | lst ds =>
      cases e
      cases r with
      | lst h1 h2 => exact ⟨_, _, rfl, hr.fro _ _ h1, .of_plain h2⟩
    | _ => cases e
  | r k =>
    obtain ⟨a, e1, rfl⟩ := r
    have e : (match h[k]? with | some (.lst ys) => some ys | _ => none) = some ys := e
    split at e
    · rename_i zs hk
      cases e
      obtain ⟨xs, hx, hv⟩ := hr.obj k a _ e1 hk
      exact ⟨a, xs, rfl, hx, hv⟩
    · cases e
  | x _ _ => cases e
  | s _ => cases e
/-- data as it stands now -/
inductive RepN (K : PySem.W.Frag) (F H : Hp) : V → Dt → Prop
  | of {v : V} {d : Dt} : RepD K F v d → RepN K F H v d
  | now {a : Addr} {vs : List V} {ds : List Dt} : H a = some (.lst vs) → RepDs K F vs ds → RepN K F H (.ref a) (.lst ds)
theorem asD_rep (hr : HRel K g.T W H h) (r : RepV K W v y) {x : Dt} (e : asD y h = some x) : RepN K W.F H v x := by
  cases y with
  | d x => cases e; exact .of r
  | r k =>
    obtain ⟨a, e1, rfl⟩ := r
    have e : (match h[k]? with | some (.lst ys) => (match plains ys with | some ds => some (Dt.lst ds) | none => none) | _ => none) = some x := e
    split at e
    · rename_i zs hk
      split at e
      · rename_i ds hd
        cases e
        obtain ⟨xs, hx, hv⟩ := hr.obj k a _ e1 hk
        exact .now hx (hv.plain hd)
      · cases e
    · cases e
  | x _ _ => cases e
  | s _ => cases e
end

/-! ### data as the library's data -/
mutual
def pyd : Dt → PyData
  | .non => .none
  | .bl b => .bool b
  | .int i => .int i
  | .str s => .str (toStr s)
  | .tup ds => .tuple (pyds ds)
  | .lst ds => .list (pyds ds)
def pyds : List Dt → List PyData
  | [] => []
  | d :: r => pyd d :: pyds r
end
mutual
def deq : Dt → Dt → Bool
  | .non, .non => true
  | .bl a, .bl b => a == b
  | .bl a, .int j => decide ((if a then 1 else 0) = j)
  | .int i, .bl b => decide (i = (if b then 1 else 0))
  | .int i, .int j => decide (i = j)
  | .str s, .str t => decide (s = t)
  | .tup xs, .tup ys => deqs xs ys
  | .lst xs, .lst ys => deqs xs ys
  | .non, .bl _ | .non, .int _ | .non, .str _ | .non, .lst _ | .non, .tup _ => false
  | .bl _, .non | .bl _, .str _ | .bl _, .lst _ | .bl _, .tup _ => false
  | .int _, .non | .int _, .str _ | .int _, .lst _ | .int _, .tup _ => false
  | .str _, .non | .str _, .bl _ | .str _, .int _ | .str _, .lst _ | .str _, .tup _ => false
  | .lst _, .non | .lst _, .bl _ | .lst _, .int _ | .lst _, .str _ | .lst _, .tup _ => false
  | .tup _, .non | .tup _, .bl _ | .tup _, .int _ | .tup _, .str _ | .tup _, .lst _ => false
def deqs : List Dt → List Dt → Bool
  | [], [] => true
  | x :: xs, y :: ys => deq x y && deqs xs ys
  | [], _ :: _ => false
  | _ :: _, [] => false
end
mutual
def dep : Dt → Nat
  | .tup ds => deps ds + 1
  | .lst ds => deps ds + 1
  | .non => 0 | .bl _ => 0 | .int _ => 0 | .str _ => 0
def deps : List Dt → Nat
  | [] => 0
  | d :: r => max (dep d) (deps r)
end
theorem toStr_inj {s t : List Nat} (e : toStr s = toStr t) : s = t := by
  have : (toStr s).cps.toList = (toStr t).cps.toList := by rw [e]
  simpa using this
mutual
theorem eqv_pyd : ∀ (a b : Dt), PyData.eqv (pyd a) (pyd b) = deq a b := by
  intro a b
  cases a <;> cases b <;> simp only [pyd, PyData.eqv, deq]
  case bl.int a j => cases a <;> simp [Bool.beq_eq_decide_eq]
  case int.bl i b => cases b <;> simp [Bool.beq_eq_decide_eq]
  case int.int i j => simp [Bool.beq_eq_decide_eq]
  case str.str s t =>
    rw [Bool.beq_eq_decide_eq]
    by_cases e : s = t
    · subst e; simp
    · rw [decide_eq_false e, decide_eq_false fun z => e (toStr_inj z)]
  case tup.tup xs ys => exact eqv_pyds xs ys
  case lst.lst xs ys => exact eqv_pyds xs ys
theorem eqv_pyds : ∀ (xs ys : List Dt), PyData.eqvAll (pyds xs) (pyds ys) = deqs xs ys := by
  intro xs ys
  cases xs with
  | nil => cases ys <;> simp only [pyds, PyData.eqvAll, deqs]
  | cons x xs =>
    cases ys with
    | nil => simp only [pyds, PyData.eqvAll, deqs]
    | cons y ys => simp only [pyds, PyData.eqvAll, deqs]; rw [eqv_pyd x y, eqv_pyds xs ys]
end
mutual
theorem dep_pyd : ∀ (a : Dt), (pyd a).depth = dep a := by
  intro a
  cases a <;> simp only [pyd, PyData.depth, dep]
  case tup ds => rw [deps_pyd ds]
  case lst ds => rw [deps_pyd ds]
theorem deps_pyd : ∀ (xs : List Dt), PyData.depthAll (pyds xs) = deps xs := by
  intro xs
  cases xs with
  | nil => simp only [pyds, PyData.depthAll, deps]
  | cons x xs => simp only [pyds, PyData.depthAll, deps]; rw [dep_pyd x, deps_pyd xs]
end
section
variable {K : PySem.W.Frag} {g : Gp} {W : Wd} {F H : Hp} {h : DH}
mutual
theorem RepD.dp (le : HLe F H) : ∀ {d : Dt} {v : V}, RepD K F v d → Dp K H v (pyd d)
  | .non, _, h => by cases h; exact .non
  | .bl _, _, h => by cases h; exact .bl _
  | .int _, _, h => by cases h; exact .int _
  | .str _, _, h => by cases h; exact .str _
  | .tup _, _, h => by cases h with | tup h1 h2 => exact .tup (SqT.le h1 le) (RepDs.dp le h2)
  | .lst _, _, h => by cases h with | lst h1 h2 => exact .lst (.inl (.inl (le _ _ h1))) (RepDs.dp le h2)
theorem RepDs.dp (le : HLe F H) : ∀ {ds : List Dt} {vs : List V}, RepDs K F vs ds → DpAll K H vs (pyds ds)
  | [], _, h => by cases h; exact .nil
  | _ :: _, _, h => by cases h with | cons h1 h2 => exact .cons (RepD.dp le h1) (RepDs.dp le h2)
end
mutual
theorem RepD.lay : ∀ {d : Dt} {v : V}, RepD K F v d → (pyd d).canLay0 = true
  | .non, _, h => by simp [pyd, PyData.canLay0]
  | .bl _, _, h => by simp [pyd, PyData.canLay0]
  | .int _, _, h => by simp [pyd, PyData.canLay0]
  | .str s, _, h => by
    cases h with
    | str _ ok =>
      simp only [pyd, PyData.canLay0, PyData.strOk]
      simp only [Array.all_eq_true', List.mem_toArray, decide_eq_true_eq]
      exact fun c hc => ok.2 c hc
  | .tup _, _, h => by cases h with | tup h1 h2 => simpa [pyd, PyData.canLay0] using RepDs.lay h2
  | .lst _, _, h => by cases h with | lst h1 h2 => simpa [pyd, PyData.canLay0] using RepDs.lay h2
theorem RepDs.lay : ∀ {ds : List Dt} {vs : List V}, RepDs K F vs ds → PyData.canLayAll0 (pyds ds) = true
  | [], _, h => by simp [pyds, PyData.canLayAll0]
  | _ :: _, _, h => by cases h with | cons h1 h2 => simp only [pyds, PyData.canLayAll0, Bool.and_eq_true]; exact ⟨RepD.lay h1, RepDs.lay h2⟩
end
theorem RepN.dp (le : HLe F H) {d : Dt} {v : V} (r : RepN K F H v d) : Dp K H v (pyd d) := by
  cases r with
  | of r => exact RepD.dp le r
  | now h1 h2 => exact .lst (.inl (.inl h1)) (RepDs.dp le h2)
theorem RepN.lay {d : Dt} {v : V} (r : RepN K F H v d) : (pyd d).canLay0 = true := by
  cases r with
  | of r => exact RepD.lay r
  | now h1 h2 => simpa [pyd, PyData.canLay0] using RepDs.lay h2
end

/-! ### == and != -/
def dEq (a b : Vx) : Mo Vx := fun h => match asD a h, asD b h with
  | some x, some y => if min (dep x) (dep y) ≤ 64 then .ok (.d (.bl (deq x y))) h else .stk
  | _, _ => .stk
def dNe (a b : Vx) : Mo Vx := fun h => match asD a h, asD b h with
  | some x, some y => if min (dep x) (dep y) ≤ 64 then .ok (.d (.bl (!deq x y))) h else .stk
  | _, _ => .stk
section
variable {X : Cx} {g : Gp}
def rEqN (K : PySem.W.Frag) : R2 := fun x y H Q => ∃ d e, Dp K H x d ∧ Dp K H y e ∧ d.canLay0 = true ∧ e.canLay0 = true ∧ min d.depth e.depth ≤ 64 ∧ Q (.bl (PyData.eqv d e)) H
def rNeN (K : PySem.W.Frag) : R2 := fun x y H Q => ∃ d e, Dp K H x d ∧ Dp K H y e ∧ d.canLay0 = true ∧ e.canLay0 = true ∧ min d.depth e.depth ≤ 64 ∧ Q (.bl (!PyData.eqv d e)) H
theorem op_eqN (hu : X.A.units + 64 < cLine) : OpR X (compareOp .Eq) (rEqN X.K) := by
  intro pins s σ H x y v u Q I rx ry h
  obtain ⟨d, e, hd, he, sd, se, dp, q⟩ := h
  obtain ⟨as, r1⟩ := Dp.reads I d x v hd rx
  obtain ⟨bs, r2⟩ := Dp.reads I e y u he ry
  exact SeqAt.compareEq_reads r1 r2 sd se (by omega) ⟨.bl _, H, I, rfl, q⟩
theorem op_neN (hu : X.A.units + 64 < cLine) : OpR X (compareOp .NotEq) (rNeN X.K) := by
  intro pins s σ H x y v u Q I rx ry h
  obtain ⟨d, e, hd, he, sd, se, dp, q⟩ := h
  obtain ⟨as, r1⟩ := Dp.reads I d x v hd rx
  obtain ⟨bs, r2⟩ := Dp.reads I e y u he ry
  exact SeqAt.compareNe_reads r1 r2 sd se (by omega) ⟨.bl _, H, I, rfl, q⟩
theorem od_eq (hu : X.A.units + 64 < cLine) : OpD X g (compareOp .Eq) dEq := by
  refine ⟨_, op_eqN hu, fun W H h x y a b Q E hr ra rb p => ?_⟩
  unfold dEq at p
  cases e1 : asD a h with
  | none => rw [e1] at p; exact p.elim
  | some d =>
    cases e2 : asD b h with
    | none => rw [e1, e2] at p; exact p.elim
    | some e =>
      rw [e1, e2] at p
      dsimp only at p
      split at p
      · rename_i hd
        have r1 := asD_rep hr ra e1
        have r2 := asD_rep hr rb e2
        refine ⟨pyd d, pyd e, r1.dp hr.fro, r2.dp hr.fro, r1.lay, r2.lay, by rw [dep_pyd, dep_pyd]; exact hd, ?_⟩
        rw [eqv_pyd]
        exact p.ret hr (.bl _)
      · exact p.elim
theorem od_ne (hu : X.A.units + 64 < cLine) : OpD X g (compareOp .NotEq) dNe := by
  refine ⟨_, op_neN hu, fun W H h x y a b Q E hr ra rb p => ?_⟩
  unfold dNe at p
  cases e1 : asD a h with
  | none => rw [e1] at p; exact p.elim
  | some d =>
    cases e2 : asD b h with
    | none => rw [e1, e2] at p; exact p.elim
    | some e =>
      rw [e1, e2] at p
      dsimp only at p
      split at p
      · rename_i hd
        have r1 := asD_rep hr ra e1
        have r2 := asD_rep hr rb e2
        refine ⟨pyd d, pyd e, r1.dp hr.fro, r2.dp hr.fro, r1.lay, r2.lay, by rw [dep_pyd, dep_pyd]; exact hd, ?_⟩
        rw [eqv_pyd]
        exact p.ret hr (.bl _)
      · exact p.elim
end

/-! ### the order: ints, texts, tuples of ints -/
def intsOf : List Dt → Option (List Int)
  | [] => some []
  | .int i :: r => (match intsOf r with | some ns => some (i :: ns) | none => none)
  | _ :: _ => none
theorem intsOf_eq : ∀ {ds : List Dt} {ns : List Int}, intsOf ds = some ns → ds = ns.map Dt.int
  | [], ns, e => by cases e; rfl
  | .int i :: r, ns, e => by
    unfold intsOf at e
    split at e
    · rename_i ms hm; cases e; rw [intsOf_eq hm]; rfl
    · cases e
  | .non :: _, _, e => by cases e
  | .bl _ :: _, _, e => by cases e
  | .str _ :: _, _, e => by cases e
  | .tup _ :: _, _, e => by cases e
  | .lst _ :: _, _, e => by cases e
theorem RepDs.ints {K : PySem.W.Frag} {F : Hp} : ∀ {ns : List Int} {vs : List V}, RepDs K F vs (ns.map Dt.int) → vs = ns.map V.int
  | [], vs, h => by cases h; rfl
  | n :: r, vs, h => by
    cases h with
    | cons h1 h2 => cases h1; rw [RepDs.ints h2]; rfl
def dLt (a b : Vx) : Mo Vx := fun h => match a, b with
  | .d (.int i), .d (.int j) => .ok (.d (.bl (decide (i < j)))) h
  | .d (.str s), .d (.str t) => .ok (.d (.bl (decide (s < t)))) h
  | .d (.tup ds), .d (.tup es) => (match intsOf ds, intsOf es with
    | some ns, some ms => .ok (.d (.bl (HT.lexLt ns ms))) h
    | _, _ => .stk)
  | _, _ => .stk
def dLe (a b : Vx) : Mo Vx := fun h => match a, b with
  | .d (.int i), .d (.int j) => .ok (.d (.bl (decide (i ≤ j)))) h
  | _, _ => .stk
def dGt (a b : Vx) : Mo Vx := fun h => match a, b with
  | .d (.int i), .d (.int j) => .ok (.d (.bl (decide (j < i)))) h
  | _, _ => .stk
def dGe (a b : Vx) : Mo Vx := fun h => match a, b with
  | .d (.int i), .d (.int j) => .ok (.d (.bl (decide (j ≤ i)))) h
  | _, _ => .stk
section
variable {X : Cx} {g : Gp}
theorem repInt {K : PySem.W.Frag} {W : Wd} {v : V} {i : Int} (r : RepV K W v (.d (.int i))) : v = .int i := by
  have r : RepD K W.F v (.int i) := r
  cases r; rfl
theorem repStr {K : PySem.W.Frag} {W : Wd} {v : V} {s : List Nat} (r : RepV K W v (.d (.str s))) : v = .str (toStr s) ∧ okS s := by
  have r : RepD K W.F v (.str s) := r
  cases r with
  | str _ ok => exact ⟨rfl, ok⟩
theorem repBl {K : PySem.W.Frag} {W : Wd} {v : V} {i : Bool} (r : RepV K W v (.d (.bl i))) : v = .bl i := by
  have r : RepD K W.F v (.bl i) := r
  cases r; rfl
theorem repTup {K : PySem.W.Frag} {g : Gp} {W : Wd} {H : Hp} {h : DH} (hr : HRel K g.T W H h) {v : V} {ds : List Dt} (r : RepV K W v (.d (.tup ds))) : ∃ a vs, v = .ref a ∧ SqT K H a vs ∧ SqT K W.F a vs ∧ RepDs K W.F vs ds := by
  have r : RepD K W.F v (.tup ds) := r
  cases r with
  | tup h1 h2 => exact ⟨_, _, rfl, SqT.le h1 hr.fro, h1, h2⟩
theorem od_lt (hu : X.A.units < cLine) : OpD X g (compareOp .Lt) dLt := by
  refine ⟨_, (op_lt.or op_lt_str).or (op_ltT hu), fun W H h x y a b Q E hr ra rb p => ?_⟩
  unfold dLt at p
  split at p
  · rename_i i j
    rw [repInt ra, repInt rb]
    exact .inl (.inl ⟨i, j, rfl, rfl, p.ret hr (.bl _)⟩)
  · rename_i s t
    rw [(repStr ra).1, (repStr rb).1]
    refine .inl (.inr ⟨_, _, rfl, rfl, ?_⟩)
    exact p.ret hr (.bl _)
  · rename_i ds es
    split at p
    · rename_i ns ms e1 e2
      obtain ⟨a1, vs1, rfl, q1, _, s1⟩ := repTup hr ra
      obtain ⟨a2, vs2, rfl, q2, _, s2⟩ := repTup hr rb
      rw [intsOf_eq e1] at s1
      rw [intsOf_eq e2] at s2
      have z1 := RepDs.ints s1
      have z2 := RepDs.ints s2
      subst z1 z2
      exact .inr ⟨a1, a2, ns, ms, rfl, rfl, q1, q2, p.ret hr (.bl _)⟩
    · exact p.elim
  · exact p.elim
theorem od_le : OpD X g (compareOp .LtE) dLe := by
  refine ⟨_, op_le, fun W H h x y a b Q E hr ra rb p => ?_⟩
  unfold dLe at p
  split at p
  · rename_i i j
    rw [repInt ra, repInt rb]
    exact ⟨i, j, rfl, rfl, p.ret hr (.bl _)⟩
  · exact p.elim
theorem od_gt : OpD X g (compareOp .Gt) dGt := by
  refine ⟨_, op_gt, fun W H h x y a b Q E hr ra rb p => ?_⟩
  unfold dGt at p
  split at p
  · rename_i i j
    rw [repInt ra, repInt rb]
    exact ⟨i, j, rfl, rfl, p.ret hr (.bl _)⟩
  · exact p.elim
theorem od_ge : OpD X g (compareOp .GtE) dGe := by
  refine ⟨_, op_ge, fun W H h x y a b Q E hr ra rb p => ?_⟩
  unfold dGe at p
  split at p
  · rename_i i j
    rw [repInt ra, repInt rb]
    exact ⟨i, j, rfl, rfl, p.ret hr (.bl _)⟩
  · exact p.elim
end

/-! ### is None -/
def isNon : Vx → Bool
  | .d .non => true
  | _ => false
def dIs (a b : Vx) : Mo Vx := fun h => match b with
  | .d .non => .ok (.d (.bl (isNon a))) h
  | _ => .stk
def dIsNot (a b : Vx) : Mo Vx := fun h => match b with
  | .d .non => .ok (.d (.bl (!isNon a))) h
  | _ => .stk
section
variable {X : Cx} {g : Gp}
theorem isNon_rep {K : PySem.W.Frag} {W : Wd} {v : V} {a : Vx} (r : RepV K W v a) : decide (v = .non) = isNon a := by
  cases a with
  | d x =>
    have r : RepD K W.F v x := r
    cases r <;> simp [isNon]
  | r k => obtain ⟨_, _, rfl⟩ := r; simp [isNon]
  | x _ _ => exact r.elim
  | s _ => obtain ⟨_, rfl, _⟩ := r; simp [isNon]
theorem od_is : OpD X g (compareOp .Is) dIs := by
  refine ⟨_, op_isN, fun W H h x y a b Q E hr ra rb p => ?_⟩
  unfold dIs at p
  split at p
  · have rb : RepD X.K W.F y .non := rb
    cases rb
    refine ⟨rfl, ?_⟩
    rw [isNon_rep ra]
    exact p.ret hr (.bl _)
  · exact p.elim
theorem od_isNot : OpD X g (compareOp .IsNot) dIsNot := by
  refine ⟨_, op_notN, fun W H h x y a b Q E hr ra rb p => ?_⟩
  unfold dIsNot at p
  split at p
  · have rb : RepD X.K W.F y .non := rb
    cases rb
    refine ⟨rfl, ?_⟩
    rw [isNon_rep ra]
    exact p.ret hr (.bl _)
  · exact p.elim
end
end Dn
end
section
set_option Elab.async false
set_option linter.all false
set_option maxRecDepth 100000
set_option maxHeartbeats 2000000
/-! Dn4: arithmetic, in, items, slices. -/
namespace Dn
open PySem PySem.Spec PyProof.Rows L2

section
variable {K : PySem.W.Frag} {g : Gp} {W : Wd} {H : Hp} {h : DH}
/-- a new list, tuple as the answer -/
theorem Post.newL {ds : List Dt} {vs : List V} {Q : VK} {E : XK} (P : Post K g (RV K) W H (.ok (.d (.lst ds)) h) Q E) (hr : HRel K g.T W H h) (rd : RepDs K W.F vs ds) : ∀ p, H p = none → Q (.ref p) (upd H p (.lst vs)) := fun p np => by
  refine P.new hr np (fun ps z => by cases z) ?_
  have fp : W.F p = none := by
    cases q : W.F p with
    | none => rfl
    | some u => rw [hr.fro _ _ q] at np; cases np
  exact .lst upd_same (RepDs.le (fun a u e => by show upd W.F p _ a = some u; rw [upd_ne (ne_of_none e fp)]; exact e) rd)
theorem Post.newT {ds : List Dt} {vs : List V} {Q : VK} {E : XK} (P : Post K g (RV K) W H (.ok (.d (.tup ds)) h) Q E) (hr : HRel K g.T W H h) (rd : RepDs K W.F vs ds) : ∀ p, H p = none → Q (.ref p) (upd H p (.tup vs)) := fun p np => by
  refine P.new hr np (fun ps z => by cases z) ?_
  have fp : W.F p = none := by
    cases q : W.F p with
    | none => rfl
    | some u => rw [hr.fro _ _ q] at np; cases np
  exact .tup (.inl (.inl upd_same)) (RepDs.le (fun a u e => by show upd W.F p _ a = some u; rw [upd_ne (ne_of_none e fp)]; exact e) rd)
theorem plains_append {ys zs : List Vx} {ds es : List Dt} (h1 : plains ys = some ds) (h2 : plains zs = some es) : plains (ys ++ zs) = some (ds ++ es) := by
  induction ys generalizing ds with
  | nil => cases h1; exact h2
  | cons y ys ih =>
    cases y with
    | d x =>
      unfold plains at h1
      split at h1
      · rename_i fs hf; cases h1; simp [plains, ih hf]
      · cases h1
    | _ => cases h1
theorem okS_append {s t : List Nat} (a : okS s) (b : okS t) (hl : s.length + t.length ≤ 16777216) : okS (s ++ t) :=
  ⟨by rw [sizeLine_eq, List.length_append]; exact hl, fun c hc => (List.mem_append.mp hc).elim (a.2 c) (b.2 c)⟩
theorem toStr_append (s t : List Nat) : toStr s ++ toStr t = toStr (s ++ t) := TL.ext_tl (by rw [TL.tl_append])
theorem plains_some {ys : List Vx} {ds : List Dt} (h : plains ys = some ds) : ys = ds.map Vx.d := by
  induction ys generalizing ds with
  | nil => cases h; rfl
  | cons y ys ih =>
    cases y with
    | d x =>
      unfold plains at h
      split at h
      · rename_i fs hf; cases h; rw [ih hf]; rfl
      · cases h
    | _ => cases h
end

/-! ### + -/
def dAdd (a b : Vx) : Mo Vx := fun h => match a, b with
  | .d (.int i), .d (.int j) => .ok (.d (.int (i + j))) h
  | .d (.str s), .d (.str t) => if s.length + t.length ≤ 16777216 then .ok (.d (.str (s ++ t))) h else .stk
  | .d (.tup ds), .d (.tup es) => if ds.length + es.length ≤ 16777216 then .ok (.d (.tup (ds ++ es))) h else .stk
  | a, b => (match asL a h, asL b h with
    | some ys, some zs => (match plains ys, plains zs with
      | some ds, some es => if ds.length + es.length ≤ 16777216 then .ok (.d (.lst (ds ++ es))) h else .stk
      | _, _ => .stk)
    | _, _ => .stk)
section
variable {X : Cx} {g : Gp}
theorem od_add : OpD X g (binaryOp .Add) dAdd := by
  refine ⟨_, (op_add.or op_add_str).or (op_catA.or op_cat), fun W H h x y a b Q E hr ra rb p => ?_⟩
  unfold dAdd at p
  split at p
  · rename_i i j
    rw [repInt ra, repInt rb]
    exact .inl (.inl ⟨i, j, rfl, rfl, p.ret hr (.int _)⟩)
  · rename_i s t
    obtain ⟨rfl, o1⟩ := repStr ra
    obtain ⟨rfl, o2⟩ := repStr rb
    split at p
    · rename_i hl
      refine .inl (.inr ⟨_, _, rfl, rfl, by rw [sizeLine_eq]; show (toStr s).cps.size + (toStr t).cps.size ≤ _; simpa using hl, ?_⟩)
      rw [toStr_append]
      exact p.ret hr (.str _ (okS_append o1 o2 hl))
    · exact p.elim
  · rename_i ds es
    obtain ⟨a1, vs1, rfl, q1, f1, s1⟩ := repTup hr ra
    obtain ⟨a2, vs2, rfl, q2, f2, s2⟩ := repTup hr rb
    split at p
    · rename_i hl
      refine .inr (.inl ⟨a1, a2, vs1, vs2, rfl, rfl, q1, q2, by rw [sizeLine_eq, s1.length, s2.length]; exact hl, fun e => ?_, fun _ e => ?_, fun _ _ => ?_⟩)
      · subst e
        cases ds with
        | nil => exact p.ret hr (.tup f2 s2)
        | cons _ _ => cases s1
      · subst e
        cases es with
        | nil => rw [List.append_nil] at p; exact p.ret hr (.tup f1 s1)
        | cons _ _ => cases s2
      · exact p.newT hr (s1.append s2)
    · exact p.elim
  · split at p
    · rename_i ys zs e1 e2
      split at p
      · rename_i ds es p1 p2
        split at p
        · rename_i hl
          obtain ⟨a1, xs1, rfl, q1, r1⟩ := asL_rep hr ra e1
          obtain ⟨a2, xs2, rfl, q2, r2⟩ := asL_rep hr rb e2
          have s1 := r1.plain p1
          have s2 := r2.plain p2
          exact .inr (.inr ⟨a1, a2, xs1, xs2, rfl, rfl, q1, q2, by rw [sizeLine_eq, s1.length, s2.length]; exact hl, p.newL hr (s1.append s2)⟩)
        · exact p.elim
      · exact p.elim
    · exact p.elim
end

/-! ### the other operators -/
def dSub (a b : Vx) : Mo Vx := fun h => match a, b with
  | .d (.int i), .d (.int j) => .ok (.d (.int (i - j))) h
  | _, _ => .stk
def mulOk (i j : Int) : Bool := decide (i.natAbs < 18446744073709551616) || decide (j.natAbs < 18446744073709551616) || decide (i.natAbs.log2 + j.natAbs.log2 < 1000000)
def repS (s : List Nat) (k : Nat) : List Nat := (List.replicate k s).flatten
def dMul (a b : Vx) : Mo Vx := fun h => match a, b with
  | .d (.int i), .d (.int j) => if mulOk i j = true then .ok (.d (.int (i * j))) h else .stk
  | .d (.str s), .d (.int k) => if s.length * k.toNat ≤ 16777216 ∧ -1000000 < k ∧ k < 1000000 then .ok (.d (.str (repS s k.toNat))) h else .stk
  | a, .d (.int k) => (match asL a h with
    | some ys => (match plains ys with
      | some ds => if ds.length * k.toNat ≤ 16777216 ∧ -1000000 < k ∧ k < 1000000 then .ok (.d (.lst (List.replicate k.toNat ds).flatten)) h else .stk
      | _ => .stk)
    | _ => .stk)
  | _, _ => .stk
def dFdiv (a b : Vx) : Mo Vx := fun h => match a, b with
  | .d (.int i), .d (.int j) => if 0 < j ∧ j.natAbs.log2 < 9000 then .ok (.d (.int (i / j))) h else .stk
  | _, _ => .stk
def dMod (a b : Vx) : Mo Vx := fun h => match a, b with
  | .d (.int i), .d (.int j) => if 0 < j then .ok (.d (.int (i % j))) h else .stk
  | _, _ => .stk
def dPow (a b : Vx) : Mo Vx := fun h => match a, b with
  | .d (.int i), .d (.int j) => if 0 ≤ j ∧ j ≤ 1000 ∧ i.natAbs < 1000000 then .ok (.d (.int (i ^ j.toNat))) h else .stk
  | _, _ => .stk
def dNeg (a : Vx) : Mo Vx := fun h => match a with
  | .d (.int i) => .ok (.d (.int (-i))) h
  | _ => .stk
section
variable {X : Cx} {g : Gp}
theorem od_sub : OpD X g (binaryOp .Sub) dSub := by
  refine ⟨_, op_sub, fun W H h x y a b Q E hr ra rb p => ?_⟩
  unfold dSub at p
  split at p
  · rw [repInt ra, repInt rb]; exact ⟨_, _, rfl, rfl, p.ret hr (.int _)⟩
  · exact p.elim
theorem od_fdiv : OpD X g (binaryOp .FloorDiv) dFdiv := by
  refine ⟨_, op_fdivW, fun W H h x y a b Q E hr ra rb p => ?_⟩
  unfold dFdiv at p
  split at p
  · split at p
    · rename_i hc
      rw [repInt ra, repInt rb]; exact ⟨_, _, rfl, rfl, hc, p.ret hr (.int _)⟩
    · exact p.elim
  · exact p.elim
theorem od_mod : OpD X g (binaryOp .Mod) dMod := by
  refine ⟨_, op_mod, fun W H h x y a b Q E hr ra rb p => ?_⟩
  unfold dMod at p
  split at p
  · split at p
    · rename_i hc
      rw [repInt ra, repInt rb]; exact ⟨_, _, rfl, rfl, hc, p.ret hr (.int _)⟩
    · exact p.elim
  · exact p.elim
theorem od_pow : OpD X g (binaryOp .Pow) dPow := by
  refine ⟨_, op_pow, fun W H h x y a b Q E hr ra rb p => ?_⟩
  unfold dPow at p
  split at p
  · split at p
    · rename_i hc
      rw [repInt ra, repInt rb]
      refine ⟨_, _, rfl, rfl, ⟨hc.1, by omega, ?_⟩, p.ret hr (.int _)⟩
      have := hc.2.2
      omega
    · exact p.elim
  · exact p.elim
theorem ud_neg : UnD X g (unaryOp .USub) dNeg := by
  refine ⟨_, un_neg, fun W H h x a Q E hr ra p => ?_⟩
  unfold dNeg at p
  split at p
  · rw [repInt ra]; exact ⟨_, rfl, p.ret hr (.int _)⟩
  · exact p.elim
theorem foldl_app (c : Array Nat) : ∀ (k : Nat) (acc : Array Nat), ((List.replicate k c).foldl (· ++ ·) acc).toList = acc.toList ++ (List.replicate k c.toList).flatten := by
  intro k
  induction k with
  | zero => intro acc; simp
  | succ k ih => intro acc; rw [List.replicate_succ, List.foldl_cons, ih, List.replicate_succ, List.flatten_cons]; simp [List.append_assoc]
theorem mul_txt (s : List Nat) (k : Int) (hk : -1000000 < k) : Txt.mul (toStr s) k = toStr (repS s k.toNat) := by
  unfold Txt.mul repS
  split
  · rename_i h1
    have e : k.toNat = 0 := by omega
    rw [e]; rfl
  · rename_i h1
    split
    · rename_i h2
      simp only [Bool.or_eq_true, beq_iff_eq] at h2
      rcases h2 with h2 | h2
      · subst h2; simp
      · have e : s = [] := by
          have : (toStr s).cps.size = 0 := h2
          simpa using this
        subst e
        refine TL.ext_tl ?_
        simp
    · refine TL.ext_tl ?_
      show ((List.replicate k.toNat s.toArray).foldl (· ++ ·) #[]).toList = _
      rw [foldl_app]
      simp
theorem len_repS (s : List Nat) (k : Nat) : (repS s k).length = s.length * k := by
  unfold repS
  induction k with
  | zero => simp
  | succ k ih => rw [List.replicate_succ, List.flatten_cons, List.length_append, ih, Nat.mul_succ, Nat.add_comm]
theorem mem_repS {s : List Nat} {k c : Nat} (h : c ∈ repS s k) : c ∈ s := by
  unfold repS at h
  obtain ⟨l, hl, hc⟩ := List.mem_flatten.mp h
  rw [List.eq_of_mem_replicate hl] at hc
  exact hc
def rMulS : R2 := fun x y H Q => ∃ (s : List Nat) (k : Int), x = .str (toStr s) ∧ y = .int k ∧ s.length * k.toNat ≤ 16777216 ∧ -1000000 < k ∧ k < 1000000 ∧ Q (.str (toStr (repS s k.toNat))) H
theorem op_mulS : OpR X (binaryOp .Mult) rMulS := by
  intro pins s σ H x y v u Q I rx ry h
  obtain ⟨l, k, rfl, rfl, hl, h1, h2, q⟩ := h
  obtain ⟨t, rfl⟩ := rx
  obtain ⟨t', rfl⟩ := ry
  refine PySem.SB.mul ⟨?_, fun g1 g2 => ?_, fun g1 g2 => ?_⟩ fun t' k' => ?_
  · have a1 : ¬ k < -(2 ^ 63 : Int) := by omega
    have a2 : ¬ k ≥ 2 ^ 63 := by omega
    rw [decide_eq_false a1, decide_eq_false a2]; rfl
  · intro hgt
    have hle : ((toStr l).length : Int) ≤ 16777216 := by
      have e : (toStr l).length = l.length := by show (toStr l).cps.size = _; simp
      have hk1 : 1 ≤ k.toNat := by omega
      have : l.length ≤ l.length * k.toNat := Nat.le_mul_of_pos_right _ hk1
      omega
    have hd : (2 ^ 63 - 1 : Int) / k ≥ 16777216 := by
      refine Int.le_ediv_of_mul_le (by omega) ?_
      omega
    omega
  · have e : (toStr l).length = l.length := by show (toStr l).cps.size = _; simp
    rw [e]
    unfold Builtin.Str.tooLong
    exact decide_eq_false (by rw [sizeLine_eq]; omega)
  · rw [mul_txt l k h1]
    exact ⟨.str _, H, I.tok k', ⟨t', rfl⟩, q⟩
theorem RepDs.rep {K : PySem.W.Frag} {F : Hp} {vs : List V} {ds : List Dt} (h : RepDs K F vs ds) : ∀ k : Nat, RepDs K F (List.replicate k vs).flatten (List.replicate k ds).flatten
  | 0 => .nil
  | k + 1 => by rw [List.replicate_succ, List.replicate_succ, List.flatten_cons, List.flatten_cons]; exact h.append (RepDs.rep h k)
theorem od_mul : OpD X g (binaryOp .Mult) dMul := by
  refine ⟨_, (op_mul.or op_mulW).or (op_mulS.or op_rep), fun W H h x y a b Q E hr ra rb p => ?_⟩
  unfold dMul at p
  split at p
  · rename_i i j
    split at p
    · rename_i hc
      rw [repInt ra, repInt rb]
      unfold mulOk at hc
      simp only [Bool.or_eq_true, decide_eq_true_eq] at hc
      rcases hc with (hc | hc) | hc
      · exact .inl (.inl ⟨i, j, rfl, rfl, .inl (by omega), p.ret hr (.int _)⟩)
      · exact .inl (.inl ⟨i, j, rfl, rfl, .inr (by omega), p.ret hr (.int _)⟩)
      · exact .inl (.inr ⟨i, j, rfl, rfl, hc, p.ret hr (.int _)⟩)
    · exact p.elim
  · rename_i s k
    obtain ⟨rfl, o1⟩ := repStr ra
    split at p
    · rename_i hc
      rw [repInt rb]
      exact .inr (.inl ⟨s, k, rfl, rfl, hc.1, hc.2.1, hc.2.2, p.ret hr (.str _ ⟨by rw [sizeLine_eq, len_repS]; exact hc.1, fun c m => o1.2 c (mem_repS m)⟩)⟩)
    · exact p.elim
  · rename_i k _ _
    split at p
    · rename_i ys e1
      split at p
      · rename_i ds e2
        split at p
        · rename_i hc
          obtain ⟨a1, xs1, rfl, q1, r1⟩ := asL_rep hr ra e1
          have s1 := r1.plain e2
          rw [repInt rb]
          exact .inr (.inr ⟨a1, k, xs1, rfl, rfl, q1, by omega, by omega, by rw [sizeLine_eq, s1.length]; exact hc.1, p.newL hr (s1.rep _)⟩)
        · exact p.elim
      · exact p.elim
    · exact p.elim
  · exact p.elim
end

/-! ### in -/
def asQ : Vx → DH → Option (List Dt)
  | .d (.tup ds), _ => some ds
  | y, h => (match asD y h with | some (.lst ds) => some ds | _ => none)
def dInB (a b : Vx) (h : DH) : Option Bool := match a, b with
  | .d (.str [c]), .d (.str t) => some (decide (c ∈ t))
  | a, b => (match asD a h, asQ b h with
    | some x, some ds => if min (deps ds) (dep x) ≤ 60 then some (ds.any fun z => deq z x) else none
    | _, _ => none)
def dIn (a b : Vx) : Mo Vx := fun h => match dInB a b h with
  | some k => .ok (.d (.bl k)) h
  | none => .stk
def dNotIn (a b : Vx) : Mo Vx := fun h => match dInB a b h with
  | some k => .ok (.d (.bl (!k))) h
  | none => .stk
section
variable {X : Cx} {g : Gp}
def rInQ (K : PySem.W.Frag) (ng : Bool) : R2 := fun x y H Q => ∃ d ds, Dp K H x d ∧ (Dp K H y (.list ds) ∨ Dp K H y (.tuple ds)) ∧ d.canLay0 = true ∧ PyData.canLayAll0 ds = true ∧ min (PyData.depthAll ds) d.depth ≤ 60 ∧ Q (.bl (if ng then !(ds.any fun z => PyData.eqv z d) else ds.any fun z => PyData.eqv z d)) H
theorem op_inQ (hu : X.A.units + 64 < cLine) : OpR X (compareOp .In) (rInQ X.K false) := by
  intro pins s σ H x y v u Q I rx ry h
  obtain ⟨d, ds, hd, he, sd, se, dp, q⟩ := h
  obtain ⟨as, r1⟩ := Dp.reads I d x v hd rx
  rcases he with he | he
  · obtain ⟨bs, r2⟩ := Dp.reads I (.list ds) y u he ry
    exact SeqAt.in_list_reads r2 r1 se sd (by omega) ⟨.bl _, H, I, rfl, q⟩
  · obtain ⟨bs, r2⟩ := Dp.reads I (.tuple ds) y u he ry
    exact SeqAt.in_tuple_reads r2 r1 se sd (by omega) ⟨.bl _, H, I, rfl, q⟩
theorem op_notInQ (hu : X.A.units + 64 < cLine) : OpR X (compareOp .NotIn) (rInQ X.K true) := by
  intro pins s σ H x y v u Q I rx ry h
  obtain ⟨d, ds, hd, he, sd, se, dp, q⟩ := h
  obtain ⟨as, r1⟩ := Dp.reads I d x v hd rx
  rcases he with he | he
  · obtain ⟨bs, r2⟩ := Dp.reads I (.list ds) y u he ry
    exact SeqAt.notIn_list_reads r2 r1 se sd (by omega) ⟨.bl _, H, I, rfl, q⟩
  · obtain ⟨bs, r2⟩ := Dp.reads I (.tuple ds) y u he ry
    exact SeqAt.notIn_tuple_reads r2 r1 se sd (by omega) ⟨.bl _, H, I, rfl, q⟩
theorem any_pyd (x : Dt) : ∀ ds : List Dt, ((pyds ds).any fun z => PyData.eqv z (pyd x)) = ds.any fun z => deq z x
  | [] => by simp [pyds]
  | d :: r => by simp only [pyds, List.any_cons]; rw [eqv_pyd, any_pyd x r]
theorem asQ_rep {K : PySem.W.Frag} {W : Wd} {H : Hp} {h : DH} {v : V} {y : Vx} (hr : HRel K g.T W H h) (r : RepV K W v y) {ds : List Dt} (e : asQ y h = some ds) :
    (Dp K H v (.list (pyds ds)) ∨ Dp K H v (.tuple (pyds ds))) ∧ PyData.canLayAll0 (pyds ds) = true := by
  unfold asQ at e
  split at e
  · cases e
    have r : RepD K W.F v (.tup _) := r
    have h1 := RepD.dp hr.fro r
    have h2 := RepD.lay r
    exact ⟨.inr (by simpa only [pyd] using h1), by simpa only [pyd, PyData.canLay0] using h2⟩
  · split at e
    · rename_i hd
      cases e
      have n := asD_rep hr r hd
      have h1 := n.dp hr.fro
      have h2 := n.lay
      exact ⟨.inl (by simpa only [pyd] using h1), by simpa only [pyd, PyData.canLay0] using h2⟩
    · cases e
theorem dIn_rep {W : Wd} {H : Hp} {h : DH} {x y : V} {a b : Vx} {k : Bool} {Q : VK} (ng : Bool) (hr : HRel X.K g.T W H h) (ra : RepV X.K W x a) (rb : RepV X.K W y b) (e : dInB a b h = some k) (q : Q (.bl (if ng then !k else k)) H) :
    (∃ (c : Nat) (z : Str), x = .str ⟨#[c]⟩ ∧ y = .str z ∧ Q (.bl (if ng then !decide (c ∈ z.cps.toList) else decide (c ∈ z.cps.toList))) H) ∨ rInQ X.K ng x y H Q := by
  unfold dInB at e
  split at e
  · rename_i c t
    cases e
    exact .inl ⟨c, toStr t, (repStr ra).1, (repStr rb).1, q⟩
  · split at e
    · rename_i d ds e1 e2
      split at e
      · rename_i hd
        cases e
        have n := asD_rep hr ra e1
        obtain ⟨h1, h2⟩ := asQ_rep hr rb e2
        have hd2 : min (PyData.depthAll (pyds ds)) (pyd d).depth ≤ 60 := by rw [deps_pyd, dep_pyd]; exact hd
        exact .inr ⟨pyd d, pyds ds, n.dp hr.fro, h1, n.lay, h2, hd2, by rw [any_pyd]; exact q⟩
      · cases e
    · cases e
theorem od_in (hu : X.A.units + 64 < cLine) : OpD X g (compareOp .In) dIn := by
  refine ⟨_, op_in_sign.or (op_inQ hu), fun W H h x y a b Q E hr ra rb p => ?_⟩
  unfold dIn at p
  split at p
  · rename_i k e
    exact dIn_rep false hr ra rb e (p.ret hr (.bl _))
  · exact p.elim
theorem od_notIn (hu : X.A.units + 64 < cLine) : OpD X g (compareOp .NotIn) dNotIn := by
  refine ⟨_, op_notIn_sign.or (op_notInQ hu), fun W H h x y a b Q E hr ra rb p => ?_⟩
  unfold dNotIn at p
  split at p
  · rename_i k e
    exact dIn_rep true hr ra rb e (p.ret hr (.bl _))
  · exact p.elim
end
end Dn
end
section
set_option Elab.async false
set_option linter.all false
set_option maxRecDepth 100000
set_option maxHeartbeats 2000000
/-! Dn5: items, slices, built-in functions, the plain heap's lists, methods. -/
namespace Dn
open PySem PySem.Spec PyProof.Rows L2

/-! ### items -/
section
variable {K : PySem.W.Frag} {g : Gp} {W : Wd} {H : Hp} {h : DH}
theorem atI_rep {ds : List Dt} {vs : List V} {F : Hp} (r : RepDs K F vs ds) {i : Int} {d : Dt} (e : atI ds i = some d) : ∃ v, atI vs i = some v ∧ RepD K F v d := by
  unfold atI at e ⊢
  rw [r.length]
  cases q : ixN ds.length i with
  | none => rw [q] at e; cases e
  | some j =>
    rw [q] at e
    obtain ⟨v, e1, e2⟩ := r.get (show ds[j]? = some d from e)
    exact ⟨v, e1, e2⟩
theorem atI_repV {ys : List Vx} {vs : List V} (r : RepVs K W vs ys) {i : Int} {d : Vx} (e : atI ys i = some d) : ∃ v, atI vs i = some v ∧ RepV K W v d := by
  unfold atI at e ⊢
  rw [r.length]
  cases q : ixN ys.length i with
  | none => rw [q] at e; cases e
  | some j =>
    rw [q] at e
    obtain ⟨v, e1, e2⟩ := r.get (show ys[j]? = some d from e)
    exact ⟨v, e1, e2⟩
end
def dIx (a b : Vx) : Mo Vx := fun h => match a, b with
  | .d (.tup ds), .d (.int k) => (match atI ds k with | some x => .ok (.d x) h | none => .stk)
  | .d (.str s), .d (.int k) => (match atI s k with | some c => .ok (.d (.str [c])) h | none => .stk)
  | a, .d (.int k) => (match asL a h with
    | some ys => (match atI ys k with | some y => .ok y h | none => .stk)
    | none => .stk)
  | _, _ => .stk
section
variable {X : Cx} {g : Gp} {Wx : WX} {a b : Expr} {fa fb : DEnv → Mo Vx} {pos : Pos}
theorem atI_mem {α : Type} {xs : List α} {i : Int} {c : α} (e : atI xs i = some c) : c ∈ xs := by
  unfold atI at e
  cases q : ixN xs.length i with
  | none => rw [q] at e; cases e
  | some j => rw [q] at e; exact List.mem_of_getElem? (show xs[j]? = some c from e)
theorem pd_ix (ha : PE X a (LE X.K g Wx fa)) (hb : PE X b (LE X.K g Wx fb)) (hs : PlainIx b) : PE X (.Subscript a b pos) (LE X.K g Wx (eBin dIx fa fb)) := by
  refine (pe_ix ix_seq ha hb hs).imp fun σ H Q p => two_ (fun W H h x y a b Q E hr ra rb p => ?_) p
  unfold dIx at p
  split at p
  · rename_i ds k
    obtain ⟨a1, vs1, rfl, q1, f1, s1⟩ := repTup hr ra
    rw [repInt rb]
    split at p
    · rename_i d e
      obtain ⟨v, e1, e2⟩ := atI_rep s1 e
      exact .inr (.inl ⟨a1, vs1, k, v, rfl, rfl, q1, e1, p.ret hr e2⟩)
    · exact p.elim
  · rename_i s k
    obtain ⟨rfl, o1⟩ := repStr ra
    rw [repInt rb]
    split at p
    · rename_i c e
      refine .inr (.inr ⟨_, k, c, rfl, rfl, by show (toStr s).cps.size ≤ _; simpa using o1.1, e, p.ret hr (.str [c] ⟨by rw [sizeLine_eq]; show 1 ≤ 16777216; decide, fun z hz => ?_⟩)⟩)
      have ez : z = c := by simpa using hz
      rw [ez]
      exact o1.2 c (atI_mem e)
    · exact p.elim
  · rename_i k _ _
    split at p
    · rename_i ys e1
      split at p
      · rename_i y2 e2
        obtain ⟨a1, xs1, rfl, q1, r1⟩ := asL_rep hr ra e1
        rw [repInt rb]
        obtain ⟨v, e3, e4⟩ := atI_repV r1 e2
        exact .inl ⟨a1, xs1, k, v, rfl, rfl, .inl (.inl q1), e3, p.ret hr e4⟩
      · exact p.elim
    · exact p.elim
  · exact p.elim
end

/-! ### slices without a step -/
def cutD {α : Type} (xs : List α) (lo hi : Option Int) : List α := (xs.drop (HT.sIx xs.length 0 lo)).take (HT.sIx xs.length xs.length hi - HT.sIx xs.length 0 lo)
def optInt : Option Vx → Option (Option Int)
  | none => some none
  | some (.d (.int i)) => some (some i)
  | _ => none
def dSl (a : Vx) (lo hi : Option Int) : Mo Vx := fun h => match a with
  | .d (.tup ds) => .ok (.d (.tup (cutD ds lo hi))) h
  | .d (.str s) => .ok (.d (.str (cutD s lo hi))) h
  | .s ns => .ok (.d (.lst ((cutD ns lo hi).map Dt.int))) h
  | a => (match asL a h with
    | some ys => (match plains ys with | some ds => .ok (.d (.lst (cutD ds lo hi))) h | none => .stk)
    | none => .stk)
section
variable {X : Cx} {g : Gp} {Wx : WX} {a : Expr} {lo hi : Option Expr} {fa : DEnv → Mo Vx} {fl fh : DEnv → Mo (Option Int)} {pos p2 : Pos}
/-- a slice's part -/
abbrev LO (K : PySem.W.Frag) (g : Gp) (Wx : WX) (f : DEnv → Mo (Option Int)) : TO := Lf K g (fun _ (a b : Option Int) => a = b) Wx f
def oNone : DEnv → Mo (Option Int) := fun _ => ret none
def oSome (fa : DEnv → Mo Vx) : DEnv → Mo (Option Int) := fun ρ => bnd (fa ρ) fun y h => match y with
  | .d (.int i) => .ok (some i) h
  | _ => .stk
theorem po_imp {e : Option Expr} {t t' : TO} (h : PO X e t) (q : ∀ σ H Q, t' σ H Q → t σ H Q) : PO X e t' := ⟨fun pins s σ H Q I w => h.run pins s σ H Q I (q σ H Q w)⟩
theorem pdo_none : PO X none (LO X.K g Wx oNone) := po_imp po_none fun σ H Q p => by
  obtain ⟨W, ρ, h, hr, er, p⟩ := p
  exact p.ret hr rfl
theorem pdo_some {e : Expr} (ha : PE X e (LE X.K g Wx fa)) : PO X (some e) (LO X.K g Wx (oSome fa)) := po_imp (po_some ha) fun σ H Q p => by
  refine Lf.imp (Lf.bnd (R := RV X.K) p) fun v H1 ⟨W1, ρ, y, h1, hr1, er, rr, p1⟩ => ?_
  split at p1
  · rw [repInt rr]; exact ⟨_, rfl, p1.ret hr1 rfl⟩
  · exact p1.elim
def eSl (fa : DEnv → Mo Vx) (fl fh : DEnv → Mo (Option Int)) : DEnv → Mo Vx := fun ρ => bnd (fa ρ) fun x => bnd (fl ρ) fun l => bnd (fh ρ) fun u => dSl x l u
theorem RepDs.cut {K : PySem.W.Frag} {F : Hp} {vs : List V} {ds : List Dt} (h : RepDs K F vs ds) (lo hi : Option Int) : RepDs K F (cutV vs lo hi) (cutD ds lo hi) := by
  unfold cutV cutD
  rw [h.length]
  exact (h.drop _).take _
theorem cutD_len {α : Type} (xs : List α) (lo hi : Option Int) : (cutD xs lo hi).length ≤ xs.length := by
  unfold cutD
  rw [List.length_take, List.length_drop]
  omega
theorem cutD_mem {α : Type} {xs : List α} {lo hi : Option Int} {c : α} (h : c ∈ cutD xs lo hi) : c ∈ xs := List.mem_of_mem_drop (List.mem_of_mem_take h)
theorem okS_cut {s : List Nat} (ok : okS s) (lo hi : Option Int) : okS (cutD s lo hi) := ⟨Nat.le_trans (cutD_len _ _ _) ok.1, fun c hc => ok.2 c (cutD_mem hc)⟩
theorem cutD_whole {α : Type} {xs : List α} {lo hi : Option Int} (h : HT.sIx xs.length 0 lo = 0 ∧ HT.sIx xs.length xs.length hi = xs.length) : cutD xs lo hi = xs := by
  unfold cutD
  rw [h.1, h.2]
  simp
theorem cut_ints (ns : List Int) (lo hi : Option Int) : cutV (ns.map V.int) lo hi = (cutD ns lo hi).map V.int := by
  unfold cutV cutD
  rw [List.length_map, List.map_take, List.map_drop]
theorem RepDs.ofInts {K : PySem.W.Frag} {F : Hp} : ∀ ns : List Int, RepDs K F (ns.map V.int) (ns.map Dt.int)
  | [] => .nil
  | n :: r => .cons (.int n) (RepDs.ofInts r)
theorem sl_rep {W : Wd} {H : Hp} {h : DH} {x : V} {y : Vx} {l u : Option Int} {Q : VK} {E : XK} (hr : HRel X.K g.T W H h) (ra : RepV X.K W x y) (p : Post X.K g (RV X.K) W H (dSl y l u h) Q E) :
    rSlL X.K x l u H Q ∨ rSlA X.K x l u H Q ∨ rSlS x l u H Q := by
  unfold dSl at p
  split at p
  · rename_i ds
    obtain ⟨a1, vs1, rfl, q1, f1, s1⟩ := repTup hr ra
    refine .inr (.inl ⟨a1, vs1, rfl, q1, fun e => ?_, fun _ => p.newT hr (s1.cut l u)⟩)
    rw [s1.length] at e
    rw [cutD_whole e] at p
    exact p.ret hr (.tup f1 s1)
  · rename_i s
    obtain ⟨rfl, o1⟩ := repStr ra
    refine .inr (.inr ⟨_, rfl, by show (toStr s).cps.size ≤ _; simpa using o1.1, ?_⟩)
    have e : cutS (toStr s) l u = toStr (cutD s l u) := by
      unfold cutS cutD
      have el : (toStr s).length = s.length := by show (toStr s).cps.size = _; simp
      rw [el]
    rw [e]
    exact p.ret hr (.str _ (okS_cut o1 l u))
  · rename_i ns
    obtain ⟨a1, rfl, q1⟩ := ra
    refine .inl ⟨a1, _, rfl, SqL.le q1 hr.fro, ?_⟩
    rw [cut_ints]
    exact p.newL hr (RepDs.ofInts _)
  · split at p
    · rename_i ys e1
      split at p
      · rename_i ds e2
        obtain ⟨a1, xs1, rfl, q1, r1⟩ := asL_rep hr ra e1
        exact .inl ⟨a1, xs1, rfl, .inl (.inl q1), p.newL hr ((r1.plain e2).cut l u)⟩
      · exact p.elim
    · exact p.elim
theorem pd_sl (ha : PE X a (LE X.K g Wx fa)) (hl : PO X lo (LO X.K g Wx fl)) (hh : PO X hi (LO X.K g Wx fh)) : PE X (.Subscript a (.Slice lo hi none p2) pos) (LE X.K g Wx (eSl fa fl fh)) := by
  refine (pe_slice (sl_list.or (sl_tupA.or sl_str)) ha hl hh).imp fun σ H Q p => ?_
  refine Lf.imp (Lf.bnd (R := RV X.K) p) fun v H1 ⟨W1, ρ, y, h1, hr1, er, rr, p1⟩ => ?_
  refine ⟨W1, ρ, h1, hr1, er, (Post.bnd (R := fun _ (a b : Option Int) => a = b) p1).imp (fun l H2 ⟨W2, y2, h2, ex2, hr2, rr2, p2⟩ => ?_) fun _ _ _ q => q⟩
  refine ⟨W2, ρ, h2, hr2, er.le ex2.le, (Post.bnd (R := fun _ (a b : Option Int) => a = b) p2).imp (fun u H3 ⟨W3, y3, h3, ex3, hr3, rr3, p3⟩ => ?_) fun _ _ _ q => q⟩
  subst rr2 rr3
  exact sl_rep hr3 (RepV.le (ex2.trans ex3).le rr) p3
end

/-! ### built-in functions -/
def bLen : List Vx → Mo Vx := fun as h => match as with
  | [.d (.str s)] => .ok (.d (.int s.length)) h
  | [.d (.tup ds)] => .ok (.d (.int ds.length)) h
  | [a] => (match asL a h with | some ys => .ok (.d (.int ys.length)) h | none => .stk)
  | _ => .stk
/-- the signs of an int -/
def intL (i : Int) : List Nat := if 0 ≤ i then TL.numL i.toNat else 45 :: TL.numL (-i).toNat
def bInt : List Vx → Mo Vx := fun as h => match as with
  | [.d (.int i)] => .ok (.d (.int i)) h
  | [.d (.bl b)] => .ok (.d (.int (if b then 1 else 0))) h
  | [.d (.str s)] => (match PySem.intText? (toStr s) with | some n => if s.length ≤ 640 then .ok (.d (.int n)) h else .stk | none => .stk)
  | _ => .stk
def bStr : List Vx → Mo Vx := fun as h => match as with
  | [.d (.int i)] => if i.natAbs.log2 < 1920 then .ok (.d (.str (intL i))) h else .stk
  | _ => .stk
def bTuple : List Vx → Mo Vx := fun as h => match as with
  | [.d (.tup ds)] => .ok (.d (.tup ds)) h
  | [a] => (match asL a h with | some ys => (match plains ys with | some ds => .ok (.d (.tup ds)) h | none => .stk) | none => .stk)
  | _ => .stk
def bList : List Vx → Mo Vx := fun as h => match as with
  | [.d (.tup ds)] => .ok (.d (.lst ds)) h
  | [a] => (match asL a h with | some ys => (match plains ys with | some ds => .ok (.d (.lst ds)) h | none => .stk) | none => .stk)
  | _ => .stk
def blsOf : List Dt → Option (List Bool)
  | [] => some []
  | .bl i :: r => (match blsOf r with | some ns => some (i :: ns) | none => none)
  | _ :: _ => none
def plainL (a : Vx) (h : DH) : Option (List Dt) := match asL a h with | some ys => plains ys | none => none
def bSum : List Vx → Mo Vx := fun as h => match as with
  | [a] => (match plainL a h with | some ds => (match intsOf ds with | some ns => .ok (.d (.int ns.sum)) h | none => .stk) | none => .stk)
  | _ => .stk
def bAll : List Vx → Mo Vx := fun as h => match as with
  | [a] => (match plainL a h with | some ds => (match blsOf ds with | some ns => .ok (.d (.bl (ns.all id))) h | none => .stk) | none => .stk)
  | _ => .stk
def bAny : List Vx → Mo Vx := fun as h => match as with
  | [a] => (match plainL a h with | some ds => (match blsOf ds with | some ns => .ok (.d (.bl (ns.any id))) h | none => .stk) | none => .stk)
  | _ => .stk
def bAbs : List Vx → Mo Vx := fun as h => match as with
  | [.d (.int i)] => .ok (.d (.int (if i < 0 then -i else i))) h
  | _ => .stk
def bGcd : List Vx → Mo Vx := fun as h => match as with
  | [.d (.int i), .d (.int j)] => .ok (.d (.int (Nat.gcd i.natAbs j.natAbs : Nat))) h
  | _ => .stk
def maxI : List Int → Option Int
  | [] => none
  | n :: r => some (r.foldl (fun a b => if a < b then b else a) n)
def minI : List Int → Option Int
  | [] => none
  | n :: r => some (r.foldl (fun a b => if b < a then b else a) n)
def bMax : List Vx → Mo Vx := fun as h => match as with
  | [.d (.int i), .d (.int j)] => .ok (.d (.int (if j > i then j else i))) h
  | [a] => (match plainL a h with | some ds => (match intsOf ds with | some ns => (match maxI ns with | some m => .ok (.d (.int m)) h | none => .stk) | none => .stk) | none => .stk)
  | _ => .stk
def bMin : List Vx → Mo Vx := fun as h => match as with
  | [.d (.int i), .d (.int j)] => .ok (.d (.int (if j < i then j else i))) h
  | [a] => (match plainL a h with | some ds => (match intsOf ds with | some ns => (match minI ns with | some m => .ok (.d (.int m)) h | none => .stk) | none => .stk) | none => .stk)
  | _ => .stk
section
variable {K : PySem.W.Frag} {W : Wd}
theorem RepVs.one {xs : List V} {a : Vx} (r : RepVs K W xs [a]) : ∃ x, xs = [x] ∧ RepV K W x a := by
  cases r with
  | cons h t => cases t; exact ⟨_, rfl, h⟩
theorem RepVs.two {xs : List V} {a b : Vx} (r : RepVs K W xs [a, b]) : ∃ x y, xs = [x, y] ∧ RepV K W x a ∧ RepV K W y b := by
  cases r with
  | cons h t => cases t with | cons h2 t => cases t; exact ⟨_, _, rfl, h, h2⟩
theorem blsOf_eq : ∀ {ds : List Dt} {ns : List Bool}, blsOf ds = some ns → ds = ns.map Dt.bl
  | [], ns, e => by cases e; rfl
  | .bl i :: r, ns, e => by
    unfold blsOf at e
    split at e
    · rename_i ms hm; cases e; rw [blsOf_eq hm]; rfl
    · cases e
  | .non :: _, _, e => by cases e
  | .int _ :: _, _, e => by cases e
  | .str _ :: _, _, e => by cases e
  | .tup _ :: _, _, e => by cases e
  | .lst _ :: _, _, e => by cases e
theorem RepDs.bls {F : Hp} : ∀ {ns : List Bool} {vs : List V}, RepDs K F vs (ns.map Dt.bl) → vs = ns.map V.bl
  | [], vs, h => by cases h; rfl
  | n :: r, vs, h => by
    cases h with
    | cons h1 h2 => cases h1; rw [RepDs.bls h2]; rfl
theorem plainL_rep {g : Gp} {H : Hp} {h : DH} {x : V} {a : Vx} (hr : HRel K g.T W H h) (r : RepV K W x a) {ds : List Dt} (e : plainL a h = some ds) : ∃ p vs, x = .ref p ∧ H p = some (.lst vs) ∧ RepDs K W.F vs ds := by
  unfold plainL at e
  split at e
  · rename_i ys hy
    obtain ⟨p, vs, rfl, h1, h2⟩ := asL_rep hr r hy
    exact ⟨p, vs, rfl, h1, h2.plain e⟩
  · cases e
end
theorem intL_str (i : Int) : (toString i : Str) = toStr (intL i) := by
  refine TL.ext_tl ?_
  show TL.tl (Str.ofString (toString i)) = _
  unfold intL
  cases i with
  | ofNat n => exact TL.tl_num n
  | negSucc n =>
    have e1 : ¬ (0 : Int) ≤ Int.negSucc n := by omega
    rw [if_neg e1]
    have e2 : (-Int.negSucc n).toNat = n + 1 := by omega
    rw [e2]
    have e3 : toString (Int.negSucc n) = "-" ++ toString (n + 1) := rfl
    have e4 := TL.tl_num (n + 1)
    have e5 : toString (((n + 1 : Nat)) : Int) = toString (n + 1) := rfl
    rw [e5] at e4
    rw [e3, TL.tl_ofString, String.toList_append, List.map_append, ← TL.tl_ofString (toString (n + 1)), e4]
    rfl
theorem intL_dig (i : Int) : ∀ c ∈ intL i, c = 45 ∨ (48 ≤ c ∧ c ≤ 57) := by
  intro c hc
  unfold intL at hc
  split at hc
  · have := TL.numL_digits i.toNat c hc
    exact .inr this
  · rcases List.mem_cons.mp hc with h | h
    · exact .inl h
    · exact .inr (TL.numL_digits _ c h)
theorem intL_ok (i : Int) (h : i.natAbs.log2 < 1920) : okS (intL i) := by
  refine ⟨?_, fun c hc => ?_⟩
  · have e1 := int_text_fits h
    rw [intL_str] at e1
    have e2 : (toStr (intL i)).length = (intL i).length := by show (toStr _).cps.size = _; simp
    rw [e2] at e1
    exact e1
  · rcases intL_dig i c hc with h | h <;> omega
theorem maxI_ok {ns : List Int} {m : Int} (e : maxI ns = some m) : m ∈ ns ∧ ∀ y ∈ ns, y ≤ m := by
  cases ns with
  | nil => cases e
  | cons n r =>
    cases e
    have gen : ∀ (r : List Int) (n : Int), (r.foldl (fun a b => if a < b then b else a) n) ∈ n :: r ∧ ∀ y ∈ n :: r, y ≤ r.foldl (fun a b => if a < b then b else a) n := by
      intro r
      induction r with
      | nil => intro n; simp
      | cons z r ih =>
        intro n
        rw [List.foldl_cons]
        obtain ⟨h1, h2⟩ := ih (if n < z then z else n)
        refine ⟨?_, fun y hy => ?_⟩
        · rcases List.mem_cons.mp h1 with h | h
          · rw [h]; split <;> simp
          · exact List.mem_cons_of_mem _ (List.mem_cons_of_mem _ h)
        · have hb := h2 _ List.mem_cons_self
          rcases List.mem_cons.mp hy with rfl | hy
          · exact Int.le_trans (by split <;> omega) hb
          · rcases List.mem_cons.mp hy with rfl | hy
            · exact Int.le_trans (by split <;> omega) hb
            · exact h2 y (List.mem_cons_of_mem _ hy)
    exact gen r n
theorem minI_ok {ns : List Int} {m : Int} (e : minI ns = some m) : m ∈ ns ∧ ∀ y ∈ ns, m ≤ y := by
  cases ns with
  | nil => cases e
  | cons n r =>
    cases e
    have gen : ∀ (r : List Int) (n : Int), (r.foldl (fun a b => if b < a then b else a) n) ∈ n :: r ∧ ∀ y ∈ n :: r, r.foldl (fun a b => if b < a then b else a) n ≤ y := by
      intro r
      induction r with
      | nil => intro n; simp
      | cons z r ih =>
        intro n
        rw [List.foldl_cons]
        obtain ⟨h1, h2⟩ := ih (if z < n then z else n)
        refine ⟨?_, fun y hy => ?_⟩
        · rcases List.mem_cons.mp h1 with h | h
          · rw [h]; split <;> simp
          · exact List.mem_cons_of_mem _ (List.mem_cons_of_mem _ h)
        · have hb := h2 _ List.mem_cons_self
          rcases List.mem_cons.mp hy with rfl | hy
          · exact Int.le_trans hb (by split <;> omega)
          · rcases List.mem_cons.mp hy with rfl | hy
            · exact Int.le_trans hb (by split <;> omega)
            · exact h2 y (List.mem_cons_of_mem _ hy)
    exact gen r n
section
variable {X : Cx} {g : Gp}
theorem cd_len : CallD X g (.builtin "len") bLen := by
  refine ⟨_, call_len, fun W H h xs as Q E hr ra p => ?_⟩
  unfold bLen at p
  split at p
  · rename_i s
    obtain ⟨x, rfl, r1⟩ := ra.one
    obtain ⟨rfl, o⟩ := repStr r1
    have el : (toStr s).length = s.length := by show (toStr s).cps.size = _; simp
    refine ⟨_, s.length, rfl, ⟨by rw [el]; exact o.1, el.symm⟩, p.ret hr (.int _)⟩
  · rename_i ds
    obtain ⟨x, rfl, r1⟩ := ra.one
    obtain ⟨a1, vs1, rfl, q1, f1, s1⟩ := repTup hr r1
    exact ⟨_, ds.length, rfl, .inr ⟨vs1, q1, s1.length.symm⟩, p.ret hr (.int _)⟩
  · rename_i a _ _
    obtain ⟨x, rfl, r1⟩ := ra.one
    split at p
    · rename_i ys e
      obtain ⟨a1, xs1, rfl, q1, r2⟩ := asL_rep hr r1 e
      exact ⟨_, ys.length, rfl, .inl ⟨xs1, .inl (.inl q1), r2.length.symm⟩, p.ret hr (.int _)⟩
    · exact p.elim
  · exact p.elim
theorem cd_int : CallD X g (.type "int") bInt := by
  refine ⟨_, CallR.or call_int1 call_int_str, fun W H h xs as Q E hr ra p => ?_⟩
  unfold bInt at p
  split at p
  · obtain ⟨x, rfl, r1⟩ := ra.one
    rw [repInt r1]
    exact .inl (.inl ⟨_, rfl, p.ret hr (.int _)⟩)
  · obtain ⟨x, rfl, r1⟩ := ra.one
    rw [repBl r1]
    exact .inl (.inr ⟨_, rfl, p.ret hr (.int _)⟩)
  · rename_i s
    obtain ⟨x, rfl, r1⟩ := ra.one
    obtain ⟨rfl, o⟩ := repStr r1
    split at p
    · rename_i n e
      split at p
      · rename_i hl
        have el : (toStr s).length = s.length := by show (toStr s).cps.size = _; simp
        exact .inr ⟨_, n, rfl, e, by rw [el]; exact hl, p.ret hr (.int _)⟩
      · exact p.elim
    · exact p.elim
  · exact p.elim
theorem cd_str : CallD X g (.type "str") bStr := by
  refine ⟨_, call_str_int, fun W H h xs as Q E hr ra p => ?_⟩
  unfold bStr at p
  split at p
  · rename_i i
    obtain ⟨x, rfl, r1⟩ := ra.one
    rw [repInt r1]
    split at p
    · rename_i hl
      refine ⟨i, rfl, hl, ?_⟩
      rw [intL_str]
      exact p.ret hr (.str _ (intL_ok i hl))
    · exact p.elim
  · exact p.elim
theorem cd_tuple : CallD X g (.type "tuple") bTuple := by
  refine ⟨_, call_tuple_of, fun W H h xs as Q E hr ra p => ?_⟩
  unfold bTuple at p
  split at p
  · obtain ⟨x, rfl, r1⟩ := ra.one
    obtain ⟨a1, vs1, rfl, q1, f1, s1⟩ := repTup hr r1
    exact ⟨a1, vs1, rfl, .inr ⟨q1, p.ret hr (.tup f1 s1)⟩⟩
  · obtain ⟨x, rfl, r1⟩ := ra.one
    split at p
    · rename_i ys e
      split at p
      · rename_i ds e2
        obtain ⟨a1, xs1, rfl, q1, r2⟩ := asL_rep hr r1 e
        exact ⟨a1, xs1, rfl, .inl ⟨.inl (.inl q1), p.newT hr (r2.plain e2)⟩⟩
      · exact p.elim
    · exact p.elim
  · exact p.elim
theorem cd_list : CallD X g (.type "list") bList := by
  refine ⟨_, call_list_of, fun W H h xs as Q E hr ra p => ?_⟩
  unfold bList at p
  split at p
  · obtain ⟨x, rfl, r1⟩ := ra.one
    obtain ⟨a1, vs1, rfl, q1, f1, s1⟩ := repTup hr r1
    exact ⟨a1, vs1, rfl, .inr q1, p.newL hr s1⟩
  · obtain ⟨x, rfl, r1⟩ := ra.one
    split at p
    · rename_i ys e
      split at p
      · rename_i ds e2
        obtain ⟨a1, xs1, rfl, q1, r2⟩ := asL_rep hr r1 e
        exact ⟨a1, xs1, rfl, .inl (.inl (.inl q1)), p.newL hr (r2.plain e2)⟩
      · exact p.elim
    · exact p.elim
  · exact p.elim
theorem cd_sum (hc : X.calm = true) : CallD X g (.builtin "sum") bSum := by
  refine ⟨_, cr_sum hc, fun W H h xs as Q E hr ra p => ?_⟩
  unfold bSum at p
  split at p
  · obtain ⟨x, rfl, r1⟩ := ra.one
    split at p
    · rename_i ds e
      split at p
      · rename_i ns e2
        obtain ⟨a1, xs1, rfl, q1, r2⟩ := plainL_rep hr r1 e
        rw [intsOf_eq e2] at r2
        have z := RepDs.ints r2
        subst z
        exact ⟨a1, ns, rfl, .inl (.inl q1), p.ret hr (.int _)⟩
      · exact p.elim
    · exact p.elim
  · exact p.elim
theorem cd_all (hc : X.calm = true) : CallD X g (.builtin "all") bAll := by
  refine ⟨_, cr_all hc, fun W H h xs as Q E hr ra p => ?_⟩
  unfold bAll at p
  split at p
  · obtain ⟨x, rfl, r1⟩ := ra.one
    split at p
    · rename_i ds e
      split at p
      · rename_i ns e2
        obtain ⟨a1, xs1, rfl, q1, r2⟩ := plainL_rep hr r1 e
        rw [blsOf_eq e2] at r2
        have z := RepDs.bls r2
        subst z
        exact ⟨a1, ns, rfl, .inl (.inl q1), p.ret hr (.bl _)⟩
      · exact p.elim
    · exact p.elim
  · exact p.elim
theorem cd_any (hc : X.calm = true) : CallD X g (.builtin "any") bAny := by
  refine ⟨_, cr_any hc, fun W H h xs as Q E hr ra p => ?_⟩
  unfold bAny at p
  split at p
  · obtain ⟨x, rfl, r1⟩ := ra.one
    split at p
    · rename_i ds e
      split at p
      · rename_i ns e2
        obtain ⟨a1, xs1, rfl, q1, r2⟩ := plainL_rep hr r1 e
        rw [blsOf_eq e2] at r2
        have z := RepDs.bls r2
        subst z
        exact ⟨a1, ns, rfl, .inl (.inl q1), p.ret hr (.bl _)⟩
      · exact p.elim
    · exact p.elim
  · exact p.elim
theorem cd_abs : CallD X g (.builtin "abs") bAbs := by
  refine ⟨_, call_abs, fun W H h xs as Q E hr ra p => ?_⟩
  unfold bAbs at p
  split at p
  · obtain ⟨x, rfl, r1⟩ := ra.one
    rw [repInt r1]
    exact ⟨_, rfl, p.ret hr (.int _)⟩
  · exact p.elim
theorem cd_gcd : CallD X g (.builtin "math.gcd") bGcd := by
  refine ⟨_, cr_gcd, fun W H h xs as Q E hr ra p => ?_⟩
  unfold bGcd at p
  split at p
  · obtain ⟨x, y, rfl, r1, r2⟩ := ra.two
    rw [repInt r1, repInt r2]
    exact ⟨_, _, rfl, p.ret hr (.int _)⟩
  · exact p.elim
theorem cd_max (hc : X.calm = true) : CallD X g (.builtin "max") bMax := by
  refine ⟨_, CallR.or (call_max2 hc) (cr_max hc), fun W H h xs as Q E hr ra p => ?_⟩
  unfold bMax at p
  split at p
  · obtain ⟨x, y, rfl, r1, r2⟩ := ra.two
    rw [repInt r1, repInt r2]
    exact .inl ⟨_, _, rfl, p.ret hr (.int _)⟩
  · obtain ⟨x, rfl, r1⟩ := ra.one
    split at p
    · rename_i ds e
      split at p
      · rename_i ns e2
        split at p
        · rename_i m e3
          obtain ⟨a1, xs1, rfl, q1, r2⟩ := plainL_rep hr r1 e
          rw [intsOf_eq e2] at r2
          have z := RepDs.ints r2
          subst z
          obtain ⟨h1, h2⟩ := maxI_ok e3
          refine .inr ⟨a1, ns, rfl, .inl (.inl q1), List.length_pos_of_mem h1, fun m' hm hle => ?_⟩
          have : m' = m := Int.le_antisymm (h2 m' hm) (hle m h1)
          subst this
          exact p.ret hr (.int _)
        · exact p.elim
      · exact p.elim
    · exact p.elim
  · exact p.elim
theorem cd_min (hc : X.calm = true) : CallD X g (.builtin "min") bMin := by
  refine ⟨_, CallR.or (call_min2 hc) (cr_min hc), fun W H h xs as Q E hr ra p => ?_⟩
  unfold bMin at p
  split at p
  · obtain ⟨x, y, rfl, r1, r2⟩ := ra.two
    rw [repInt r1, repInt r2]
    exact .inl ⟨_, _, rfl, p.ret hr (.int _)⟩
  · obtain ⟨x, rfl, r1⟩ := ra.one
    split at p
    · rename_i ds e
      split at p
      · rename_i ns e2
        split at p
        · rename_i m e3
          obtain ⟨a1, xs1, rfl, q1, r2⟩ := plainL_rep hr r1 e
          rw [intsOf_eq e2] at r2
          have z := RepDs.ints r2
          subst z
          obtain ⟨h1, h2⟩ := minI_ok e3
          refine .inr ⟨a1, ns, rfl, .inl (.inl q1), List.length_pos_of_mem h1, fun m' hm hle => ?_⟩
          have : m' = m := Int.le_antisymm (hle m h1) (h2 m' hm)
          subst this
          exact p.ret hr (.int _)
        · exact p.elim
      · exact p.elim
    · exact p.elim
  · exact p.elim
end
end Dn
end
section
set_option Elab.async false
set_option linter.all false
set_option maxRecDepth 100000
set_option maxHeartbeats 2000000
/-! Dn6: the plain heap's lists, methods, displays, arguments, f-strings. -/
namespace Dn
open PySem PySem.Spec PyProof.Rows L2

section
variable {K : PySem.W.Frag} {T : Tbs} {g : Gp} {W : Wd} {H : Hp} {h : DH}
theorem TabsN_upd {a : Addr} {xs xs' : List V} (t : NdefX.TabsN T H) (e : H a = some (.lst xs)) : NdefX.TabsN T (upd H a (.lst xs')) := fun p hp => by
  obtain ⟨ps, h1, h2, h3⟩ := t p hp
  have n1 : p.1 ≠ a := ne_of h1 e (fun z => by cases z)
  refine ⟨ps, by rw [upd_ne n1]; exact h1, h2, fun pos cv hc => ?_⟩
  obtain ⟨c, e1, e2⟩ := h3 pos cv hc
  refine ⟨c, e1, ?_⟩
  have n2 : c ≠ a := ne_of e2 e (fun z => by unfold LamX.CodeO at z; cases z)
  rw [upd_ne n2]; exact e2
theorem HRel.alloc (r : HRel K T W H h) {p : Addr} {vs : List V} {ys : List Vx} (np : H p = none) (rv : RepVs K W vs ys) :
    HRel K T ⟨W.F, W.θ ++ [p]⟩ (upd H p (.lst vs)) (h ++ [.lst ys]) ∧ Ext W H ⟨W.F, W.θ ++ [p]⟩ (upd H p (.lst vs)) := by
  have fp : W.F p = none := by
    cases q : W.F p with
    | none => rfl
    | some u => rw [r.fro _ _ q] at np; cases np
  have leH : HLe H (upd H p (.lst vs)) := fun a u e => by rw [upd_ne (ne_of_none e np)]; exact e
  have hwl : WLe W ⟨W.F, W.θ ++ [p]⟩ := ⟨HLe.refl _, [p], rfl⟩
  have old : ∀ (k : Nat) (a : Addr), (W.θ ++ [p])[k]? = some a → (k < W.θ.length ∧ W.θ[k]? = some a) ∨ (k = W.θ.length ∧ a = p) := fun k a e => by
    by_cases q : k < W.θ.length
    · rw [List.getElem?_append_left q] at e; exact .inl ⟨q, e⟩
    · rw [List.getElem?_append_right (by omega)] at e
      have hk : k - W.θ.length = 0 := by
        have := (List.getElem?_eq_some_iff.mp e).1
        simp at this; omega
      rw [hk] at e
      cases e
      exact .inr ⟨by omega, rfl⟩
  have at_ : ∀ (k : Nat) (o : Ob), k < W.θ.length → (h ++ [Ob.lst ys])[k]? = some o → h[k]? = some o := fun k o q e => by
    rw [List.getElem?_append_left (by rw [← r.len]; exact q)] at e; exact e
  refine ⟨⟨fun a u e => leH a u (r.fro a u e), r.ntb, by simp [r.len], fun k a o e1 e2 => ?_, fun k a o e1 e2 nd => ?_, ?_, r.tab.ext leH⟩, HLe.refl _, ⟨[p], rfl, by simpa using np⟩, fun a u e _ _ => leH a u e, fun a e => ?_, fun a u e => .inl e⟩
  · rcases old k a e1 with ⟨q, e⟩ | ⟨rfl, rfl⟩
    · have hh := r.obj k a o e (at_ k o q e2)
      cases o with
      | lst zs => obtain ⟨xs, h1, h2⟩ := hh; exact ⟨xs, leH _ _ h1, h2.le hwl⟩
      | dead => obtain ⟨xs, h1⟩ := hh; exact ⟨xs, leH _ _ h1⟩
    · rw [r.len, List.getElem?_append_right (Nat.le_refl _), Nat.sub_self] at e2
      cases e2
      exact ⟨vs, upd_same, rv.le hwl⟩
  · rcases old k a e1 with ⟨q, e⟩ | ⟨rfl, rfl⟩
    · exact r.liv k a o e (at_ k o q e2) nd
    · exact fp
  · refine List.nodup_append.mpr ⟨r.nd, by simp, fun a ha b hb => ?_⟩
    have eb : b = p := by simpa using hb
    subst eb
    rintro rfl
    obtain ⟨k, hk⟩ := List.mem_iff_getElem?.mp ha
    have hlt := (List.getElem?_eq_some_iff.mp hk).1
    obtain ⟨o, ho⟩ : ∃ o, h[k]? = some o := ⟨h[k]'(by rw [← r.len]; exact hlt), by simp⟩
    have hh := r.obj k a o hk ho
    cases o with
    | lst zs => obtain ⟨xs, h1, _⟩ := hh; rw [np] at h1; cases h1
    | dead => obtain ⟨xs, h1⟩ := hh; rw [np] at h1; cases h1
  · by_cases q : a = p
    · subst q; rw [upd_same] at e; cases e
    · rw [upd_ne q] at e; exact e
theorem HRel.put (r : HRel K T W H h) {k : Nat} {a : Addr} {xs xs' : List V} {ys ys' : List Vx} (ha : W.θ[k]? = some a) (hk : h[k]? = some (.lst ys)) (hx : H a = some (.lst xs)) (rv : RepVs K W xs' ys') :
    HRel K T W (upd H a (.lst xs')) (h.set k (.lst ys')) ∧ Ext W H W (upd H a (.lst xs')) := by
  have fa : W.F a = none := r.liv k a _ ha hk (fun z => by cases z)
  have inj : ∀ (j : Nat) (b : Addr), W.θ[j]? = some b → j ≠ k → b ≠ a := fun j b e n z => by
    subst z
    obtain ⟨h1, e1⟩ := List.getElem?_eq_some_iff.mp e
    obtain ⟨h2, e2⟩ := List.getElem?_eq_some_iff.mp ha
    exact n ((List.getElem_inj r.nd).mp (e1.trans e2.symm))
  refine ⟨⟨fun b u e => ?_, r.ntb, by simp [r.len], fun j b o e1 e2 => ?_, fun j b o e1 e2 nd => ?_, r.nd, TabsN_upd r.tab hx⟩, HLe.refl _, ⟨[], by simp, by simp⟩, fun b u e n _ => ?_, fun b e => ?_, fun b u e => .inl e⟩
  · have nb : b ≠ a := fun z => by rw [z, fa] at e; cases e
    rw [upd_ne nb]; exact r.fro b u e
  · by_cases q : j = k
    · subst q
      rw [ha] at e1; cases e1
      rw [List.getElem?_set_self (by rw [← r.len]; exact (List.getElem?_eq_some_iff.mp ha).1)] at e2
      cases e2
      exact ⟨xs', upd_same, rv⟩
    · rw [List.getElem?_set_ne (Ne.symm q)] at e2
      have nb := inj j b e1 q
      have hh := r.obj j b o e1 e2
      cases o with
      | lst zs => obtain ⟨ws, h1, h2⟩ := hh; exact ⟨ws, by rw [upd_ne nb]; exact h1, h2⟩
      | dead => obtain ⟨ws, h1⟩ := hh; exact ⟨ws, by rw [upd_ne nb]; exact h1⟩
  · by_cases q : j = k
    · subst q; rw [ha] at e1; cases e1; exact fa
    · rw [List.getElem?_set_ne (Ne.symm q)] at e2
      exact r.liv j b o e1 e2 nd
  · have nb : b ≠ a := fun z => n (z ▸ List.mem_of_getElem? ha)
    rw [upd_ne nb]; exact e
  · by_cases q : b = a
    · subst q; rw [upd_same] at e; cases e
    · rw [upd_ne q] at e; exact e
end

def strsOf : List Dt → Option (List (List Nat))
  | [] => some []
  | .str s :: r => (match strsOf r with | some ns => some (s :: ns) | none => none)
  | _ :: _ => none
theorem strsOf_eq : ∀ {ds : List Dt} {ns : List (List Nat)}, strsOf ds = some ns → ds = ns.map Dt.str
  | [], ns, e => by cases e; rfl
  | .str i :: r, ns, e => by
    unfold strsOf at e
    split at e
    · rename_i ms hm; cases e; rw [strsOf_eq hm]; rfl
    · cases e
  | .non :: _, _, e => by cases e
  | .int _ :: _, _, e => by cases e
  | .bl _ :: _, _, e => by cases e
  | .tup _ :: _, _, e => by cases e
  | .lst _ :: _, _, e => by cases e
/-! ### methods -/
def MtD (X : Cx) (g : Gp) (id : String) (dop : Vx → List Vx → Mo Vx) : Prop :=
  ∃ r : V → List V → Hp → VK → Prop, MtR X id r ∧ ∀ (W : Wd) (H : Hp) (h : DH) (x : V) (xs : List V) (a : Vx) (as : List Vx) (Q : VK) (E : XK), HRel X.K g.T W H h → RepV X.K W x a → RepVs X.K W xs as → Post X.K g (RV X.K) W H (dop a as h) Q E → r x xs H Q
inductive Ty where
  | str | list
def Ty.nm : Ty → String
  | .str => "str"
  | .list => "list"
def tyD : Ty → Vx → DH → Bool
  | .str, .d (.str _), _ => true
  | .list, a, h => (asL a h).isSome
  | _, _, _ => false
def aNil : DEnv → Mo (List Vx) := fun _ => ret []
def aCons (fa : DEnv → Mo Vx) (fr : DEnv → Mo (List Vx)) : DEnv → Mo (List Vx) := fun ρ => bnd (fa ρ) fun x => bnd (fr ρ) fun r => ret (x :: r)
def eMt (T : Ty) (dop : Vx → List Vx → Mo Vx) (fo : DEnv → Mo Vx) (fa : DEnv → Mo (List Vx)) : DEnv → Mo Vx := fun ρ => bnd (fo ρ) fun o h => if tyD T o h = true then bnd (fa ρ) (fun as => dop o as) h else .stk
def eCall (dop : List Vx → Mo Vx) (fa : DEnv → Mo (List Vx)) : DEnv → Mo Vx := fun ρ => bnd (fa ρ) dop
def eTup (fa : DEnv → Mo (List Vx)) : DEnv → Mo Vx := fun ρ => bnd (fa ρ) fun as h => match plains as with
  | some ds => if ds.length ≤ 16777216 then .ok (.d (.tup ds)) h else .stk
  | none => .stk
def eLst (fa : DEnv → Mo (List Vx)) : DEnv → Mo Vx := fun ρ => bnd (fa ρ) fun as h => match plains as with
  | some ds => if ds.length ≤ 16777216 then .ok (.d (.lst ds)) h else .stk
  | none => .stk
def eNew (fa : DEnv → Mo (List Vx)) : DEnv → Mo Vx := fun ρ => bnd (fa ρ) fun as h => if as.length ≤ 16777216 then .ok (.r h.length) (h ++ [.lst as]) else .stk
section
variable {X : Cx} {g : Gp} {Wx : WX} {a b : Expr} {es : List Expr} {fa fb : DEnv → Mo Vx} {fs : DEnv → Mo (List Vx)} {pos : Pos}
abbrev RVs (K : PySem.W.Frag) : Wd → List V → List Vx → Prop := fun W v y => RepVs K W v y
theorem pda_nil : PA X [] (LA X.K g Wx aNil) := pa_nil.imp fun σ H Q p => by
  obtain ⟨W, ρ, h, hr, er, p⟩ := p
  exact p.ret hr RepVs.nil
theorem pda_cons (ha : PE X a (LE X.K g Wx fa)) (hr : PA X es (LA X.K g Wx fs)) (hs : starEach (a :: es) X.env = (false, eval a X.env) :: starEach es X.env) : PA X (a :: es) (LA X.K g Wx (aCons fa fs)) := by
  refine (pa_cons ha hr hs).imp fun σ H Q p => ?_
  refine Lf.imp (Lf.bnd (R := RV X.K) p) fun v H1 ⟨W1, ρ, y, h1, hr1, er, rr, p1⟩ => ?_
  refine ⟨W1, ρ, h1, hr1, er, (Post.bnd (R := RVs X.K) p1).imp (fun vs H2 ⟨W2, y2, h2, ex2, hr2, rr2, p2⟩ => ?_) fun _ _ _ q => q⟩
  exact p2.ret hr2 (.cons (RepV.le ex2.le rr) rr2)
theorem pd_tup {x1 : Nat} (h : PA X es (LA X.K g Wx fs)) : PE X (.Tuple es x1 pos) (LE X.K g Wx (eTup fs)) := by
  refine (pe_tup h).imp fun σ H Q p => ?_
  refine Lf.imp (Lf.bnd (R := RVs X.K) p) fun v H1 ⟨W1, ρ, y, h1, hr1, er, rr, p1⟩ => ?_
  split at p1
  · rename_i ds e
    split at p1
    · rename_i hl
      have s1 := rr.plain e
      exact ⟨by rw [sizeLine_eq, s1.length]; exact hl, p1.newT hr1 s1⟩
    · exact p1.elim
  · exact p1.elim
theorem pd_lst (h : PA X es (LA X.K g Wx fs)) : PE X (.List es pos) (LE X.K g Wx (eLst fs)) := by
  refine (pe_lst h).imp fun σ H Q p => ?_
  refine Lf.imp (Lf.bnd (R := RVs X.K) p) fun v H1 ⟨W1, ρ, y, h1, hr1, er, rr, p1⟩ => ?_
  split at p1
  · rename_i ds e
    split at p1
    · rename_i hl
      have s1 := rr.plain e
      exact ⟨by rw [sizeLine_eq, s1.length]; exact hl, p1.newL hr1 s1⟩
    · exact p1.elim
  · exact p1.elim
/-- a new list of the plain heap as the answer -/
theorem Post.newR {K : PySem.W.Frag} {W : Wd} {H : Hp} {h : DH} {ys : List Vx} {vs : List V} {Q : VK} {E : XK} (P : Post K g (RV K) W H (.ok (.r h.length) (h ++ [.lst ys])) Q E) (hr : HRel K g.T W H h) (rv : RepVs K W vs ys) : ∀ p, H p = none → Q (.ref p) (upd H p (.lst vs)) := fun p np => by
  obtain ⟨h1, h2⟩ := hr.alloc np rv
  refine P _ _ _ h2 h1 ⟨p, ?_, rfl⟩
  show (W.θ ++ [p])[h.length]? = some p
  rw [← hr.len, List.getElem?_append_right (Nat.le_refl _), Nat.sub_self]; rfl
theorem pd_new (h : PA X es (LA X.K g Wx fs)) : PE X (.List es pos) (LE X.K g Wx (eNew fs)) := by
  refine (pe_lst h).imp fun σ H Q p => ?_
  refine Lf.imp (Lf.bnd (R := RVs X.K) p) fun v H1 ⟨W1, ρ, y, h1, hr1, er, rr, p1⟩ => ?_
  split at p1
  · rename_i hl
    exact ⟨by rw [sizeLine_eq, rr.length]; exact hl, p1.newR hr1 rr⟩
  · exact p1.elim
/-- list(x): a list of the plain heap -/
def bListN : List Vx → Mo Vx := fun as h => match as with
  | [.d (.tup ds)] => .ok (.r h.length) (h ++ [.lst (ds.map Vx.d)])
  | [a] => (match asL a h with | some ys => .ok (.r h.length) (h ++ [.lst ys]) | none => .stk)
  | _ => .stk
theorem cd_listN : CallD X g (.type "list") bListN := by
  refine ⟨_, call_list_of, fun W H h xs as Q E hr ra p => ?_⟩
  unfold bListN at p
  split at p
  · obtain ⟨x, rfl, r1⟩ := ra.one
    obtain ⟨a1, vs1, rfl, q1, f1, s1⟩ := repTup hr r1
    exact ⟨a1, vs1, rfl, .inr q1, p.newR hr (.of_plain s1)⟩
  · obtain ⟨x, rfl, r1⟩ := ra.one
    split at p
    · rename_i ys e
      obtain ⟨a1, xs1, rfl, q1, r2⟩ := asL_rep hr r1 e
      exact ⟨a1, xs1, rfl, .inl (.inl (.inl q1)), p.newR hr r2⟩
    · exact p.elim
  · exact p.elim
/-! calls of built-ins -/
theorem pd_callB {x : Str} {p : Pos} {id : String} {dop : List Vx → Mo Vx} (hc : CallD X g (.builtin id) dop) (hg : Gl X x) (hm : X.mg x = none) (hv : bootBuiltins x = some (.builtin id)) (ha : PA X (a :: es) (LA X.K g Wx fs)) (hn : x ≠ "__name__") (hdb : (x == ("__debug__" : Str)) = false)
    (he : starEach (a :: es) X.env = (false, eval a X.env) :: starEach es X.env) (hpl : (backTo pos (starEach es X.env)).any (·.1) = false) : PE X (.Call (.Name x p) (a :: es) [] pos) (LE X.K g Wx (eCall dop fs)) := by
  obtain ⟨r, h1, h2⟩ := hc
  refine (pe_callB h1 hg hm hv ha hn hdb he hpl).imp fun σ H Q p => ?_
  refine Lf.imp (Lf.bnd (R := RVs X.K) p) fun v H1 ⟨W1, ρ, y, h1', hr1, er, rr, p1⟩ => ?_
  exact h2 W1 H1 h1' v y Q _ hr1 rr p1
theorem pd_callTy {x : Str} {p : Pos} {T : String} {dop : List Vx → Mo Vx} (hc : CallD X g (.type T) dop) (hg : Gl X x) (hm : X.mg x = none) (hv : bootBuiltins x = some (.type T)) (ha : PA X (a :: es) (LA X.K g Wx fs)) (hn : x ≠ "__name__") (hdb : (x == ("__debug__" : Str)) = false)
    (he : starEach (a :: es) X.env = (false, eval a X.env) :: starEach es X.env) (hpl : (backTo pos (starEach es X.env)).any (·.1) = false) : PE X (.Call (.Name x p) (a :: es) [] pos) (LE X.K g Wx (eCall dop fs)) := by
  obtain ⟨r, h1, h2⟩ := hc
  refine (pe_callTy h1 hg hm hv ha hn hdb he hpl).imp fun σ H Q p => ?_
  refine Lf.imp (Lf.bnd (R := RVs X.K) p) fun v H1 ⟨W1, ρ, y, h1', hr1, er, rr, p1⟩ => ?_
  exact h2 W1 H1 h1' v y Q _ hr1 rr p1
/-- a built-in function that the module holds by a name of its own (from math import gcd) -/
theorem pd_callG {x : Str} {p : Pos} {id : String} {dop : List Vx → Mo Vx} (hc : CallD X g (.builtin id) dop) (hg : Gl X x) (hm : X.mg x = some (.builtin id)) (ha : PA X (a :: es) (LA X.K g Wx fs)) (hdb : (x == ("__debug__" : Str)) = false)
    (he : starEach (a :: es) X.env = (false, eval a X.env) :: starEach es X.env) (hpl : (backTo pos (starEach es X.env)).any (·.1) = false) : PE X (.Call (.Name x p) (a :: es) [] pos) (LE X.K g Wx (eCall dop fs)) := by
  obtain ⟨r, h1, h2⟩ := hc
  refine PE.imp (t := tCB r (LA X.K g Wx fs)) ⟨fun pins s σ H Q I h => ?_⟩ fun σ H Q p => ?_
  · refine wpAny_Call_Name_kw (ld_glob I hg hm ?_ hdb)
    exact PyProof.Rows.callWith_builtin1 (thn (ha.run pos pins s σ H _ I h) fun us s1 ⟨vs, H1, I1, r1, q1⟩ => h1 pins s1 σ H1 vs us Q I1 r1 q1) he hpl
  refine Lf.imp (Lf.bnd (R := RVs X.K) p) fun v H1 ⟨W1, ρ, y, h1', hr1, er, rr, p1⟩ => ?_
  exact h2 W1 H1 h1' v y Q _ hr1 rr p1
/-! methods of built-ins -/
theorem tyD_rep {K : PySem.W.Frag} {W : Wd} {H : Hp} {h : DH} {x : V} {y : Vx} {T : Ty} (hr : HRel K g.T W H h) (r : RepV K W x y) (e : tyD T y h = true) : tyV K T.nm x H := by
  unfold tyD at e
  split at e
  · rw [(repStr r).1]; rfl
  · cases q : asL y h with
    | none => rw [q] at e; cases e
    | some ys =>
      obtain ⟨a1, xs1, rfl, q1, _⟩ := asL_rep hr r q
      exact .inl ⟨rfl, xs1, .inl (.inl q1)⟩
  · cases e
theorem pd_mt {T : Ty} {id : String} {name : Str} {o : Expr} {apos : Pos} {dop : Vx → List Vx → Mo Vx} {fo : DEnv → Mo Vx} (pa : PlainAttrs T.nm) (slot : Slot T.nm name id) (hty : typeOf (.builtin id) = pure (.type "method_descriptor")) (hm : MtD X g id dop)
    (ho : PE X o (LE X.K g Wx fo)) (ha : PA X (a :: es) (LA X.K g Wx fs)) (hbase : attributeBase o name X.env (eval o X.env) = eval o X.env)
    (hfew : ((backTo pos (starEach (a :: es) X.env)).all (fun x => !x.1) && (backToKw pos (keywordEach [] X.env)).all (fun x => x.1.isSome)
      && decide ((a :: es).length + ([] : List Keyword).length + (if ([] : List Keyword).isEmpty then 0 else 1) < 30)) = true)
    (hline : (apos.endLine == pos.line) = true) (hs : starEach (a :: es) X.env = (false, eval a X.env) :: starEach es X.env) (hplain : (backTo pos (starEach es X.env)).any (·.1) = false) :
    PE X (.Call (.Attribute o name apos) (a :: es) [] pos) (LE X.K g Wx (eMt T dop fo fs)) := by
  obtain ⟨r, h1, h2⟩ := hm
  refine (pe_bm pa slot hty h1 ho ha hbase hfew hline hs hplain).imp fun σ H Q p => ?_
  refine Lf.imp (Lf.bnd (R := RV X.K) p) fun v H1 ⟨W1, ρ, y, h1', hr1, er, rr, p1⟩ => ?_
  split at p1
  · rename_i ht
    refine ⟨tyD_rep hr1 rr ht, W1, ρ, h1', hr1, er, (Post.bnd (R := RVs X.K) p1).imp (fun vs H2 ⟨W2, y2, h2', ex2, hr2, rr2, p2⟩ => ?_) fun _ _ _ q => q⟩
    exact h2 W2 H2 h2' v vs y y2 Q _ hr2 (RepV.le ex2.le rr) rr2 p2
  · exact p1.elim
theorem pd_mt0 {T : Ty} {id : String} {name : Str} {o : Expr} {apos : Pos} {dop : Vx → List Vx → Mo Vx} {fo : DEnv → Mo Vx} (pa : PlainAttrs T.nm) (slot : Slot T.nm name id) (hty : typeOf (.builtin id) = pure (.type "method_descriptor")) (hm : MtD X g id dop)
    (ho : PE X o (LE X.K g Wx fo)) (hbase : attributeBase o name X.env (eval o X.env) = eval o X.env) (hline : (apos.endLine == pos.line) = true) :
    PE X (.Call (.Attribute o name apos) [] [] pos) (LE X.K g Wx (eMt T dop fo aNil)) := by
  obtain ⟨r, h1, h2⟩ := hm
  refine (pe_bm0 pa slot hty h1 ho hbase hline).imp fun σ H Q p => ?_
  refine Lf.imp (Lf.bnd (R := RV X.K) p) fun v H1 ⟨W1, ρ, y, h1', hr1, er, rr, p1⟩ => ?_
  split at p1
  · rename_i ht
    exact ⟨tyD_rep hr1 rr ht, h2 W1 H1 h1' v [] y [] Q _ hr1 rr .nil p1⟩
  · exact p1.elim

/-! ### each method -/
def mJoin : Vx → List Vx → Mo Vx := fun o as h => match o, as with
  | .d (.str s), [a] => (match asQ a h with
    | some ds => (match strsOf ds with
      | some ts => if (ts.map List.length).sum + ts.length * s.length ≤ 16777216 then .ok (.d (.str (TL.joinL s ts))) h else .stk
      | none => .stk)
    | none => .stk)
  | _, _ => .stk
def mSplit : Vx → List Vx → Mo Vx := fun o as h => match o, as with
  | .d (.str s), [.d (.str t)] => if t ≠ [] ∧ (∀ c ∈ t, c < 256) ∧ s.length + 2 ≤ 16777216 then .ok (.d (.lst ((TL.spl t 0 [] s).map Dt.str))) h else .stk
  | _, _ => .stk
def partD (t s : List Nat) : List Nat × List Nat × List Nat := match TL.par t [] s with
  | some (a, b) => (a, t, b)
  | none => (s, [], [])
def mPart : Vx → List Vx → Mo Vx := fun o as h => match o, as with
  | .d (.str s), [.d (.str t)] => if t ≠ [] then .ok (.d (.tup [.str (partD t s).1, .str (partD t s).2.1, .str (partD t s).2.2])) h else .stk
  | _, _ => .stk
def mStarts : Vx → List Vx → Mo Vx := fun o as h => match o, as with
  | .d (.str s), [.d (.str t)] => .ok (.d (.bl (Txt.startswith (toStr s) (toStr t)))) h
  | _, _ => .stk
def mEnds : Vx → List Vx → Mo Vx := fun o as h => match o, as with
  | .d (.str s), [.d (.str t)] => .ok (.d (.bl (Txt.endswith (toStr s) (toStr t)))) h
  | _, _ => .stk
def mCount : Vx → List Vx → Mo Vx := fun o as h => match o, as with
  | .d (.str s), [.d (.str t)] => .ok (.d (.int (Txt.count (toStr s) (toStr t)))) h
  | _, _ => .stk
def mAppend : Vx → List Vx → Mo Vx := fun o as h => match o, as with
  | .r k, [y] => (match h[k]? with | some (.lst ys) => if ys.length < 16777216 then .ok (.d .non) (h.set k (.lst (ys ++ [y]))) else .stk | _ => .stk)
  | _, _ => .stk
def mExtend : Vx → List Vx → Mo Vx := fun o as h => match o, as with
  | .r k, [a] => (match h[k]? with
    | some (.lst ys) => (match asL a h with
      | some zs => if ys.length + zs.length ≤ 16777216 then .ok (.d .non) (h.set k (.lst (ys ++ zs))) else .stk
      | none => .stk)
    | _ => .stk)
  | _, _ => .stk
def mPop : Vx → List Vx → Mo Vx := fun o as h => match o, as with
  | .r k, [] => (match h[k]? with | some (.lst ys) => (match ys[ys.length - 1]? with | some y => .ok y (h.set k (.lst ys.dropLast)) | none => .stk) | _ => .stk)
  | _, _ => .stk
theorem od_app : MtD X g "list.append" mAppend := by
  refine ⟨_, mt_append, fun W H h x xs a as Q E hr ra rs p => ?_⟩
  unfold mAppend at p
  split at p
  · rename_i k y
    obtain ⟨z, rfl, rz⟩ := rs.one
    obtain ⟨a1, ea, rfl⟩ := ra
    split at p
    · rename_i ys hk
      split at p
      · rename_i hl
        obtain ⟨zs, hx, hv⟩ := hr.obj k a1 _ ea hk
        obtain ⟨h1, h2⟩ := hr.put ea hk hx (hv.append (.cons rz .nil))
        exact ⟨a1, zs, z, rfl, rfl, hx, by rw [sizeLine_eq, hv.length]; exact hl, p W _ _ h2 h1 RepD.non⟩
      · exact p.elim
    · exact p.elim
  · exact p.elim
theorem od_ext : MtD X g "list.extend" mExtend := by
  refine ⟨_, mt_extend, fun W H h x xs a as Q E hr ra rs p => ?_⟩
  unfold mExtend at p
  split at p
  · rename_i k b
    obtain ⟨z, rfl, rz⟩ := rs.one
    obtain ⟨a1, ea, rfl⟩ := ra
    split at p
    · rename_i ys hk
      split at p
      · rename_i ws e2
        split at p
        · rename_i hl
          obtain ⟨zs, hx, hv⟩ := hr.obj k a1 _ ea hk
          obtain ⟨a2, xs2, rfl, q2, r2⟩ := asL_rep hr rz e2
          obtain ⟨h1, h2⟩ := hr.put ea hk hx (hv.append r2)
          exact ⟨a1, a2, zs, xs2, rfl, rfl, hx, q2, by rw [sizeLine_eq, hv.length, r2.length]; exact hl, p W _ _ h2 h1 RepD.non⟩
        · exact p.elim
      · exact p.elim
    · exact p.elim
  · exact p.elim
theorem od_pop : MtD X g "list.pop" mPop := by
  refine ⟨_, mt_pop, fun W H h x xs a as Q E hr ra rs p => ?_⟩
  unfold mPop at p
  split at p
  · rename_i k
    cases rs
    obtain ⟨a1, ea, rfl⟩ := ra
    split at p
    · rename_i ys hk
      split at p
      · rename_i y e
        obtain ⟨zs, hx, hv⟩ := hr.obj k a1 _ ea hk
        obtain ⟨v, e1, e2⟩ := hv.get e
        obtain ⟨h1, h2⟩ := hr.put ea hk hx hv.dropLast
        refine ⟨a1, zs, v, rfl, rfl, hx, by rw [hv.length]; exact e1, p W _ _ h2 h1 e2⟩
      · exact p.elim
    · exact p.elim
  · exact p.elim
theorem len_toStr (s : List Nat) : (toStr s).length = s.length := by show (toStr s).cps.size = _; simp
theorem od_starts : MtD X g "str.startswith" mStarts := by
  refine ⟨_, mt_startswith, fun W H h x xs a as Q E hr ra rs p => ?_⟩
  unfold mStarts at p
  split at p
  · obtain ⟨z, rfl, rz⟩ := rs.one
    rw [(repStr ra).1, (repStr rz).1]
    exact ⟨_, _, rfl, rfl, p.ret hr (.bl _)⟩
  · exact p.elim
theorem od_ends : MtD X g "str.endswith" mEnds := by
  refine ⟨_, mt_endswith, fun W H h x xs a as Q E hr ra rs p => ?_⟩
  unfold mEnds at p
  split at p
  · obtain ⟨z, rfl, rz⟩ := rs.one
    rw [(repStr ra).1, (repStr rz).1]
    exact ⟨_, _, rfl, rfl, p.ret hr (.bl _)⟩
  · exact p.elim
theorem od_count : MtD X g "str.count" mCount := by
  refine ⟨_, mt_count, fun W H h x xs a as Q E hr ra rs p => ?_⟩
  unfold mCount at p
  split at p
  · obtain ⟨z, rfl, rz⟩ := rs.one
    rw [(repStr ra).1, (repStr rz).1]
    exact ⟨_, _, rfl, rfl, p.ret hr (.int _)⟩
  · exact p.elim
theorem par_mem (t : List Nat) : ∀ (l acc a b : List Nat), TL.par t acc l = some (a, b) → a.length + b.length ≤ acc.length + l.length ∧ (∀ c ∈ a, c ∈ acc ∨ c ∈ l) ∧ ∀ c ∈ b, c ∈ l
  | [], acc, a, b, e => by cases e
  | c :: r, acc, a, b, e => by
    unfold TL.par at e
    split at e
    · cases e
      refine ⟨?_, fun x hx => .inl hx, fun x hx => List.mem_of_mem_drop hx⟩
      rw [List.length_drop]; omega
    · obtain ⟨h1, h2, h3⟩ := par_mem t r (acc ++ [c]) a b e
      refine ⟨?_, fun x hx => ?_, fun x hx => List.mem_cons_of_mem _ (h3 x hx)⟩
      · rw [List.length_append, List.length_singleton] at h1; rw [List.length_cons]; omega
      · rcases h2 x hx with h | h
        · rcases List.mem_append.mp h with h | h
          · exact .inl h
          · exact .inr (by simp at h; simp [h])
        · exact .inr (List.mem_cons_of_mem _ h)
theorem partD_ok {s t : List Nat} (hs : okS s) (ht : okS t) : okS (partD t s).1 ∧ okS (partD t s).2.1 ∧ okS (partD t s).2.2 := by
  have nil : okS [] := ⟨Nat.zero_le _, by simp⟩
  unfold partD
  split
  · rename_i a b e
    obtain ⟨h1, h2, h3⟩ := par_mem t s [] a b e
    have l1 := hs.1
    refine ⟨⟨by simp at h1; show a.length ≤ _; omega, fun c hc => ?_⟩, ht, ⟨by simp at h1; show b.length ≤ _; omega, fun c hc => hs.2 c (h3 c hc)⟩⟩
    rcases h2 c hc with h | h
    · cases h
    · exact hs.2 c h
  · exact ⟨hs, nil, nil⟩
theorem partD_txt (s t : List Nat) (ht : t ≠ []) : Txt.partition (toStr s) (toStr t) = (toStr (partD t s).1, toStr (partD t s).2.1, toStr (partD t s).2.2) := by
  have e := TL.partition_par (toStr s) (toStr t) (by simpa using ht)
  have h1 : TL.tl (toStr s) = s := rfl
  have h2 : TL.tl (toStr t) = t := rfl
  rw [h1, h2] at e
  unfold partD
  split
  · rename_i a b q
    rw [q] at e
    refine Prod.ext (TL.ext_tl ?_) (Prod.ext (TL.ext_tl ?_) (TL.ext_tl ?_)) <;> simp_all
  · rename_i q
    rw [q] at e
    rw [e] <;> rfl
/-! join, split, partition -/
theorem strs_rep {K : PySem.W.Frag} {F : Hp} : ∀ {ts : List (List Nat)} {vs : List V}, RepDs K F vs (ts.map Dt.str) → vs = (ts.map toStr).map V.str ∧ ∀ t ∈ ts, okS t
  | [], vs, h => by cases h; exact ⟨rfl, by simp⟩
  | t :: r, vs, h => by
    cases h with
    | cons h1 h2 =>
      obtain ⟨e1, e2⟩ := strs_rep h2
      cases h1 with
      | str _ ok =>
        subst e1
        refine ⟨rfl, fun z hz => ?_⟩
        rcases List.mem_cons.mp hz with q | q
        · rw [q]; exact ok
        · exact e2 z q
theorem strs_rep' {K : PySem.W.Frag} {F : Hp} : ∀ {ts : List (List Nat)}, (∀ t ∈ ts, okS t) → RepDs K F ((ts.map toStr).map V.str) (ts.map Dt.str)
  | [], _ => .nil
  | t :: r, h => .cons (.str t (h t List.mem_cons_self)) (strs_rep' fun z hz => h z (List.mem_cons_of_mem _ hz))
/-- the items of a list or tuple as they stand -/
theorem asQ_seq {K : PySem.W.Frag} {W : Wd} {H : Hp} {h : DH} {v : V} {y : Vx} (hr : HRel K g.T W H h) (r : RepV K W v y) {ds : List Dt} (e : asQ y h = some ds) :
    ∃ p vs, v = .ref p ∧ (SqL K H p vs ∨ SqT K H p vs) ∧ RepDs K W.F vs ds := by
  unfold asQ at e
  split at e
  · cases e
    obtain ⟨a1, vs1, rfl, q1, f1, s1⟩ := repTup hr r
    exact ⟨a1, vs1, rfl, .inr q1, s1⟩
  · split at e
    · rename_i hd
      cases e
      have n := asD_rep hr r hd
      cases n with
      | of n => cases n with | lst h1 h2 => exact ⟨_, _, rfl, .inl (.inl (.inl (hr.fro _ _ h1))), h2⟩
      | now h1 h2 => exact ⟨_, _, rfl, .inl (.inl (.inl h1)), h2⟩
    · cases e
theorem joinL_ok {s : List Nat} {ts : List (List Nat)} (hs : okS s) (ht : ∀ t ∈ ts, okS t) : ∀ c ∈ TL.joinL s ts, c < 0x110000 := by
  induction ts with
  | nil => intro c hc; cases hc
  | cons t r ih =>
    intro c hc
    cases r with
    | nil => exact (ht t List.mem_cons_self).2 c (by simpa [TL.joinL] using hc)
    | cons t2 r2 =>
      have hc : c ∈ t ++ (s ++ TL.joinL s (t2 :: r2)) := by simpa [TL.joinL] using hc
      rcases List.mem_append.mp hc with h | h
      · exact (ht t List.mem_cons_self).2 c h
      · rcases List.mem_append.mp h with h | h
        · exact hs.2 c h
        · exact ih (fun z hz => ht z (List.mem_cons_of_mem _ hz)) c h
theorem joinL_len {s : List Nat} : ∀ {ts : List (List Nat)}, (TL.joinL s ts).length ≤ (ts.map List.length).sum + ts.length * s.length
  | [] => by simp [TL.joinL]
  | [t] => by simp [TL.joinL]
  | t :: t2 :: r => by
    have ih := joinL_len (s := s) (ts := t2 :: r)
    have e : TL.joinL s (t :: t2 :: r) = t ++ (s ++ TL.joinL s (t2 :: r)) := by simp [TL.joinL]
    rw [e, List.length_append, List.length_append, List.map_cons, List.sum_cons, List.length_cons, Nat.succ_mul]
    omega
theorem od_join : MtD X g "str.join" mJoin := by
  refine ⟨_, mt_join, fun W H h x xs a as Q E hr ra rs p => ?_⟩
  unfold mJoin at p
  split at p
  · rename_i s b
    obtain ⟨z, rfl, rz⟩ := rs.one
    obtain ⟨rfl, os⟩ := repStr ra
    split at p
    · rename_i ds e1
      split at p
      · rename_i ts e2
        split at p
        · rename_i hl
          obtain ⟨q, vs, rfl, hq, hv⟩ := asQ_seq hr rz e1
          rw [strsOf_eq e2] at hv
          obtain ⟨e3, ok⟩ := strs_rep hv
          subst e3
          refine ⟨_, q, ts.map toStr, rfl, rfl, hq, ?_, ?_⟩
          · rw [List.map_map, List.length_map, len_toStr]
            have e4 : ts.map ((fun x => x.length) ∘ toStr) = ts.map List.length := by
              apply List.map_congr_left; intro t _; exact len_toStr t
            rw [e4]; exact hl
          · have e5 : Txt.join (toStr s) (ts.map toStr) = toStr (TL.joinL s ts) := by
              rw [TL.join_eq]
              refine TL.ext_tl ?_
              rw [TL.tl_join, List.map_map]
              have e6 : ts.map (TL.tl ∘ toStr) = ts := by
                rw [show (TL.tl ∘ toStr) = id from rfl, List.map_id]
              rw [e6]
            rw [e5]
            exact p.ret hr (.str _ ⟨Nat.le_trans joinL_len (by rw [sizeLine_eq]; exact hl), joinL_ok os ok⟩)
        · exact p.elim
      · exact p.elim
    · exact p.elim
  · exact p.elim
theorem spl_ok (t : List Nat) : ∀ (l : List Nat) (k : Nat) (acc : List Nat), ∀ z ∈ TL.spl t k acc l, z.length ≤ acc.length + l.length ∧ ∀ c ∈ z, c ∈ acc ∨ c ∈ l
  | [], k, acc => by
    intro z hz
    rw [TL.spl_nil] at hz
    have e : z = acc := by simpa using hz
    subst e
    exact ⟨by simp, fun c hc => .inl hc⟩
  | c :: r, 0, acc => by
    intro z hz
    unfold TL.spl at hz
    split at hz
    · rcases List.mem_cons.mp hz with q | q
      · subst q; exact ⟨by omega, fun c hc => .inl hc⟩
      · obtain ⟨h1, h2⟩ := spl_ok t r _ [] z q
        refine ⟨by simp at h1; rw [List.length_cons]; omega, fun x hx => ?_⟩
        rcases h2 x hx with q | q
        · cases q
        · exact .inr (List.mem_cons_of_mem _ q)
    · obtain ⟨h1, h2⟩ := spl_ok t r 0 (acc ++ [c]) z hz
      refine ⟨by rw [List.length_append, List.length_singleton] at h1; rw [List.length_cons]; omega, fun x hx => ?_⟩
      rcases h2 x hx with q | q
      · rcases List.mem_append.mp q with q | q
        · exact .inl q
        · exact .inr (by simp at q; simp [q])
      · exact .inr (List.mem_cons_of_mem _ q)
  | c :: r, k + 1, acc => by
    intro z hz
    obtain ⟨h1, h2⟩ := spl_ok t r k acc z hz
    refine ⟨by rw [List.length_cons]; omega, fun x hx => ?_⟩
    rcases h2 x hx with q | q
    · exact .inl q
    · exact .inr (List.mem_cons_of_mem _ q)
theorem od_split : MtD X g "str.split" mSplit := by
  refine ⟨_, mt_split, fun W H h x xs a as Q E hr ra rs p => ?_⟩
  unfold mSplit at p
  split at p
  · rename_i s t
    obtain ⟨z, rfl, rz⟩ := rs.one
    obtain ⟨rfl, os⟩ := repStr ra
    obtain ⟨rfl, ot⟩ := repStr rz
    split at p
    · rename_i hc
      refine ⟨_, _, rfl, rfl, ?_, by rw [len_toStr, sizeLine_eq]; exact hc.2.2, fun q nq => ?_⟩
      · rw [len_toStr]
        cases t with
        | nil => exact absurd rfl hc.1
        | cons _ _ => rfl
      · have e : (Txt.split (toStr s) (toStr t)).map TL.tl = TL.spl t 0 [] s := TL.split_spl (toStr s) (toStr t) (by simpa using hc.1) (TL.kind_ok (by
          simp only [Array.all_eq_true', List.mem_toArray, decide_eq_true_eq]
          exact hc.2.1))
        have e2 : Txt.split (toStr s) (toStr t) = (TL.spl t 0 [] s).map toStr := by
          refine TL.map_tl_inj ?_
          rw [e, List.map_map]
          rw [show (TL.tl ∘ toStr) = id from rfl, List.map_id]
        rw [e2]
        refine p.newL hr (strs_rep' fun z hz => ?_) q nq
        obtain ⟨h1, h2⟩ := spl_ok t s 0 [] z hz
        have := os.1
        refine ⟨by simp at h1; omega, fun c hc => ?_⟩
        rcases h2 c hc with q | q
        · cases q
        · exact os.2 c q
    · exact p.elim
  · exact p.elim
theorem od_part : MtD X g "str.partition" mPart := by
  refine ⟨_, mt_partition, fun W H h x xs a as Q E hr ra rs p => ?_⟩
  unfold mPart at p
  split at p
  · rename_i s t
    obtain ⟨z, rfl, rz⟩ := rs.one
    obtain ⟨rfl, os⟩ := repStr ra
    obtain ⟨rfl, ot⟩ := repStr rz
    split at p
    · rename_i hc
      refine ⟨_, _, rfl, rfl, ?_, by rw [len_toStr]; exact os.1, ?_⟩
      · rw [len_toStr]
        cases t with
        | nil => exact absurd rfl hc
        | cons _ _ => rfl
      · rw [partD_txt s t hc]
        obtain ⟨o1, o2, o3⟩ := partD_ok os ot
        exact p.newT hr (.cons (.str _ o1) (.cons (.str _ o2) (.cons (.str _ o3) .nil)))
    · exact p.elim
  · exact p.elim
end
end Dn
end
section
set_option Elab.async false
set_option linter.all false
set_option maxRecDepth 100000
set_option maxHeartbeats 2000000
/-! Dn7: f-strings, targets. -/
namespace Dn
open PySem PySem.Spec PyProof.Rows L2

/-! ### f-strings -/
def fmtD (y : Vx) : Mo Vx := fun h => match y with
  | .d (.str s) => .ok (.d (.str s)) h
  | .d (.int i) => if i.natAbs.log2 < 1920 then .ok (.d (.str (intL i))) h else .stk
  | _ => .stk
def eFmt (fa : DEnv → Mo Vx) : DEnv → Mo Vx := fun ρ => bnd (fa ρ) fmtD
/-- a text in parts -/
def jNil : List Nat → DEnv → Mo Vx := fun acc _ => ret (.d (.str acc))
def jCons (fa : DEnv → Mo Vx) (fr : List Nat → DEnv → Mo Vx) : List Nat → DEnv → Mo Vx := fun acc ρ => bnd (fa ρ) fun y h => match y with
  | .d (.str s) => if acc.length + s.length ≤ 16777216 then fr (acc ++ s) ρ h else .stk
  | _ => .stk
section
variable {X : Cx} {g : Gp} {Wx : WX} {a : Expr} {es : List Expr} {fa : DEnv → Mo Vx} {pos : Pos}
theorem pd_fmt (ha : PE X a (LE X.K g Wx fa)) : PE X (.FormattedValue a (-1) none pos) (LE X.K g Wx (eFmt fa)) := by
  refine (pe_fmt ha).imp fun σ H Q p => ?_
  refine Lf.imp (Lf.bnd (R := RV X.K) p) fun v H1 ⟨W1, ρ, y, h1, hr1, er, rr, p1⟩ => ?_
  unfold fmtD at p1
  split at p1
  · obtain ⟨rfl, o⟩ := repStr rr
    exact .inl ⟨_, rfl, by rw [len_toStr]; exact o.1, p1.ret hr1 (.str _ o)⟩
  · split at p1
    · rename_i i hl
      refine .inr ⟨i, repInt rr, hl, ?_⟩
      rw [intL_str]
      exact p1.ret hr1 (.str _ (intL_ok i hl))
    · exact p1.elim
  · exact p1.elim
inductive PJd (X : Cx) (g : Gp) (Wx : WX) : List Expr → (List Nat → DEnv → Mo Vx) → Prop where
  | nil : PJd X g Wx [] jNil
  | cons {a : Expr} {fa : DEnv → Mo Vx} {es : List Expr} {fr : List Nat → DEnv → Mo Vx} (h : PE X a (LE X.K g Wx fa)) (r : PJd X g Wx es fr) : PJd X g Wx (a :: es) (jCons fa fr)
theorem PJd.pj {fr : List Nat → DEnv → Mo Vx} (P : PJd X g Wx es fr) : ∃ ts, PJ X es ts ∧ ∀ (acc : List Nat) (σ : L2.St) (H : Hp) (Q : VK), okS acc →
    LE X.K g Wx (fr acc) σ H Q → tJs ts (toStr acc) σ H (fun out H' => Q (.str out) H') := by
  induction P with
  | nil =>
    refine ⟨[], .nil, fun acc σ H Q o p => ?_⟩
    obtain ⟨W, ρ, h, hr, er, p⟩ := p
    exact p.ret hr (.str _ o)
  | @cons a fa es fr ha r ih =>
    obtain ⟨ts, hp, ih⟩ := ih
    refine ⟨_ :: ts, .cons ha hp, fun acc σ H Q o p => ?_⟩
    refine Lf.imp (Lf.bnd (R := RV X.K) p) fun v H1 ⟨W1, ρ, y, h1, hr1, er, rr, p1⟩ => ?_
    split at p1
    · rename_i s
      obtain ⟨rfl, os⟩ := repStr rr
      split at p1
      · rename_i hl
        have o2 : okS (acc ++ s) := okS_append o os (by first | exact hl | (rw [List.length_append, sizeLine_eq]; exact hl) | (rw [sizeLine_eq]; exact hl))
        refine ⟨_, rfl, ?_, ?_⟩
        · rw [toStr_append, len_toStr]; exact o2.1
        · rw [toStr_append]
          exact ih _ σ H1 Q o2 ⟨W1, ρ, h1, hr1, er, p1⟩
      · exact p1.elim
    · exact p1.elim
theorem pd_joined {v1 v2 : Expr} {rest : List Expr} {fr : List Nat → DEnv → Mo Vx} (P : PJd X g Wx (v1 :: v2 :: rest) fr) : PE X (.JoinedStr (v1 :: v2 :: rest) pos) (LE X.K g Wx (fr [])) := by
  obtain ⟨ts, h1, h2⟩ := P.pj
  exact (pe_joined h1).imp fun σ H Q p => h2 [] σ H Q ⟨Nat.zero_le _, by simp⟩ p
theorem pd_joined1 (ha : PE X a (LE X.K g Wx fa)) : PE X (.JoinedStr [a] pos) (LE X.K g Wx fa) := pe_joined1 ha
end

/-! ### targets -/
inductive MT where
  | nm (i : Nat) | tup (ts : List MT)
mutual
def asg : MT → Vx → DEnv → Option DEnv
  | .nm i, y, ρ => some (ρ.set i (some y))
  | .tup ts, y, ρ => match y with
    | .d (.tup ds) => asgs ts (ds.map Vx.d) ρ
    | .d (.lst ds) => asgs ts (ds.map Vx.d) ρ
    | _ => none
def asgs : List MT → List Vx → DEnv → Option DEnv
  | [], [], ρ => some ρ
  | t :: ts, y :: ys, ρ => match asg t y ρ with
    | some ρ' => asgs ts ys ρ'
    | none => none
  | _, _, _ => none
end
mutual
def MT.slots : MT → List Nat
  | .nm i => [i]
  | .tup ts => MT.slotss ts
def MT.slotss : List MT → List Nat
  | [] => []
  | t :: ts => t.slots ++ MT.slotss ts
end
/-- the places outside vs are as they were -/
def SameOut (vs : List Nat) (σ σ' : L2.St) : Prop := σ'.length = σ.length ∧ ∀ i, i ∉ vs → σ'[i]? = σ[i]?
theorem SameOut.refl (vs : List Nat) (σ : L2.St) : SameOut vs σ σ := ⟨rfl, fun _ _ => rfl⟩
theorem SameOut.trans {vs : List Nat} {a b c : L2.St} (x : SameOut vs a b) (y : SameOut vs b c) : SameOut vs a c := ⟨y.1.trans x.1, fun i h => (y.2 i h).trans (x.2 i h)⟩
theorem SameOut.mono {vs ws : List Nat} {a b : L2.St} (x : SameOut vs a b) (h : ∀ i ∈ vs, i ∈ ws) : SameOut ws a b := ⟨x.1, fun i n => x.2 i fun z => n (h i z)⟩
theorem wipe_get (σ : L2.St) : ∀ (vs : List Nat) (i : Nat), i < σ.length → (wipe σ vs)[i]? = if i ∈ vs then some none else σ[i]?
  | [], i, h => by simp [wipe]
  | v :: vs, i, h => by
    unfold wipe
    by_cases e : v = i
    · subst e
      rw [List.getElem?_set_self (by rw [wipe_length]; exact h)]
      simp
    · rw [List.getElem?_set_ne e, wipe_get σ vs i h]
      have e2 : ¬ i = v := fun z => e z.symm
      simp [e2]
theorem SameOut.wipe {vs : List Nat} {σ σ' : L2.St} (h : SameOut vs σ σ') : L2.wipe σ' vs = L2.wipe σ vs := by
  apply List.ext_getElem?
  intro i
  by_cases hi : i < σ.length
  · rw [wipe_get σ vs i hi, wipe_get σ' vs i (by rw [h.1]; exact hi)]
    by_cases hm : i ∈ vs
    · simp [hm]
    · simp [hm, h.2 i hm]
  · rw [List.getElem?_eq_none (by rw [wipe_length, h.1]; omega), List.getElem?_eq_none (by rw [wipe_length]; omega)]
theorem wipe_wipe (σ : L2.St) (vs : List Nat) : L2.wipe (L2.wipe σ vs) vs = L2.wipe σ vs := by
  apply List.ext_getElem?
  intro i
  by_cases hi : i < σ.length
  · rw [wipe_get _ vs i (by rw [wipe_length]; exact hi), wipe_get σ vs i hi]
    by_cases hm : i ∈ vs <;> simp [hm]
  · rw [List.getElem?_eq_none (by rw [wipe_length, wipe_length]; omega), List.getElem?_eq_none (by rw [wipe_length]; omega)]
def wipeD (ρ : DEnv) : List Nat → DEnv
  | [] => ρ
  | v :: vs => (wipeD ρ vs).set v none
theorem ERel.forget {K : PySem.W.Frag} {W : Wd} {σ : L2.St} {ρ : DEnv} (e : ERel K W σ ρ) (i : Nat) : ERel K W (σ.set i none) (ρ.set i none) := by
  refine ⟨by simpa using e.len, fun j z hz => ?_⟩
  by_cases hj : i = j
  · subst hj
    have hlt : i < ρ.length := by
      have := (List.getElem?_eq_some_iff.mp hz).1
      simpa using this
    rw [List.getElem?_set_self hlt] at hz
    cases hz
  · rw [List.getElem?_set_ne hj] at hz ⊢
    exact e.at_ j z hz
theorem ERel.wipe {K : PySem.W.Frag} {W : Wd} {σ : L2.St} {ρ : DEnv} (e : ERel K W σ ρ) : ∀ (vs : List Nat), ERel K W (L2.wipe σ vs) (wipeD ρ vs)
  | [] => e
  | v :: vs => (ERel.wipe e vs).forget v
/-- what a target does -/
def TgS (K : PySem.W.Frag) (t : MT) (q : TG) : Prop :=
  ∀ (T : Tbs) (W : Wd) (H : Hp) (h : DH) (v : V) (y : Vx) (σ : L2.St) (ρ ρ' : DEnv) (Q : L2.St → Hp → Prop), HRel K T W H h → RepV K W v y → ERel K W σ ρ → asg t y ρ = some ρ' →
    (∀ σ', ERel K W σ' ρ' → SameOut t.slots σ σ' → Q σ' H) → q v σ H Q
def TgSs (K : PySem.W.Frag) (ts : List MT) (q : TGs) : Prop :=
  ∀ (T : Tbs) (W : Wd) (H : Hp) (h : DH) (vs : List V) (ys : List Vx) (σ : L2.St) (ρ ρ' : DEnv) (Q : L2.St → Hp → Prop), HRel K T W H h → RepVs K W vs ys → ERel K W σ ρ → asgs ts ys ρ = some ρ' →
    (∀ σ', ERel K W σ' ρ' → SameOut (MT.slotss ts) σ σ' → Q σ' H) → q vs σ H Q
theorem asgs_length : ∀ {ts : List MT} {ys : List Vx} {ρ ρ' : DEnv}, asgs ts ys ρ = some ρ' → ys.length = ts.length
  | [], [], _, _, _ => rfl
  | [], _ :: _, _, _, h => by cases h
  | _ :: _, [], _, _, h => by cases h
  | t :: ts, y :: ys, ρ, ρ', h => by
    unfold asgs at h
    split at h
    · rw [List.length_cons, List.length_cons, asgs_length h]
    · cases h
section
variable {X : Cx} {pos : Pos}
theorem tg_nm (i : Nat) : TgS X.K (.nm i) (gName i) := fun T W H h v y σ ρ ρ' Q hr rv er e q => by
  cases e
  refine q _ (er.set rv) ⟨by simp, fun j hj => ?_⟩
  rw [List.getElem?_set_ne (fun z => hj (by rw [← z]; exact List.mem_singleton_self _))]
theorem tgs_nil : TgSs X.K [] gNil := fun T W H h vs ys σ ρ ρ' Q hr rv er e q => by
  cases rv with
  | nil => cases e; exact ⟨rfl, q _ er (SameOut.refl _ _)⟩
  | cons _ _ => cases e
theorem tgs_cons {t : MT} {ts : List MT} {q1 : TG} {q2 : TGs} (h1 : TgS X.K t q1) (h2 : TgSs X.K ts q2) : TgSs X.K (t :: ts) (gCons q1 q2) := fun T W H h vs ys σ ρ ρ' Q hr rv er e q => by
  cases rv with
  | nil => cases e
  | @cons v y vs ys r1 r2 =>
    unfold asgs at e
    split at e
    · rename_i ρ1 e1
      refine ⟨v, vs, rfl, h1 T W H h v y σ ρ ρ1 _ hr r1 er e1 fun σ1 er1 s1 => ?_⟩
      refine h2 T W H h vs ys σ1 ρ1 ρ' _ hr r2 er1 e fun σ2 er2 s2 => q σ2 er2 ?_
      unfold MT.slotss
      exact (s1.mono fun i hi => List.mem_append_left _ hi).trans (s2.mono fun i hi => List.mem_append_right _ hi)
    · cases e
/-- (a, b, ..) = a tuple or a list of that length -/
def gSq (K : PySem.W.Frag) (n : Nat) (t : TGs) : TG := fun v σ H Q => gTup K n t v σ H Q ∨ gUnl K n t v σ H Q
theorem pg_sq {es : List Expr} {k : Nat} {t : TGs} {n : Nat} (hc : X.calm = true) (h : PGs X es t) (hn : (assignEach es X.env).length = n) (hst : (assignEach es X.env).findIdx? (·.1) = none) : PG X (.Tuple es k pos) (gSq X.K n t) :=
  ⟨fun pins s σ H v u Q I r p => p.elim (fun p => (pg_tup hc h hn hst).run pins s σ H v u Q I r p) fun p => (pg_unl hc h hn hst).run pins s σ H v u Q I r p⟩
theorem tg_tup {ts : List MT} {q : TGs} (h : TgSs X.K ts q) : TgS X.K (.tup ts) (gSq X.K ts.length q) := fun T W H hh v y σ ρ ρ' Q hr rv er e qq => by
  unfold asg at e
  split at e
  · rename_i ds
    have hl := asgs_length e
    obtain ⟨a1, vs1, rfl, q1, f1, s1⟩ := repTup (g := ⟨[], T⟩) hr rv
    refine .inl ⟨a1, vs1, rfl, q1, ?_, h T W H hh vs1 _ σ ρ ρ' Q hr (.of_plain s1) er e qq⟩
    rw [s1.length, ← hl, List.length_map]
  · rename_i ds
    have hl := asgs_length e
    cases rv with
    | lst h1 h2 =>
      refine .inr ⟨_, _, rfl, SqL.of (hr.fro _ _ h1), ?_, h T W H hh _ _ σ ρ ρ' Q hr (.of_plain h2) er e qq⟩
      rw [h2.length, ← hl, List.length_map]
  · cases e
end
end Dn
end
section
set_option Elab.async false
set_option linter.all false
set_option maxRecDepth 100000
set_option maxHeartbeats 2000000
/-! Dn8: what is walked. -/
namespace Dn
open PySem PySem.Spec PyProof.Rows L2

/-! ### what is walked -/
/-- a row of values: as it was found, or a list of the plain heap as it stands -/
inductive Src where
  | ds (l : List Dt) | hp (k : Nat) | sc (ns : List Int)
inductive Wk where
  | s (x : Src) | rg (lo : Int) (n : Nat) | rc (lo c : Int) (n : Nat) | en (x : Src) | zp (x y : Src) | ez (x y : Src)
def Src.item : Src → Nat → DH → Option (Option Vx)
  | .ds l, i, _ => some (match l[i]? with | some x => some (.d x) | none => none)
  | .hp k, i, h => (match h[k]? with | some (.lst ys) => some ys[i]? | _ => none)
  | .sc ns, i, _ => some (match ns[i]? with | some x => some (.d (.int x)) | none => none)
def Src.len : Src → DH → Nat
  | .ds l, _ => l.length
  | .hp k, h => (match h[k]? with | some (.lst ys) => ys.length | _ => 0)
  | .sc ns, _ => ns.length
def pair1 (x : Dt) : Option (Option Vx) → Option (Option Vx)
  | some (some (.d y)) => some (some (.d (.tup [x, y])))
  | some none => some none
  | _ => none
def pair2 : Option (Option Vx) → Option (Option Vx) → Option (Option Vx)
  | some (some (.d x)), some (some (.d y)) => some (some (.d (.tup [x, y])))
  | some none, some _ => some none
  | some (some (.d _)), some none => some none
  | _, _ => none
def Wk.item : Wk → Nat → DH → Option (Option Vx)
  | .s x, i, h => x.item i h
  | .rg lo n, i, _ => some (if i < n then some (.d (.int (lo + i))) else none)
  | .rc lo c n, i, _ => some (if i < n then some (.d (.int (lo + i * c))) else none)
  | .en x, i, h => pair1 (.int i) (x.item i h)
  | .zp x y, i, h => pair2 (x.item i h) (y.item i h)
  | .ez x y, i, h => pair1 (.int i) (pair2 (x.item i h) (y.item i h))
def Wk.len : Wk → DH → Nat
  | .s x, h => x.len h
  | .rg _ n, _ => n
  | .rc _ _ n, _ => n
  | .en x, h => x.len h
  | .zp x y, h => min (x.len h) (y.len h)
  | .ez x y, h => min (x.len h) (y.len h)
/-- an iterator J that gives what wk says -/
def WkR (K : PySem.W.Frag) (T : Tbs) (W : Wd) (wk : Wk) (J : It) : Prop :=
  ∀ (W1 : Wd) (H1 : Hp) (h1 : DH), WLe W W1 → HRel K T W1 H1 h1 → ∀ i, match wk.item i h1 with
    | some (some y) => J.go i H1 ∧ ∀ x H', J.yld i H1 x H' → ∃ W2, Ext W1 H1 W2 H' ∧ HRel K T W2 H' h1 ∧ RepV K W2 x y
    | some none => J.stop i H1
    | none => True
abbrev LI (K : PySem.W.Frag) (g : Gp) (Wx : WX) (f : DEnv → Mo Wk) : TI := Lf K g (fun W J wk => WkR K g.T W wk J) Wx f
def srcOf : Vx → Option Src
  | .d (.tup ds) => some (.ds ds)
  | .d (.lst ds) => some (.ds ds)
  | .d (.str s) => some (.ds (s.map fun c => .str [c]))
  | .r k => some (.hp k)
  | .s ns => some (.sc ns)
  | _ => none
def wVal (fa : DEnv → Mo Vx) : DEnv → Mo Wk := fun ρ => bnd (fa ρ) fun y h => match srcOf y with
  | some x => if (x.item 0 h).isSome then .ok (.s x) h else .stk
  | none => .stk
section
variable {X : Cx} {g : Gp} {Wx : WX} {pins : List (Addr × Obj)} {σ : L2.St} {H : Hp} {s : Shared} {tg : Expr} {R : It → Hp → Prop} {E : Value → Shared → Prop}
theorem itr_list {a : Addr} {xs : List V} (I : Inv X pins σ H s) (q : SqL X.K H a xs) (r : R (Itl X.K a) H) : wpAny (model X.prog X.w) X.A (pyIter (.ref a)) (PIE X pins σ tg R) E s := by
  obtain ⟨its, _, p, _⟩ := I.list q
  exact wpAny_pyIter_list p.isList (pi_one (tk := s.toks) I _ (turn_list a _) ⟨_, Heap.get?_push_size _ rfl, rfl, rfl⟩ r)
theorem itr_tup {a : Addr} {xs : List V} (I : Inv X pins σ H s) (q : SqT X.K H a xs) (r : R (Itt X.K a) H) : wpAny (model X.prog X.w) X.A (pyIter (.ref a)) (PIE X pins σ tg R) E s := by
  obtain ⟨its, _, p, _⟩ := I.tuple q
  exact wpAny_pyIter_tuple (show s.heap.IsTuple a its.toArray from p) (pi_one (tk := s.toks) I _ (turn_tuple a _) ⟨_, Heap.get?_push_size _ rfl, rfl, rfl⟩ r)
theorem itr_str {x : Str} {t : Tok} (I : Inv X pins σ H s) (r : R (Its x) H) : wpAny (model X.prog X.w) X.A (pyIter (.str x t)) (PIE X pins σ tg R) E s := by
  cases ha : x.cps.all (· < 128)
  · exact wpAny_pyIter_wide ha (pi_one (tk := s.toks) I _ (turn_str _ x t _ (.inr rfl)) ⟨_, Heap.get?_push_size _ rfl, rfl, rfl⟩ r)
  · exact wpAny_pyIter_ascii ha (pi_one (tk := s.toks) I _ (turn_str _ x t _ (.inl rfl)) ⟨_, Heap.get?_push_size _ rfl, rfl, rfl⟩ r)
/-- whatever a walk may begin on -/
def iAny (K : PySem.W.Frag) (te : TE) : TI := fun σ H R => te σ H fun v H1 => (∃ a xs, v = .ref a ∧ SqL K H1 a xs ∧ R (Itl K a) H1) ∨ (∃ a xs, v = .ref a ∧ SqT K H1 a xs ∧ R (Itt K a) H1) ∨ ∃ x, v = .str x ∧ R (Its x) H1
theorem pi_any {e : Expr} {te : TE} (he : PE X e te) : PI X tg e (iAny X.K te) := by
  refine ⟨fun pins s σ H R I h => thn (he.run pins s σ H _ I h) fun v s1 ⟨y, H1, I1, r1, q⟩ => ?_⟩
  rcases q with ⟨a, xs, rfl, q1, q2⟩ | ⟨a, xs, rfl, q1, q2⟩ | ⟨x, rfl, q2⟩
  · cases r1; exact itr_list I1 q1 q2
  · cases r1; exact itr_tup I1 q1 q2
  · obtain ⟨t, rfl⟩ := r1
    exact itr_str I1 q2
theorem wk_sqL {T : Tbs} {W : Wd} {a : Addr} {vs : List V} {ds : List Dt} (e : W.F a = some (.lst vs)) (r : RepDs X.K W.F vs ds) : WkR X.K T W (.s (.ds ds)) (Itl X.K a) := by
  intro W1 H1 h1 le hr i
  have hf := hr.fro _ _ (le.F _ _ e)
  have r1 := r.le le.F
  show (match (some (match ds[i]? with | some x => some (Vx.d x) | none => none) : Option (Option Vx)) with | some (some y) => _ | some none => _ | none => True)
  cases hd : ds[i]? with
  | some x =>
    obtain ⟨v, e1, e2⟩ := r1.get hd
    exact ⟨⟨vs, v, SqL.of hf, e1⟩, fun z H' y => ⟨W1, y.1 ▸ Ext.refl _ _, y.1 ▸ hr, by have := y.2 vs (SqL.of hf); rw [e1] at this; cases this; exact e2⟩⟩
  | none => exact ⟨vs, SqL.of hf, by rw [r1.length]; exact List.getElem?_eq_none_iff.mp hd⟩
theorem wk_sqT {T : Tbs} {W : Wd} {a : Addr} {vs : List V} {ds : List Dt} (e : SqT X.K W.F a vs) (r : RepDs X.K W.F vs ds) : WkR X.K T W (.s (.ds ds)) (Itt X.K a) := by
  intro W1 H1 h1 le hr i
  have hf : SqT X.K H1 a vs := SqT.le (SqT.le e le.F) hr.fro
  have r1 := r.le le.F
  show (match (some (match ds[i]? with | some x => some (Vx.d x) | none => none) : Option (Option Vx)) with | some (some y) => _ | some none => _ | none => True)
  cases hd : ds[i]? with
  | some x =>
    obtain ⟨v, e1, e2⟩ := r1.get hd
    exact ⟨⟨vs, v, hf, e1⟩, fun z H' y => ⟨W1, y.1 ▸ Ext.refl _ _, y.1 ▸ hr, by have := y.2 vs hf; rw [e1] at this; cases this; exact e2⟩⟩
  | none => exact ⟨vs, hf, by rw [r1.length]; exact List.getElem?_eq_none_iff.mp hd⟩
theorem wk_str {T : Tbs} {W : Wd} {z : List Nat} (ok : okS z) : WkR X.K T W (.s (.ds (z.map fun c => .str [c]))) (Its (toStr z)) := by
  intro W1 H1 h1 le hr i
  have hs : (toStr z).cps.size = z.length := by simp
  show (match (some (match (z.map fun c => Dt.str [c])[i]? with | some x => some (Vx.d x) | none => none) : Option (Option Vx)) with | some (some y) => _ | some none => _ | none => True)
  rw [List.getElem?_map]
  cases hd : z[i]? with
  | some x =>
    have hlt := (List.getElem?_eq_some_iff.mp hd).1
    have hx : x < 0x110000 := ok.2 x (List.mem_of_getElem? hd)
    refine ⟨by show i < (toStr z).cps.size; rw [hs]; exact hlt, fun v H' y => ⟨W1, y.1 ▸ Ext.refl _ _, y.1 ▸ hr, ?_⟩⟩
    obtain ⟨_, c, e1, rfl⟩ := y
    have e2 : z[i]? = some c := by simpa using e1
    rw [hd] at e2
    cases e2
    exact RepD.str [x] ⟨by show 1 ≤ sizeLine; rw [sizeLine_eq]; decide, by simpa using hx⟩
  | none => exact (show (toStr z).cps.size ≤ i by rw [hs]; exact List.getElem?_eq_none_iff.mp hd)
theorem wk_hp {T : Tbs} {W : Wd} {a : Addr} {k : Nat} (e : W.θ[k]? = some a) : WkR X.K T W (.s (.hp k)) (Itl X.K a) := by
  intro W1 H1 h1 le hr i
  have ea := le.at_ e
  show (match (match h1[k]? with | some (.lst ys) => some ys[i]? | _ => none) with | some (some y) => _ | some none => _ | none => True)
  cases hk : h1[k]? with
  | none => exact True.intro
  | some o =>
    cases o with
    | dead => exact True.intro
    | lst ys =>
      obtain ⟨xs, hx, hv⟩ := hr.obj k a _ ea hk
      have hq : SqL X.K H1 a xs := SqL.of hx
      show (match (some ys[i]? : Option (Option Vx)) with | some (some y) => _ | some none => _ | none => True)
      cases hd : ys[i]? with
      | some y =>
        obtain ⟨v, e1, e2⟩ := hv.get hd
        exact ⟨⟨xs, v, hq, e1⟩, fun z H' y => ⟨W1, y.1 ▸ Ext.refl _ _, y.1 ▸ hr, by have := y.2 xs hq; rw [e1] at this; cases this; exact e2⟩⟩
      | none => exact ⟨xs, hq, by rw [hv.length]; exact List.getElem?_eq_none_iff.mp hd⟩
theorem wk_sc {T : Tbs} {W : Wd} {a : Addr} {ns : List Int} (e : SqL X.K W.F a (ns.map V.int)) : WkR X.K T W (.s (.sc ns)) (Itl X.K a) := by
  intro W1 H1 h1 le hr i
  have hq : SqL X.K H1 a (ns.map V.int) := SqL.le (SqL.le e le.F) hr.fro
  show (match (some (match ns[i]? with | some x => some (Vx.d (.int x)) | none => none) : Option (Option Vx)) with | some (some y) => _ | some none => _ | none => True)
  cases hd : ns[i]? with
  | some x =>
    have e1 : (ns.map V.int)[i]? = some (.int x) := by rw [List.getElem?_map, hd]; rfl
    exact ⟨⟨_, _, hq, e1⟩, fun z H' y => ⟨W1, y.1 ▸ Ext.refl _ _, y.1 ▸ hr, by have := y.2 _ hq; rw [e1] at this; cases this; exact RepD.int x⟩⟩
  | none => exact ⟨_, hq, by rw [List.length_map]; exact List.getElem?_eq_none_iff.mp hd⟩
theorem wk_rg {T : Tbs} {W : Wd} {lo : Int} {n : Nat} : WkR X.K T W (.rg lo n) (Itr lo n) := by
  intro W1 H1 h1 le hr i
  show (match (some (if i < n then some (Vx.d (.int (lo + i))) else none) : Option (Option Vx)) with | some (some y) => _ | some none => _ | none => True)
  by_cases hi : i < n
  · rw [if_pos hi]
    exact ⟨hi, fun x H' y => ⟨W1, y.1 ▸ Ext.refl _ _, y.1 ▸ hr, by rw [y.2]; exact RepD.int _⟩⟩
  · rw [if_neg hi]
    exact Nat.le_of_not_lt hi
theorem pd_wval {e : Expr} {fa : DEnv → Mo Vx} (he : PE X e (LE X.K g Wx fa)) : PI X tg e (LI X.K g Wx (wVal fa)) := by
  refine ⟨fun pins s σ H R I h => (pi_any (tg := tg) he).run pins s σ H R I ?_⟩
  refine Lf.imp (Lf.bnd (R := RV X.K) h) fun v H1 ⟨W1, ρ, y, h1, hr1, er, rr, p1⟩ => ?_
  cases y with
  | d x =>
    cases x with
    | tup ds =>
      obtain ⟨a, vs, rfl, q1, q2, q3⟩ := repTup hr1 rr
      exact .inr (.inl ⟨a, vs, rfl, q1, p1.ret hr1 (wk_sqT q2 q3)⟩)
    | lst ds =>
      cases rr with
      | lst q1 q2 => exact .inl ⟨_, _, rfl, SqL.of (hr1.fro _ _ q1), p1.ret hr1 (wk_sqL q1 q2)⟩
    | str z =>
      obtain ⟨rfl, ok⟩ := repStr rr
      exact .inr (.inr ⟨_, rfl, p1.ret hr1 (wk_str ok)⟩)
    | _ => exact p1.elim
  | r k =>
    obtain ⟨a, ea, rfl⟩ := rr
    have p1 : Post X.K g (fun W J wk => WkR X.K g.T W wk J) W1 H1 (if (Src.item (.hp k) 0 h1).isSome = true then Rz.ok (Wk.s (.hp k)) h1 else Rz.stk) R (fun c d H' => Wx c d σ H') := p1
    cases hk : h1[k]? with
    | none => simp only [Src.item, hk] at p1; exact p1.elim
    | some o =>
      cases o with
      | dead => simp only [Src.item, hk] at p1; exact p1.elim
      | lst ys =>
        simp only [Src.item, hk] at p1
        obtain ⟨xs, hx, hv⟩ := hr1.obj k a _ ea hk
        exact .inl ⟨a, xs, rfl, SqL.of hx, p1.ret hr1 (wk_hp ea)⟩
  | x _ _ => exact rr.elim
  | s ns =>
    obtain ⟨a, rfl, q⟩ := rr
    exact .inl ⟨a, _, rfl, SqL.of_rel hr1 q, p1.ret hr1 (wk_sc q)⟩
/-! ranges -/
def wRng1 (fs : DEnv → Mo (List Vx)) : DEnv → Mo Wk := fun ρ => bnd (fs ρ) fun as h => match as with
  | [.d (.int j)] => if -4611686018427387904 ≤ j ∧ j < 4611686018427387904 then .ok (.rg 0 j.toNat) h else .stk
  | _ => .stk
def wRng2 (fs : DEnv → Mo (List Vx)) : DEnv → Mo Wk := fun ρ => bnd (fs ρ) fun as h => match as with
  | [.d (.int i), .d (.int j)] => if (-4611686018427387904 ≤ i ∧ i < 4611686018427387904) ∧ -4611686018427387904 ≤ j ∧ j < 4611686018427387904 then .ok (.rg i (j - i).toNat) h else .stk
  | _ => .stk
theorem pd_rng1 {a : Expr} {fs : DEnv → Mo (List Vx)} {p pos : Pos} (hg : Gl X "range") (hm : X.mg "range" = none) (ha : PA X [a] (LA X.K g Wx fs)) (hs : starEach [a] X.env = [(false, eval a X.env)]) : PI X tg (.Call (.Name "range" p) [a] [] pos) (LI X.K g Wx (wRng1 fs)) := by
  refine ⟨fun pins s σ H R I h => (pi_range1 (tg := tg) hg hm ha hs).run pins s σ H R I ?_⟩
  refine Lf.imp (Lf.bnd (R := RVs X.K) h) fun v H1 ⟨W1, ρ, y, h1, hr1, er, rr, p1⟩ => ?_
  split at p1
  · rename_i j
    obtain ⟨x, rfl, r1⟩ := rr.one
    split at p1
    · rename_i hj
      exact ⟨j, by rw [repInt r1], by omega, by omega, p1.ret hr1 wk_rg⟩
    · exact p1.elim
  · exact p1.elim
theorem pd_rng2 {a b : Expr} {fs : DEnv → Mo (List Vx)} {p pos : Pos} (hg : Gl X "range") (hm : X.mg "range" = none) (ha : PA X [a, b] (LA X.K g Wx fs)) (hs : starEach [a, b] X.env = [(false, eval a X.env), (false, eval b X.env)]) (hs2 : starEach [b] X.env = [(false, eval b X.env)]) : PI X tg (.Call (.Name "range" p) [a, b] [] pos) (LI X.K g Wx (wRng2 fs)) := by
  refine ⟨fun pins s σ H R I h => (pi_range2 (tg := tg) hg hm ha hs hs2).run pins s σ H R I ?_⟩
  refine Lf.imp (Lf.bnd (R := RVs X.K) h) fun v H1 ⟨W1, ρ, y, h1, hr1, er, rr, p1⟩ => ?_
  split at p1
  · rename_i i j
    obtain ⟨x, z, rfl, r1, r2⟩ := rr.two
    split at p1
    · rename_i hj
      exact ⟨i, j, by rw [repInt r1, repInt r2], by omega, p1.ret hr1 wk_rg⟩
    · exact p1.elim
  · exact p1.elim
end
end Dn
end
section
set_option Elab.async false
set_option linter.all false
set_option maxRecDepth 100000
set_option maxHeartbeats 2000000
/-! Dn9: list comprehensions. -/
namespace Dn
open PySem PySem.Spec PyProof.Rows L2

section
variable {K : PySem.W.Frag} {T : Tbs} {W W1 W2 : Wd} {H H1 H2 : Hp} {h : DH} {D : Addr} {acc acc' : List V}
/-- a list that the world does not know -/
structure Own (W : Wd) (H : Hp) (D : Addr) (acc : List V) : Prop where
  at_ : H D = some (.lst acc)
  nθ : D ∉ W.θ
  nF : W.F D = none
theorem notTbl_lst (xs : List V) : notTbl (.lst xs) := fun ps e => by cases e
theorem Own.keep (o : Own W H D acc) (e : Ext W H W1 H1) : Own W1 H1 D acc := by
  refine ⟨e.frame _ _ o.at_ o.nθ (notTbl_lst _), fun hm => ?_, ?_⟩
  · obtain ⟨new, e1, e2⟩ := e.θ
    rw [e1] at hm
    rcases List.mem_append.mp hm with q | q
    · exact o.nθ q
    · have := e2 D q; rw [o.at_] at this; cases this
  · cases q : W1.F D with
    | none => rfl
    | some u =>
      rcases e.newF D u q with z | z | z
      · rw [o.nF] at z; cases z
      · rw [o.at_] at z; cases z
      · exact absurd z o.nθ
theorem HRel.own (r : HRel K T W H h) (o : Own W H D acc) (acc' : List V) : HRel K T W (upd H D (.lst acc')) h ∧ Own W (upd H D (.lst acc')) D acc' := by
  have ne : ∀ (k : Nat) (a : Addr), W.θ[k]? = some a → a ≠ D := fun k a e z => o.nθ (z ▸ List.mem_of_getElem? e)
  refine ⟨⟨fun a u e => ?_, r.ntb, r.len, fun k a u e1 e2 => ?_, r.liv, r.nd, TabsN_upd r.tab o.at_⟩, ⟨upd_same, o.nθ, o.nF⟩⟩
  · have : a ≠ D := fun z => by rw [z, o.nF] at e; cases e
    rw [upd_ne this]; exact r.fro a u e
  · have hh := r.obj k a u e1 e2
    cases u with
    | lst zs => obtain ⟨ws, h1, h2⟩ := hh; exact ⟨ws, by rw [upd_ne (ne k a e1)]; exact h1, h2⟩
    | dead => obtain ⟨ws, h1⟩ := hh; exact ⟨ws, by rw [upd_ne (ne k a e1)]; exact h1⟩
/-- a new list that the world does not know yet -/
theorem HRel.born (r : HRel K T W H h) (hD : H D = none) (acc : List V) : HRel K T W (upd H D (.lst acc)) h ∧ Own W (upd H D (.lst acc)) D acc ∧ Ext W H W (upd H D (.lst acc)) := by
  have fD : W.F D = none := by
    cases q : W.F D with
    | none => rfl
    | some u => rw [r.fro _ _ q] at hD; cases hD
  have nθ : D ∉ W.θ := fun hm => by
    obtain ⟨k, hk⟩ := List.mem_iff_getElem?.mp hm
    have hlt := (List.getElem?_eq_some_iff.mp hk).1
    obtain ⟨o, ho⟩ : ∃ o, h[k]? = some o := ⟨h[k]'(by rw [← r.len]; exact hlt), by simp⟩
    have hh := r.obj k D o hk ho
    cases o with
    | lst zs => obtain ⟨xs, h1, _⟩ := hh; rw [hD] at h1; cases h1
    | dead => obtain ⟨xs, h1⟩ := hh; rw [hD] at h1; cases h1
  have leH : HLe H (upd H D (.lst acc)) := fun a u e => by rw [upd_ne (ne_of_none e hD)]; exact e
  refine ⟨⟨fun a u e => leH a u (r.fro a u e), r.ntb, r.len, fun k a u e1 e2 => ?_, r.liv, r.nd, r.tab.ext leH⟩, ⟨upd_same, nθ, fD⟩, HLe.refl _, ⟨[], by simp, by simp⟩, fun a u e _ _ => leH a u e, fun a e => ?_, fun a u e => .inl e⟩
  · have hh := r.obj k a u e1 e2
    cases u with
    | lst zs => obtain ⟨ws, h1, h2⟩ := hh; exact ⟨ws, leH _ _ h1, h2⟩
    | dead => obtain ⟨ws, h1⟩ := hh; exact ⟨ws, leH _ _ h1⟩
  · by_cases q : a = D
    · subst q; rw [upd_same] at e; cases e
    · rw [upd_ne q] at e; exact e
theorem Ext.touch (e : Ext W H W1 H1) (hD : H D = none) {o : HO} : Ext W H W1 (upd H1 D o) := by
  refine ⟨e.F, e.θ, fun a u ha n nt => ?_, fun a ha => ?_, e.newF⟩
  · rw [upd_ne (ne_of_none ha hD)]; exact e.frame a u ha n nt
  · by_cases q : a = D
    · subst q; exact hD
    · rw [upd_ne q] at ha; exact e.dom a ha
/-- known from now on for good -/
theorem HRel.freeze (r : HRel K T W H h) (o : Own W H D acc) : HRel K T ⟨upd W.F D (.lst acc), W.θ⟩ H h := by
  have le : HLe W.F (upd W.F D (.lst acc)) := fun a u e => by rw [upd_ne (ne_of_none e o.nF)]; exact e
  have wl : WLe W ⟨upd W.F D (.lst acc), W.θ⟩ := ⟨le, [], by simp⟩
  refine ⟨fun a u e => ?_, fun a u e => ?_, r.len, fun k a u e1 e2 => ?_, fun k a u e1 e2 nd => ?_, r.nd, r.tab⟩
  · by_cases q : a = D
    · subst q; simp only [upd_same] at e; cases e; exact o.at_
    · simp only [upd_ne q] at e; exact r.fro a u e
  · by_cases q : a = D
    · subst q; simp only [upd_same] at e; cases e; exact notTbl_lst _
    · simp only [upd_ne q] at e; exact r.ntb a u e
  · have hh := r.obj k a u e1 e2
    cases u with
    | lst zs => obtain ⟨ws, h1, h2⟩ := hh; exact ⟨ws, h1, h2.le wl⟩
    | dead => exact hh
  · have : a ≠ D := fun z => o.nθ (z ▸ List.mem_of_getElem? e1)
    simp only [upd_ne this]
    exact r.liv k a u e1 e2 nd
theorem Ext.freeze (e : Ext W H W1 H1) (hD : H D = none) {o : HO} (nF : W1.F D = none) : Ext W H ⟨upd W1.F D o, W1.θ⟩ H1 := by
  refine ⟨e.F.trans fun a u x => by show upd W1.F D o a = some u; rw [upd_ne (ne_of_none x nF)]; exact x, e.θ, e.frame, e.dom, fun a u x => ?_⟩
  by_cases q : a = D
  · subst q; exact .inr (.inl hD)
  · simp only [upd_ne q] at x; exact e.newF a u x
/-- from now on a list of the plain heap -/
theorem HRel.adopt (r : HRel K T W H h) (o : Own W H D acc) {ys : List Vx} (rv : RepVs K W acc ys) : HRel K T ⟨W.F, W.θ ++ [D]⟩ H (h ++ [.lst ys]) := by
  have wl : WLe W ⟨W.F, W.θ ++ [D]⟩ := ⟨HLe.refl _, [D], rfl⟩
  have old : ∀ (k : Nat) (a : Addr), (W.θ ++ [D])[k]? = some a → (k < W.θ.length ∧ W.θ[k]? = some a) ∨ (k = W.θ.length ∧ a = D) := fun k a e => by
    by_cases q : k < W.θ.length
    · rw [List.getElem?_append_left q] at e; exact .inl ⟨q, e⟩
    · rw [List.getElem?_append_right (by omega)] at e
      have hk : k - W.θ.length = 0 := by
        have := (List.getElem?_eq_some_iff.mp e).1
        simp at this; omega
      rw [hk] at e
      cases e
      exact .inr ⟨by omega, rfl⟩
  have at_ : ∀ (k : Nat) (o : Ob), k < W.θ.length → (h ++ [Ob.lst ys])[k]? = some o → h[k]? = some o := fun k o q e => by
    rw [List.getElem?_append_left (by rw [← r.len]; exact q)] at e; exact e
  refine ⟨r.fro, r.ntb, by simp [r.len], fun k a u e1 e2 => ?_, fun k a u e1 e2 nd => ?_, ?_, r.tab⟩
  · rcases old k a e1 with ⟨q, e⟩ | ⟨rfl, rfl⟩
    · have hh := r.obj k a u e (at_ k u q e2)
      cases u with
      | lst zs => obtain ⟨xs, h1, h2⟩ := hh; exact ⟨xs, h1, h2.le wl⟩
      | dead => exact hh
    · rw [r.len, List.getElem?_append_right (Nat.le_refl _), Nat.sub_self] at e2
      cases e2
      exact ⟨acc, o.at_, rv.le wl⟩
  · rcases old k a e1 with ⟨q, e⟩ | ⟨rfl, rfl⟩
    · exact r.liv k a u e (at_ k u q e2) nd
    · exact o.nF
  · refine List.nodup_append.mpr ⟨r.nd, by simp, fun a ha b hb => ?_⟩
    have eb : b = D := by simpa using hb
    subst eb
    rintro rfl
    exact o.nθ ha
theorem Ext.adopt (e : Ext W H W1 H1) (hD : H D = none) : Ext W H ⟨W1.F, W1.θ ++ [D]⟩ H1 := by
  obtain ⟨new, e1, e2⟩ := e.θ
  refine ⟨e.F, ⟨new ++ [D], by simp [e1], fun a ha => ?_⟩, e.frame, e.dom, e.newF⟩
  rcases List.mem_append.mp ha with q | q
  · exact e2 a q
  · have : a = D := by simpa using q
    rw [this]; exact hD
end

/-! ### [e for t in i if c] -/
def lcGo (wk : Wk) (t : MT) (ft : DEnv → Mo Bool) (fe : DEnv → Mo Vx) (ρ : DEnv) : Nat → Nat → List Vx → Mo (List Vx)
  | 0, _, _ => stk
  | n + 1, i, acc => fun h => match wk.item i h with
    | none => .stk
    | some none => .ok acc h
    | some (some y) => match asg t y ρ with
      | none => .stk
      | some ρ' => match ft ρ' h with
        | .ok true h2 => (match fe ρ' h2 with
          | .ok z h3 => if acc.length < 16777216 then lcGo wk t ft fe ρ n (i + 1) (acc ++ [z]) h3 else .stk
          | _ => .stk)
        | .ok false h2 => lcGo wk t ft fe ρ n (i + 1) acc h2
        | _ => .stk
/-- what comes of the list: known for good, or of the plain heap -/
def lcEnd (fz : Bool) (acc : List Vx) : Mo Vx := fun h => match fz with
  | true => (match plains acc with | some ds => .ok (.d (.lst ds)) h | none => .stk)
  | false => .ok (.r h.length) (h ++ [.lst acc])
def eLc (fz : Bool) (fi : DEnv → Mo Wk) (t : MT) (ft : DEnv → Mo Bool) (fe : DEnv → Mo Vx) (vs : List Nat) : DEnv → Mo Vx := fun ρ => bnd (fi ρ) fun wk h => bnd (lcGo wk t ft fe (wipeD ρ vs) (wk.len h + 1) 0 []) (lcEnd fz) h
/-- nothing is raised -/
abbrev NoX : WX := fun _ _ _ _ => False
section
variable {K : PySem.W.Frag} {g : Gp} {Wx : WX}
theorem lc_end {W W1 : Wd} {H H1 : Hp} {h : DH} {D : Addr} {acc : List V} {ys : List Vx} {fz : Bool} {Q : VK} {E : XK} (P : Post K g (RV K) W H (lcEnd fz ys h) Q E) (ex : Ext W H W1 H1) (hr : HRel K g.T W1 H1 h) (hD : H D = none) (o : Own W1 H1 D acc) (rv : RepVs K W1 acc ys) : Q (.ref D) H1 := by
  unfold lcEnd at P
  split at P
  · split at P
    · rename_i ds e
      refine P ⟨upd W1.F D (.lst acc), W1.θ⟩ _ _ (ex.freeze hD o.nF) (hr.freeze o) ?_
      exact RepD.lst upd_same (RepDs.le (fun a u x => by show upd W1.F D (.lst acc) a = some u; rw [upd_ne (ne_of_none x o.nF)]; exact x) (rv.plain e))
    · exact P.elim
  · refine P ⟨W1.F, W1.θ ++ [D]⟩ _ _ (ex.adopt hD) (hr.adopt o rv) ⟨D, ?_, rfl⟩
    rw [← hr.len, List.getElem?_append_right (Nat.le_refl _), Nat.sub_self]; rfl
theorem lc_tLc {fz : Bool} {fi : DEnv → Mo Wk} {t : MT} {ft : DEnv → Mo Bool} {fe : DEnv → Mo Vx} {vs : List Nat} {q : TG} (ht : TgS K t q) (hv : ∀ i ∈ t.slots, i ∈ vs) {σ : L2.St} {H : Hp} {Q : VK}
    (p : LE K g Wx (eLc fz fi t ft fe vs) σ H Q) : tLc (LI K g Wx fi) q (LT K g NoX ft) (LE K g NoX fe) vs σ H Q := by
  refine Lf.imp (Lf.bnd (R := fun W J wk => WkR K g.T W wk J) p) fun J H1 ⟨W1, ρ, wk, h1, hr1, er, rr, p1⟩ => ?_
  intro D hD
  obtain ⟨hr0, o0, ex0⟩ := hr1.born hD []
  refine ⟨fun i m H' => ∃ Wc hc acc ys, Ext W1 H1 Wc H' ∧ HRel K g.T Wc H' hc ∧ Own Wc H' D acc ∧ RepVs K Wc acc ys ∧
    Post K g (RV K) W1 H1 (bnd (lcGo wk t ft fe (wipeD ρ vs) m i ys) (lcEnd fz) hc) Q (fun c d H' => Wx c d σ H'), ⟨wk.len h1 + 1, W1, h1, [], [], ex0, hr0, o0, .nil, p1⟩, ?_⟩
  rintro i m H' ⟨Wc, hc, acc, ys, ex, hr, own, ra, P⟩
  unfold Dn.bnd at P
  cases m with
  | zero => exact P.elim
  | succ m =>
    have key := rr Wc H' hc ex.le hr i
    unfold lcGo at P
    cases hi : wk.item i hc with
    | none => rw [hi] at P; exact P.elim
    | some oy =>
      rw [hi] at key P
      cases oy with
      | none => exact .inl ⟨key, lc_end P ex hr hD own ra⟩
      | some y =>
        refine .inr ⟨key.1, fun H'' => ∃ Wc hc acc ys, Ext W1 H1 Wc H'' ∧ HRel K g.T Wc H'' hc ∧ Own Wc H'' D acc ∧ RepVs K Wc acc ys ∧
          Post K g (RV K) W1 H1 (bnd (lcGo wk t ft fe (wipeD ρ vs) m (i + 1) ys) (lcEnd fz) hc) Q (fun c d H' => Wx c d σ H'), fun H'' n => ⟨m, Nat.lt_succ_self _, n⟩, fun x H2 yl => ?_⟩
        obtain ⟨W2, ex2, hr2, rv2⟩ := key.2 x H2 yl
        have own2 := own.keep ex2
        have ra2 := ra.le ex2.le
        cases ha : asg t y (wipeD ρ vs) with
        | none => simp only [ha] at P; exact P.elim
        | some ρ' =>
          simp only [ha] at P
          refine ht g.T W2 H2 hc x y (L2.wipe σ vs) (wipeD ρ vs) ρ' _ hr2 rv2 ((er.le (ex.le.trans ex2.le)).wipe vs) ha fun σ2 er2 so2 => ?_
          refine ⟨by rw [(so2.mono hv).wipe, wipe_wipe], W2, ρ', hc, hr2, er2, ?_⟩
          cases hft : ft ρ' hc with
          | stk => rw [hft] at P; exact P.elim
          | err c pp h3 => rw [hft] at P; exact P.elim
          | ok b h3 =>
            rw [hft] at P
            intro W3 b' H3 ex3 hr3 eb
            subst eb
            have own3 := own2.keep ex3
            have ra3 := ra2.le ex3.le
            have exA := (ex.trans ex2).trans ex3
            cases b' with
            | false => exact ⟨W3, h3, acc, ys, exA, hr3, own3, ra3, P⟩
            | true =>
              refine ⟨W3, ρ', h3, hr3, er2.le ex3.le, ?_⟩
              cases hfe : fe ρ' h3 with
              | stk => simp only [hfe] at P; exact P.elim
              | err c pp h4 => simp only [hfe] at P; exact P.elim
              | ok z h4 =>
                simp only [hfe] at P
                by_cases hlen : ys.length < 16777216
                · rw [if_pos hlen] at P
                  intro W4 v H4 ex4 hr4 rz
                  have own4 := own3.keep ex4
                  obtain ⟨hr5, own5⟩ := hr4.own own4 (acc ++ [v])
                  refine ⟨acc, own4.at_, by rw [ra.length, sizeLine_eq]; exact hlen, W4, h4, acc ++ [v], ys ++ [z], (exA.trans ex4).touch hD, hr5, own5, (ra3.le ex4.le).append (.cons rz .nil), P⟩
                · rw [if_neg hlen] at P; exact P.elim
end
section
variable {X : Cx} {g : Gp} {Wx : WX}
def tYesD : DEnv → Mo Bool := fun _ => ret true
theorem pts_nilD {Wx : WX} : PTs X [] (LT X.K g Wx tYesD) := ⟨fun pins s σ H Q I h => pts_nil.run pins s σ H Q I (by
  obtain ⟨W, ρ, hh, hr, er, p⟩ := h
  exact p.ret hr rfl)⟩
end
end Dn
end
section
set_option Elab.async false
set_option linter.all false
set_option maxRecDepth 100000
set_option maxHeartbeats 2000000
/-! Dn10: list comprehensions of two clauses. -/
namespace Dn
open PySem PySem.Spec PyProof.Rows L2

/-- nothing raised: on with what came -/
def onOk {α β : Type} (r : Rz α) (k : α → DH → Rz β) : Rz β := match r with
  | .ok a h => k a h
  | .err _ _ _ => .stk
  | .stk => .stk
def lcGo2 (wk : Wk) (t : MT) (ft : DEnv → Mo Bool) (fi1 : DEnv → Mo Wk) (t1 : MT) (ft1 : DEnv → Mo Bool) (fe : DEnv → Mo Vx) (vs1 : List Nat) (ρ : DEnv) : Nat → Nat → List Vx → Mo (List Vx)
  | 0, _, _ => stk
  | n + 1, i, acc => fun h => match wk.item i h with
    | none => .stk
    | some none => .ok acc h
    | some (some y) => match asg t y ρ with
      | none => .stk
      | some ρ' => match ft ρ' h with
        | .ok true h2 => onOk (fi1 ρ' h2) fun wk1 h3 => onOk (lcGo wk1 t1 ft1 fe (wipeD ρ' vs1) (wk1.len h3 + 1) 0 acc h3) fun acc' h4 => lcGo2 wk t ft fi1 t1 ft1 fe vs1 ρ n (i + 1) acc' h4
        | .ok false h2 => lcGo2 wk t ft fi1 t1 ft1 fe vs1 ρ n (i + 1) acc h2
        | _ => .stk
def eLc2 (fz : Bool) (fi : DEnv → Mo Wk) (t : MT) (ft : DEnv → Mo Bool) (fi1 : DEnv → Mo Wk) (t1 : MT) (ft1 : DEnv → Mo Bool) (fe : DEnv → Mo Vx) (vs vs1 : List Nat) : DEnv → Mo Vx :=
  fun ρ => bnd (fi ρ) fun wk h => bnd (lcGo2 wk t ft fi1 t1 ft1 fe vs1 (wipeD ρ vs) (wk.len h + 1) 0 []) (lcEnd fz) h
section
variable {K : PySem.W.Frag} {g : Gp} {Wx : WX}
theorem lc2_tLc {fz : Bool} {fi fi1 : DEnv → Mo Wk} {t t1 : MT} {ft ft1 : DEnv → Mo Bool} {fe : DEnv → Mo Vx} {vs vs1 : List Nat} {q q1 : TG} (ht : TgS K t q) (hv : ∀ i ∈ t.slots, i ∈ vs) (ht1 : TgS K t1 q1) (hv1 : ∀ i ∈ t1.slots, i ∈ vs1) {σ : L2.St} {H : Hp} {Q : VK}
    (p : LE K g Wx (eLc2 fz fi t ft fi1 t1 ft1 fe vs vs1) σ H Q) : tLc2 (LI K g Wx fi) q (LT K g NoX ft) (LI K g NoX fi1) q1 (LT K g NoX ft1) (LE K g NoX fe) vs vs1 σ H Q := by
  refine Lf.imp (Lf.bnd (R := fun W J wk => WkR K g.T W wk J) p) fun J H1 ⟨W1, ρ, wk, h1, hr1, er, rr, p1⟩ => ?_
  intro D hD
  obtain ⟨hr0, o0, ex0⟩ := hr1.born hD []
  refine ⟨fun i m H' => ∃ Wc hc acc ys, Ext W1 H1 Wc H' ∧ HRel K g.T Wc H' hc ∧ Own Wc H' D acc ∧ RepVs K Wc acc ys ∧
    Post K g (RV K) W1 H1 (bnd (lcGo2 wk t ft fi1 t1 ft1 fe vs1 (wipeD ρ vs) m i ys) (lcEnd fz) hc) Q (fun c d H' => Wx c d σ H'), ⟨wk.len h1 + 1, W1, h1, [], [], ex0, hr0, o0, .nil, p1⟩, ?_⟩
  rintro i m H' ⟨Wc, hc, acc, ys, ex, hr, own, ra, P⟩
  unfold Dn.bnd at P
  cases m with
  | zero => exact P.elim
  | succ m =>
    have key := rr Wc H' hc ex.le hr i
    unfold lcGo2 at P
    cases hi : wk.item i hc with
    | none => rw [hi] at P; exact P.elim
    | some oy =>
      rw [hi] at key P
      cases oy with
      | none => exact .inl ⟨key, lc_end P ex hr hD own ra⟩
      | some y =>
        refine .inr ⟨key.1, fun H'' => ∃ Wc hc acc ys, Ext W1 H1 Wc H'' ∧ HRel K g.T Wc H'' hc ∧ Own Wc H'' D acc ∧ RepVs K Wc acc ys ∧
          Post K g (RV K) W1 H1 (bnd (lcGo2 wk t ft fi1 t1 ft1 fe vs1 (wipeD ρ vs) m (i + 1) ys) (lcEnd fz) hc) Q (fun c d H' => Wx c d σ H'), fun H'' n => ⟨m, Nat.lt_succ_self _, n⟩, fun x H2 yl => ?_⟩
        obtain ⟨W2, ex2, hr2, rv2⟩ := key.2 x H2 yl
        have own2 := own.keep ex2
        have ra2 := ra.le ex2.le
        cases ha : asg t y (wipeD ρ vs) with
        | none => simp only [ha] at P; exact P.elim
        | some ρ' =>
          simp only [ha] at P
          refine ht g.T W2 H2 hc x y (L2.wipe σ vs) (wipeD ρ vs) ρ' _ hr2 rv2 ((er.le (ex.le.trans ex2.le)).wipe vs) ha fun σ2 er2 so2 => ?_
          refine ⟨by rw [(so2.mono hv).wipe, wipe_wipe], W2, ρ', hc, hr2, er2, ?_⟩
          cases hft : ft ρ' hc with
          | stk => rw [hft] at P; exact P.elim
          | err c pp h3 => rw [hft] at P; exact P.elim
          | ok b h3 =>
            rw [hft] at P
            intro W3 b' H3 ex3 hr3 eb
            subst eb
            have own3 := own2.keep ex3
            have ra3 := ra2.le ex3.le
            have exA := (ex.trans ex2).trans ex3
            cases b' with
            | false => exact ⟨W3, h3, acc, ys, exA, hr3, own3, ra3, P⟩
            | true =>
              refine ⟨W3, ρ', h3, hr3, er2.le ex3.le, ?_⟩
              have er3 := er2.le ex3.le
              cases hfi : fi1 ρ' h3 with
              | stk => simp only [hfi, onOk] at P; exact P.elim
              | err c pp h4 => simp only [hfi, onOk] at P; exact P.elim
              | ok wk1 h4 =>
                simp only [hfi] at P
                intro W4 J1 H4 ex4 hr4 rr4
                have own4 := own3.keep ex4
                have ra4 := ra3.le ex4.le
                have exB := exA.trans ex4
                have er4 := er3.le ex4.le
                refine ⟨fun j k H' => ∃ Wd hd acc1 ys1, Ext W1 H1 Wd H' ∧ WLe W4 Wd ∧ HRel K g.T Wd H' hd ∧ Own Wd H' D acc1 ∧ RepVs K Wd acc1 ys1 ∧
                  Post K g (RV K) W1 H1 (bnd (fun _ => onOk (lcGo wk1 t1 ft1 fe (wipeD ρ' vs1) k j ys1 hd) fun acc' h5 => lcGo2 wk t ft fi1 t1 ft1 fe vs1 (wipeD ρ vs) m (i + 1) acc' h5) (lcEnd fz) hd) Q (fun c d H' => Wx c d σ H'),
                  ⟨wk1.len h4 + 1, W4, h4, acc, ys, exB, WLe.refl _, hr4, own4, ra4, P⟩, ?_⟩
                rintro j k H5 ⟨Wd, hd, acc1, ys1, exd, wl, hrd, ownd, rad, P⟩
                cases k with
                | zero => unfold Dn.bnd at P; exact P.elim
                | succ k =>
                  have key1 := rr4 Wd H5 hd wl hrd j
                  unfold Dn.bnd lcGo at P
                  cases hj : wk1.item j hd with
                  | none => rw [hj] at P; exact P.elim
                  | some oz =>
                    rw [hj] at key1 P
                    cases oz with
                    | none => exact .inl ⟨key1, Wd, hd, acc1, ys1, exd, hrd, ownd, rad, P⟩
                    | some z =>
                      refine .inr ⟨key1.1, fun H' => ∃ Wd hd acc1 ys1, Ext W1 H1 Wd H' ∧ WLe W4 Wd ∧ HRel K g.T Wd H' hd ∧ Own Wd H' D acc1 ∧ RepVs K Wd acc1 ys1 ∧
                        Post K g (RV K) W1 H1 (bnd (fun _ => onOk (lcGo wk1 t1 ft1 fe (wipeD ρ' vs1) k (j + 1) ys1 hd) fun acc' h5 => lcGo2 wk t ft fi1 t1 ft1 fe vs1 (wipeD ρ vs) m (i + 1) acc' h5) (lcEnd fz) hd) Q (fun c d H' => Wx c d σ H'), fun H'' n => ⟨k, Nat.lt_succ_self _, n⟩, fun x1 H6 yl1 => ?_⟩
                      obtain ⟨W6, ex6, hr6, rv6⟩ := key1.2 x1 H6 yl1
                      have own6 := ownd.keep ex6
                      have ra6 := rad.le ex6.le
                      cases ha1 : asg t1 z (wipeD ρ' vs1) with
                      | none => simp only [ha1] at P; exact P.elim
                      | some ρ6 =>
                        simp only [ha1] at P
                        refine ht1 g.T W6 H6 hd x1 z (L2.wipe σ2 vs1) (wipeD ρ' vs1) ρ6 _ hr6 rv6 ((er4.le (wl.trans ex6.le)).wipe vs1) ha1 fun σ6 er6 so6 => ?_
                        refine ⟨by rw [(so6.mono hv1).wipe, wipe_wipe], W6, ρ6, hd, hr6, er6, ?_⟩
                        cases hft1 : ft1 ρ6 hd with
                        | stk => simp only [hft1] at P; exact P.elim
                        | err c pp h3 => simp only [hft1] at P; exact P.elim
                        | ok b h7 =>
                          simp only [hft1] at P
                          intro W7 b' H7 ex7 hr7 eb
                          subst eb
                          have own7 := own6.keep ex7
                          have ra7 := ra6.le ex7.le
                          have exE := (exd.trans ex6).trans ex7
                          have wl7 := (wl.trans ex6.le).trans ex7.le
                          cases b' with
                          | false => exact ⟨W7, h7, acc1, ys1, exE, wl7, hr7, own7, ra7, P⟩
                          | true =>
                            refine ⟨W7, ρ6, h7, hr7, er6.le ex7.le, ?_⟩
                            cases hfe : fe ρ6 h7 with
                            | stk => simp only [hfe] at P; exact P.elim
                            | err c pp h8 => simp only [hfe] at P; exact P.elim
                            | ok zz h8 =>
                              simp only [hfe] at P
                              by_cases hlen : ys1.length < 16777216
                              · rw [if_pos hlen] at P
                                intro W8 v H8 ex8 hr8 rz
                                have own8 := own7.keep ex8
                                obtain ⟨hr9, own9⟩ := hr8.own own8 (acc1 ++ [v])
                                refine ⟨acc1, own8.at_, by rw [rad.length, sizeLine_eq]; exact hlen, W8, h8, acc1 ++ [v], ys1 ++ [zz], (exE.trans ex8).touch hD, wl7.trans ex8.le, hr9, own9, (ra7.le ex8.le).append (.cons rz .nil), P⟩
                              · rw [if_neg hlen] at P; exact P.elim
end
end Dn
end
section
set_option Elab.async false
set_option linter.all false
set_option maxRecDepth 100000
set_option maxHeartbeats 2000000
/-! Dn11: statements. -/
namespace Dn
open PySem PySem.Spec PyProof.Rows L2

inductive Out where
  | nx | bk | ct | rt (y : Vx)
  deriving Inhabited
inductive OutV where
  | nx (σ : L2.St) | bk (σ : L2.St) | ct (σ : L2.St) | rt (v : V)
abbrev SF := DEnv → Mo (Out × DEnv)
def RO (K : PySem.W.Frag) (W : Wd) : OutV → Out × DEnv → Prop
  | .nx σ, (.nx, ρ) => ERel K W σ ρ
  | .bk σ, (.bk, ρ) => ERel K W σ ρ
  | .ct σ, (.ct, ρ) => ERel K W σ ρ
  | .rt v, (.rt y, _) => RepV K W v y
  | _, _ => False
def endQ (D : Ends) : OutV → Hp → Prop
  | .nx σ, H => D.nx σ H
  | .bk σ, H => D.bk σ H
  | .ct σ, H => D.ct σ H
  | .rt v, H => D.rt v H
abbrev LS (K : PySem.W.Frag) (g : Gp) (Wx : WX) (f : SF) : TS := fun D σ H => Lf K g (RO K) Wx f σ H (endQ D)
/-- what is raised is told alike wherever the names stand -/
def Ins (Wx : WX) : Prop := ∀ c d σ σ' H, Wx c d σ H → Wx c d σ' H
def sNil : SF := fun ρ => ret (.nx, ρ)
def sCons (f1 f2 : SF) : SF := fun ρ => bnd (f1 ρ) fun o => match o.1 with
  | .nx => f2 o.2
  | .bk => ret (.bk, o.2)
  | .ct => ret (.ct, o.2)
  | .rt y => ret (.rt y, o.2)
def sBk : SF := fun ρ => ret (.bk, ρ)
def sCt : SF := fun ρ => ret (.ct, ρ)
def sSet (t : MT) (fe : DEnv → Mo Vx) : SF := fun ρ => bnd (fe ρ) fun y h => match asg t y ρ with
  | some ρ' => .ok (.nx, ρ') h
  | none => .stk
def sExpr (fe : DEnv → Mo Vx) : SF := fun ρ => bnd (fe ρ) fun _ => ret (.nx, ρ)
def sRet (fe : DEnv → Mo Vx) : SF := fun ρ => bnd (fe ρ) fun y => ret (.rt y, ρ)
def sRetN : SF := fun ρ => ret (.rt (.d .non), ρ)
def sIf (ft : DEnv → Mo Bool) (fa fb : SF) : SF := fun ρ => bnd (ft ρ) fun b => match b with
  | true => fa ρ
  | false => fb ρ
def sPar (i j : Nat) (fs : DEnv → Mo (List Vx)) : SF := fun ρ => bnd (fs ρ) fun as h => match as with
  | [x, y] => .ok (.nx, (ρ.set i (some x)).set j (some y)) h
  | _ => .stk
def sAug (i : Nat) (fe : DEnv → Mo Vx) (dop : Vx → Vx → Mo Vx) : SF := fun ρ h => match ρ[i]? with
  | some (some x) => bnd (fe ρ) (fun y => bnd (dop x y) fun z => ret (.nx, ρ.set i (some z))) h
  | _ => .stk
def sPut (fo fi fe : DEnv → Mo Vx) (dput : Vx → Vx → Vx → Mo Unit) : SF := fun ρ => bnd (fe ρ) fun y => bnd (fo ρ) fun o => bnd (fi ρ) fun i => bnd (dput o i y) fun _ => ret (.nx, ρ)
def fGo (wk : Wk) (t : MT) (fb : SF) : Nat → Nat → SF
  | 0, _ => fun _ => stk
  | n + 1, i => fun ρ h => match wk.item i h with
    | none => .stk
    | some none => .ok (.nx, ρ) h
    | some (some y) => match asg t y ρ with
      | none => .stk
      | some ρ' => bnd (fb ρ') (fun o => match o.1 with
        | .nx => fGo wk t fb n (i + 1) o.2
        | .ct => fGo wk t fb n (i + 1) o.2
        | .bk => ret (.nx, o.2)
        | .rt y => ret (.rt y, o.2)) h
def sFor (fi : DEnv → Mo Wk) (t : MT) (fb : SF) : SF := fun ρ => bnd (fi ρ) fun wk h => fGo wk t fb (wk.len h + 1) 0 ρ h
def wGo (ft : DEnv → Mo Bool) (fb : SF) : Nat → SF
  | 0 => fun _ => stk
  | n + 1 => fun ρ => bnd (ft ρ) fun b => match b with
    | false => ret (.nx, ρ)
    | true => bnd (fb ρ) fun o => match o.1 with
      | .nx => wGo ft fb n o.2
      | .ct => wGo ft fb n o.2
      | .bk => ret (.nx, o.2)
      | .rt y => ret (.rt y, o.2)
section
variable {X : Cx} {g : Gp} {Wx : WX} {e : Expr} {st : Stmt} {rest : List Stmt} {fe : DEnv → Mo Vx} {ft : DEnv → Mo Bool} {fs : DEnv → Mo (List Vx)} {f1 f2 : SF} {pos : Pos}
theorem pds_nil : PSs X [] (LS X.K g Wx sNil) := pss_nil.imp fun D σ H p => by
  obtain ⟨W, ρ, h, hr, er, p⟩ := p
  exact Post.ret (v := OutV.nx σ) p hr er
theorem pds_cons (hi : Ins Wx) (h1 : PS X st (LS X.K g Wx f1)) (h2 : PSs X rest (LS X.K g Wx f2)) : PSs X (st :: rest) (LS X.K g Wx (sCons f1 f2)) := by
  refine (pss_cons h1 h2).imp fun D σ H p => ?_
  refine Lf.imp (Lf.bnd (R := RO X.K) p) fun v H1 ⟨W1, ρ, y, h1, hr1, er, rr, p1⟩ => ?_
  obtain ⟨o, ρ1⟩ := y
  cases v with
  | nx σ1 =>
    cases o with
    | nx => exact ⟨W1, ρ1, h1, hr1, rr, p1.imp (fun _ _ q => q) fun c d H' q => hi _ _ _ _ _ q⟩
    | _ => exact rr.elim
  | bk σ1 =>
    cases o with
    | bk => have z : endQ D (OutV.bk σ1) H1 := Post.ret (v := OutV.bk σ1) p1 hr1 rr; exact z
    | _ => exact rr.elim
  | ct σ1 =>
    cases o with
    | ct => have z : endQ D (OutV.ct σ1) H1 := Post.ret (v := OutV.ct σ1) p1 hr1 rr; exact z
    | _ => exact rr.elim
  | rt v =>
    cases o with
    | rt y => have z : endQ D (OutV.rt v) H1 := Post.ret (v := OutV.rt v) p1 hr1 rr; exact z
    | _ => exact rr.elim
/-- the last one as it is -/
theorem pds_one (h1 : PS X st (LS X.K g Wx f1)) : PSs X [st] (LS X.K g Wx f1) := pss_one h1
theorem pd_pass : PS X (.Pass pos) (LS X.K g Wx sNil) := ps_pass.imp fun D σ H p => by
  obtain ⟨W, ρ, h, hr, er, p⟩ := p
  exact Post.ret (v := OutV.nx σ) p hr er
theorem pd_brk : PS X (.Break pos) (LS X.K g Wx sBk) := ps_break.imp fun D σ H p => by
  obtain ⟨W, ρ, h, hr, er, p⟩ := p
  exact Post.ret (v := OutV.bk σ) p hr er
theorem pd_cont : PS X (.Continue pos) (LS X.K g Wx sCt) := ps_continue.imp fun D σ H p => by
  obtain ⟨W, ρ, h, hr, er, p⟩ := p
  exact Post.ret (v := OutV.ct σ) p hr er
theorem tAsg_of {t : MT} {q : TG} (ht : TgS X.K t q) {D : Ends} {σ : L2.St} {H : Hp} (p : LS X.K g Wx (sSet t fe) D σ H) : tAsg (LE X.K g Wx fe) q D σ H := by
  refine Lf.imp (Lf.bnd (R := RV X.K) p) fun v H1 ⟨W1, ρ, y, h1, hr1, er, rr, p1⟩ => ?_
  split at p1
  · rename_i ρ' e
    exact ht g.T W1 H1 h1 v y σ ρ ρ' _ hr1 rr er e fun σ' er' _ => Post.ret (v := OutV.nx σ') p1 hr1 er'
  · exact p1.elim
theorem pd_asg {tg : Expr} {t : MT} {q : TG} (ht : TgS X.K t q) (he : PE X e (LE X.K g Wx fe)) (hg : PG X tg q) (hs : swapsWithSole [tg] e pos.line X.env = pure false) (hw : swappedStores [tg] e X.env = pure none)
    (h1 : (assignEach [tg] X.env).map (·.2) = [assign tg X.env]) : PS X (.Assign [tg] e pos) (LS X.K g Wx (sSet t fe)) := (ps_asg he hg hs hw h1).imp fun D σ H p => tAsg_of ht p
theorem pd_set {i : Nat} {x : Str} {pos' : Pos} (hN : X.N.Nodup) (hi : X.N[i]? = some x) (hx : Loc X.env.scope x) (he : PE X e (LE X.K g Wx fe)) (hs : swapsWith e (some (.Name x pos')) pos.line X.env = pure false) (hf : X.fn x = true ∨ X.env.scope.names.lookup x = some .local) :
    PS X (.Assign [.Name x pos'] e pos) (LS X.K g Wx (sSet (.nm i) fe)) := (ps_set hN hi hx he hs hf).imp fun D σ H p => tAsg_of (tg_nm i) p
theorem pd_expr (he : PE X e (LE X.K g Wx fe)) (hs : swapsWith e none pos.line X.env = pure false) : PS X (.Expr e pos) (LS X.K g Wx (sExpr fe)) := (ps_expr he hs).imp fun D σ H p => by
  refine Lf.imp (Lf.bnd (R := RV X.K) p) fun v H1 ⟨W1, ρ, y, h1, hr1, er, rr, p1⟩ => ?_
  exact Post.ret (v := OutV.nx σ) p1 hr1 er
theorem pd_ret (he : PE X e (LE X.K g Wx fe)) : PS X (.Return (some e) pos) (LS X.K g Wx (sRet fe)) := (ps_ret he).imp fun D σ H p => by
  refine Lf.imp (Lf.bnd (R := RV X.K) p) fun v H1 ⟨W1, ρ, y, h1, hr1, er, rr, p1⟩ => ?_
  exact Post.ret (v := OutV.rt v) p1 hr1 rr
theorem pd_retN : PS X (.Return none pos) (LS X.K g Wx sRetN) := ps_retN.imp fun D σ H p => by
  obtain ⟨W, ρ, h, hr, er, p⟩ := p
  exact Post.ret (v := OutV.rt .non) p hr RepD.non
theorem pd_if {a b : List Stmt} (hc : PT X e (LT X.K g Wx ft)) (ha : PSs X a (LS X.K g Wx f1)) (hb : PSs X b (LS X.K g Wx f2)) : PS X (.If e a b pos) (LS X.K g Wx (sIf ft f1 f2)) := (ps_if hc ha hb).imp fun D σ H p => by
  refine Lf.imp (Lf.bnd (R := fun _ (b c : Bool) => b = c) p) fun v H1 ⟨W1, ρ, y, h1, hr1, er, rr, p1⟩ => ?_
  subst rr
  cases v with
  | true => exact ⟨W1, ρ, h1, hr1, er, p1⟩
  | false => exact ⟨W1, ρ, h1, hr1, er, p1⟩
theorem pd_par {i j : Nat} {x y : Str} {a b : Expr} {px py pt : Pos} {kt k2 pt2} (hc : X.calm = true) (hN : X.N.Nodup) (hi : X.N[i]? = some x) (hj : X.N[j]? = some y) (hij : i ≠ j)
    (hx : X.env.scope.names.lookup x = some .local) (hy : X.env.scope.names.lookup y = some .local) (ha : PA X [a, b] (LA X.K g Wx fs))
    (hw : swappedStores [.Tuple [.Name x px, .Name y py] kt pt] (.Tuple [a, b] k2 pt2) X.env = pure (some [x, y]))
    (hs : swapsWithSole [.Tuple [.Name x px, .Name y py] kt pt] (.Tuple [a, b] k2 pt2) pos.line X.env = pure false) :
    PS X (.Assign [.Tuple [.Name x px, .Name y py] kt pt] (.Tuple [a, b] k2 pt2) pos) (LS X.K g Wx (sPar i j fs)) := (ps_par hc hN hi hj hij hx hy ha hw hs).imp fun D σ H p => by
  refine Lf.imp (Lf.bnd (R := RVs X.K) p) fun vs H1 ⟨W1, ρ, y, h1, hr1, er, rr, p1⟩ => ?_
  split at p1
  · rename_i u w
    obtain ⟨v1, v2, rfl, r1, r2⟩ := rr.two
    exact ⟨v1, v2, rfl, Post.ret (v := OutV.nx _) p1 hr1 ((er.set r1).set r2)⟩
  · exact p1.elim
/-- a op= b on two values -/
def IpD (X : Cx) (g : Gp) (op : Operator) (dop : Vx → Vx → Mo Vx) : Prop :=
  ∃ r : TIp, PIp X op r ∧ ∀ (W : Wd) (H : Hp) (h : DH) (x y : V) (a b : Vx) (Q : VK) (E : XK), HRel X.K g.T W H h → RepV X.K W x a → RepV X.K W y b → Post X.K g (RV X.K) W H (dop a b h) Q E → r x y H Q
theorem pd_aug {i : Nat} {x : Str} {op : Operator} {dop : Vx → Vx → Mo Vx} {pos' : Pos} (hN : X.N.Nodup) (hi : X.N[i]? = some x) (hx : Loc X.env.scope x) (he : PE X e (LE X.K g Wx fe)) (ho : IpD X g op dop) (hf : X.fn x = true ∨ X.env.scope.names.lookup x = some .local) :
    PS X (.AugAssign (.Name x pos') op e pos) (LS X.K g Wx (sAug i fe dop)) := by
  obtain ⟨r, h1, h2⟩ := ho
  refine (ps_aug hN hi hx he h1 hf).imp fun D σ H p => ?_
  obtain ⟨W, ρ, h, hr, er, p⟩ := p
  unfold sAug at p
  split at p
  · rename_i y ey
    obtain ⟨v, e1, e2⟩ := er.at_ i y ey
    refine ⟨v, e1, W, ρ, h, hr, er, (Post.bnd (R := RV X.K) p).imp (fun w H1 ⟨W1, z, h1', ex, hr1, rr, p1⟩ => ?_) fun _ _ _ q => q⟩
    refine h2 W1 H1 h1' v w y z _ _ hr1 (RepV.le ex.le e2) rr ((Post.bnd (R := RV X.K) p1).imp (fun u H2 ⟨W2, zz, h2', ex2, hr2, rr2, p2⟩ => ?_) fun _ _ _ q => q)
    exact Post.ret (v := OutV.nx _) p2 hr2 (((er.le ex.le).le ex2.le).set rr2)
  · exact p.elim
/-- o[i] = v on three values -/
def PutD (X : Cx) (g : Gp) (dput : Vx → Vx → Vx → Mo Unit) : Prop :=
  ∃ r : TSet, PSet X r ∧ ∀ (W : Wd) (H : Hp) (h : DH) (o i v : V) (a b c : Vx) (Q : Hp → Prop) (E : XK), HRel X.K g.T W H h → RepV X.K W o a → RepV X.K W i b → RepV X.K W v c → Post X.K g (fun _ (_ _ : Unit) => True) W H (dput a b c h) (fun _ H' => Q H') E → r o i v H Q
theorem pd_put {o i : Expr} {fo fi : DEnv → Mo Vx} {dput : Vx → Vx → Vx → Mo Unit} {pos' : Pos} (hp : PutD X g dput) (ho : PE X o (LE X.K g Wx fo)) (hi : PE X i (LE X.K g Wx fi)) (he : PE X e (LE X.K g Wx fe))
    (ha : ∀ v, assign (.Subscript o i pos') X.env v = (do
      let ov ← holding [v] (eval o X.env)
      let iv ← holding [v, ov] (eval i X.env)
      standAt pos'
      holding [v, ov, iv] (setItem ov iv v)
      release [v, ov, iv] []))
    (hs : swapsWithSole [.Subscript o i pos'] e pos.line X.env = pure false) (hw : swappedStores [.Subscript o i pos'] e X.env = pure none) (h1 : (assignEach [.Subscript o i pos'] X.env).map (·.2) = [assign (.Subscript o i pos') X.env]) :
    PS X (.Assign [.Subscript o i pos'] e pos) (LS X.K g Wx (sPut fo fi fe dput)) := by
  obtain ⟨r, q1, q2⟩ := hp
  refine (ps_asg he (pg_sub ho hi q1 ha) hs hw h1).imp fun D σ H p => ?_
  refine Lf.imp (Lf.bnd (R := RV X.K) p) fun v H1 ⟨W1, ρ, y, h1', hr1, er, rr, p1⟩ => ?_
  refine ⟨W1, ρ, h1', hr1, er, (Post.bnd (R := RV X.K) p1).imp (fun ov H2 ⟨W2, y2, h2, ex2, hr2, rr2, p2⟩ => ?_) fun _ _ _ q => q⟩
  refine ⟨W2, ρ, h2, hr2, er.le ex2.le, (Post.bnd (R := RV X.K) p2).imp (fun iv H3 ⟨W3, y3, h3, ex3, hr3, rr3, p3⟩ => ?_) fun _ _ _ q => q⟩
  refine q2 W3 H3 h3 ov iv v y2 y3 y _ _ hr3 (RepV.le ex3.le rr2) rr3 (RepV.le (ex2.le.trans ex3.le) rr) ((Post.bnd (R := fun _ (_ _ : Unit) => True) p3).imp (fun _ H4 ⟨W4, _, h4, ex4, hr4, _, p4⟩ => ?_) fun _ _ _ q => q)
  exact Post.ret (v := OutV.nx σ) p4 hr4 (((er.le ex2.le).le ex3.le).le ex4.le)
theorem pd_for {iter tg : Expr} {body : List Stmt} {fi : DEnv → Mo Wk} {t : MT} {q : TG} {fb : SF} (hin : Ins Wx) (hp : PassesOwn (model X.prog X.w) X.A X.env X.xe) (hc : X.calm = true) (ht : TgS X.K t q) (hi : PI X tg iter (LI X.K g Wx fi)) (hg : PG X tg q) (hb : PSs X body (LS X.K g Wx fb))
    (hs : ∀ x, foldedSetIterable iter X.env x = pure x) : PS X (.For tg iter body [] pos) (LS X.K g Wx (sFor fi t fb)) := by
  refine (ps_for hp hc hi hg hb hs).imp fun D σ H p => ?_
  refine Lf.imp (Lf.bnd (R := fun W J wk => WkR X.K g.T W wk J) p) fun J H1 ⟨W1, ρ, wk, h1, hr1, er, rr, p1⟩ => ?_
  refine ⟨fun i m σ' H' => ∃ Wc ρ' hc, WLe W1 Wc ∧ HRel X.K g.T Wc H' hc ∧ ERel X.K Wc σ' ρ' ∧ Post X.K g (RO X.K) Wc H' (fGo wk t fb m i ρ' hc) (endQ D) (fun c d H' => Wx c d σ' H'), ⟨wk.len h1 + 1, W1, ρ, h1, WLe.refl _, hr1, er, p1⟩, ?_⟩
  rintro i m σ' H' ⟨Wc, ρ', hc, wl, hr, er', P⟩
  cases m with
  | zero => exact P.elim
  | succ m =>
    have key := rr Wc H' hc wl hr i
    unfold fGo at P
    cases hi : wk.item i hc with
    | none => rw [hi] at P; exact P.elim
    | some oy =>
      rw [hi] at key P
      cases oy with
      | none => exact .inl ⟨key, Post.ret (v := OutV.nx σ') P hr er'⟩
      | some y =>
        refine .inr ⟨key.1, fun σ' H' => ∃ Wc ρ' hc, WLe W1 Wc ∧ HRel X.K g.T Wc H' hc ∧ ERel X.K Wc σ' ρ' ∧ Post X.K g (RO X.K) Wc H' (fGo wk t fb m (i + 1) ρ' hc) (endQ D) (fun c d H' => Wx c d σ' H'), fun σ' H' n => ⟨m, Nat.lt_succ_self _, n⟩, fun x H2 yl => ?_⟩
        obtain ⟨W2, ex2, hr2, rv2⟩ := key.2 x H2 yl
        cases ha : asg t y ρ' with
        | none => simp only [ha] at P; exact P.elim
        | some ρ2 =>
          simp only [ha] at P
          refine ht g.T W2 H2 hc x y σ' ρ' ρ2 _ hr2 rv2 (er'.le ex2.le) ha fun σ2 er2 so2 => ?_
          refine ⟨W2, ρ2, hc, hr2, er2, (Post.bnd (R := RO X.K) (P.later ex2)).imp (fun v H3 ⟨W3, y3, h3, ex3, hr3, rr3, p3⟩ => ?_) fun c d H' q => hin _ _ _ _ _ q⟩
          obtain ⟨o, ρ3⟩ := y3
          have wl3 := (wl.trans ex2.le).trans ex3.le
          cases v with
          | nx σ3 =>
            cases o with
            | nx => exact ⟨W3, ρ3, h3, wl3, hr3, rr3, p3.imp (fun _ _ q => q) fun c d H' q => hin _ _ _ _ _ q⟩
            | _ => exact rr3.elim
          | ct σ3 =>
            cases o with
            | ct => exact ⟨W3, ρ3, h3, wl3, hr3, rr3, p3.imp (fun _ _ q => q) fun c d H' q => hin _ _ _ _ _ q⟩
            | _ => exact rr3.elim
          | bk σ3 =>
            cases o with
            | bk => have z : endQ D (OutV.nx σ3) H3 := Post.ret (v := OutV.nx σ3) p3 hr3 rr3; exact z
            | _ => exact rr3.elim
          | rt v =>
            cases o with
            | rt y => have z : endQ D (OutV.rt v) H3 := Post.ret (v := OutV.rt v) p3 hr3 rr3; exact z
            | _ => exact rr3.elim
theorem pd_while {body : List Stmt} {fb : SF} {fuel : Nat} (hin : Ins Wx) (hp : PassesOwn (model X.prog X.w) X.A X.env X.xe) (hc : PT X e (LT X.K g Wx ft)) (hb : PSs X body (LS X.K g Wx fb)) : PS X (.While e body [] pos) (LS X.K g Wx (wGo ft fb fuel)) := by
  refine (ps_while hp hc hb).imp fun D σ H p => ?_
  refine ⟨fun m σ' H' => LS X.K g Wx (wGo ft fb m) D σ' H', ⟨fuel, p⟩, ?_⟩
  intro m σ' H' p
  cases m with
  | zero =>
    obtain ⟨W, ρ, h, hr, er, p⟩ := p
    exact p.elim
  | succ m =>
    refine Lf.imp (Lf.bnd (R := fun _ (b c : Bool) => b = c) p) fun v H1 ⟨W1, ρ, y, h1, hr1, er, rr, p1⟩ => ?_
    subst rr
    cases v with
    | false => exact Post.ret (v := OutV.nx σ') p1 hr1 er
    | true =>
      rw [if_pos rfl]
      refine ⟨fun σ' H' => LS X.K g Wx (wGo ft fb m) D σ' H', fun σ' H' n => ⟨m, Nat.lt_succ_self _, n⟩, ?_⟩
      refine ⟨W1, ρ, h1, hr1, er, (Post.bnd (R := RO X.K) p1).imp (fun v H3 ⟨W3, y3, h3, ex3, hr3, rr3, p3⟩ => ?_) fun c d H' q => q⟩
      obtain ⟨o, ρ3⟩ := y3
      cases v with
      | nx σ3 =>
        cases o with
        | nx => exact ⟨W3, ρ3, h3, hr3, rr3, p3.imp (fun _ _ q => q) fun c d H' q => hin _ _ _ _ _ q⟩
        | _ => exact rr3.elim
      | ct σ3 =>
        cases o with
        | ct => exact ⟨W3, ρ3, h3, hr3, rr3, p3.imp (fun _ _ q => q) fun c d H' q => hin _ _ _ _ _ q⟩
        | _ => exact rr3.elim
      | bk σ3 =>
        cases o with
        | bk => have z : endQ D (OutV.nx σ3) H3 := Post.ret (v := OutV.nx σ3) p3 hr3 rr3; exact z
        | _ => exact rr3.elim
      | rt v =>
        cases o with
        | rt y => have z : endQ D (OutV.rt v) H3 := Post.ret (v := OutV.rt v) p3 hr3 rr3; exact z
        | _ => exact rr3.elim
end
end Dn
end
section
set_option Elab.async false
set_option linter.all false
set_option maxRecDepth 100000
set_option maxHeartbeats 2000000
/-! Dn12: tests, and, or, not, if-expressions, chains; o[i] = v; op=. -/
namespace Dn
open PySem PySem.Spec PyProof.Rows L2

abbrev LB (K : PySem.W.Frag) (g : Gp) (Wx : WX) (f : DEnv → Mo Bool) : TT := LT K g Wx f
def isBl : Vx → Mo Bool := fun y h => match y with
  | .d (.bl b) => .ok b h
  | _ => .stk
def tTst (fe : DEnv → Mo Vx) : DEnv → Mo Bool := fun ρ => bnd (fe ρ) isBl
def tAndD (f1 f2 : DEnv → Mo Bool) : DEnv → Mo Bool := fun ρ => bnd (f1 ρ) fun b => match b with
  | true => f2 ρ
  | false => ret false
def tOrD (f1 f2 : DEnv → Mo Bool) : DEnv → Mo Bool := fun ρ => bnd (f1 ρ) fun b => match b with
  | true => ret true
  | false => f2 ρ
def eAnd (fa fb : DEnv → Mo Vx) : DEnv → Mo Vx := fun ρ => bnd (fa ρ) fun x => bnd (truM x) fun b => match b with
  | true => fb ρ
  | false => ret x
def eOr (fa fb : DEnv → Mo Vx) : DEnv → Mo Vx := fun ρ => bnd (fa ρ) fun x => bnd (truM x) fun b => match b with
  | true => ret x
  | false => fb ρ
def eNot (fa : DEnv → Mo Vx) : DEnv → Mo Vx := fun ρ => bnd (fa ρ) fun x => bnd (truM x) fun b => ret (.d (.bl (!b)))
def eIf (ft : DEnv → Mo Bool) (fa fb : DEnv → Mo Vx) : DEnv → Mo Vx := fun ρ => bnd (ft ρ) fun b => match b with
  | true => fa ρ
  | false => fb ρ
def eChain (d1 d2 : Vx → Vx → Mo Vx) (fa fb fc : DEnv → Mo Vx) : DEnv → Mo Vx := fun ρ => bnd (fa ρ) fun x => bnd (fb ρ) fun y => bnd (d1 x y) fun z => bnd (isBl z) fun b => match b with
  | true => bnd (fc ρ) fun w => d2 y w
  | false => ret (.d (.bl false))
section
variable {X : Cx} {g : Gp} {Wx : WX} {a b c : Expr} {rest : List Expr} {fa fb fc : DEnv → Mo Vx} {f1 f2 : DEnv → Mo Bool} {pos : Pos}
theorem isBl_rep {K : PySem.W.Frag} {W : Wd} {H : Hp} {h : DH} {v : V} {y : Vx} {Q : Bool → Hp → Prop} {E : XK} (hr : HRel K g.T W H h) (r : RepV K W v y) (p : Post K g (fun _ (b c : Bool) => b = c) W H (isBl y h) Q E) : ∃ k, v = .bl k ∧ Q k H := by
  unfold isBl at p
  split at p
  · rename_i k
    have r : RepD K W.F v (.bl k) := r
    cases r
    exact ⟨k, rfl, p.ret hr rfl⟩
  · exact p.elim
theorem pdt_cmp {op : CmpOp} {dop : Vx → Vx → Mo Vx} (ho : OpD X g (compareOp op) dop) (ha : PE X a (LE X.K g Wx fa)) (hb : PE X b (LE X.K g Wx fb)) (hm : behindInMarks op b = false) : PT X (.Compare a [op] [b] pos) (LT X.K g Wx (tTst (eBin dop fa fb))) := by
  obtain ⟨r, h1, h2⟩ := ho
  refine (pt_cmpR h1 ha hb hm).imp fun σ H Q p => ?_
  show tOp r (LE X.K g Wx fa) (LE X.K g Wx fb) σ H (fun x H' => ∃ k, x = .bl k ∧ Q k H')
  refine two_ h2 ?_
  refine Lf.imp (Lf.bnd (R := RV X.K) p) fun v H1 ⟨W1, ρ, y, h1, hr1, er, rr, p1⟩ => isBl_rep hr1 rr p1
theorem pdw_and1 (h : PT X a (LT X.K g Wx f1)) : PW X (.BoolOp .And [a] pos) (LT X.K g Wx f1) := pw_and1 h
theorem pdw_or1 (h : PT X a (LT X.K g Wx f1)) : PW X (.BoolOp .Or [a] pos) (LT X.K g Wx f1) := pw_or1 h
theorem pdw_and (ha : PT X a (LT X.K g Wx f1)) (hb : PW X (.BoolOp .And (b :: rest) pos) (LT X.K g Wx f2)) : PW X (.BoolOp .And (a :: b :: rest) pos) (LT X.K g Wx (tAndD f1 f2)) := by
  refine (pw_and ha hb).imp fun σ H Q p => ?_
  refine Lf.imp (Lf.bnd (R := fun _ (b c : Bool) => b = c) p) fun v H1 ⟨W1, ρ, y, h1, hr1, er, rr, p1⟩ => ?_
  subst rr
  cases v with
  | true => exact ⟨W1, ρ, h1, hr1, er, p1⟩
  | false => exact p1.ret hr1 rfl
theorem pdw_or (ha : PT X a (LT X.K g Wx f1)) (hb : PW X (.BoolOp .Or (b :: rest) pos) (LT X.K g Wx f2)) : PW X (.BoolOp .Or (a :: b :: rest) pos) (LT X.K g Wx (tOrD f1 f2)) := by
  refine (pw_or ha hb).imp fun σ H Q p => ?_
  refine Lf.imp (Lf.bnd (R := fun _ (b c : Bool) => b = c) p) fun v H1 ⟨W1, ρ, y, h1, hr1, er, rr, p1⟩ => ?_
  subst rr
  cases v with
  | true => exact p1.ret hr1 rfl
  | false => exact ⟨W1, ρ, h1, hr1, er, p1⟩
theorem truM_rep {W : Wd} {H : Hp} {h : DH} {v : V} {y : Vx} {Q : Bool → Hp → Prop} {E : XK} (hr : HRel X.K g.T W H h) (r : RepV X.K W v y) (p : Post X.K g (fun _ (b c : Bool) => b = c) W H (truM y h) Q E) : ∃ k, TruV X.K v H k ∧ Q k H := by
  unfold truM at p
  split at p
  · rename_i b e
    exact ⟨b, tru_rep hr r e, p.ret hr rfl⟩
  · exact p.elim
theorem pd_one {op} (h : PE X a (LE X.K g Wx fa)) : PE X (.BoolOp op [a] pos) (LE X.K g Wx fa) := pe_one h
theorem pd_and (ha : PE X a (LE X.K g Wx fa)) (hb : PE X (.BoolOp .And (b :: rest) pos) (LE X.K g Wx fb)) : PE X (.BoolOp .And (a :: b :: rest) pos) (LE X.K g Wx (eAnd fa fb)) := by
  refine (pe_andT ha hb).imp fun σ H Q p => ?_
  refine Lf.imp (Lf.bnd (R := RV X.K) p) fun v H1 ⟨W1, ρ, y, h1, hr1, er, rr, p1⟩ => ?_
  obtain ⟨k, h1', W2, y2, h2, ex, hr2, e2, p2⟩ := truM_rep hr1 rr (Post.bnd (R := fun _ (b c : Bool) => b = c) p1)
  refine ⟨k, h1', ?_⟩
  subst e2
  cases k with
  | true => exact ⟨W2, ρ, h2, hr2, er.le ex.le, p2⟩
  | false => exact p2.ret hr2 (RepV.le ex.le rr)
theorem pd_or (ha : PE X a (LE X.K g Wx fa)) (hb : PE X (.BoolOp .Or (b :: rest) pos) (LE X.K g Wx fb)) : PE X (.BoolOp .Or (a :: b :: rest) pos) (LE X.K g Wx (eOr fa fb)) := by
  refine (pe_orT ha hb).imp fun σ H Q p => ?_
  refine Lf.imp (Lf.bnd (R := RV X.K) p) fun v H1 ⟨W1, ρ, y, h1, hr1, er, rr, p1⟩ => ?_
  obtain ⟨k, h1', W2, y2, h2, ex, hr2, e2, p2⟩ := truM_rep hr1 rr (Post.bnd (R := fun _ (b c : Bool) => b = c) p1)
  refine ⟨k, h1', ?_⟩
  subst e2
  cases k with
  | true => exact p2.ret hr2 (RepV.le ex.le rr)
  | false => exact ⟨W2, ρ, h2, hr2, er.le ex.le, p2⟩
theorem pd_not (ha : PE X a (LE X.K g Wx fa)) : PE X (.UnaryOp .Not a pos) (LE X.K g Wx (eNot fa)) := by
  refine (pe_notT ha).imp fun σ H Q p => ?_
  refine Lf.imp (Lf.bnd (R := RV X.K) p) fun v H1 ⟨W1, ρ, y, h1, hr1, er, rr, p1⟩ => ?_
  obtain ⟨k, h1', W2, y2, h2, ex, hr2, e2, p2⟩ := truM_rep hr1 rr (Post.bnd (R := fun _ (b c : Bool) => b = c) p1)
  subst e2
  exact ⟨k, h1', p2.ret hr2 (RepD.bl _)⟩
theorem pd_ifExp (hc : PT X c (LT X.K g Wx f1)) (ha : PE X a (LE X.K g Wx fa)) (hb : PE X b (LE X.K g Wx fb)) : PE X (.IfExp c a b pos) (LE X.K g Wx (eIf f1 fa fb)) := by
  refine (pe_ifExp hc ha hb).imp fun σ H Q p => ?_
  refine Lf.imp (Lf.bnd (R := fun _ (b c : Bool) => b = c) p) fun v H1 ⟨W1, ρ, y, h1, hr1, er, rr, p1⟩ => ?_
  subst rr
  cases v with
  | true => exact ⟨W1, ρ, h1, hr1, er, p1⟩
  | false => exact ⟨W1, ρ, h1, hr1, er, p1⟩
theorem chain_ {op op' : CmpOp} {r r' : R2} {d1 d2 : Vx → Vx → Mo Vx}
    (h1 : ∀ (W : Wd) (H : Hp) (h : DH) (x y : V) (a b : Vx) (Q : VK) (E : XK), HRel X.K g.T W H h → RepV X.K W x a → RepV X.K W y b → Post X.K g (RV X.K) W H (d1 a b h) Q E → r x y H Q)
    (h2 : ∀ (W : Wd) (H : Hp) (h : DH) (x y : V) (a b : Vx) (Q : VK) (E : XK), HRel X.K g.T W H h → RepV X.K W x a → RepV X.K W y b → Post X.K g (RV X.K) W H (d2 a b h) Q E → r' x y H Q) {σ : L2.St} {H : Hp} {Q : VK}
    (p : LE X.K g Wx (eChain d1 d2 fa fb fc) σ H Q) : tChain r r' (LE X.K g Wx fa) (LE X.K g Wx fb) (LE X.K g Wx fc) σ H Q := by
  refine Lf.imp (Lf.bnd (R := RV X.K) p) fun v H1 ⟨W1, ρ, y, h1', hr1, er, rr, p1⟩ => ?_
  refine ⟨W1, ρ, h1', hr1, er, (Post.bnd (R := RV X.K) p1).imp (fun v2 H2 ⟨W2, y2, h2', ex2, hr2, rr2, p2⟩ => ?_) fun _ _ _ q => q⟩
  refine h1 W2 H2 h2' v v2 y y2 _ _ hr2 (RepV.le ex2.le rr) rr2 ((Post.bnd (R := RV X.K) p2).imp (fun v3 H3 ⟨W3, y3, h3, ex3, hr3, rr3, p3⟩ => ?_) fun _ _ _ q => q)
  obtain ⟨k, e, W4, y4, h4, ex4, hr4, e4, p4⟩ := isBl_rep hr3 rr3 (Post.bnd (R := fun _ (b c : Bool) => b = c) p3)
  refine ⟨k, e, ?_⟩
  subst e4
  have er4 := ((er.le ex2.le).le ex3.le).le ex4.le
  cases k with
  | false => exact p4.ret hr4 (RepD.bl _)
  | true =>
    rw [if_pos rfl]
    refine ⟨W4, ρ, h4, hr4, er4, (Post.bnd (R := RV X.K) p4).imp (fun v5 H5 ⟨W5, y5, h5, ex5, hr5, rr5, p5⟩ => ?_) fun _ _ _ q => q⟩
    exact h2 W5 H5 h5 v2 v5 y2 y5 Q _ hr5 (RepV.le ((ex3.le.trans ex4.le).trans ex5.le) rr2) rr5 p5
theorem pd_chain {op op' : CmpOp} {d1 d2 : Vx → Vx → Mo Vx} (ho : OpD X g (compareOp op) d1) (ho' : OpD X g (compareOp op') d2) (ha : PE X a (LE X.K g Wx fa)) (hb : PE X b (LE X.K g Wx fb)) (hc : PE X c (LE X.K g Wx fc)) (hm : lastMarks [op, op'] [b, c] = false) :
    PE X (.Compare a [op, op'] [b, c] pos) (LE X.K g Wx (eChain d1 d2 fa fb fc)) := by
  obtain ⟨r, h1, h2⟩ := ho
  obtain ⟨r', h1', h2'⟩ := ho'
  exact (pe_chain h1 h1' ha hb hc hm).imp fun σ H Q p => chain_ (op := op) (op' := op') h2 h2' p
theorem pdt_chain {op op' : CmpOp} {d1 d2 : Vx → Vx → Mo Vx} (ho : OpD X g (compareOp op) d1) (ho' : OpD X g (compareOp op') d2) (ha : PE X a (LE X.K g Wx fa)) (hb : PE X b (LE X.K g Wx fb)) (hc : PE X c (LE X.K g Wx fc)) (hm : lastMarks [op, op'] [b, c] = false) :
    PT X (.Compare a [op, op'] [b, c] pos) (LT X.K g Wx (tTst (eChain d1 d2 fa fb fc))) := by
  obtain ⟨r, h1, h2⟩ := ho
  obtain ⟨r', h1', h2'⟩ := ho'
  refine (pt_chain h1 h1' ha hb hc hm).imp fun σ H Q p => ?_
  show tChain r r' (LE X.K g Wx fa) (LE X.K g Wx fb) (LE X.K g Wx fc) σ H (fun x H' => ∃ k, x = .bl k ∧ Q k H')
  refine chain_ (op := op) (op' := op') h2 h2' ?_
  exact Lf.imp (Lf.bnd (R := RV X.K) p) fun v H1 ⟨W1, ρ, y, h1, hr1, er, rr, p1⟩ => isBl_rep hr1 rr p1
/-! a list's place -/
def dPut : Vx → Vx → Vx → Mo Unit := fun o i y h => match o, i with
  | .r k, .d (.int j) => (match h[k]? with
    | some (.lst ys) => (match ixN ys.length j with
      | some n => .ok () (h.set k (.lst (ys.set n y)))
      | none => .stk)
    | _ => .stk)
  | _, _ => .stk
theorem pu_list : PutD X g dPut := by
  refine ⟨_, set_list, fun W H h o i v a b c Q E hr ra rb rc p => ?_⟩
  unfold dPut at p
  split at p
  · rename_i k j
    obtain ⟨a1, ea, rfl⟩ := ra
    split at p
    · rename_i ys hk
      split at p
      · rename_i n en
        obtain ⟨xs, hx, hv⟩ := hr.obj k a1 _ ea hk
        obtain ⟨h1, h2⟩ := hr.put ea hk hx (hv.set rc n)
        refine ⟨a1, xs, j, n, rfl, repInt rb, hx, by rw [hv.length]; exact en, ?_⟩
        exact p W () _ h2 h1 True.intro
      · exact p.elim
    · exact p.elim
  · exact p.elim
def ipInt (f : Int → Int → Int) : Vx → Vx → Mo Vx := fun x y h => match x, y with
  | .d (.int i), .d (.int j) => .ok (.d (.int (f i j))) h
  | _, _ => .stk
theorem ip_addD : IpD X g .Add (ipInt fun i j => i + j) := by
  refine ⟨_, ip_add, fun W H h x y a b Q E hr ra rb p => ?_⟩
  unfold ipInt at p
  split at p
  · exact ⟨_, _, repInt ra, repInt rb, p.ret hr (RepD.int _)⟩
  · exact p.elim
theorem ip_subD : IpD X g .Sub (ipInt fun i j => i - j) := by
  refine ⟨_, ip_sub, fun W H h x y a b Q E hr ra rb p => ?_⟩
  unfold ipInt at p
  split at p
  · exact ⟨_, _, repInt ra, repInt rb, p.ret hr (RepD.int _)⟩
  · exact p.elim
end
end Dn
end
section
set_option Elab.async false
set_option linter.all false
set_option maxRecDepth 100000
set_option maxHeartbeats 2000000
/-! Dn13: calls of the program's own functions. -/
namespace Dn
open PySem PySem.Spec PyProof.Rows L2

/-! ### what a function promises; a call -/
def spD (K : PySem.W.Frag) (g : Gp) (n : Nat) (f : List Vx → Mo Vx) : Sp := fun vs H Q E => vs.length = n ∧ ∃ W h ys, HRel K g.T W H h ∧ RepVs K W vs ys ∧ Post K g (RV K) W H (f ys h) Q E
mutual
def noLst : Dt → Bool
  | .lst _ => false
  | .tup ds => noLsts ds
  | _ => true
def noLsts : List Dt → Bool
  | [] => true
  | d :: ds => noLst d && noLsts ds
end
def reifyL (f : Vx → Option Dt) : List Vx → Option (List Dt)
  | [] => some []
  | y :: r => match f y, reifyL f r with
    | some d, some ds => some (d :: ds)
    | _, _ => none
/-- the data that a value is; ex: the objects that are not one's own -/
def reify (ex : Nat → Bool) (h : DH) : Nat → Vx → Option Dt
  | _, .d x => some x
  | 0, _ => none
  | n + 1, .r k => if ex k = true then none else (match (h[k]? : Option Ob) with
    | some (.lst ys) => (match reifyL (reify ex h n) ys with | some ds => some (.lst ds) | none => none)
    | _ => none)
  | _, _ => none
def isR : Vx → Bool
  | .r _ => true
  | _ => false
/-- the one list that is handed on to be changed -/
def passed : List Bool → List Vx → Option Nat
  | true :: _, .r k :: _ => some k
  | _ :: bs, _ :: ys => passed bs ys
  | _, _ => none
/-- a list is handed on to be read -/
def lent : List Bool → List Vx → Bool
  | false :: _, .r _ :: _ => true
  | [], .r _ :: _ => true
  | _ :: bs, _ :: ys => lent bs ys
  | [], _ :: ys => lent [] ys
  | _, [] => false
def prep (po : Option Nat) (h : DH) : List Bool → List Vx → Option (List Vx)
  | _, [] => some []
  | bs, y :: ys => match prep po h bs.tail ys with
    | none => none
    | some zs => match y with
      | .d x => some (.d x :: zs)
      | .s ns => some (.s ns :: zs)
      | .x _ _ => none
      | .r k => match bs.headD false with
        | true => if po = some k then some (.r 0 :: zs) else none
        | false => (match reify (fun j => po == some j) h 9 (.r k) with | some x => some (.d x :: zs) | none => none)
def subOf (po : Option Nat) (h : DH) : Option DH := match po with
  | none => some []
  | some k => match (h[k]? : Option Ob) with
    | some (.lst zs) => (match plains zs with | some _ => some [.lst zs] | none => none)
    | _ => none
def putBack (po : Option Nat) (h s : DH) : Option DH := match po with
  | none => some h
  | some k => match (s[0]? : Option Ob) with
    | some (.lst zs) => (match plains zs with | some ds => if noLsts ds = true then some (h.set k (.lst zs)) else none | none => none)
    | _ => none
def back (fz : Bool) (po : Option Nat) (h : DH) : Rz Vx → Rz Vx
  | .ok y s => (match reify (fun j => decide (j < (if po.isSome = true then 1 else 0))) s 9 y, putBack po h s with
    | some x, some h' => if fz = true → noLst x = true then .ok (.d x) h' else .stk
    | _, _ => .stk)
  | .err c p s => (match putBack po h s with
    | some h' => if noLst p = true then .err c p h' else .stk
    | none => .stk)
  | .stk => .stk
def callM (hy : List Bool) (f : List Vx → Mo Vx) : List Vx → Mo Vx := fun ys h => match subOf (passed hy ys) h, prep (passed hy ys) h hy ys with
  | some s, some zs => back (lent hy ys) (passed hy ys) h (f zs s)
  | _, _ => .stk

section
variable {K : PySem.W.Frag} {g : Gp} {W : Wd} {H : Hp} {h : DH}
theorem reifyL_rep {Fr : Hp} {f : Vx → Option Dt} (hf : ∀ v y x, RepV K W v y → f y = some x → RepD K Fr v x) : ∀ {vs : List V} {ys : List Vx} {ds : List Dt}, RepVs K W vs ys → reifyL f ys = some ds → RepDs K Fr vs ds
  | _, _, ds, .nil, e => by cases e; exact .nil
  | _, _, ds, .cons (y := y) (ys := ys) r1 r2, e => by
    unfold reifyL at e
    split at e
    · rename_i d ds' e1 e2
      cases e
      exact .cons (hf _ _ _ r1 e1) (reifyL_rep hf r2 e2)
    · cases e
theorem reify_rep {T : Tbs} {ex : Nat → Bool} {Fr : Hp} (hr : HRel K T W H h) (hF : HLe W.F Fr) (hθ : ∀ (k : Nat) (a : Addr) (ys : List Vx) (xs : List V), W.θ[k]? = some a → h[k]? = some (.lst ys) → ex k = false → H a = some (.lst xs) → Fr a = some (.lst xs)) :
    ∀ (n : Nat) (v : V) (y : Vx) (x : Dt), RepV K W v y → reify ex h n y = some x → RepD K Fr v x := by
  intro n
  induction n with
  | zero =>
    intro v y x r e
    cases y with
    | d z => cases e; exact RepD.le hF r
    | _ => cases e
  | succ n ih =>
    intro v y x r e
    cases y with
    | d z => cases e; exact RepD.le hF r
    | x _ _ => cases e
    | s _ => cases e
    | r k =>
      unfold reify at e
      split at e
      · cases e
      · rename_i hex
        split at e
        · rename_i ys hk
          split at e
          · rename_i ds e2
            cases e
            obtain ⟨a, ea, rfl⟩ := r
            obtain ⟨xs, hx, hv⟩ := hr.obj k a _ ea hk
            exact .lst (hθ k a ys xs ea hk (by simpa using hex) hx) (reifyL_rep (fun v y x r1 e1 => ih v y x r1 e1) hv e2)
          · cases e
        · cases e
/-- data without lists stand wherever the tuples stand -/
def TupLe (F F' : Hp) : Prop := ∀ a o, F a = some o → (∀ xs, o ≠ .lst xs) → F' a = some o
theorem SqT.tl {F F' : Hp} (le : TupLe F F') {a : Addr} {vs : List V} (h : SqT K F a vs) : SqT K F' a vs := by
  rcases h with (h | ⟨o, h⟩) | h
  · exact .inl (.inl (le _ _ h fun _ z => by cases z))
  · exact .inl (.inr ⟨o, le _ _ h fun _ z => by cases z⟩)
  · exact .inr h
mutual
theorem RepD.tl {F F' : Hp} (le : TupLe F F') : ∀ {d : Dt} {v : V}, noLst d = true → RepD K F v d → RepD K F' v d
  | .non, _, _, h => by cases h; exact .non
  | .bl _, _, _, h => by cases h; exact .bl _
  | .int _, _, _, h => by cases h; exact .int _
  | .str _, _, _, h => by cases h with | str _ h => exact .str _ h
  | .tup _, _, n, h => by cases h with | tup h1 h2 => exact .tup (SqT.tl le h1) (RepDs.tl le (by unfold noLst at n; exact n) h2)
  | .lst _, _, n, _ => by unfold noLst at n; cases n
theorem RepDs.tl {F F' : Hp} (le : TupLe F F') : ∀ {ds : List Dt} {vs : List V}, noLsts ds = true → RepDs K F vs ds → RepDs K F' vs ds
  | [], _, _, h => by cases h; exact .nil
  | _ :: _, _, n, h => by
    unfold noLsts at n
    simp only [Bool.and_eq_true] at n
    cases h with | cons h1 h2 => exact .cons (RepD.tl le n.1 h1) (RepDs.tl le n.2 h2)
end
theorem prep_rep {T : Tbs} {po : Option Nat} {fz : Bool} {Fp : Hp} {θs : List Addr} (hr : HRel K T W H h) (hF : HLe W.F Fp)
    (hθ : fz = true → ∀ (k : Nat) (a : Addr) (ys : List Vx) (xs : List V), W.θ[k]? = some a → h[k]? = some (.lst ys) → (po == some k) = false → H a = some (.lst xs) → Fp a = some (.lst xs))
    (hp : ∀ k a, po = some k → W.θ[k]? = some a → θs[0]? = some a) :
    ∀ {vs : List V} {ys : List Vx}, RepVs K W vs ys → ∀ {bs : List Bool} {zs : List Vx}, prep po h bs ys = some zs → (lent bs ys = true → fz = true) → RepVs K ⟨Fp, θs⟩ vs zs
  | _, _, .nil, bs, zs, e, _ => by unfold prep at e; cases e; exact .nil
  | _, _, .cons (v := v) (y := y) (vs := vs) (ys := ys) r1 r2, bs, zs, e, hl => by
    unfold prep at e
    split at e
    · cases e
    · rename_i zs' e1
      have hl' : lent bs.tail ys = true → fz = true := fun z => hl (by
        cases bs with
        | nil => cases y <;> first | exact z | rfl
        | cons b bs => cases b <;> cases y <;> first | exact z | rfl)
      have ih := prep_rep hr hF hθ hp r2 e1 hl'
      cases y with
      | d x => cases e; exact .cons (RepD.le hF r1) ih
      | s ns =>
        cases e
        obtain ⟨a, rfl, q⟩ := r1
        exact .cons ⟨a, rfl, SqL.le q hF⟩ ih
      | x _ _ => cases e
      | r k =>
        simp only at e
        cases hb : bs.headD false with
        | true =>
          rw [hb] at e
          simp only at e
          split at e
          · rename_i hk
            cases e
            obtain ⟨a, ea, rfl⟩ := r1
            exact .cons ⟨a, hp k a hk ea, rfl⟩ ih
          · cases e
        | false =>
          rw [hb] at e
          simp only at e
          split at e
          · rename_i x ex
            cases e
            have ft : fz = true := hl (by
              cases bs with
              | nil => rfl
              | cons b bs =>
                have : b = false := hb
                subst this; rfl)
            exact .cons (reify_rep (Fr := Fp) hr hF (hθ ft) 9 v (.r k) x r1 ex) ih
          · cases e
end
end Dn
end
section
set_option Elab.async false
set_option linter.all false
set_option maxRecDepth 100000
set_option maxHeartbeats 2000000
/-! Dn14: a call is sound. -/
namespace Dn
open PySem PySem.Spec PyProof.Rows L2

def lstAt (H : Hp) (a : Addr) : Option HO := match H a with
  | some (.lst xs) => some (.lst xs)
  | _ => none
theorem lstAt_some {H : Hp} {a : Addr} {o : HO} (e : lstAt H a = some o) : ∃ xs, o = .lst xs ∧ H a = some (.lst xs) := by
  unfold lstAt at e
  split at e
  · rename_i xs q; cases e; exact ⟨xs, rfl, q⟩
  · cases e
theorem lstAt_of {H : Hp} {a : Addr} {xs : List V} (e : H a = some (.lst xs)) : lstAt H a = some (.lst xs) := by
  unfold lstAt; rw [e]
/-- what is known to the callee -/
def FIn (fz : Bool) (F H : Hp) (θ θs : List Addr) : Hp := fun a => match F a with
  | some o => some o
  | none => if fz = true ∧ a ∈ θ ∧ a ∉ θs then lstAt H a else none
/-- what is known behind the call -/
def FOut (F F' H' : Hp) (θ θ' : List Addr) : Hp := fun a => match F a with
  | some o => some o
  | none => if a ∈ θ then none else match F' a with
    | some o => some o
    | none => if a ∈ θ' then lstAt H' a else none
section
variable {K : PySem.W.Frag} {T : Tbs} {g : Gp} {W W' : Wd} {H H' : Hp} {h : DH}
theorem HRel.has (r : HRel K T W H h) {a : Addr} (ha : a ∈ W.θ) : ∃ xs, H a = some (.lst xs) := by
  obtain ⟨k, hk⟩ := List.mem_iff_getElem?.mp ha
  have hlt := (List.getElem?_eq_some_iff.mp hk).1
  obtain ⟨o, ho⟩ : ∃ o, h[k]? = some o := ⟨h[k]'(by rw [← r.len]; exact hlt), by simp⟩
  have hh := r.obj k a o hk ho
  cases o with
  | lst zs => obtain ⟨xs, h1, _⟩ := hh; exact ⟨xs, h1⟩
  | dead => exact hh
theorem FIn.le {fz : Bool} {F : Hp} {θ θs : List Addr} : HLe F (FIn fz F H θ θs) := fun a o e => by unfold FIn; rw [e]
theorem FIn.not {F : Hp} {θ θs : List Addr} {a : Addr} : FIn false F H θ θs a = F a := by
  unfold FIn
  cases F a with
  | some o => rfl
  | none => simp
/-- the callee's world -/
theorem HRel.inner (r : HRel K T W H h) (fz : Bool) {θs : List Addr} {s : DH} (hs : ∀ a ∈ θs, a ∈ W.θ) (hl : θs.length = s.length) (hn : θs.Nodup)
    (ho : ∀ (k : Nat) (a : Addr) (o : Ob), θs[k]? = some a → s[k]? = some o → ∃ (zs : List Vx) (ds : List Dt) (j : Nat), o = .lst zs ∧ plains zs = some ds ∧ W.θ[j]? = some a ∧ h[j]? = some (.lst zs)) :
    HRel K T ⟨FIn fz W.F H W.θ θs, θs⟩ H s := by
  refine ⟨fun a o e => ?_, fun a o e => ?_, hl, fun k a o e1 e2 => ?_, fun k a o e1 e2 nd => ?_, hn, r.tab⟩
  · unfold FIn at e
    cases q : W.F a with
    | some u => simp only [q] at e; cases e; exact r.fro _ _ q
    | none =>
      simp only [q] at e
      split at e
      · obtain ⟨xs, rfl, z⟩ := lstAt_some e; exact z
      · cases e
  · unfold FIn at e
    cases q : W.F a with
    | some u => simp only [q] at e; cases e; exact r.ntb _ _ q
    | none =>
      simp only [q] at e
      split at e
      · obtain ⟨xs, rfl, z⟩ := lstAt_some e; exact notTbl_lst xs
      · cases e
  · obtain ⟨zs, ds, j, rfl, ep, ej, eh⟩ := ho k a o e1 e2
    obtain ⟨xs, hx, hv⟩ := r.obj j a _ ej eh
    have h1 := hv.plain ep
    have e3 : zs = ds.map Vx.d := by
      clear hv eh e2 e1 h1
      induction zs generalizing ds with
      | nil => cases ep; rfl
      | cons y r ih =>
        cases y with
        | d x =>
          unfold plains at ep
          split at ep
          · rename_i es e; cases ep; rw [List.map_cons, ← ih es e]
          · cases ep
        | r _ => cases ep
        | x _ _ => cases ep
        | s _ => cases ep
    refine ⟨xs, hx, ?_⟩
    rw [e3]
    exact .of_plain (RepDs.le FIn.le h1)
  · obtain ⟨zs, ds, j, rfl, ep, ej, eh⟩ := ho k a o e1 e2
    have q := r.liv j a _ ej eh (fun z => by cases z)
    show FIn fz W.F H W.θ θs a = none
    unfold FIn
    rw [q]
    have : a ∈ θs := List.mem_of_getElem? e1
    simp [this]
/-- behind the call -/
theorem call_out {fz : Bool} {θs : List Addr} {s' : DH} (r : HRel K T W H h) (hs : ∀ a ∈ θs, a ∈ W.θ) (ex : Ext ⟨FIn fz W.F H W.θ θs, θs⟩ H W' H') (r' : HRel K T W' H' s')
    (live : ∀ (k : Nat) (a : Addr), θs[k]? = some a → ∃ (zs : List Vx), s'[k]? = some (.lst zs)) {h' : DH} (hl : h'.length = h.length)
    (ho : ∀ (k : Nat) (a : Addr) (o : Ob), W.θ[k]? = some a → h'[k]? = some o → (a ∉ θs ∧ h[k]? = some o) ∨ ∃ (zs : List Vx) (ds : List Dt) (j : Nat), o = .lst zs ∧ plains zs = some ds ∧ noLsts ds = true ∧ θs[j]? = some a ∧ s'[j]? = some (.lst zs) ∧ ∃ zs0, h[k]? = some (.lst zs0)) :
    TupLe W'.F (FOut W.F W'.F H' W.θ W'.θ) ∧ (fz = false → HLe W'.F (FOut W.F W'.F H' W.θ W'.θ)) ∧
      HRel K T ⟨FOut W.F W'.F H' W.θ W'.θ, W.θ⟩ H' h' ∧ Ext W H ⟨FOut W.F W'.F H' W.θ W'.θ, W.θ⟩ H' := by
  obtain ⟨new, eθ, fnew⟩ := ex.θ
  have oldF : ∀ a o, W.F a = some o → W'.F a = some o := fun a o e => ex.F a o (FIn.le a o e)
  -- W' knows nothing more of the caller's lists but what was lent
  have key : ∀ a o, W'.F a = some o → W.F a = none → a ∈ W.θ → fz = true ∧ ∃ xs, o = .lst xs := fun a o e q m => by
    rcases ex.newF a o e with z | z | z
    · have z : FIn fz W.F H W.θ θs a = some o := z
      unfold FIn at z
      simp only [q] at z
      split at z
      · rename_i c
        obtain ⟨xs, e2, _⟩ := lstAt_some z
        exact ⟨c.1, xs, e2⟩
      · cases z
    · obtain ⟨xs, hx⟩ := r.has m
      rw [hx] at z; cases z
    · have z : a ∈ θs := z
      obtain ⟨k, hk⟩ := List.mem_iff_getElem?.mp z
      obtain ⟨zs, hz⟩ := live k a hk
      have hk' : W'.θ[k]? = some a := by
        rw [eθ]
        exact (List.getElem?_append_left (List.getElem?_eq_some_iff.mp hk).1).trans hk
      have := r'.liv k a _ hk' hz (fun z => by cases z)
      rw [this] at e; cases e
  have tl : TupLe W'.F (FOut W.F W'.F H' W.θ W'.θ) := fun a o e nl => by
    unfold FOut
    cases q : W.F a with
    | some u => have := oldF a u q; rw [e] at this; cases this; rfl
    | none =>
      simp only
      by_cases m : a ∈ W.θ
      · obtain ⟨_, xs, rfl⟩ := key a o e q m; exact absurd rfl (nl xs)
      · rw [if_neg m, e]
  have fl : fz = false → HLe W'.F (FOut W.F W'.F H' W.θ W'.θ) := fun ff a o e => by
    unfold FOut
    cases q : W.F a with
    | some u => have := oldF a u q; rw [e] at this; cases this; rfl
    | none =>
      simp only
      by_cases m : a ∈ W.θ
      · obtain ⟨c, _⟩ := key a o e q m; rw [ff] at c; cases c
      · rw [if_neg m, e]
  have wl : HLe W.F (FOut W.F W'.F H' W.θ W'.θ) := fun a o e => by unfold FOut; rw [e]
  have sub : ∀ a o, FOut W.F W'.F H' W.θ W'.θ a = some o → W.F a = some o ∨ (a ∉ W.θ ∧ (W'.F a = some o ∨ (a ∈ W'.θ ∧ ∃ xs, o = .lst xs ∧ H' a = some (.lst xs)))) := fun a o e => by
    unfold FOut at e
    cases q : W.F a with
    | some u => simp only [q] at e; exact .inl e
    | none =>
      simp only [q] at e
      split at e
      · cases e
      · rename_i m
        cases q2 : W'.F a with
        | some u => simp only [q2] at e; exact .inr ⟨m, .inl e⟩
        | none =>
          simp only [q2] at e
          split at e
          · rename_i m2; exact .inr ⟨m, .inr ⟨m2, lstAt_some e⟩⟩
          · cases e
  refine ⟨tl, fl, ⟨fun a o e => ?_, fun a o e => ?_, by rw [hl]; exact r.len, fun k a o e1 e2 => ?_, fun k a o e1 e2 nd => ?_, r.nd, r'.tab⟩, ⟨wl, ⟨[], by simp, by simp⟩, fun a o e n nt => ?_, ex.dom, fun a o e => ?_⟩⟩
  · rcases sub a o e with z | ⟨_, z | ⟨_, xs, rfl, z⟩⟩
    · exact r'.fro _ _ (oldF _ _ z)
    · exact r'.fro _ _ z
    · exact z
  · rcases sub a o e with z | ⟨_, z | ⟨_, xs, rfl, z⟩⟩
    · exact r.ntb _ _ z
    · exact r'.ntb _ _ z
    · exact notTbl_lst xs
  · rcases ho k a o e1 e2 with ⟨n, e3⟩ | ⟨zs, ds, j, rfl, ep, nl, ej, es, zs0, eh⟩
    · have hh := r.obj k a o e1 e3
      have hw : WLe W ⟨FOut W.F W'.F H' W.θ W'.θ, W.θ⟩ := ⟨wl, [], by simp⟩
      cases o with
      | lst ys => obtain ⟨xs, h1, h2⟩ := hh; exact ⟨xs, ex.frame _ _ h1 n (notTbl_lst _), h2.le hw⟩
      | dead => obtain ⟨xs, h1⟩ := hh; exact ⟨xs, ex.frame _ _ h1 n (notTbl_lst _)⟩
    · have hk' : W'.θ[j]? = some a := by
        rw [eθ]
        exact (List.getElem?_append_left (List.getElem?_eq_some_iff.mp ej).1).trans ej
      obtain ⟨xs, hx, hv⟩ := r'.obj j a _ hk' es
      refine ⟨xs, hx, ?_⟩
      have h1 := RepDs.tl tl nl (hv.plain ep)
      have e3 : ∀ (zs : List Vx) (ds : List Dt), plains zs = some ds → zs = ds.map Vx.d := by
        intro zs
        induction zs with
        | nil => intro ds ep; cases ep; rfl
        | cons y r ih =>
          intro ds ep
          cases y with
          | d x =>
            unfold plains at ep
            split at ep
            · rename_i es e; cases ep; rw [List.map_cons, ← ih es e]
            · cases ep
          | r _ => cases ep
          | x _ _ => cases ep
          | s _ => cases ep
      rw [e3 zs ds ep]
      exact .of_plain h1
  · have m : a ∈ W.θ := List.mem_of_getElem? e1
    have q : W.F a = none := by
      rcases ho k a o e1 e2 with ⟨n, e3⟩ | ⟨zs, ds, j, rfl, ep, nl, ej, es, zs0, eh⟩
      · exact r.liv k a o e1 e3 nd
      · exact r.liv k a _ e1 eh (fun z => by cases z)
    show FOut W.F W'.F H' W.θ W'.θ a = none
    unfold FOut
    rw [q]
    simp [m]
  · exact ex.frame a o e (fun z => n (hs a z)) nt
  · rcases sub a o e with z | ⟨m, z | ⟨m2, xs, rfl, z⟩⟩
    · exact .inl z
    · rcases ex.newF a o z with y | y | y
      · have y : FIn fz W.F H W.θ θs a = some o := y
        unfold FIn at y
        cases q : W.F a with
        | some u => rw [q] at y; exact .inl y
        | none =>
          simp only [q] at y
          split at y
          · rename_i c; exact absurd c.2.1 m
          · cases y
      · exact .inr (.inl y)
      · exact .inr (.inr (hs a y))
    · rw [eθ] at m2
      rcases List.mem_append.mp m2 with y | y
      · exact absurd (hs a y) m
      · exact .inr (.inl (fnew a y))
/-- the end of a call -/
theorem call_end {fz : Bool} {θs : List Addr} {po : Option Nat} {s s' : DH} (r : HRel K T W H h) (hθ : (po = none ∧ θs = []) ∨ ∃ k a zs, po = some k ∧ W.θ[k]? = some a ∧ h[k]? = some (.lst zs) ∧ θs = [a])
    (ex : Ext ⟨FIn fz W.F H W.θ θs, θs⟩ H W' H') (r' : HRel K T W' H' s') {h' : DH} (pb : putBack po h s' = some h') :
    TupLe W'.F (FOut W.F W'.F H' W.θ W'.θ) ∧ (fz = false → HLe W'.F (FOut W.F W'.F H' W.θ W'.θ)) ∧
      HRel K T ⟨FOut W.F W'.F H' W.θ W'.θ, W.θ⟩ H' h' ∧ Ext W H ⟨FOut W.F W'.F H' W.θ W'.θ, W.θ⟩ H' := by
  rcases hθ with ⟨rfl, rfl⟩ | ⟨k, a, zs, rfl, ea, ek, rfl⟩
  · have pb : some h = some h' := pb
    cases pb
    exact call_out r (fun a ha => by cases ha) ex r' (fun k a e => by cases e) rfl fun k a o e1 e2 => .inl ⟨by simp, e2⟩
  · unfold putBack at pb
    simp only at pb
    split at pb
    · rename_i zs' es
      split at pb
      · rename_i ds ep
        split at pb
        · rename_i nl
          cases pb
          refine call_out r (fun b hb => by rw [List.mem_singleton.mp hb]; exact List.mem_of_getElem? ea) ex r' (fun j b e => ?_) (by simp) fun j b o e1 e2 => ?_
          · cases j with
            | zero => exact ⟨zs', es⟩
            | succ j => cases e
          · by_cases hj : k = j
            · subst hj
              rw [ea] at e1
              cases e1
              rw [List.getElem?_set_self (by rw [← r.len]; exact (List.getElem?_eq_some_iff.mp ea).1)] at e2
              cases e2
              exact .inr ⟨zs', ds, 0, rfl, ep, nl, rfl, es, zs, ek⟩
            · rw [List.getElem?_set_ne hj] at e2
              refine .inl ⟨fun m => ?_, e2⟩
              have : b = a := List.mem_singleton.mp m
              subst this
              obtain ⟨l1, q1⟩ := List.getElem?_eq_some_iff.mp e1
              obtain ⟨l2, q2⟩ := List.getElem?_eq_some_iff.mp ea
              exact hj ((List.getElem_inj r.nd).mp (q2.trans q1.symm))
        · cases pb
      · cases pb
    · cases pb
theorem reify_r {ex : Nat → Bool} {s : DH} : ∀ {n k : Nat} {x : Dt}, reify ex s n (.r k) = some x → noLst x = false
  | 0, _, _, e => by cases e
  | n + 1, k, x, e => by
    have e : (if ex k = true then none else (match (s[k]? : Option Ob) with
      | some (.lst ys) => (match reifyL (reify ex s n) ys with | some ds => some (Dt.lst ds) | none => none)
      | _ => none)) = some x := e
    split at e
    · cases e
    · split at e
      · split at e
        · cases e; rfl
        · cases e
      · cases e
theorem call_sound {n : Nat} {f : List Vx → Mo Vx} {hy : List Bool} {vs : List V} {ys : List Vx} {Q : VK} {E : XK} (hr : HRel K g.T W H h) (rv : RepVs K W vs ys) (hl : vs.length = n)
    (P : Post K g (RV K) W H (callM hy f ys h) Q E) : spD K g n f vs H Q E := by
  refine ⟨hl, ?_⟩
  unfold callM at P
  split at P
  · rename_i s zs e1 e2
    generalize hpo : passed hy ys = po at e1 e2 P
    obtain ⟨θs, hθ, hin⟩ : ∃ θs, ((po = none ∧ θs = []) ∨ ∃ k a zs, po = some k ∧ W.θ[k]? = some a ∧ h[k]? = some (.lst zs) ∧ θs = [a]) ∧ HRel K g.T ⟨FIn (lent hy ys) W.F H W.θ θs, θs⟩ H s := by
      cases po with
      | none =>
        have e1 : some ([] : DH) = some s := e1
        cases e1
        exact ⟨[], .inl ⟨rfl, rfl⟩, hr.inner _ (fun a ha => by cases ha) rfl List.nodup_nil fun k a o e => by cases e⟩
      | some k =>
        unfold subOf at e1
        simp only at e1
        split at e1
        · rename_i ws hk
          split at e1
          · rename_i ds ep
            cases e1
            have hlt : k < W.θ.length := by rw [hr.len]; exact (List.getElem?_eq_some_iff.mp hk).1
            have ea : W.θ[k]? = some W.θ[k] := List.getElem?_eq_getElem hlt
            refine ⟨[W.θ[k]], .inr ⟨k, _, ws, rfl, ea, hk, rfl⟩, hr.inner _ (fun b hb => by rw [List.mem_singleton.mp hb]; exact List.mem_of_getElem? ea) rfl (List.nodup_cons.mpr ⟨by simp, List.nodup_nil⟩) fun j b o e3 e4 => ?_⟩
            cases j with
            | zero => cases e3; cases e4; exact ⟨ws, ds, k, rfl, ep, ea, hk⟩
            | succ j => cases e3
          · cases e1
        · cases e1
    have hs : ∀ a ∈ θs, a ∈ W.θ := fun a ha => by
      rcases hθ with ⟨_, rfl⟩ | ⟨k, b, zs, _, eb, _, rfl⟩
      · cases ha
      · rw [List.mem_singleton.mp ha]; exact List.mem_of_getElem? eb
    refine ⟨⟨FIn (lent hy ys) W.F H W.θ θs, θs⟩, s, zs, hin, ?_, ?_⟩
    · refine prep_rep (fz := lent hy ys) hr FIn.le (fun ft k a ys xs ea ek ne hx => ?_) (fun k a hk ea => ?_) rv e2 (fun z => z)
      · have q := hr.liv k a _ ea ek (fun z => by cases z)
        have nm : a ∉ θs := fun m => by
          rcases hθ with ⟨_, rfl⟩ | ⟨j, b, zs, rfl, eb, _, rfl⟩
          · cases m
          · have : a = b := List.mem_singleton.mp m
            subst this
            obtain ⟨l1, q1⟩ := List.getElem?_eq_some_iff.mp ea
            obtain ⟨l2, q2⟩ := List.getElem?_eq_some_iff.mp eb
            have : j = k := (List.getElem_inj hr.nd).mp (q2.trans q1.symm)
            subst this
            simp at ne
        unfold FIn
        rw [q]
        simp only
        rw [if_pos ⟨ft, List.mem_of_getElem? ea, nm⟩]
        exact lstAt_of hx
      · rcases hθ with ⟨e, _⟩ | ⟨j, b, zs, e, eb, _, rfl⟩
        · rw [e] at hk; cases hk
        · rw [e] at hk; cases hk
          rw [eb] at ea; cases ea; rfl
    · cases hf : f zs s with
      | stk => rw [hf] at P; exact P.elim
      | err c p s' =>
        rw [hf] at P
        intro W' cls dd H' ex r' rx
        unfold back at P
        simp only at P
        split at P
        · rename_i h' pb
          split at P
          · rename_i nl
            obtain ⟨tl, _, hr2, ex2⟩ := call_end (s := s) hr hθ ex r' pb
            obtain ⟨nm, fl, ex1, ec, d, v, ed, eh, rd⟩ := rx
            exact P _ cls dd H' ex2 hr2 ⟨nm, fl, ex1, ec, d, v, ed, eh, RepD.tl tl nl rd⟩
          · exact P.elim
        · exact P.elim
      | ok y s' =>
        rw [hf] at P
        intro W' v H' ex r' rv'
        unfold back at P
        simp only at P
        split at P
        · rename_i x h' er pb
          split at P
          · rename_i nl
            obtain ⟨tl, fl, hr2, ex2⟩ := call_end (s := s) hr hθ ex r' pb
            refine P _ v H' ex2 hr2 ?_
            show RepD K (FOut W.F W'.F H' W.θ W'.θ) v x
            cases hfz : lent hy ys with
            | true =>
              have nl := nl hfz
              cases y with
              | d z => cases er; exact RepD.tl tl nl rv'
              | r k => have := reify_r er; rw [this] at nl; cases nl
              | x _ _ => cases er
              | s _ => cases er
            | false =>
              refine reify_rep r' (fl hfz) (fun k a ys xs ea ek ne hx => ?_) 9 v y x rv' er
              obtain ⟨new, eθ, fnew⟩ := ex.θ
              have q : W'.F a = none := r'.liv k a _ ea ek (fun z => by cases z)
              have hk : θs.length ≤ k := by
                have ne : ¬ k < (if po.isSome = true then 1 else 0) := by simpa using ne
                rcases hθ with ⟨e, rfl⟩ | ⟨j, b, zs, e, eb, _, rfl⟩
                · exact Nat.zero_le _
                · rw [e] at ne
                  simp at ne
                  show 1 ≤ k
                  omega
              have m : a ∈ new := by
                have z : (θs ++ new)[k]? = some a := by rw [← eθ]; exact ea
                rw [List.getElem?_append_right hk] at z
                exact List.mem_of_getElem? z
              have hn := fnew a m
              have nθ : a ∉ W.θ := fun z => by
                obtain ⟨xs, hx⟩ := hr.has z
                rw [hx] at hn; cases hn
              have q0 : W.F a = none := by
                cases z : W.F a with
                | none => rfl
                | some o => have := hr.fro a o z; rw [hn] at this; cases this
              unfold FOut
              rw [q0]
              simp only
              rw [if_neg nθ, q]
              simp only
              rw [if_pos (List.mem_of_getElem? ea)]
              exact lstAt_of hx
          · exact P.elim
        · exact P.elim
  · exact P.elim
end
/-! ### the rule -/
section
variable {X : Cx} {g : Gp} {Wx : WX} {e : Expr} {es : List Expr} {fs : DEnv → Mo (List Vx)} {pos : Pos}
theorem pd_call {k : Nat} {fa : Addr} {fd : FuncData} {ps : List Str} {f : List Vx → Mo Vx} {hy : List Bool} {dvs : List V} {ds : List Value} {dd : List Dt} {x : Str} {p : Pos} (F : FnOk X.prog X.w X.K X.mg X.base (L2.CX X.prog X.w) k fa fd ps (spD X.K g ps.length f)) (hr : Room k X.A) (hg : Gl X x) (hm : X.mg x = some (.ref fa))
    (hk : PySem.W.keepIn X.K (.ref fa) = true) (hb : Binds X.K fd ps ds) (hd : Vals dvs ds) (rd : RepDs X.K (fun _ => none) dvs dd) (tk : Takes X Wx) (hin : Ins Wx) (hdb : (x == ("__debug__" : Str)) = false)
    (ha : PA X (e :: es) (LA X.K g Wx fs)) (he : starEach (e :: es) X.env = (false, eval e X.env) :: starEach es X.env) (hpl : (backTo pos (starEach es X.env)).any (·.1) = false) (hn : (e :: es).length + dd.length = ps.length)
    (hlen : ∀ ρ h ys h', fs ρ h = .ok ys h' → ys.length = (e :: es).length) :
    PE X (.Call (.Name x p) (e :: es) [] pos) (LE X.K g Wx (eCall (fun ys => callM hy f (ys ++ dd.map Vx.d)) fs)) := by
  refine (pe_call (E := fun c d H => ∃ σ, Wx c d σ H) F hr hg hm hk hb hd (passes_call (W := Wx) tk fun c d σ H ⟨σ', q⟩ => hin _ _ _ _ _ q) ha hdb he hpl).imp fun σ H Q p => ?_
  obtain ⟨W, ρ, h, hr0, er, p⟩ := p
  have hys : ∀ ys h', fs ρ h = .ok ys h' → ys.length = (e :: es).length := fun ys h' q => hlen ρ h ys h' q
  refine ⟨W, ρ, h, hr0, er, ?_⟩
  unfold eCall Dn.bnd at p
  cases hfs : fs ρ h with
  | stk => rw [hfs] at p; exact p.elim
  | err c pp h' =>
    rw [hfs] at p
    exact fun W' cls dd H' ex hr' rx => p W' cls dd H' ex hr' rx
  | ok ys h' =>
    rw [hfs] at p
    intro W' vs H' ex hr' rv
    have rdd : RepVs X.K W' dvs (dd.map Vx.d) := .of_plain (RepDs.le (fun _ o z => absurd (show (none : Option HO) = some o from z) (by simp)) rd)
    refine call_sound (g := g) (hy := hy) (f := f) hr' (rv.append rdd) ?_ ((p.later ex).imp (fun _ _ q => q) fun c d H' q => ⟨σ, q⟩)
    rw [List.length_append, rv.length, hys ys h' hfs, rd.length]
    exact hn
end
end Dn
end
section
set_option Elab.async false
set_option linter.all false
set_option maxRecDepth 100000
set_option maxHeartbeats 2000000
/-! Dn15: a def's body; the module's constants; isinstance; names in scopes. -/
namespace Dn
open PySem PySem.Spec PyProof.Rows L2

/-! ### a def -/
def bodyEnd (o : Out × DEnv) : Mo Vx := match o.1 with
  | .nx => ret (.d .non)
  | .rt y => ret y
  | .bk => stk
  | .ct => stk
def start0 (nl : Nat) (ys : List Vx) : DEnv := ys.map some ++ List.replicate (nl - ys.length) none
def fnM (nl : Nat) (fb : SF) (ys : List Vx) : Mo Vx := bnd (fb (start0 nl ys)) bodyEnd
theorem start_rel {K : PySem.W.Frag} {W : Wd} {N : List PySem.Str} {vs : List V} {ys : List Vx} (r : RepVs K W vs ys) : ERel K W (L2.start N vs) (start0 N.length ys) := by
  have hl := r.length
  refine ⟨by simp [L2.start, start0, hl], fun i y e => ?_⟩
  unfold start0 at e
  unfold L2.start
  by_cases hi : i < ys.length
  · rw [List.getElem?_append_left (by simpa using hi), List.getElem?_map] at e
    cases q : ys[i]? with
    | none => rw [q] at e; cases e
    | some z =>
      rw [q] at e; cases e
      obtain ⟨v, e1, e2⟩ := r.get q
      exact ⟨v, by rw [List.getElem?_append_left (by simpa [hl] using hi), List.getElem?_map, e1]; rfl, e2⟩
  · rw [List.getElem?_append_right (by simpa using hi)] at e
    rw [List.getElem?_replicate] at e
    split at e <;> cases e
section
variable {P : Program} {w : World} {K : PySem.W.Frag} {mg : PySem.Str → Option Value} {base : Heap} {g : Gp}
theorem fn_ok {x qual : PySem.Str} {params : Arguments} {body : List Stmt} {scope : Scope} {dvs : List V} {kws : List (PySem.Str × V)} {f : Addr} {fd : FuncData} {N ps : List PySem.Str} {k nl n : Nat} {fb : SF} (F : FunD K x qual params body scope dvs kws f fd) (S : FnScope N ps scope) (hn : N.length = nl) (hp : ps.length = n)
    (hb : ∀ (cdv : Value) (A : Around) (outer : List Env) (s : Shared) (H : Hp) (E : XK), Room k (A.deeper (envOfC qual scope s.heap.objs.size f cdv)) →
      Takes (cxOf (L2.CX P w) P w K mg base N qual scope f cdv A outer s H E) (fun c d _ H => E c d H) →
      PassesOwn (model P w) (cxOf (L2.CX P w) P w K mg base N qual scope f cdv A outer s H E).A (cxOf (L2.CX P w) P w K mg base N qual scope f cdv A outer s H E).env (cxOf (L2.CX P w) P w K mg base N qual scope f cdv A outer s H E).xe →
      PSs (cxOf (L2.CX P w) P w K mg base N qual scope f cdv A outer s H E) body (LS K g (fun c d _ H => E c d H) fb)) :
    FnOk P w K mg base (L2.CX P w) (k + 1) f fd ps (spD K g n (fnM nl fb)) := by
  subst hn hp
  refine F.ok S (fun vs H Q E h => h.1) fun cdv A outer s H vs Q E hr h => ⟨_, hb cdv A outer s H E hr (takes_of rfl rfl rfl rfl) (passes_of rfl), ?_⟩
  obtain ⟨hl, W, h0, ys, r, rv, p⟩ := h
  refine ⟨W, start0 N.length ys, h0, r, start_rel rv, (Post.bnd (R := RO K) p).imp (fun v H' ⟨W1, y, h1, ex, hr1, rr, p1⟩ => ?_) fun _ _ _ q => q⟩
  obtain ⟨o, ρ⟩ := y
  cases v with
  | nx σ =>
    cases o with
    | nx => exact Post.ret (v := V.non) p1 hr1 RepD.non
    | _ => exact rr.elim
  | rt v =>
    cases o with
    | rt y => exact Post.ret (v := v) p1 hr1 rr
    | _ => exact rr.elim
  | bk σ =>
    cases o with
    | bk => exact p1.elim
    | _ => exact rr.elim
  | ct σ =>
    cases o with
    | ct => exact p1.elim
    | _ => exact rr.elim
end
theorem insE {E : XK} : Ins (fun c d _ H => E c d H) := fun _ _ _ _ _ q => q
theorem ins0 : Ins NoX := fun _ _ _ _ _ q => q
/-! ### names -/
def visB (sc : Scope) (x : PySem.Str) : Bool := match sc.names.lookup x with
  | some .local => true
  | some .cell => true
  | some .free => true
  | _ => false
theorem visB_ok {sc : Scope} {x : PySem.Str} (h : visB sc x = true) : Vis sc x := by
  unfold visB at h
  split at h
  · rename_i e; exact .inl e
  · rename_i e; exact .inr (.inl e)
  · rename_i e; exact .inr (.inr e)
  · cases h
def locB (sc : Scope) (x : PySem.Str) : Bool := match sc.names.lookup x with
  | some .local => true
  | some .cell => true
  | _ => false
theorem locB_ok {sc : Scope} {x : PySem.Str} (h : locB sc x = true) : Loc sc x := by
  unfold locB at h
  split at h
  · rename_i e; exact .inl e
  · rename_i e; exact .inr e
  · cases h
def kEq : NameKind → NameKind → Bool := fun a b => decide (a = b)
def oEq : Option NameKind → NameKind → Bool
  | some a, b => decide (a = b)
  | none, _ => false
theorem oEq_ok {a : Option NameKind} {b : NameKind} (h : oEq a b = true) : a = some b := by
  cases a with
  | none => cases h
  | some a => exact congrArg some (of_decide_eq_true h)
def blkB (N : List PySem.Str) (sc scope : Scope) (own : List (PySem.Str × Nat)) : Bool :=
  decide (scope.kind = .function) && (scope.names.all fun y => oEq (scope.names.lookup y.1) y.2) && (own.all fun p => decide (N[p.2]? = some p.1)) &&
    (scope.names.all fun y => !decide (y.2 = .free) || (oEq (sc.names.lookup y.1) .cell || oEq (sc.names.lookup y.1) .free)) &&
    (scope.names.all fun y => !(decide (y.2 = .local) || decide (y.2 = .cell)) || ((own.map (·.1)).contains y.1 || !N.contains y.1))
theorem blkB_ok {N : List PySem.Str} {sc scope : Scope} {own : List (PySem.Str × Nat)} (h : blkB N sc scope own = true) : BlkOk N sc scope own := by
  unfold blkB at h
  simp only [Bool.and_eq_true] at h
  obtain ⟨⟨⟨⟨h1, h2⟩, h3⟩, h4⟩, h5⟩ := h
  refine ⟨of_decide_eq_true h1, fun y hy => oEq_ok (List.all_eq_true.mp h2 y hy), fun p hp => of_decide_eq_true (List.all_eq_true.mp h3 p hp), fun y hy e => ?_, fun y hy e => ?_⟩
  · have := List.all_eq_true.mp h4 y hy
    simp only [Bool.or_eq_true, Bool.not_eq_true', decide_eq_false_iff_not] at this
    rcases this with z | z | z
    · exact absurd e z
    · exact .inl (oEq_ok z)
    · exact .inr (oEq_ok z)
  · have := List.all_eq_true.mp h5 y hy
    simp only [Bool.or_eq_true, Bool.not_eq_true', Bool.or_eq_false_iff, decide_eq_false_iff_not] at this
    rcases this with z | z | z
    · rcases e with e | e
      · exact absurd e z.1
      · exact absurd e z.2
    · exact .inl (by simpa using z)
    · exact .inr (by simpa using z)
/-! ### constants of the module -/
mutual
def chk (K : PySem.W.Frag) : Dt → Value → Bool
  | .non, .none => true
  | .bl b, .bool c => b == c
  | .int i, .int j _ => decide (i = j)
  | .str s, .str y _ => decide (y = toStr s) && (decide (s.length ≤ 16777216) && s.all fun c => decide (c < 0x110000))
  | .tup ds, .ref a => (match K.lookup a with
    | some ⟨.type c, _, .seq its _, _⟩ => decide (c = "tuple") && (decide (its.size ≤ sizeLine) && chks K ds its.toList)
    | _ => false)
  | _, _ => false
def chks (K : PySem.W.Frag) : List Dt → List Value → Bool
  | [], [] => true
  | d :: ds, u :: us => chk K d u && chks K ds us
  | _, _ => false
end
mutual
theorem chk_ok {K : PySem.W.Frag} : ∀ {d : Dt} {u : Value}, chk K d u = true → ∃ v, RelV v u ∧ RepD K (fun _ => none) v d
  | .non, u, h => by
    cases u with
    | none => exact ⟨.non, rfl, .non⟩
    | _ => unfold chk at h; cases h
  | .bl b, u, h => by
    cases u with
    | bool c =>
      have e : b = c := by unfold chk at h; exact eq_of_beq h
      subst e
      exact ⟨.bl b, rfl, .bl b⟩
    | _ => unfold chk at h; cases h
  | .int i, u, h => by
    cases u with
    | int j t =>
      have e : i = j := by unfold chk at h; exact of_decide_eq_true h
      subst e
      exact ⟨.int i, ⟨t, rfl⟩, .int i⟩
    | _ => unfold chk at h; cases h
  | .str s, u, h => by
    cases u with
    | str y t =>
      unfold chk at h
      simp only [Bool.and_eq_true] at h
      have e := of_decide_eq_true h.1
      subst e
      exact ⟨.str (toStr s), ⟨t, rfl⟩, .str s ⟨by rw [sizeLine_eq]; exact of_decide_eq_true h.2.1, fun c hc => of_decide_eq_true (List.all_eq_true.mp h.2.2 c hc)⟩⟩
    | _ => unfold chk at h; cases h
  | .lst _, u, h => by cases u <;> (unfold chk at h; cases h)
  | .tup ds, u, h => by
    cases u with
    | ref a =>
      unfold chk at h
      cases q : K.lookup a with
      | none => rw [q] at h; cases h
      | some o =>
        obtain ⟨oc, od, dt, osl⟩ := o
        rw [q] at h
        cases oc with
        | type c =>
          cases dt with
          | seq its n =>
            simp only [Bool.and_eq_true] at h
            have e := of_decide_eq_true h.1
            subst e
            obtain ⟨vs, r1, r2⟩ := chks_ok h.2.2
            exact ⟨.ref a, rfl, .tup (.inr ⟨_, its, n, q, rfl, rfl, of_decide_eq_true h.2.1, r1⟩) r2⟩
          | _ => cases h
        | _ => cases h
    | _ => unfold chk at h; cases h
theorem chks_ok {K : PySem.W.Frag} : ∀ {ds : List Dt} {us : List Value}, chks K ds us = true → ∃ vs, Vals vs us ∧ RepDs K (fun _ => none) vs ds
  | [], us, h => by
    cases us with
    | nil => exact ⟨[], .nil, .nil⟩
    | cons _ _ => unfold chks at h; cases h
  | d :: ds, us, h => by
    cases us with
    | nil => unfold chks at h; cases h
    | cons u us =>
      unfold chks at h
      simp only [Bool.and_eq_true] at h
      obtain ⟨v, a1, a2⟩ := chk_ok h.1
      obtain ⟨vs, b1, b2⟩ := chks_ok h.2
      exact ⟨v :: vs, .cons a1 b1, .cons a2 b2⟩
end
def constB (K : PySem.W.Frag) (x : PySem.Str) (d : Dt) : Bool := match PySem.W.nsIn K mainGlobals x with
  | some (some u) => chk K d u
  | _ => false
theorem constB_ok {K : PySem.W.Frag} {h : Heap} {mg : PySem.Str → Option Value} (X : K.In h) (G : h.Ns mainGlobals mg) {x : PySem.Str} {d : Dt} (c : constB K x d = true) : ∃ u v, mg x = some u ∧ RelV v u ∧ RepD K (fun _ => none) v d := by
  unfold constB at c
  split at c
  · rename_i u e
    obtain ⟨v, a1, a2⟩ := chk_ok c
    exact ⟨u, v, PySem.W.mg_of X G e, a1, a2⟩
  · cases c
/-! ### isinstance -/
inductive Tn where
  | str | int | bool | list | tuple
def Tn.nm : Tn → String
  | .str => "str"
  | .int => "int"
  | .bool => "bool"
  | .list => "list"
  | .tuple => "tuple"
def tnOf : Vx → DH → Option String
  | .d .non, _ => some "NoneType"
  | .d (.bl _), _ => some "bool"
  | .d (.int _), _ => some "int"
  | .d (.str _), _ => some "str"
  | .d (.tup _), _ => some "tuple"
  | .d (.lst _), _ => some "list"
  | .r k, h => (match (h[k]? : Option Ob) with
    | some (.lst _) => some "list"
    | _ => none)
  | _, _ => none
/-- a type is of another -/
def isT (t : String) (c : Tn) : Bool := match c with
  | .str => t == "str"
  | .int => t == "int" || t == "bool"
  | .bool => t == "bool"
  | .list => t == "list"
  | .tuple => t == "tuple"
def eIsi (cs : List Tn) (fa : DEnv → Mo Vx) : DEnv → Mo Vx := fun ρ => bnd (fa ρ) fun y h => match tnOf y h with
  | some t => .ok (.d (.bl (cs.any (isT t)))) h
  | none => .stk
section
variable {X : Cx} {g : Gp} {Wx : WX} {a : Expr} {fa : DEnv → Mo Vx} {pos : Pos}
theorem SqT.tyx {K : PySem.W.Frag} {H : Hp} {b : Addr} {vs : List V} (h : SqT K H b vs) : TyX K H (.ref b) (.type "tuple") := by
  rcases h with (h | ⟨o, h⟩) | ⟨o, its, n, h, c, _⟩
  · exact .base (.tup h)
  · exact .fTuple h
  · exact .kTuple h c
theorem tnOf_ty {W : Wd} {H : Hp} {h : DH} {v : V} {y : Vx} {t : String} (hr : HRel X.K g.T W H h) (r : RepV X.K W v y) (e : tnOf y h = some t) : TyX X.K H v (.type t) := by
  cases y with
  | d x =>
    cases x with
    | non => cases e; cases r; exact .base .non
    | bl b => cases e; cases r; exact .base (.bl b)
    | int i => cases e; cases r; exact .base (.int i)
    | str s => cases e; cases r; exact .base (.str _)
    | tup ds =>
      cases e
      obtain ⟨a1, vs1, rfl, q1, _, _⟩ := repTup hr r
      exact SqT.tyx q1
    | lst ds =>
      cases e
      cases r with
      | lst h1 h2 => exact .base (.lst (hr.fro _ _ h1))
  | r k =>
    obtain ⟨b, e1, rfl⟩ := r
    have e : (match (h[k]? : Option Ob) with
      | some (.lst _) => some "list"
      | _ => none) = some t := e
    split at e
    · rename_i ys hk
      cases e
      obtain ⟨xs, hx, _⟩ := hr.obj k b _ e1 hk
      exact .base (.lst hx)
    · cases e
  | x _ _ => exact r.elim
  | s _ => cases e
theorem kit_isT (K : PySem.W.Frag) {t : String} (h : t = "NoneType" ∨ t = "bool" ∨ t = "int" ∨ t = "str" ∨ t = "tuple" ∨ t = "list") (c : Tn) : PySem.W.kitOne K (.type t) (.type c.nm) = some (isT t c) := by
  refine kit_ty ?_
  rcases h with rfl | rfl | rfl | rfl | rfl | rfl <;> cases c <;> decide +kernel
theorem tnOf_in {y : Vx} {h : DH} {t : String} (e : tnOf y h = some t) : t = "NoneType" ∨ t = "bool" ∨ t = "int" ∨ t = "str" ∨ t = "tuple" ∨ t = "list" := by
  unfold tnOf at e
  split at e
  all_goals first
    | (cases e; simp; done)
    | (cases e; done)
    | (split at e <;> cases e; simp)
theorem kit_any (K : PySem.W.Frag) {t : String} (h : t = "NoneType" ∨ t = "bool" ∨ t = "int" ∨ t = "str" ∨ t = "tuple" ∨ t = "list") : ∀ cs : List Tn, PySem.W.kitAny K (.type t) (cs.map fun c => .type c.nm) = some (cs.any (isT t))
  | [] => kitAny_nil
  | c :: cs => by
    refine kitAny_cons (b := isT t c) (kit_isT K h c) (fun e => ?_) fun e => ?_
    · rw [kit_any K h cs, List.any_cons, e, Bool.false_or]
    · rw [List.any_cons, e, Bool.true_or]
/-- a built-in type as a value -/
theorem pe_tyn {x : PySem.Str} {n : String} {p : Pos} (hg : Gl X x) (hm : X.mg x = none) (hv : bootBuiltins x = some (.type n)) (hn : x ≠ "__name__") (hdb : (x == ("__debug__" : PySem.Str)) = false) : PE X (.Name x p) (fun _ H Q => Q (.ty n) H) :=
  ⟨fun pins s σ H Q I h => ld_blt I hg hm hv ⟨V.ty n, H, I, rfl, h⟩ hn hdb⟩
/-- isinstance(e, T) -/
theorem pd_isi {x : PySem.Str} {c : Tn} {p p1 : Pos} (hg : Gl X "isinstance") (hm : X.mg "isinstance" = none) (ha : PE X a (LE X.K g Wx fa)) (ht : PE X (.Name x p1) (fun _ H Q => Q (.ty c.nm) H))
    (hs : starEach [a, .Name x p1] X.env = (false, eval a X.env) :: starEach [.Name x p1] X.env) (hs2 : starEach [.Name x p1] X.env = (false, eval (.Name x p1) X.env) :: starEach [] X.env) (hpl : (backTo pos (starEach [.Name x p1] X.env)).any (·.1) = false) :
    PE X (.Call (.Name "isinstance" p) [a, .Name x p1] [] pos) (LE X.K g Wx (eIsi [c] fa)) := by
  refine (pe_callB call_isi hg hm boot_isinstance (pa_cons ha (pa_cons ht pa_nil hs2) hs) (by decide) (by decide) hs hpl).imp fun σ H Q p => ?_
  refine Lf.imp (Lf.bnd (R := RV X.K) p) fun v H1 ⟨W1, ρ, y, h1, hr1, er, rr, p1⟩ => ?_
  split at p1
  · rename_i t e
    refine ⟨v, .ty c.nm, .type t, .type c.nm, isT t c, rfl, .ty _, tnOf_ty hr1 rr e, kit_isT X.K (tnOf_in e) c, ?_⟩
    have := p1.ret hr1 (RepD.bl _)
    simpa using this
  · exact p1.elim
/-- isinstance(e, (list, tuple)) -/
theorem pd_isi2 {x z : PySem.Str} {c d : Tn} {p p1 p2 p3 : Pos} {k : Nat} (hg : Gl X "isinstance") (hm : X.mg "isinstance" = none) (ha : PE X a (LE X.K g Wx fa)) (ht : PE X (.Name x p1) (fun _ H Q => Q (.ty c.nm) H)) (hu : PE X (.Name z p2) (fun _ H Q => Q (.ty d.nm) H))
    (hs : starEach [a, .Tuple [.Name x p1, .Name z p2] k p3] X.env = (false, eval a X.env) :: starEach [.Tuple [.Name x p1, .Name z p2] k p3] X.env) (hs2 : starEach [.Tuple [.Name x p1, .Name z p2] k p3] X.env = (false, eval (.Tuple [.Name x p1, .Name z p2] k p3) X.env) :: starEach [] X.env)
    (hs3 : starEach [.Name x p1, .Name z p2] X.env = (false, eval (.Name x p1) X.env) :: starEach [.Name z p2] X.env) (hs4 : starEach [.Name z p2] X.env = (false, eval (.Name z p2) X.env) :: starEach [] X.env) (hpl : (backTo pos (starEach [.Tuple [.Name x p1, .Name z p2] k p3] X.env)).any (·.1) = false) :
    PE X (.Call (.Name "isinstance" p) [a, .Tuple [.Name x p1, .Name z p2] k p3] [] pos) (LE X.K g Wx (eIsi [c, d] fa)) := by
  refine (pe_callB call_isiT hg hm boot_isinstance (pa_cons ha (pa_cons (pe_tup (pa_cons ht (pa_cons hu pa_nil hs4) hs3)) pa_nil hs2) hs) (by decide) (by decide) hs hpl).imp fun σ H Q p => ?_
  refine Lf.imp (Lf.bnd (R := RV X.K) p) fun v H1 ⟨W1, ρ, y, h1, hr1, er, rr, p1⟩ => ?_
  split at p1
  · rename_i t e
    refine ⟨by rw [sizeLine_eq]; exact (by decide : 2 ≤ 16777216), fun q np => ?_⟩
    obtain ⟨hr2, ex2⟩ := hr1.new np (o := .tup [V.ty c.nm, V.ty d.nm]) (fun ps z => by cases z)
    refine ⟨v, q, [V.ty c.nm, V.ty d.nm], .type t, [.type c.nm, .type d.nm], [c, d].any (isT t), rfl, upd_same, .cons (.ty _) (.cons (.ty _) .nil), tnOf_ty hr2 (RepV.le ex2.le rr) e, kit_any X.K (tnOf_in e) [c, d], ?_⟩
    exact (p1.later ex2).ret hr2 (RepD.bl _)
  · exact p1.elim
end
end Dn
end
section
set_option Elab.async false
set_option linter.all false
set_option maxRecDepth 100000
set_option maxHeartbeats 2000000
/-! Dn16: comprehensions as rules; enumerate over lists. -/
namespace Dn
open PySem PySem.Spec PyProof.Rows L2

section
variable {X : Cx} {g : Gp} {Wx : WX} {elt tg iter tg1 iter1 : Expr} {ifs ifs1 : List Expr} {scope : Scope} {own : List (PySem.Str × Nat)} {pos spos : Pos} {fz : Bool} {fi fi1 : DEnv → Mo Wk} {t t1 : MT} {q q1 : TG} {ft ft1 : DEnv → Mo Bool} {fe : DEnv → Mo Vx} {vs vs1 : List Nat}
theorem inAll {t : List Nat} {vs : List Nat} (h : (t.all fun i => vs.contains i) = true) : ∀ i ∈ t, i ∈ vs := fun i hi => by simpa using List.all_eq_true.mp h i hi
theorem pd_lc (own : List (PySem.Str × Nat)) (hc : X.calm = true) (hN : X.N.Nodup) (hi : PI X tg iter (LI X.K g Wx fi)) (ok : blkB X.N X.env.scope scope own = true) (ev : own.map (·.2) = vs) (ht : TgS X.K t q) (hv : (t.slots.all fun i => vs.contains i) = true)
    (hg : ∀ (s : Shared) (H : Hp) (C : Addr) (cl : List (PySem.Str × Addr)) (fp : List Addr), PG (X.blk s H scope (compEnvC scope cl C X.env) fp) tg q)
    (htt : ∀ (s : Shared) (H : Hp) (C : Addr) (cl : List (PySem.Str × Addr)) (fp : List Addr), PTs (X.blk s H scope (compEnvC scope cl C X.env) fp) ifs (LT X.K g NoX ft))
    (he : ∀ (s : Shared) (H : Hp) (C : Addr) (cl : List (PySem.Str × Addr)) (fp : List Addr), PE (X.blk s H scope (compEnvC scope cl C X.env) fp) elt (LE X.K g NoX fe))
    (hs : ∀ x, foldedSetIterable iter X.env x = pure x) : PE X (.ListComp elt [⟨tg, iter, ifs, 0⟩] scope pos) (LE X.K g Wx (eLc fz fi t ft fe vs)) := by
  subst ev
  exact (pe_lc hc hN hi (blkB_ok ok) hg htt he hs).imp fun σ H Q p => lc_tLc ht (inAll hv) p
theorem pd_setLc {i : Nat} {y : PySem.Str} {py : Pos} (own : List (PySem.Str × Nat)) (hc : X.calm = true) (hN : X.N.Nodup) (hy : X.N[i]? = some y) (hyl : X.env.scope.names.lookup y = some .local)
    (hsw : swapsWith (.ListComp elt [⟨tg, iter, ifs, 0⟩] scope pos) (some (.Name y py)) spos.line X.env = pure true) (hi : PI X tg iter (LI X.K g Wx fi)) (ok : blkB X.N X.env.scope scope own = true) (ev : own.map (·.2) = vs) (ht : TgS X.K t q) (hv : (t.slots.all fun i => vs.contains i) = true)
    (hg : ∀ (s : Shared) (H : Hp) (C : Addr) (cl : List (PySem.Str × Addr)) (fp : List Addr), PG (X.blk s H scope (compEnvC scope cl C X.env) fp) tg q)
    (htt : ∀ (s : Shared) (H : Hp) (C : Addr) (cl : List (PySem.Str × Addr)) (fp : List Addr), PTs (X.blk s H scope (compEnvC scope cl C X.env) fp) ifs (LT X.K g NoX ft))
    (he : ∀ (s : Shared) (H : Hp) (C : Addr) (cl : List (PySem.Str × Addr)) (fp : List Addr), PE (X.blk s H scope (compEnvC scope cl C X.env) fp) elt (LE X.K g NoX fe))
    (hs : ∀ x, foldedSetIterable iter X.env x = pure x) : PS X (.Assign [.Name y py] (.ListComp elt [⟨tg, iter, ifs, 0⟩] scope pos) spos) (LS X.K g Wx (sSet (.nm i) (eLc fz fi t ft fe vs))) := by
  subst ev
  refine (ps_setLc hc hN hy hyl hsw hi (blkB_ok ok) hg htt he hs).imp fun D σ H p => ?_
  refine lc_tLc (fz := fz) ht (inAll hv) ?_
  exact tAsg_of (tg_nm i) p
theorem pd_lc2 (own : List (PySem.Str × Nat)) (hc : X.calm = true) (hN : X.N.Nodup) (hi : PI X tg iter (LI X.K g Wx fi)) (ok : blkB X.N X.env.scope scope own = true) (ev : own.map (·.2) = vs) (hvv : (vs1.all fun i => vs.contains i) = true) (ht : TgS X.K t q) (hv : (t.slots.all fun i => vs.contains i) = true) (ht1 : TgS X.K t1 q1) (hv1 : (t1.slots.all fun i => vs1.contains i) = true)
    (hg : ∀ (s : Shared) (H : Hp) (C : Addr) (cl : List (PySem.Str × Addr)) (fp : List Addr), PG (X.blk s H scope (compEnvC scope cl C X.env) fp) tg q)
    (htt : ∀ (s : Shared) (H : Hp) (C : Addr) (cl : List (PySem.Str × Addr)) (fp : List Addr), PTs (X.blk s H scope (compEnvC scope cl C X.env) fp) ifs (LT X.K g NoX ft))
    (hi1 : ∀ (s : Shared) (H : Hp) (C : Addr) (cl : List (PySem.Str × Addr)) (fp : List Addr), PI (X.blk s H scope (compEnvC scope cl C X.env) fp) tg1 iter1 (LI X.K g NoX fi1))
    (hg1 : ∀ (s : Shared) (H : Hp) (C : Addr) (cl : List (PySem.Str × Addr)) (fp : List Addr), PG (X.blk s H scope (compEnvC scope cl C X.env) fp) tg1 q1)
    (htt1 : ∀ (s : Shared) (H : Hp) (C : Addr) (cl : List (PySem.Str × Addr)) (fp : List Addr), PTs (X.blk s H scope (compEnvC scope cl C X.env) fp) ifs1 (LT X.K g NoX ft1))
    (he : ∀ (s : Shared) (H : Hp) (C : Addr) (cl : List (PySem.Str × Addr)) (fp : List Addr), PE (X.blk s H scope (compEnvC scope cl C X.env) fp) elt (LE X.K g NoX fe))
    (hs : ∀ x, foldedSetIterable iter X.env x = pure x) (hs1 : ∀ env x, foldedSetIterable iter1 env x = pure x) : PE X (.ListComp elt [⟨tg, iter, ifs, 0⟩, ⟨tg1, iter1, ifs1, 0⟩] scope pos) (LE X.K g Wx (eLc2 fz fi t ft fi1 t1 ft1 fe vs vs1)) := by
  subst ev
  exact (pe_lc2 hc hN hi (blkB_ok ok) (inAll hvv) hg htt hi1 hg1 htt1 he hs hs1).imp fun σ H Q p => lc2_tLc ht (inAll hv) ht1 (inAll hv1) p
theorem pd_setLc2 {i : Nat} {y : PySem.Str} {py : Pos} (own : List (PySem.Str × Nat)) (hc : X.calm = true) (hN : X.N.Nodup) (hy : X.N[i]? = some y) (hyl : X.env.scope.names.lookup y = some .local)
    (hsw : swapsWith (.ListComp elt [⟨tg, iter, ifs, 0⟩, ⟨tg1, iter1, ifs1, 0⟩] scope pos) (some (.Name y py)) spos.line X.env = pure true) (hi : PI X tg iter (LI X.K g Wx fi)) (ok : blkB X.N X.env.scope scope own = true) (ev : own.map (·.2) = vs) (hvv : (vs1.all fun i => vs.contains i) = true) (ht : TgS X.K t q) (hv : (t.slots.all fun i => vs.contains i) = true) (ht1 : TgS X.K t1 q1) (hv1 : (t1.slots.all fun i => vs1.contains i) = true)
    (hg : ∀ (s : Shared) (H : Hp) (C : Addr) (cl : List (PySem.Str × Addr)) (fp : List Addr), PG (X.blk s H scope (compEnvC scope cl C X.env) fp) tg q)
    (htt : ∀ (s : Shared) (H : Hp) (C : Addr) (cl : List (PySem.Str × Addr)) (fp : List Addr), PTs (X.blk s H scope (compEnvC scope cl C X.env) fp) ifs (LT X.K g NoX ft))
    (hi1 : ∀ (s : Shared) (H : Hp) (C : Addr) (cl : List (PySem.Str × Addr)) (fp : List Addr), PI (X.blk s H scope (compEnvC scope cl C X.env) fp) tg1 iter1 (LI X.K g NoX fi1))
    (hg1 : ∀ (s : Shared) (H : Hp) (C : Addr) (cl : List (PySem.Str × Addr)) (fp : List Addr), PG (X.blk s H scope (compEnvC scope cl C X.env) fp) tg1 q1)
    (htt1 : ∀ (s : Shared) (H : Hp) (C : Addr) (cl : List (PySem.Str × Addr)) (fp : List Addr), PTs (X.blk s H scope (compEnvC scope cl C X.env) fp) ifs1 (LT X.K g NoX ft1))
    (he : ∀ (s : Shared) (H : Hp) (C : Addr) (cl : List (PySem.Str × Addr)) (fp : List Addr), PE (X.blk s H scope (compEnvC scope cl C X.env) fp) elt (LE X.K g NoX fe))
    (hs : ∀ x, foldedSetIterable iter X.env x = pure x) (hs1 : ∀ env x, foldedSetIterable iter1 env x = pure x) : PS X (.Assign [.Name y py] (.ListComp elt [⟨tg, iter, ifs, 0⟩, ⟨tg1, iter1, ifs1, 0⟩] scope pos) spos) (LS X.K g Wx (sSet (.nm i) (eLc2 fz fi t ft fi1 t1 ft1 fe vs vs1))) := by
  subst ev
  refine (ps_setLc2 hc hN hy hyl hsw hi (blkB_ok ok) (inAll hvv) hg htt hi1 hg1 htt1 he hs hs1).imp fun D σ H p => ?_
  refine lc2_tLc (fz := fz) ht (inAll hv) ht1 (inAll hv1) ?_
  exact tAsg_of (tg_nm i) p
theorem room64 {k : Nat} {A : Around} (r : Room k A) : A.units + 64 < cLine := by
  have := r.un
  omega
theorem room0 {k : Nat} {A : Around} (r : Room k A) : A.units < cLine := by
  have := r.un
  omega
/-! how many arguments -/
def ALen (fs : DEnv → Mo (List Vx)) (n : Nat) : Prop := ∀ ρ h ys h', fs ρ h = .ok ys h' → ys.length = n
theorem alen_nil : ALen aNil 0 := fun ρ h ys h' e => by cases e; rfl
theorem alen_cons {fa : DEnv → Mo Vx} {fs : DEnv → Mo (List Vx)} {n : Nat} (a : ALen fs n) : ALen (aCons fa fs) (n + 1) := fun ρ h ys h' e => by
  unfold aCons Dn.bnd at e
  cases hf : fa ρ h with
  | stk => rw [hf] at e; cases e
  | err c p h1 => rw [hf] at e; cases e
  | ok y h1 =>
    rw [hf] at e
    simp only at e
    cases hg : fs ρ h1 with
    | stk => rw [hg] at e; cases e
    | err c p h2 => rw [hg] at e; cases e
    | ok zs h2 =>
      rw [hg] at e
      cases e
      rw [List.length_cons, a ρ h1 zs _ hg]
theorem pd_never {st : Stmt} : PS X st (LS X.K g Wx (fun _ => stk)) := ps_never.imp fun D σ H p => by
  obtain ⟨W, ρ, h, hr, er, p⟩ := p
  exact p.elim
/-! enumerate over a list -/
def wEnL (fa : DEnv → Mo Vx) : DEnv → Mo Wk := fun ρ => bnd (fa ρ) fun y h => match y with
  | .d (.lst ds) => .ok (.en (.ds ds)) h
  | _ => .stk
theorem pd_enL {elts : List Expr} {kk : Nat} {tpos : Pos} {e : Expr} {fa : DEnv → Mo Vx} {p : Pos} (hg : Gl X "enumerate") (hm : X.mg "enumerate" = none) (he : PE X e (LE X.K g Wx fa)) (hs : starEach [e] X.env = (false, eval e X.env) :: starEach [] X.env) :
    PI X (.Tuple elts kk tpos) (.Call (.Name "enumerate" p) [e] [] pos) (LI X.K g Wx (wEnL fa)) := by
  refine ⟨fun pins s σ H R I h => (pi_enum hg hm (pda_cons he pda_nil hs) hs).run pins s σ H R I ?_⟩
  have h : Lf X.K g (fun W J wk => WkR X.K g.T W wk J) Wx (wEnL fa) σ H R := h
  obtain ⟨W, ρ, h0, hr, er, p⟩ := h
  refine ⟨W, ρ, h0, hr, er, ?_⟩
  unfold wEnL Dn.bnd at p
  unfold aCons aNil Dn.bnd
  cases hf : fa ρ h0 with
  | stk => rw [hf] at p; exact p.elim
  | err c pp h' => rw [hf] at p; exact p
  | ok y h' =>
    rw [hf] at p
    simp only at p
    intro W' vs H' ex hr' rv
    obtain ⟨v, rfl, r1⟩ := rv.one
    split at p
    · rename_i ds
      cases r1 with
      | @lst a xs _ h1 h2 =>
        refine ⟨a, xs, rfl, SqL.of (hr'.fro _ _ h1), ?_⟩
        refine p W' _ H' ex hr' fun W1 H1 h1' le hr1 i => ?_
        have hf := hr1.fro _ _ (le.F _ _ h1)
        have r2 := h2.le le.F
        show (match pair1 (.int i) (some (match ds[i]? with | some x => some (Vx.d x) | none => none)) with | some (some y) => _ | some none => _ | none => True)
        cases hd : ds[i]? with
        | some x =>
          obtain ⟨v, e1, e2⟩ := r2.get hd
          refine ⟨⟨xs, v, SqL.of hf, e1⟩, fun z H2 y => ?_⟩
          obtain ⟨T, w, rfl, hT, rfl, y⟩ := y
          have := y xs (SqL.of hf)
          rw [e1] at this
          cases this
          obtain ⟨hr2, ex2⟩ := hr1.new hT (o := .tup [.int (i : Nat), v]) (fun ps z => by cases z)
          exact ⟨_, ex2, hr2, RepD.tup (.inl (.inl upd_same)) (.cons (.int _) (.cons (RepD.le ex2.F e2) .nil))⟩
        | none => exact ⟨xs, SqL.of hf, by rw [r2.length]; exact List.getElem?_eq_none_iff.mp hd⟩
    · exact p.elim
end
end Dn
end
section
set_option Elab.async false
set_option linter.all false
set_option maxRecDepth 100000
set_option maxHeartbeats 4000000
/-! Dn17: own exceptions over Exception whose __init__ stores one field. -/
namespace Dn
open PySem PySem.Spec PyProof.Rows PySem.W PySem.Calls L2

abbrev exT : List Value := [.type "Exception", .type "BaseException", .type "object"]
/-- own classes, then Exception's mro -/
def refsE : List Value → Bool
  | .ref _ :: r => refsE r
  | l => l == exT
theorem refsE_of : ∀ l : List Value, refsE l = true → ∃ cs : List Addr, l = cs.map Value.ref ++ exT
  | [], e => ⟨[], beq_iff_eq.mp e⟩
  | a :: r, e => by
    cases a with
    | ref c =>
      obtain ⟨cs, h⟩ := refsE_of r e
      exact ⟨c :: cs, by rw [h]; rfl⟩
    | _ => exact ⟨[], beq_iff_eq.mp e⟩
theorem refsE_pass (self : Value) {l : List Value} (e : refsE l = true) : refuseLoop self "__setattr__" l = pure () := by
  obtain ⟨cs, rfl⟩ := refsE_of l e
  clear e
  induction cs with
  | nil => exact F.store_Exception.passes self
  | cons c cs ih => show refuseLoop self "__setattr__" (.ref c :: (cs.map Value.ref ++ exT)) = _; rw [refuseLoop_ref]; exact ih
theorem refsE_has (Y : String) {l : List Value} (e : refsE l = true) : l.contains (.type Y) = exT.contains (.type Y) := by
  obtain ⟨cs, rfl⟩ := refsE_of l e
  clear e
  induction cs with
  | nil => rfl
  | cons c cs ih => show (Value.ref c :: (cs.map Value.ref ++ exT)).contains (.type Y) = _; rw [List.contains_cons, ih]; rfl
theorem refsE_ne {l : List Value} (e : refsE l = true) : l.isEmpty = false := by
  cases l with
  | nil => exact absurd e (by decide)
  | cons _ _ => rfl
/-- what the written part says of such a class at C, its __init__ at fI, its field f -/
structure OexE (K : Frag) (C fI : Addr) (f : PySem.Str) : Prop where
  cls : ∃ nm q N bs bm sn sub ab col dd k0 k1 k2 k3 k5, K.lookup C = some (excClassObj nm q C N bs bm true sn sub ab col dd k0 k1 k2 k3 k5 "Exception.__new__") ∧ refsE bm = true
  sa : findIn K (.ref C) "__setattr__" = some (some (.builtin "object.__setattr__"))
  ga : findIn K (.ref C) "__getattribute__" = some (some (.builtin "BaseException.__getattribute__"))
  gg : findIn K (.ref C) "__getattr__" = some none
  noN : findIn K (.ref C) f = some none
  iC : findIn K (.ref C) "__init__" = some (some (.ref fI))
  tI : typeIn K (.ref fI) = some (.type "function")
  kC : keepIn K (.ref C) = true
  exC : subIn K (.ref C) (.type "BaseException") = some true
  tyC : typeIn K (.ref C) = some (.type "type")
  hdC : hasDictIn K C = true
def clsB (K : Frag) (C : Addr) : Bool := match K.lookup C with
  | some ⟨.type c, _, .cls cd, sl⟩ => (match cd.mro, sl.toList with
    | .ref C' :: bm, [_, _, _, _, some (.builtin n), _] => decide (c = "type") && (decide (C' = C) && (decide (n = "Exception.__new__") && (!cd.hasDel && (cd.hasDict && refsE bm))))
    | _, _ => false)
  | _ => false
theorem clsB_ok {K : Frag} {C : Addr} (h : clsB K C = true) : ∃ nm q N bs bm sn sub ab col dd k0 k1 k2 k3 k5, K.lookup C = some (excClassObj nm q C N bs bm true sn sub ab col dd k0 k1 k2 k3 k5 "Exception.__new__") ∧ refsE bm = true := by
  unfold clsB at h
  split at h
  · rename_i c dd cd sl ho
    split at h
    · rename_i C' bm k0 k1 k2 k3 n k5 hm hs
      simp only [Bool.and_eq_true, decide_eq_true_eq, Bool.not_eq_true'] at h
      obtain ⟨rfl, rfl, rfl, hdel, hhd, hr⟩ := h
      obtain ⟨nm, bs, mro, ns, qn, hd, sn, sub, ab, col, del⟩ := cd
      dsimp only at hm hdel hhd
      subst hm hdel hhd
      have hsl : sl = #[k0, k1, k2, k3, some (.builtin "Exception.__new__"), k5] := by
        obtain ⟨l⟩ := sl
        simp only at hs
        rw [hs]
      subst hsl
      exact ⟨nm, qn, ns, bs, bm, sn, sub, ab, col, dd, k0, k1, k2, k3, k5, ho, hr⟩
    · cases h
  · cases h
def oexB (K : Frag) (C fI : Addr) (f : PySem.Str) : Bool :=
  clsB K C && (decide (findIn K (.ref C) "__setattr__" = some (some (.builtin "object.__setattr__"))) && (decide (findIn K (.ref C) "__getattribute__" = some (some (.builtin "BaseException.__getattribute__"))) &&
    (decide (findIn K (.ref C) "__getattr__" = some none) && (decide (findIn K (.ref C) f = some none) && (decide (findIn K (.ref C) "__init__" = some (some (.ref fI))) && (decide (typeIn K (.ref fI) = some (.type "function")) &&
      (keepIn K (.ref C) && (decide (subIn K (.ref C) (.type "BaseException") = some true) && (decide (typeIn K (.ref C) = some (.type "type")) && hasDictIn K C)))))))))
theorem oexB_ok {K : Frag} {C fI : Addr} {f : PySem.Str} (h : oexB K C fI f = true) : OexE K C fI f := by
  unfold oexB at h
  simp only [Bool.and_eq_true, decide_eq_true_eq] at h
  obtain ⟨h1, h2, h3, h4, h5, h6, h7, h8, h9, h10, h11⟩ := h
  exact ⟨clsB_ok h1, h2, h3, h4, h5, h6, h7, h8, h9, h10, h11⟩
section
open Builtin Builtin.ObjectAttr
variable {prog : Program} {w : World} {A : Around} {R : Result → Shared → Prop} {hq : Heap} {gs : Array GenState} {dr : Drawn} {tt : Nat} {os : OsState}
theorem osaE {K : Frag} {fn : PySem.Str} {tk : Tok} {v : Value} {x C : Addr} {fv : Array Value} {cd : ClassData}
    (KX : K.In hq) (hx : hq.get? x = some { cls := .ref C, data := .fields fv }) (hcd : clsIn K C = some cd) (hm : refsE cd.mro = true) (hh : cd.hasDict = true) (ha : findIn K (.ref C) fn = some none)
    (fin : ∀ h2 t2 dx, (∀ b o, b ≠ x → hq.get? b = some o → h2.get? b = some o) → hq.objs.size ≤ dx → dx ≠ x → h2.get? x = some { cls := .ref C, dict := some dx, data := .fields fv } →
      h2.Ns1 dx (fun y => if y = fn then some v else none) → R (.ok (.ret .none)) ⟨h2, gs, dr, t2, os⟩) :
    codeAny (model prog w) A (.call (.builtin "object.__setattr__") ⟨[.ref x, .str fn tk, v], []⟩) R ⟨hq, gs, dr, tt, os⟩ := by
  have IA : InstAt hq x { cls := .ref C, data := .fields fv } C none := ⟨hx, rfl, rfl, trivial⟩
  have so := F.store_object
  have nemp := refsE_ne hm
  have hob : cd.mro.contains (.type "object") = true := by rw [refsE_has "object" hm]; decide +kernel
  have xne : x ≠ hq.objs.size := Nat.ne_of_lt (Heap.lt_size hx)
  have sub : Looks (model prog w) hq (isInstance (.ref x) (.type "object")) true := IA.type.andThen (looks_mroIn KX (by unfold mroIn; rw [hcd, Option.bind_some, if_neg (by rw [nemp]; decide), hob]))
  refine codeAny_call_builtin so.slot.plain so.entry (@check_slot (model prog w) _ _ ⟨hq, gs, dr, tt, os⟩ "object.__setattr__" "object" "__setattr__" (.ref x) [.str fn tk, v] [] _ so.kind so.split sub (so.args (.ref x) (.str fn tk) v) ?_)
  have lm : Looks (model prog w) hq (mroOf (.ref C)) cd.mro := (looks_clsIn KX hcd).andThen .now
  have l3 : Looks (model prog w) hq (storeTaker? none) none := .now
  have lc : Looks (model prog w) hq (classData C) cd := looks_clsIn KX hcd
  rw [osa_eq, refuse_eq]
  refine wpAny_bind (wpAny_bind (IA.type.at (wpAny_bind (lm.at ?_))))
  rw [refsE_pass _ hm]
  refine wpAny_pure (wpAny_bind (IA.type.at (wpAny_bind ((looks_findIn KX ha).at (wpAny_bind (l3.at ?_))))))
  show wpAny _ _ (storeInOwnDict (.ref x) (.ref C) (.str fn tk) fn v false) _ _ _
  obtain ⟨nm, bs, mro, ns, qn, hd, sn, sb, ab, col, del⟩ := cd
  dsimp only at hh
  subst hh
  unfold storeInOwnDict ownDictForStores
  repeat (first | with_reducible refine HandSPX.store_in_new ?_ ?_ | with_reducible refine wpAny_loadPart_at hx ?_ | with_reducible refine lc.at ?_ | wp_step)
  · exact ⟨_, #[], _, (Heap.get?_update_ne _ _ _ _ xne.symm).trans (Heap.get?_push_at rfl rfl), rfl, fun en he => absurd he (by simp), fun _ => rfl⟩
  · intro h2 t2 hn2 hs2
    have hx1 : (hq.push { cls := .type "dict", data := .dict #[] }).get? x = some { cls := .ref C, data := .fields fv } := Heap.get?_push_of_some _ hx
    refine fin h2 t2 hq.objs.size (fun b o hb ho => ?_) (Nat.le_refl _) xne.symm ?_ hn2
    · exact (hs2.2 b (Nat.ne_of_lt (Heap.lt_size ho))).trans ((Heap.get?_update_ne _ _ _ _ hb).trans (Heap.get?_push_of_some _ ho))
    · exact (hs2.2 x xne).trans (Heap.get?_update_self _ hx1 rfl)
end
section
variable {X : Cx} {pins : List (Addr × Obj)} {σ : L2.St} {H : Hp} {s : Shared} {a C fI : Addr} {f : PySem.Str} {y : V} {u : Value} {Q : Unit → Shared → Prop} {E : Value → Shared → Prop} {A : Around}
theorem ostE (T : OexE X.K C fI f) (I : Inv X pins σ H s) (ea : H a = some (exo a C none)) (ry : RelV y u)
    (fin : ∀ dx s2, H dx = none → dx ≠ a → Inv X pins σ (upd (upd H dx (exd dx [(f, y)])) a (exo a C (some dx))) s2 → Q () s2) : wpAny (model X.prog X.w) A (setAttr (.ref a) f u) Q E s := by
  obtain ⟨nm, q, N, bs, bm, sn, sub, ab, col, dd, k0, k1, k2, k3, k5, hC, hbm⟩ := T.cls
  have hcl : clsIn X.K C = some { name := nm, bases := bs, mro := .ref C :: bm, ns := N, qualname := q, hasDict := true, slotNames := sn, subclasses := sub, abstract := ab, collection := col, hasDel := false } := by
    unfold clsIn
    rw [hC] <;> rfl
  obtain ⟨t1, ho⟩ := exo_at I.hok ea
  obtain ⟨hq, gs, dr, tt, os⟩ := s
  refine set_plain I.kIn (ox := { cls := .ref C, dict := none, data := .fields #[.ref t1, .none, .none, .none, .bool false, .none] }) (od := none) ⟨ho, rfl, rfl, trivial⟩ T.sa ?_
  refine osaE I.kIn ho hcl (show refsE (.ref C :: bm) = true from hbm) rfl T.noN (fun h2 t2 dx kp big dne hx hn => ?_)
  have fresh : H dx = none := I.hok.fresh big
  have ndx : ∀ {z : Addr} {o : Obj}, hq.get? z = some o → z ≠ dx := fun {z o} e => Nat.ne_of_lt (Nat.lt_of_lt_of_le (Heap.lt_size e) big)
  have na : ∀ {z : Addr}, H z = none → z ≠ a := fun {z} n e => by
    rw [e, ea] at n
    cases n
  have U : Un X.fs [] H (upd (upd H dx (exd dx [(f, y)])) a (exo a C (some dx))) hq h2 := {
    keep := fun z o e n _ _ => kp z o (na n) e
    slot := fun z o e n _ _ => ⟨o.slots, kp z o (na n) e⟩
    free := fun z o e n _ => by rw [upd_ne (na n), upd_ne (ndx e)]; exact n
    there := fun z o e _ => by
      by_cases hz : z = a
      · exact ⟨_, by rw [hz]; exact hx⟩
      · exact ⟨o, kp z o hz e⟩
    tups := fun z xs e => by rw [upd_ne (at_ne ea e exo_tup), upd_ne (ne_of_none e fresh)]; exact e
    frzs := fun z o v e => by rw [upd_ne (at_ne ea e exo_frz), upd_ne (ne_of_none e fresh)]; exact e
    tbls := fun z ps e => ⟨#[], by rw [upd_ne (at_ne ea e exo_tbl), upd_ne (ne_of_none e fresh), e]; simp⟩ }
  refine fin dx _ fresh dne (I.un (t' := t2) U fun z o e => ?_)
  by_cases hz : z = a
  · subst hz
    rw [upd_same] at e
    cases e
    exact exo_ok hx
  · rw [upd_ne hz] at e
    by_cases hd : z = dx
    · subst hd
      rw [upd_same] at e
      cases e
      exact exd_ok hn (relO_put (fs := []) ry fun g => True.intro)
    · rw [upd_ne hd] at e
      refine (I.hok z o e).stay (fun c v hc k => kp c v ?_ k) (fun c hc => ?_) (fun c xs hc => ?_)
      · rcases hc with hc | hc
        · rw [hc]; exact hz
        · exact at_ne ea hc exo_own
      · rw [upd_ne (at_ne ea hc exo_own), upd_ne (ne_of_none hc fresh)]; exact hc
      · rw [upd_ne (at_ne ea hc exo_tup), upd_ne (ne_of_none hc fresh)]; exact hc
end
end Dn
end
section
set_option Elab.async false
set_option linter.all false
set_option maxRecDepth 100000
set_option maxHeartbeats 4000000
/-! Dn18: raise X(e). -/
namespace Dn
open PySem PySem.Spec PyProof.Rows L2

section
variable {X : Cx} {C fI : Addr} {f : PySem.Str} {e : Expr} {te : TE} {p1 p2 pos : Pos}
/-- self.f = e, the first field -/
def tOstE (C : Addr) (f : PySem.Str) (te : TE) : TS := fun D σ H => te σ H fun y H1 => ∃ a : Addr, σ[0]? = some (some (.ref a)) ∧ H1 a = some (exo a C none) ∧ ∀ dx, H1 dx = none → dx ≠ a → D.nx σ (upd (upd H1 dx (exd dx [(f, y)])) a (exo a C (some dx)))
theorem ps_ostE (T : OexE X.K C fI f) (h0 : X.N[0]? = some ("self" : PySem.Str)) (v0 : Vis X.env.scope "self") (he : PE X e te) (hs : swapsWith e (some (.Attribute (.Name "self" p1) f p2)) pos.line X.env = pure false) : PS X (.Assign [.Attribute (.Name "self" p1) f p2] e pos) (tOstE C f te) := by
  refine ⟨fun pins s σ H D I h => ?_⟩
  refine plainObj_wpAny_Assign_Attribute (thn (he.run pins s σ H _ I h) fun v s1 ⟨y, H1, I1, r1, a, e0, ea, q⟩ => ?_) hs
  refine thn ((pe_var (i := 0) h0 v0).run pins s1 σ H1 (fun x H2 => x = .ref a ∧ H2 = H1) I1 ⟨.ref a, e0, rfl, rfl⟩) fun u s2 ⟨x, H2, I2, r2, ex, eH⟩ => ?_
  subst ex
  subst eH
  obtain rfl : u = Value.ref a := r2
  exact ostE T I2 ea r1 fun dx s3 n ne J => ⟨σ, _, J, q dx n ne⟩
end
/-- what such an __init__ promises: D makes its argument plain -/
def spI (K : PySem.W.Frag) (g : Gp) (C : Addr) (f : PySem.Str) (D : List Vx → Mo Vx) : Sp := fun vs H Q E => ∃ (a : Addr) (v : V) (W : Wd) (h : DH) (y : Vx), vs = [.ref a, v] ∧ H a = some (exo a C none) ∧ HRel K g.T W H h ∧ RepV K W v y ∧
  Post K g (RV K) W H (callM [false] D [y] h) (fun v' H1 => ∀ dx, H1 dx = none → dx ≠ a → Q .non (upd (upd H1 dx (exd dx [(f, v')])) a (exo a C (some dx)))) E
theorem exo_not_lst {a C : Addr} {d : Option Addr} {xs : List V} : exo a C d ≠ .lst xs := fun z => by
  have z' : HO.ext _ = HO.lst xs := z
  cases z'
theorem HRel.notθ {K : PySem.W.Frag} {T : Tbs} {W : Wd} {H : Hp} {h : DH} (r : HRel K T W H h) {a C : Addr} {d : Option Addr} (ea : H a = some (exo a C d)) : a ∉ W.θ := fun m => by
  obtain ⟨xs, hx⟩ := r.has m
  rw [ea] at hx
  exact exo_not_lst (Option.some.inj hx)
theorem init_ok {P : Program} {w : World} {K : PySem.W.Frag} {mg : PySem.Str → Option Value} {base : Heap} {g : Gp} {x qual pn : PySem.Str} {params : Arguments} {body : List Stmt} {scope : Scope} {dvs : List V} {kws : List (PySem.Str × V)} {fI C : Addr} {fd : FuncData} {k : Nat} {f : PySem.Str} {D : List Vx → Mo Vx}
    (F : FunD K x qual params body scope dvs kws fI fd) (S : FnScope ["self", pn] ["self", pn] scope)
    (hb : ∀ (cdv : Value) (A : Around) (outer : List Env) (s : Shared) (H : Hp) (E : XK), Room k (A.deeper (envOfC qual scope s.heap.objs.size fI cdv)) →
      Takes (cxOf (L2.CX P w) P w K mg base ["self", pn] qual scope fI cdv A outer s H E) (fun c d _ H => E c d H) →
      PSs (cxOf (L2.CX P w) P w K mg base ["self", pn] qual scope fI cdv A outer s H E) body (tOstE C f (LE K g (fun c d _ H => E c d H) (eCall (fun ys => callM [false] D (ys ++ ([] : List Dt).map Vx.d)) (aCons (eVar 1) aNil))))) :
    FnOk P w K mg base (L2.CX P w) (k + 1) fI fd ["self", pn] (spI K g C f D) := by
  refine F.ok S (fun vs H Q E h => ?_) fun cdv A outer s H vs Q E hr h => ⟨_, hb cdv A outer s H E hr (takes_of rfl rfl rfl rfl), ?_⟩
  · obtain ⟨a, v, W, h0, y, rfl, _⟩ := h
    rfl
  · obtain ⟨a, v, W, h0, y, rfl, ea, r, rv, p⟩ := h
    refine ⟨W, [none, some y], h0, r, ⟨rfl, fun i z ez => ?_⟩, ?_⟩
    · match i, ez with
      | 1, ez => cases ez; exact ⟨v, rfl, rv⟩
    · have na := r.notθ ea
      have e0 : eCall (fun ys => callM [false] D (ys ++ ([] : List Dt).map Vx.d)) (aCons (eVar 1) aNil) [none, some y] h0 = callM [false] D [y] h0 := rfl
      rw [e0]
      have key : ∀ (rz : Rz Vx), Post K g (RV K) W H rz (fun v' H1 => ∀ dx, H1 dx = none → dx ≠ a → Q .non (upd (upd H1 dx (exd dx [(f, v')])) a (exo a C (some dx)))) E →
          Post K g (RV K) W H rz (fun y H1 => ∃ b : Addr, (L2.start ["self", pn] [V.ref a, v])[0]? = some (some (.ref b)) ∧ H1 b = some (exo b C none) ∧ ∀ dx, H1 dx = none → dx ≠ b → Q .non (upd (upd H1 dx (exd dx [(f, y)])) b (exo b C (some dx)))) E := by
        intro rz pz
        cases rz with
        | stk => exact pz
        | err c pp h1 => exact pz
        | ok z h1 => exact fun W' v' H' ex hr' rr => ⟨a, rfl, ex.frame _ _ ea na (fun ps => exo_tbl), pz W' v' H' ex hr' rr⟩
      exact key _ p
/-! ### the object that is being made -/
theorem heap_to : ∀ n : Nat, ∃ h : Heap, h.objs.size = n
  | 0 => ⟨{ objs := #[] }, rfl⟩
  | n + 1 => by
    obtain ⟨h, e⟩ := heap_to n
    exact ⟨h.push { cls := .none, data := .fields #[] }, by rw [Heap.size_push, e]⟩
theorem exo_ne_code {a C : Addr} {d : Option Addr} {q : PySem.Str} : exo a C d ≠ LamX.CodeO a q := fun z => by
  obtain ⟨h, eh⟩ := heap_to a
  have g1 : (h.push ({ cls := .ref C, dict := d, data := .fields #[.ref 0, .none, .none, .none, .bool false, .none] } : Obj)).get? a = some ({ cls := .ref C, dict := d, data := .fields #[.ref 0, .none, .none, .none, .bool false, .none] } : Obj) := by
    have := Heap.get?_push_size h (o := ({ cls := .ref C, dict := d, data := .fields #[.ref 0, .none, .none, .none, .bool false, .none] } : Obj)) rfl
    rw [eh] at this
    exact this
  unfold exo LamX.CodeO at z
  have z2 := HO.ext.inj z
  have z3 := congrFun z2 (h.push ({ cls := .ref C, dict := d, data := .fields #[.ref 0, .none, .none, .none, .bool false, .none] } : Obj))
  have l : ∃ t1 : Addr, (h.push ({ cls := .ref C, dict := d, data := .fields #[.ref 0, .none, .none, .none, .bool false, .none] } : Obj)).get? a = some ({ cls := .ref C, dict := d, data := .fields #[.ref t1, .none, .none, .none, .bool false, .none] } : Obj) := ⟨0, g1⟩
  rw [z3] at l
  obtain ⟨oc, vs, t, e1, e2, e3⟩ := l
  rw [g1] at e1
  cases e1
  cases e2
  cases e3
section
variable {K : PySem.W.Frag} {T : Tbs} {g : Gp} {W W2 : Wd} {H H2 : Hp} {h h2 : DH}
/-- something new that the world does not know -/
theorem HRel.add (r : HRel K T W H h) {p : Addr} {o : HO} (np : H p = none) : HRel K T W (upd H p o) h ∧ Ext W H W (upd H p o) := by
  have leH : HLe H (upd H p o) := fun a u e => by rw [upd_ne (ne_of_none e np)]; exact e
  refine ⟨⟨fun a u e => leH a u (r.fro a u e), r.ntb, r.len, fun k a u e1 e2 => ?_, r.liv, r.nd, r.tab.ext leH⟩, HLe.refl _, ⟨[], by simp, by simp⟩, fun a u e _ _ => leH a u e, fun a e => ?_, fun a u e => .inl e⟩
  · have hh := r.obj k a u e1 e2
    cases u with
    | lst zs => obtain ⟨ws, h1, h3⟩ := hh; exact ⟨ws, leH _ _ h1, h3⟩
    | dead => obtain ⟨ws, h1⟩ := hh; exact ⟨ws, leH _ _ h1⟩
  · by_cases q : a = p
    · subst q; rw [upd_same] at e; cases e
    · rw [upd_ne q] at e; exact e
/-- the exception is let go, its dict stands -/
theorem HRel.raised (r : HRel K T W H h) {a C dx : Addr} (na : H a = none) {o : HO} (ex : Ext W (upd H a (exo a C none)) W2 H2) (r2 : HRel K T W2 H2 h2) (ndx : H2 dx = none) (hda : dx ≠ a) (ho : notTbl o) {fs : List (PySem.Str × V)} :
    let Hf := upd (del (upd (upd H2 dx (exd dx fs)) a (exo a C (some dx))) a) dx o
    HRel K T W2 Hf h2 ∧ Ext W H W2 Hf := by
  intro Hf
  have ea : H2 a = some (exo a C none) := ex.frame a _ upd_same ((r.add na (o := exo a C none)).1.notθ upd_same) (fun ps => exo_tbl)
  have at_ : ∀ b, b ≠ dx → b ≠ a → Hf b = H2 b := fun b h1 h3 => by
    show upd (del (upd (upd H2 dx (exd dx fs)) a (exo a C (some dx))) a) dx o b = _
    rw [upd_ne h1, del_ne h3, upd_ne h3, upd_ne h1]
  have ata : Hf a = none := by
    show upd (del (upd (upd H2 dx (exd dx fs)) a (exo a C (some dx))) a) dx o a = _
    rw [upd_ne (Ne.symm hda), del_same]
  have n2 : ∀ b u, H2 b = some u → b ≠ dx := fun b u e => ne_of_none e ndx
  have fa2 : W2.F a = none := by
    cases q : W2.F a with
    | none => rfl
    | some u =>
      rcases ex.newF a u q with z | z | z
      · have := r.fro a u z; rw [na] at this; cases this
      · rw [upd_same] at z; cases z
      · exact absurd z ((r.add na (o := exo a C none)).1.notθ upd_same)
  have up : ∀ b, upd H a (exo a C none) b = none → H b = none := fun b e => by
    by_cases q : b = a
    · subst q; exact na
    · rw [upd_ne q] at e; exact e
  have nθ : ∀ (k : Nat) (b : Addr), W2.θ[k]? = some b → b ≠ dx ∧ b ≠ a := fun k b e => by
    obtain ⟨xs, hx⟩ := r2.has (List.mem_of_getElem? e)
    exact ⟨n2 b _ hx, fun z => by rw [z, ea] at hx; exact exo_not_lst (Option.some.inj hx)⟩
  refine ⟨⟨fun b u e => ?_, r2.ntb, r2.len, fun k b u e1 e2 => ?_, r2.liv, r2.nd, fun p hp => ?_⟩, ex.F, ?_, fun b u e n nt => ?_, fun b e => ?_, fun b u e => ?_⟩
  · have q := r2.fro b u e
    rw [at_ b (n2 b u q) (fun z => by rw [z, fa2] at e; cases e)]; exact q
  · have hh := r2.obj k b u e1 e2
    obtain ⟨m1, m2⟩ := nθ k b e1
    cases u with
    | lst zs => obtain ⟨ws, h1, h3⟩ := hh; exact ⟨ws, (at_ b m1 m2).trans h1, h3⟩
    | dead => obtain ⟨ws, h1⟩ := hh; exact ⟨ws, (at_ b m1 m2).trans h1⟩
  · obtain ⟨ps, h1, h3, h4⟩ := r2.tab p hp
    have pa : p.1 ≠ a := fun z => by
      rw [z, ea] at h1
      exact exo_tbl (Option.some.inj h1)
    refine ⟨ps, (at_ p.1 (n2 _ _ h1) pa).trans h1, h3, fun pos cv hc => ?_⟩
    obtain ⟨c, e1, e2⟩ := h4 pos cv hc
    have ca : c ≠ a := fun z => by
      subst z
      rw [ea] at e2
      exact exo_ne_code (Option.some.inj e2)
    exact ⟨c, e1, (at_ c (n2 _ _ e2) ca).trans e2⟩
  · obtain ⟨new, e1, e2⟩ := ex.θ
    exact ⟨new, e1, fun b hb => up b (e2 b hb)⟩
  · have hba : b ≠ a := fun z => by rw [z, na] at e; cases e
    have q := ex.frame b u (by rw [upd_ne hba]; exact e) n nt
    rw [at_ b (n2 b u q) hba]; exact q
  · by_cases q : b = a
    · subst q; exact na
    · by_cases q2 : b = dx
      · subst q2
        have : Hf b = some o := upd_same
        rw [this] at e; cases e
      · rw [at_ b q2 q] at e
        exact up b (ex.dom b e)
  · rcases ex.newF b u e with z | z | z
    · exact .inl z
    · exact .inr (.inl (up b z))
    · exact .inr (.inr z)
end
/-! ### X(e) is made -/
def tMkE (K : PySem.W.Frag) (g : Gp) (C : Addr) (f : PySem.Str) (D : List Vx → Mo Vx) (ta : TA) : L2.St → Hp → XK → Prop := fun σ H Q => ta σ H fun vs H1 => ∀ a, H1 a = none → spI K g C f D (.ref a :: vs) (upd H1 a (exo a C none))
  (fun v H2 => v = .non ∧ ∃ (d : Addr) (fs : List (PySem.Str × V)), H2 a = some (exo a C (some d)) ∧ H2 d = some (exd d fs) ∧ H1 d = none ∧ Q (.ref C) (some d) (upd (del H2 a) d (.xd fs))) (fun _ _ _ => False)
section
variable {X : Cx} {g : Gp} {Wx : WX} {C fI : Addr} {f x pn : PySem.Str} {D : List Vx → Mo Vx} {e : Expr} {ta : TA} {p pos : Pos} {k : Nat} {fd : FuncData}
theorem pmkE (T : OexE X.K C fI f) (F1 : FnOk X.prog X.w X.K X.mg X.base (L2.CX X.prog X.w) k fI fd ["self", pn] (spI X.K g C f D)) (hr : Room (k + 1) X.A) (hb : Binds X.K fd ["self", pn] []) (hg : Gl X x) (hm : X.mg x = some (.ref C)) (ha : PA X [e] ta)
    (hdb : (x == ("__debug__" : PySem.Str)) = false) (he : starEach [e] X.env = (false, eval e X.env) :: starEach [] X.env) (hpl : (backTo pos (starEach [] X.env)).any (·.1) = false) : PMk X (.Call (.Name x p) [e] [] pos) (tMkE X.K g C f D ta) := by
  intro pins s σ H Q I hw
  obtain ⟨nm, q, N, bs, bm, sn, sub, ab, col, dd, k0, k1, k2, k3, k5, hC, hbm⟩ := T.cls
  refine wpAny_Call_Name_kw (ld_glob I hg hm ?_ hdb)
  refine PySem.W.callWith_K (h₀ := X.base) I.ok.mod.kin T.kC (thn (ha.run pos pins s σ H _ I hw) fun us s1 ⟨vs, H1, I1, r1, q1⟩ => ⟨I1.kIn, ?_⟩) he hpl
  show wpAny _ _ (call (.ref C) us) _ _ _
  obtain ⟨hq, gs, dr, tk, os⟩ := s1
  have big : hq.objs.size ≤ hq.objs.size + 1 := Nat.le_succ _
  have hn : H1 (hq.objs.size + 1) = none := I1.hok.fresh big
  have hsp := q1 (hq.objs.size + 1) hn
  have kk : ∀ z o, hq.get? z = some o → ((hq.push (PySem.W.kdv_tup us)).push (PySem.HandSPX.excO C hq.objs.size)).get? z = some o := fun z o e => Heap.get?_push_of_some _ (Heap.get?_push_of_some _ e)
  have hget : ((hq.push (PySem.W.kdv_tup us)).push (PySem.HandSPX.excO C hq.objs.size)).get? (hq.objs.size + 1) = some (PySem.HandSPX.excO C hq.objs.size) := by heap_get
  have I2 : Inv X pins σ (upd H1 (hq.objs.size + 1) (exo (hq.objs.size + 1) C none)) ⟨(hq.push (PySem.W.kdv_tup us)).push (PySem.HandSPX.excO C hq.objs.size), gs, dr, tk, os⟩ :=
    I1.laid (t' := tk) (a := hq.objs.size + 1) (o := exo (hq.objs.size + 1) C none) kk big (exo_ok hget)
  have r2 : Vals (V.ref (hq.objs.size + 1) :: vs) (Value.ref (hq.objs.size + 1) :: us) := .cons rfl r1
  have hl : (Value.ref (hq.objs.size + 1) :: us ++ []).length = (["self", pn] : List PySem.Str).length := by
    have e1 := r2.length
    rw [F1.len _ _ _ _ hsp] at e1
    simpa using e1.symm
  have hus : us.length ≤ sizeLine := by
    have e2 : us.length = 1 := by simpa using hl
    rw [e2, sizeLine_eq]
    exact (by decide : 1 ≤ 16777216)
  have b1 := hb _ (Value.ref (hq.objs.size + 1) :: us) I2.kIn hl
  refine wpAny_call (PySem.HandSPX.call_own F.excBase_Exception (fun Y => refsE_has Y hbm) (I1.kIn _ _ hC) (PySem.W.looks_findIn I1.kIn T.iC) (fun self => PySem.W.bind_fn I1.kIn self T.tI) hus
    (codeAny_mono (F1.run _ X.stack _ _ ⟨Value.ref (hq.objs.size + 1) :: us, []⟩ (Value.ref (hq.objs.size + 1) :: us ++ []) _ _ (fun _ _ _ => False) (hr.make C us []) (I2.env0.make C us []) b1 (by rw [List.append_nil]; exact r2) hsp) fun r s2 hq2 => ?_))
  cases r with
  | error er =>
    have hq2 : L2.CX X.prog X.w X.stack _ _ (fun _ _ _ => False) er s2 := hq2
    obtain ⟨_, _, _, _, _, _, _, _, _, _, _, _, z⟩ := hq2
    exact z.elim
  | ok fl =>
    cases fl with
    | ret u =>
      obtain ⟨v, H2, os2, bare2, un2, hok2, rv, ev, d, fs, ea, ed, hd1, q2⟩ := hq2
      subst ev
      obtain ⟨h2, g2, d2, t2, os'⟩ := s2
      exact ⟨rv, mk_end (raises_own T.exC T.tyC) I1 big kk un2 hok2 os2 bare2 ea ed hd1 q2⟩
    | next => exact False.elim hq2
    | brk => exact False.elim hq2
    | cont => exact False.elim hq2
/-- nothing raised -/
def noErr {α : Type} (m : Mo α) : Mo α := fun h => match m h with
  | .ok a h' => .ok a h'
  | .err _ _ _ => .stk
  | .stk => .stk
def sRaise (c : Nat) (D : List Vx → Mo Vx) (fa : DEnv → Mo Vx) : SF := fun ρ => bnd (fa ρ) fun y => bnd (noErr (callM [false] D [y])) fun z h => match z with
  | .d p => .err c p h
  | _ => .stk
theorem pd_raise {fa : DEnv → Mo Vx} {c : Nat} {pos2 : Pos} (hc : X.calm = true) (tk : Takes X Wx) (hx : g.xs[c]? = some (x, f)) (T : OexE X.K (He.ga X.K x) fI f) (F1 : FnOk X.prog X.w X.K X.mg X.base (L2.CX X.prog X.w) k fI fd ["self", pn] (spI X.K g (He.ga X.K x) f D)) (hr : Room (k + 1) X.A) (hb : Binds X.K fd ["self", pn] []) (hg : Gl X x) (hm : X.mg x = some (.ref (He.ga X.K x)))
    (ha : PE X e (LE X.K g Wx fa)) (hdb : (x == ("__debug__" : PySem.Str)) = false) (he : starEach [e] X.env = (false, eval e X.env) :: starEach [] X.env) (hpl : (backTo pos (starEach [] X.env)).any (·.1) = false) :
    PS X (.Raise (some (.Call (.Name x p) [e] [] pos)) none pos2) (LS X.K g Wx (sRaise c D fa)) := by
  refine (ps_raise hc tk (pmkE (D := D) T F1 hr hb hg hm (pa_cons ha pa_nil he) hdb he hpl)).imp fun D0 σ H0 q => ?_
  refine Lf.imp (Lf.bnd (R := RV X.K) q) fun v H1 ⟨W1, ρ, y, h1, hr1, er, rr, p1⟩ => ?_
  intro a na
  obtain ⟨hrA, exA⟩ := hr1.add na (o := exo a (He.ga X.K x) none)
  refine ⟨a, v, W1, h1, y, rfl, upd_same, hrA, rr, ?_⟩
  unfold Dn.bnd noErr at p1
  cases hm2 : callM [false] D [y] h1 with
  | stk => rw [hm2] at p1; exact p1.elim
  | err c pp h2 => rw [hm2] at p1; exact p1.elim
  | ok z h2 =>
    rw [hm2] at p1
    intro W2 v' H2 ex2 hr2 rz dx ndx hda
    refine ⟨rfl, dx, [(f, v')], upd_same, ?_, ?_, ?_⟩
    · rw [upd_ne hda, upd_same]
    · have q1 := ex2.dom dx ndx
      rw [upd_ne hda] at q1
      exact q1
    · obtain ⟨hf1, hf2⟩ := hr1.raised (C := He.ga X.K x) na (o := .xd [(f, v')]) (fs := [(f, v')]) ex2 hr2 ndx hda (fun ps z => by cases z)
      cases z with
      | d pp => exact p1 W2 _ _ _ hf2 hf1 ⟨x, f, hx, rfl, dx, v', rfl, upd_same, rz⟩
      | _ => exact p1.elim
end
end Dn
end
section
set_option Elab.async false
set_option linter.all false
set_option maxRecDepth 100000
set_option maxHeartbeats 4000000
/-! Dn19: try with several clauses that name the exception. -/
namespace Dn
open PySem PySem.Spec PyProof.Rows L2

/-- what such clauses wish of an exception of the body, one after the other; slot i is the name's -/
def wAsL (K : PySem.W.Frag) (i : Nat) (Wout : WX) (D : Ends) : List (Value × (Addr → Value → Option Addr → TS)) → WX
  | [] => Wout
  | (c, ts) :: r => fun cls d σ H => ∃ b, PySem.W.exmOne K cls c = some b ∧
      (b = true → ∀ a, H a = none → ts a cls d { nx := fun σ' H' => D.nx (σ'.set i none) H', rt := D.rt, bk := fun σ' H' => D.bk (σ'.set i none) H', ct := fun σ' H' => D.ct (σ'.set i none) H' } (σ.set i (some (.ref a))) H) ∧
      (b = false → wAsL K i Wout D r cls d σ H)
inductive HdsAs (X : Cx) (n : PySem.Str) : List ExceptHandler → List (Value × (Addr → Value → Option Addr → TS)) → Prop
  | nil : HdsAs X n [] []
  | cons {x : PySem.Str} {c : Value} {ts : Addr → Value → Option Addr → TS} {b₀ : Stmt} {suite : List Stmt} {np hpos : Pos} {hds : List ExceptHandler} {l : List (Value × (Addr → Value → Option Addr → TS))} (hc : Names X x c)
      (hsu : ∀ (a : Addr) (oe : Obj) (cls : Value) (d : Option Addr) (pn : List (Addr × Obj)), Zc cls d oe → (∃ vs, oe.data = .fields vs) → PSs (X.suite a ((a, oe) :: pn)) (b₀ :: suite) (ts a cls d)) (r : HdsAs X n hds l) :
      HdsAs X n (.ExceptHandler (some (.Name x np)) (some n) (b₀ :: suite) hpos :: hds) ((c, ts) :: l)
section
variable {X : Cx} {n : PySem.Str} {i : Nat} {body : List Stmt} {h₀ : ExceptHandler} {hds : List ExceptHandler} {l : List (Value × (Addr → Value → Option Addr → TS))} {pos : Pos} {tb : WX → TS} {Wout : WX}
theorem ps_try_asL (hst : X.stack = X.env :: X.outer) (hfr : X.env.frame = some X.env.locals) (hN : X.N.Nodup) (hi : X.N[i]? = some n) (hln : X.env.kindOf n = some .local) (tk : Takes X Wout)
    (hb : ∀ (W : WX) (pn : List (Addr × Obj)) (xe : Value → Shared → Prop), Takes (X.tr pn xe) W → PassesOwn (model X.prog X.w) X.A X.env xe → PSs (X.tr pn xe) body (tb W))
    (hh : HdsAs X n (h₀ :: hds) l) : PS X (.Try body (h₀ :: hds) [] [] pos) (fun D σ H => tb (wAsL X.K i Wout D l) D σ H) := by
  refine ⟨fun pins s σ H D I hw => ?_⟩
  have okX := I.ok
  have frs1 : X.A.frames = some (X.env :: X.outer) := by rw [okX.frames, hst]
  have hloc : Loc X.env.scope n := .inl hln
  refine wpAny_Try_except ?_
  refine wpAny_mono ((hb (wAsL X.K i Wout D l) (X.pn ++ pins) (fun ev sa => wpAny (model X.prog X.w) X.A (noteFrame ev X.env) (fun _ sb => wpAny (model X.prog X.w) X.A (setFlight ev none) (fun _ sc =>
    wpAny (model X.prog X.w) X.A (handleBy ev X.env (h₀ :: hds)) (SP X pins D) X.xe sc) X.xe sb) X.xe sa) (fun u s1 xx => ?_) PassesOwn.looking).run [] s σ H D (I.toTry _) hw) (fun fl s1 hsp => ?_) (fun ev s1 he => he)
  · obtain ⟨ax, B, sI, pins1, σ1, H1, cls, dd, rfl, J0, nb, up, sky, na, os, ag, ww⟩ := xx
    have J : Inv X pins σ1 H1 sI := J0.ofTry okX
    have sky1 : Sky B (X.env :: X.outer) ax (Zc cls dd) X.env.locals s1.heap := by rw [← hst]; exact sky
    show wpAny (model X.prog X.w) X.A (noteFrame (.ref ax) X.env) _ _ _
    refine Sky.land Zc.steady frs1 hfr sky1 fun h3 fly3 up3 => ?_
    have J3 : Inv X pins σ1 H1 { s1 with heap := h3 } := J.landed nb fly3.1 (up.trans up3) os ag
    obtain ⟨oe3, vs3, at3, z3, dt3⟩ := fly3.there
    have noFr : ∀ {h : Heap} {o : Obj} {vs : Array Value}, h.FunFrames B (X.env :: X.outer) → h.get? ax = some o → o.data = .fields vs → ax ∉ frs (X.env :: X.outer) := fun {h o vs} ff e1 e2 hm => by
      obtain ⟨_, o2, e3, hnf⟩ := ff.mem hm
      rw [e1] at e3; cases e3
      exact hnf _ e2
    have nfr := noFr fly3.2.2.1 at3 dt3
    have nL : ax ≠ X.env.locals := fun z => nfr (List.mem_filterMap.mpr ⟨X.env, List.mem_cons_self, by rw [hfr, z]⟩)
    have nF : ax ∉ X.fs := fun hm => by
      obtain ⟨en, he, q⟩ := List.mem_filterMap.mp hm
      exact nfr (List.mem_filterMap.mpr ⟨en, List.mem_cons_of_mem _ he, q⟩)
    have S3 := J3.suite at3 dt3 na nL nF
    have go : ∀ {hds2 : List ExceptHandler} {l2 : List (Value × (Addr → Value → Option Addr → TS))}, HdsAs X n hds2 l2 → wAsL X.K i Wout D l2 cls dd σ1 H1 →
        wpAny (model X.prog X.w) X.A (handleBy (.ref ax) X.env hds2) (SP X pins D) X.xe { s1 with heap := h3 } := by
      intro hds2 l2 hk
      induction hk with
      | nil =>
        intro ww
        refine wpAny_handleBy_nil ?_
        obtain ⟨k1, k2, k3, oe, vs, Tr, oT, ts2, he, hz, hd, h1, hr⟩ := id fly3
        unfold PySem.passOn
        refine wpAny_bind (wpAny_field he hd h1 ?_)
        rw [if_neg (show ¬ ((Value.ref Tr == Value.none) = true) from by simp)]
        have fin : wpAny (model X.prog X.w) X.A (setFlight (.ref ax) X.env.frame) (fun _ s4 => wpAny (model X.prog X.w) X.A (throw (.ref ax) : Sem Flow) (SP X pins D) X.xe s4) X.xe { s1 with heap := h3 } := by
          rw [hfr]
          refine HandSPX.setFlight_upZ fly3 fun h4 hh4 up4 => wpAny_throw (tk _ _ ?_)
          exact ⟨ax, B, sI, pins, σ1, H1, cls, dd, rfl, J, nb, (up.trans up3).trans up4, .inr (.inr (by rw [hst]; exact hh4)), na, os, ag, ww⟩
        first
          | exact wpAny_bind (wpAny_pure (wpAny_bind fin))
          | exact wpAny_bind fin
      | @cons x c ts b₀ suite np hpos hds3 l3 hc hsu r ih =>
        intro ww
        obtain ⟨b, hb1, hyes, hno⟩ := ww
        refine wpAny_handleBy_cons (codeAny_handlers_test ?_) (by intro q; cases q)
        have LT : PySem.W.Looks (model X.prog X.w) h3 (typeOf (.ref ax)) cls := fun A Q E s k q => wpAny_typeOf_ref (k _ _ at3) (by rw [z3.1]; exact q)
        have LM := PySem.W.exm_one (M := model X.prog X.w) (J3.kIn) LT hb1
        have test : ∀ {Q : Value → Shared → Prop} {E : Value → Shared → Prop}, Q c { s1 with heap := h3 } → wpAny (model X.prog X.w) (X.A.mark (some (.ref ax))) (eval (.Name x np) X.env) Q E { s1 with heap := h3 } := fun {Q E} q => by
          obtain ⟨hg, hdbg, hm | ⟨hm, hv, hnn⟩⟩ := hc
          · exact ld_glob (X := X.suite ax ((ax, oe3) :: (X.pn ++ pins))) S3 hg hm q hdbg
          · exact ld_blt (X := X.suite ax ((ax, oe3) :: (X.pn ++ pins))) S3 hg hm hv q hnn hdbg
        refine test (LM.here ?_)
        cases b with
        | true =>
          refine codeAny_handlers_suite_as ?_
          refine HandSPX.lands_againZ fly3 fun h4 fly4 up4 => ?_
          have J4 : Inv X pins σ1 H1 { s1 with heap := h4 } := J.landed nb fly4.1 ((up.trans up3).trans up4) os ag
          obtain ⟨oe4, vs4, at4, z4, dt4⟩ := fly4.there
          have S4 := J4.suite at4 dt4 na nL nF
          refine store_ok (X := X.suite ax ((ax, oe4) :: (X.pn ++ pins))) (v := .ref ax) S4 hN hi hloc rfl (fun s5 S5 => ?_) (.inr hln)
          refine wpAny_mono ((hsu ax oe4 cls dd (X.pn ++ pins) z4 ⟨_, dt4⟩).run [] s5 _ H1 _ S5 (hyes rfl ax na)) (fun fl s6 hsp => ?_) (fun _ _ z => False.elim z)
          have gone : ∀ {σ6 : L2.St} {H6 : Hp} {Q : Shared → Prop}, Inv (X.suite ax ((ax, oe4) :: (X.pn ++ pins))) [] σ6 H6 s6 → (∀ s7, Inv X pins (σ6.set i none) H6 s7 → Q s7) →
              wpAny (model X.prog X.w) X.A (do bindName X.env n .none; unbindBehindTheSuite X.env n hpos) (fun _ s7 => Q s7) X.xe s6 := fun {σ6 H6 Q} S6 hq => gone_ok (S6.unsuite okX) hN hi hln hq
          cases fl with
          | next =>
            obtain ⟨σ6, H6, S6, q6⟩ := hsp
            exact gone S6 fun s7 J7 => ⟨_, _, J7, q6⟩
          | brk =>
            obtain ⟨σ6, H6, S6, q6⟩ := hsp
            exact gone S6 fun s7 J7 => ⟨_, _, J7, q6⟩
          | cont =>
            obtain ⟨σ6, H6, S6, q6⟩ := hsp
            exact gone S6 fun s7 J7 => ⟨_, _, J7, q6⟩
          | ret u =>
            obtain ⟨v6, σ6, H6, S6, r6, q6⟩ := hsp
            exact gone S6 fun s7 J7 => ⟨_, _, _, J7, r6, q6⟩
        | false =>
          show wpAny _ X.A (handleBy (.ref ax) X.env hds3) _ _ _
          exact ih (hno rfl)
    exact go hh ww
  · cases fl with
    | next =>
      obtain ⟨σ2, H2, J2, q⟩ := hsp
      exact wpAny_execs_nil ⟨σ2, H2, J2.ofTry okX, q⟩
    | brk =>
      obtain ⟨σ2, H2, J2, q⟩ := hsp
      exact ⟨σ2, H2, J2.ofTry okX, q⟩
    | cont =>
      obtain ⟨σ2, H2, J2, q⟩ := hsp
      exact ⟨σ2, H2, J2.ofTry okX, q⟩
    | ret u =>
      obtain ⟨v2, σ2, H2, J2, r2, q⟩ := hsp
      exact ⟨v2, σ2, H2, J2.ofTry okX, r2, q⟩
end
end Dn
end
section
set_option Elab.async false
set_option linter.all false
set_option maxRecDepth 100000
set_option maxHeartbeats 4000000
/-! Dn20: x(lambda: e). -/
namespace Dn
open PySem PySem.Spec PyProof.Rows LamX L2

section
variable {X : Cx} {pins : List (Addr × Obj)} {σ : L2.St} {H : Hp} {s : Shared}
theorem lam_make3 {T : List (Addr × PySem.Str)} {c P : Addr} {params : Arguments} {body : Expr} {scope : Scope} {pos : Pos} {E : Value → Shared → Prop} {Q : Value → Shared → Prop} (I : Inv X pins σ H s) (TB : TabB X.base X.mg c P) (hcode : X.env.code = .ref c)
    (hm : (P, X.env.qual ++ "<lambda>") ∈ T) (hu : ∀ p ∈ T, p.1 = P → p.2 = X.env.qual ++ "<lambda>") (hT : Tabs T H) (hdef : defaultsOf params X.env = ([], [])) (hfree : ∀ y ∈ scope.names, y.2 = .free → ∃ c, X.env.cells.lookup y.1 = some c)
    (fin : ∀ (f c2 : Addr) (pm ctv : Value) (H1 : Hp) (s2 : Shared), Inv X pins σ H1 s2 → ExtN H H1 → (∀ b, H1 b = none → H b = none) → Tabs T H1 →
      s2.heap.get? f = some (PySem.W.kla_obj "<lambda>" (X.env.qual ++ "<lambda>") params body scope (cloFrom X.env.cells scope.names []) pm c2 ctv) → H1 f = none → f ∉ frs X.stack → H1 c2 = some (CodeO c2 (X.env.qual ++ "<lambda>")) → Q (.ref f) s2) :
    wpAny (model X.prog X.w) X.A (eval (.Lambda params body scope pos) X.env) Q E s := by
  obtain ⟨ps, hP, ht, ha⟩ := hT _ hm
  refine PySem.W.kla_eval hdef ?_
  have bP : s.heap.BuiltinsAt X.mg P := TB.bm.keeps I.bk
  have hPh : s.heap.get? P = some { cls := .none, data := .fields ps } := I.hok P _ hP
  have nofr : ∀ f, s.heap.objs.size ≤ f → f ∉ frs X.stack := fun f hf z => by
    rcases List.mem_cons.mp (I.stkSub _ z) with e | e
    · have h1 := I.lt
      rw [← e] at h1
      exact Nat.lt_irrefl _ (Nat.lt_of_lt_of_le h1 hf)
    · exact I.nofs hf e
  cases hc : codeAmong pos ps.toList with
  | none =>
    refine PySem.W.kla_makeFunction (mg := X.mg) (c := c) (P := P) (ps := ps) (closure_ok hfree) I.ok.glob (I.mod.glob.keeps I.bk) hcode (TB.code.keeps I.bk) hPh ht hc TB.gP bP fun c1 ctv h2 tk hx hge hlt hrec htb => ?_
    obtain ⟨c3, oc, vs, t, e2, hoc, hd, hv⟩ := hrec
    cases e2
    have hsz : s.heap.objs.size ≤ h2.objs.size := Nat.le_trans hge (Nat.le_of_lt hlt)
    have nC : H c1 = none := I.hok.fresh hge
    have I1 := inv_table (t' := tk) (more := #[rawInt pos.line, rawInt pos.col, .ref c1]) (h' := h2.push (PySem.W.kla_obj "<lambda>" (X.env.qual ++ "<lambda>") params body scope (cloFrom X.env.cells scope.names []) ((X.mg "__name__").getD .none) c1 ctv)) I hP
      (fun b o hb e => Heap.get?_push_of_some _ (hx b o hb e)) (Heap.get?_push_of_some _ htb) hge ⟨oc, vs, t, Heap.get?_push_of_some _ hoc, hd, hv⟩
    have hE : ExtN H (upd (upd H P (.tbl (ps ++ #[rawInt pos.line, rawInt pos.col, .ref c1]))) c1 (CodeO c1 (X.env.qual ++ "<lambda>"))) := fun b o e n => by
      rw [upd_ne (ne_of_none e nC), upd_ne (fun z => n ps (Option.some.inj (e.symm.trans (by rw [z]; exact hP))))]
      exact e
    have dom : ∀ b, upd (upd H P (.tbl (ps ++ #[rawInt pos.line, rawInt pos.col, .ref c1]))) c1 (CodeO c1 (X.env.qual ++ "<lambda>")) b = none → H b = none := fun b e => by
      by_cases q1 : b = c1
      · rw [q1]; exact nC
      · rw [upd_ne q1] at e
        by_cases q2 : b = P
        · rw [q2, upd_same] at e; cases e
        · rw [upd_ne q2] at e; exact e
    have eL : (ps ++ #[rawInt pos.line, rawInt pos.col, .ref c1]).toList = ps.toList ++ [rawInt pos.line, rawInt pos.col, .ref c1] := by simp
    refine fin h2.objs.size c1 ((X.mg "__name__").getD .none) ctv _ _ I1 hE dom (fun p hp => ?_) (Heap.get?_push_size _ rfl) ?_ (nofr _ hsz) upd_same
    · by_cases hb : p.1 = P
      · rw [hu p hp hb, hb]
        refine ⟨_, by rw [upd_ne (ne_of_none hP nC), upd_same], by rw [eL]; exact PySem.TriplesOk_snoc _ _ _ _ ht, fun p2 cv hcv => ?_⟩
        rw [eL] at hcv
        rcases among_app _ ht hcv with z | z
        · obtain ⟨c0, e1, e2⟩ := ha p2 cv z
          exact ⟨c0, e1, hE _ _ e2 codeO_ne⟩
        · exact ⟨c1, z, upd_same⟩
      · obtain ⟨ps2, a1, a2, a3⟩ := hT p hp
        refine ⟨ps2, by rw [upd_ne (ne_of_none a1 nC), upd_ne hb]; exact a1, a2, fun p2 cv hcv => ?_⟩
        obtain ⟨c0, e1, e2⟩ := a3 p2 cv hcv
        exact ⟨c0, e1, hE _ _ e2 codeO_ne⟩
    · have n1 : h2.objs.size ≠ c1 := Nat.ne_of_gt hlt
      have n2 : h2.objs.size ≠ P := Nat.ne_of_gt (Nat.lt_of_lt_of_le (Heap.lt_size hPh) hsz)
      rw [upd_ne n1, upd_ne n2]
      exact I.hok.fresh hsz
  | some cv =>
    obtain ⟨c1, e, hco⟩ := ha pos cv hc
    subst e
    refine PySem.W.kla_makeFunctionHit (mg := X.mg) (c := c) (P := P) (ps := ps) (closure_ok hfree) I.ok.glob (I.mod.glob.keeps I.bk) hcode (TB.code.keeps I.bk) hPh ht hc bP fun ctv h2 tk hx hsz => ?_
    have I1 : Inv X pins σ H { s with heap := h2.push (PySem.W.kla_obj "<lambda>" (X.env.qual ++ "<lambda>") params body scope (cloFrom X.env.cells scope.names []) ((X.mg "__name__").getD .none) c1 ctv), toks := tk } := I.kept fun b o e => Heap.get?_push_of_some _ (hx b o e)
    exact fin h2.objs.size c1 ((X.mg "__name__").getD .none) ctv H _ I1 (ExtN.refl H) (fun _ h => h) hT (Heap.get?_push_size _ rfl) (I.hok.fresh hsz) (nofr _ hsz) hco
end
def tLamD (T : List (Addr × PySem.Str)) (TT : (XK → Hp → VK → Prop) → Hp → VK → Prop) (t : XK → TE) : TE := fun σ H Q => Tabs T H ∧ ∀ H1, ExtN H H1 → (∀ b, H1 b = none → H b = none) → Tabs T H1 → TT (fun E H' Q' => t E σ H' Q') H1 Q
section
variable {X : Cx}
theorem pe_lamD {T : List (Addr × PySem.Str)} {TT : (XK → Hp → VK → Prop) → Hp → VK → Prop} {x a : PySem.Str} {g c P : Addr} {k : Nat} {pg : Arguments} {bg : List Stmt} {sg : Scope} {dV kV doc pm cdv ct oc : Value} {an od : Option Addr} {osl : Array (Option Value)} {Ng : List PySem.Str}
    {params : Arguments} {body : Expr} {scope : Scope} {t : XK → TE} {p lpos pos : Pos} (hg : Gl X x) (hm : X.mg x = some (.ref g)) (hk : PySem.W.keepIn X.K (.ref g) = true)
    (lk : X.K.lookup g = some ⟨oc, od, .func (PySem.W.fnOf x x pg bg sg dV kV doc pm an cdv ct), osl⟩) (hcg : PySem.W.codeIn X.K cdv x = true) (hb : L2.Binds X.K (PySem.W.fnOf x x pg bg sg dV kV doc pm an cdv ct) [a] []) (Sg : FnScope Ng [a] sg) (hNg : Ng[0]? = some a) (hva : Vis sg a)
    (hG : GivesTo X Ng x sg g cdv bg a (X.env.qual ++ "<lambda>") TT)
    (TB : TabB X.base X.mg c P) (hcode : X.env.code = .ref c) (hmT : (P, X.env.qual ++ "<lambda>") ∈ T) (hu : ∀ p ∈ T, p.1 = P → p.2 = X.env.qual ++ "<lambda>") (hr : Room (k + 2) X.A) (L : LamS X.env.scope scope) (hdef : defaultsOf params X.env = ([], []))
    (hbind : ∀ (q : PySem.Str) (cl : List (PySem.Str × Addr)) (pm cv ctv : Value), bindArgs (PySem.W.kla_fn "<lambda>" q params body scope cl pm cv ctv) ⟨[], []⟩ = pure [])
    (hbody : ∀ (A : Around) (outer : List Env) (s : Shared) (H : Hp) (E : XK) (f c2 : Addr), Room k (A.deeper (lamEnv X scope s.heap.objs.size f c2)) → PE (lamCx X A outer s H E scope f c2) body (t E))
    (hdb : (x == ("__debug__" : PySem.Str)) = false) (hd : (a == ("__debug__" : PySem.Str)) = false) (hcd : (a == ("__classdict__" : PySem.Str)) = false) :
    PE X (.Call (.Name x p) [.Lambda params body scope lpos] [] pos) (tLamD T TT t) := by
  refine ⟨fun pins s σ H Q I hw => ?_⟩
  obtain ⟨hT, hw⟩ := hw
  refine wpAny_Call_Name_kw (ld_glob I hg hm ?_ hdb)
  refine PySem.W.callWith_K (h₀ := X.base) I.ok.mod.kin hk ?_ (by rfl) (by rfl)
  show wpAny _ _ (spliced ((false, eval (.Lambda params body scope lpos) X.env) :: backTo pos (starEach [] X.env))) _ _ s
  refine Calls.spliced_cons (lam_make3 I TB hcode hmT hu hT hdef (L.has I.ok) fun f c2 pm2 ctv H1 s2 I1 eN dm T1 hf hfn hfr hco => ?_)
  refine Calls.spliced_nil ⟨I1.kIn, ?_⟩
  have rc : codeAny (model X.prog X.w) X.A (.call (.ref g) ⟨[.ref f], []⟩) (CR C8.CX0 X.stack X.prog X.w H1 s2 Q C8.E0) s2 := by
    refine run_ofS (N := Ng) (ps := [a]) (us := [.ref f]) (vs := [.ref f]) lk hcg Sg hr I1.env0 (hb s2 [.ref f] I1.kIn rfl) (.cons rfl .nil) rfl fun hr1 => ?_
    obtain ⟨t2, ht2, hq2⟩ := hG f c2 s2 H1 Q (fun E H' Q' => t E σ H' Q') (fun W pn xe E p1 p2 tk hW => pe_act (i := 0) I1 L hf hfn hfr (hbind _ _ _ _ _) tk hW hr1 (fun A outer s H hr2 => hbody A outer s H E f c2 hr2) hNg hva hd hcd) hco (hw H1 eN dm T1)
    exact ⟨t2, ht2.nox, hq2⟩
  refine wpAny_call (codeAny_mono rc fun r s3 hq => ?_)
  cases r with
  | error e => exact (show False from hq).elim
  | ok fl =>
    cases fl with
    | ret u => exact I1.after hq
    | next => exact False.elim hq
    | brk => exact False.elim hq
    | cont => exact False.elim hq
end
/-! ### e.f, e the exception that a suite holds -/
def tFldE (C : Addr) (f : PySem.Str) (a : Addr) (cls : Value) (d : Option Addr) (te : TE) : TE := fun σ H Q => te σ H fun x H1 => x = .ref a ∧ cls = .ref C ∧ ∃ (dd : Addr) (v : V), d = some dd ∧ H1 dd = some (.xd [(f, v)]) ∧ Q v H1
theorem pe_fldE {X : Cx} {C fI : Addr} {f : PySem.Str} {a : Addr} {oe : Obj} {cls : Value} {d : Option Addr} {pn : List (Addr × Obj)} {e : Expr} {te : TE} {pos : Pos} (T : OexE X.K C fI f) (hz : Zc cls d oe) (hf : ∃ vs, oe.data = .fields vs) (he : PE (X.suite a ((a, oe) :: pn)) e te)
    (hb : attributeBase e f X.env (eval e X.env) = eval e X.env) : PE (X.suite a ((a, oe) :: pn)) (.Attribute e f pos) (tFldE C f a cls d te) := by
  refine ⟨fun pins s σ H Q I hw => ?_⟩
  refine attr_of hb (thn (he.run pins s σ H _ I hw) fun u s1 hh => ?_)
  obtain ⟨x, H1, I1, rx, ex, ec, dd, v, ed, ea, q⟩ := hh
  subst ex
  obtain rfl : u = Value.ref a := rx
  subst ec
  subst ed
  obtain ⟨ha, _⟩ := I1.pin (a, oe) (List.mem_append_left _ List.mem_cons_self)
  obtain ⟨vs, hd⟩ := hf
  have hx : ObjOk X.prog X.w H1 s1.heap dd (.xd [(f, v)]) := I1.hok dd _ ea
  obtain ⟨mA, hns, hr⟩ := hx
  obtain ⟨od, ho, hl⟩ := lookIn_ns hns
  have l1 : List.lookup f [(f, v)] = some v := by simp [List.lookup]
  obtain ⟨u, hu, ru⟩ := RelO.some_of (v := v) (o := mA f) (by rw [← l1]; exact hr f)
  have J : PySem.W.InstAt s1.heap a oe C (some od) := ⟨ha, hz.1, by unfold PySem.W.notCls; rw [hd] <;> rfl, by rw [hz.2]; exact ho⟩
  exact HandSPX.exc_get I1.kIn J T.ga T.gg T.exC (PySem.W.findObj_own T.hdC T.noN rfl (by rw [hl, hu])) (handed_of ru) ⟨v, H1, I1.tok _, ru, q⟩
end Dn
end
section
set_option Elab.async false
set_option linter.all false
set_option maxRecDepth 100000
set_option maxHeartbeats 4000000
/-! Dn21: told(lambda: e): the value, or the name of what was raised and its field. -/
namespace Dn
open PySem PySem.Spec PyProof.Rows LamX L2

def valS : List Nat := [118, 97, 108, 117, 101]
def eTold (nms : List (List Nat)) (fe : DEnv → Mo Vx) : DEnv → Mo Vx := fun ρ h => match fe ρ h with
  | .ok y h2 => (match y with
    | .d x => .ok (.d (.tup [.str valS, x])) h2
    | _ => .stk)
  | .err c p h2 => (match nms[c]? with
    | some nm => .ok (.d (.tup [.str nm, p])) h2
    | none => .stk)
  | .stk => .stk
theorem pss_len {X : Cx} {b : List Stmt} {t : TS} (h : PSs X b t) : PSs X b (fun D σ H => σ.length = X.N.length → t D σ H) := ⟨fun pins s σ H D I w => h.run pins s σ H D I (w I.len)⟩
/-- what the clause of a class does: return (nm, why.f) -/
def tsH (n i : Nat) (nm : List Nat) (C : Addr) (f : PySem.Str) : Addr → Value → Option Addr → TS := fun a cls d D σ H => σ.length = n → tRet (tTup (tCons (tC (.str (toStr nm))) (tCons (tFldE C f a cls d (tVar i)) tNil))) D σ H
def toldL (K : PySem.W.Frag) (n i : Nat) : Exs → List (List Nat) → List (Value × (Addr → Value → Option Addr → TS))
  | (x, f) :: r, nm :: ms => (.ref (He.ga K x), tsH n i nm (He.ga K x) f) :: toldL K n i r ms
  | _, _ => []
/-- told, as a reading of what the lambda does -/
def TToldD (K : PySem.W.Frag) (i : Nat) (l : List (Value × (Addr → Value → Option Addr → TS))) : (XK → Hp → VK → Prop) → Hp → VK → Prop := fun tl H Q =>
  tl (fun cls d H1 => ∀ σ, wAsL K i (fun _ _ _ _ => False) { nx := fun _ H' => Q .non H', rt := Q } l cls d σ H1) H (fun v H1 => ∀ T, H1 T = none → Q (.ref T) (upd H1 T (.tup [.str (toStr valS), v])))
section
variable {X : Cx}
theorem told_givesD {Ng : List PySem.Str} {x a q n vw : PySem.Str} {sg : Scope} {g : Addr} {cdg : Value} {i j k1 : Nat} {p0 p1 p2 p3 p4 p8 : Pos} {h₀ : ExceptHandler} {hds : List ExceptHandler} {l : List (Value × (Addr → Value → Option Addr → TS))}
    (hv : vw = toStr valS) (hN : Ng.Nodup) (hi : Ng[i]? = some n) (hln : sg.names.lookup n = some .local) (h0 : ∀ f : Addr, (L2.start Ng [V.ref f])[0]? = some (some (V.ref f)))
    (hst : ∀ (X2 : Cx), starEach [.Constant (.str vw) j p0, .Call (.Name a p1) [] [] p2] X2.env = (false, eval (.Constant (.str vw) j p0) X2.env) :: starEach [.Call (.Name a p1) [] [] p2] X2.env)
    (hst2 : ∀ (X2 : Cx), starEach [.Call (.Name a p1) [] [] p2] X2.env = (false, eval (.Call (.Name a p1) [] [] p2) X2.env) :: starEach [] X2.env)
    (hh : ∀ (s : Shared) (H : Hp), HdsAs (cxOf C8.CX0 X.prog X.w X.K X.mg X.base Ng x sg g cdg X.A X.stack s H C8.E0).nox n (h₀ :: hds) l) :
    GivesTo X Ng x sg g cdg [.Try [.Return (some (.Tuple [.Constant (.str vw) j p0, .Call (.Name a p1) [] [] p2] k1 p3)) p4] (h₀ :: hds) [] [] p8] a q (TToldD X.K i l) := by
  intro f c2 s H Q tl act hc hw
  subst hv
  refine ⟨_, pss_one (ps_try_asL (X := (cxOf C8.CX0 X.prog X.w X.K X.mg X.base Ng x sg g cdg X.A X.stack s H C8.E0).nox) (i := i) (Wout := fun _ _ _ _ => False)
      (tb := fun W D σ H => ∃ Ech : XK, (∀ cls d σ2 H2, Ech cls d H2 → W cls d σ2 H2) ∧ σ[0]? = some (some (.ref f)) ∧ H c2 = some (CodeO c2 q) ∧ tl Ech H (fun v H1 => ∀ T, H1 T = none → D.rt (.ref T) (upd H1 T (.tup [.str (toStr valS), v]))))
      rfl rfl hN hi hln L2.takes0 (fun W pn xe tk _ => ?_) (hh s H)), ?_⟩
  · refine ⟨fun pins s2 σ H2 D I hw2 => ?_⟩
    obtain ⟨Ech, hW, h1, h2, h3⟩ := hw2
    have hp := act W pn xe Ech p1 p2 tk hW
    have hq := pss_one (ps_ret (pos := p4) (pe_tup (x1 := k1) (pos := p3) (pa_cons (pe_str (x := toStr valS) (j := j) (pos := p0)) (pa_cons hp pa_nil (hst2 _)) (hst _))))
    refine hq.run pins s2 σ H2 D I ?_
    show σ[0]? = some (some (.ref f)) ∧ H2 c2 = some (CodeO c2 q) ∧ tl Ech H2 _
    refine ⟨h1, h2, ?_⟩
    have e : (fun (v : V) (H1 : Hp) => ∀ T, H1 T = none → D.rt (.ref T) (upd H1 T (.tup [.str (toStr valS), v]))) = (fun (v : V) (H1 : Hp) => [V.str (toStr valS), v].length ≤ sizeLine ∧ ∀ p, H1 p = none → D.rt (.ref p) (upd H1 p (.tup [.str (toStr valS), v]))) := by
      funext v H1
      refine propext ⟨fun z => ⟨?_, z⟩, fun z => z.2⟩
      rw [sizeLine_eq]
      exact (by decide : 2 ≤ 16777216)
    rw [e] at h3
    exact h3
  · exact ⟨_, fun cls d σ2 H2 z => z σ2, h0 f, hc, hw⟩
end
/-- no class takes another's -/
def exmB (K : PySem.W.Frag) (xs : Exs) : Bool := (List.range xs.length).all fun i => (List.range xs.length).all fun j => match xs[i]?, xs[j]? with
  | some a, some b => decide (PySem.W.exmOne K (.ref (He.ga K a.1)) (.ref (He.ga K b.1)) = some (decide (i = j)))
  | _, _ => true
theorem exmB_ok {K : PySem.W.Frag} {xs : Exs} (h : exmB K xs = true) {i j : Nat} {a b : PySem.Str × PySem.Str} (ei : xs[i]? = some a) (ej : xs[j]? = some b) : PySem.W.exmOne K (.ref (He.ga K a.1)) (.ref (He.ga K b.1)) = some (decide (i = j)) := by
  unfold exmB at h
  have h1 := List.all_eq_true.mp h i (List.mem_range.mpr (List.getElem?_eq_some_iff.mp ei).1)
  have h2 := List.all_eq_true.mp h1 j (List.mem_range.mpr (List.getElem?_eq_some_iff.mp ej).1)
  rw [ei, ej] at h2
  exact of_decide_eq_true h2
/-- the clauses, from the j-th on -/
theorem told_at {K : PySem.W.Frag} {g : Gp} {W2 : Wd} {H2 : Hp} {h2 : DH} {n i c : Nat} {pp : Dt} {nm : List Nat} {all : List (List Nat)} {Q : VK} {cls : Value} {dd : Option Addr} (hx : exmB K g.xs = true) (hn : i < n) (hr : HRel K g.T W2 H2 h2) (rx : RepX K g.xs W2 H2 cls dd c pp) (hnm : all[c]? = some nm) (hok : okS nm)
    (q : ∀ (W3 : Wd) (v : V) (H3 : Hp), Ext W2 H2 W3 H3 → HRel K g.T W3 H3 h2 → RepV K W3 v (.d (.tup [.str nm, pp])) → Q v H3) (σ : L2.St) :
    ∀ (j : Nat) (xs : Exs) (ms : List (List Nat)), j ≤ c → g.xs.drop j = xs → all.drop j = ms → wAsL K i (fun _ _ _ _ => False) { nx := fun _ H' => Q .non H', rt := Q } (toldL K n i xs ms) cls dd σ H2 := by
  obtain ⟨x, f, ex, rfl, d, v, rfl, eh, rd⟩ := rx
  intro j xs
  induction xs generalizing j with
  | nil =>
    intro ms hj e1 e2
    have : g.xs.length ≤ j := by
      have := congrArg List.length e1
      simp at this; omega
    have := (List.getElem?_eq_some_iff.mp ex).1
    omega
  | cons y xs ih =>
    intro ms hj e1 e2
    cases ms with
    | nil =>
      have : all.length ≤ j := by
        have := congrArg List.length e2
        simp at this; omega
      have := (List.getElem?_eq_some_iff.mp hnm).1
      omega
    | cons m ms =>
      obtain ⟨y1, y2⟩ := y
      have ey : g.xs[j]? = some (y1, y2) := by
        have : (g.xs.drop j)[0]? = some (y1, y2) := by rw [e1]; rfl
        simpa using this
      have em : all[j]? = some m := by
        have : (all.drop j)[0]? = some m := by rw [e2]; rfl
        simpa using this
      have e3 : g.xs.drop (j + 1) = xs := by
        have := congrArg (List.drop 1) e1
        simpa using this
      have e4 : all.drop (j + 1) = ms := by
        have := congrArg (List.drop 1) e2
        simpa using this
      refine ⟨decide (c = j), exmB_ok hx ex ey, fun hb a na => ?_, fun hb => ih (j + 1) ms (by have := of_decide_eq_false hb; omega) e3 e4⟩
      have cj : c = j := of_decide_eq_true hb
      subst cj
      rw [ex] at ey
      cases ey
      rw [hnm] at em
      cases em
      intro hl
      have hi : i < σ.length := by
        have : (σ.set i (some (V.ref a))).length = n := hl
        rw [List.length_set] at this
        omega
      show tFldE (He.ga K x) f a (.ref (He.ga K x)) (some d) (tVar i) (σ.set i (some (V.ref a))) H2 _
      refine ⟨V.ref a, by rw [List.getElem?_set_self hi], rfl, rfl, d, v, rfl, eh, ?_⟩
      refine ⟨by rw [sizeLine_eq]; exact (by decide : 2 ≤ 16777216), fun T nT => ?_⟩
      obtain ⟨hr3, ex3⟩ := hr.new nT (o := .tup [V.str (toStr nm), v]) (fun ps z => by cases z)
      exact q _ _ _ ex3 hr3 (RepD.tup (.inl (.inl upd_same)) (.cons (.str nm hok) (.cons (RepD.le ex3.F rd) .nil)))
/-! ### the rule -/
def tabsOf (l : List (Addr × PySem.Str)) : Tbs := l.map fun p => (p.1, fun _ _ => p.2)
theorem tabs_of {l : List (Addr × PySem.Str)} {H : Hp} (t : NdefX.TabsN (tabsOf l) H) : Tabs l H := fun p hp => by
  have := t (p.1, fun _ _ => p.2) (List.mem_map.mpr ⟨p, hp, rfl⟩)
  exact NdefX.TabN.to this
theorem of_tabs {l : List (Addr × PySem.Str)} {H : Hp} (t : Tabs l H) : NdefX.TabsN (tabsOf l) H := fun p hp => by
  obtain ⟨q, hq, rfl⟩ := List.mem_map.mp hp
  exact NdefX.TabN.of (t q hq)
section
variable {K : PySem.W.Frag} {T : Tbs} {W : Wd} {H H1 : Hp} {h : DH}
theorem HRel.tabbed (r : HRel K T W H h) (e : ExtN H H1) (dm : ∀ b, H1 b = none → H b = none) (t : NdefX.TabsN T H1) : HRel K T W H1 h ∧ Ext W H W H1 := by
  refine ⟨⟨fun a o q => e a o (r.fro a o q) (r.ntb a o q), r.ntb, r.len, fun k a o e1 e2 => ?_, r.liv, r.nd, t⟩, HLe.refl _, ⟨[], by simp, by simp⟩, fun a o q _ nt => e a o q nt, dm, fun a o q => .inl q⟩
  have hh := r.obj k a o e1 e2
  cases o with
  | lst zs => obtain ⟨ws, h1, h2⟩ := hh; exact ⟨ws, e _ _ h1 (notTbl_lst _), h2⟩
  | dead => obtain ⟨ws, h1⟩ := hh; exact ⟨ws, e _ _ h1 (notTbl_lst _)⟩
end
theorem okS_val : okS valS := ⟨by rw [sizeLine_eq]; decide, by decide⟩
section
variable {X : Cx} {g : Gp} {Wx : WX}
theorem pd_told {Tl : List (Addr × PySem.Str)} {nms : List (List Nat)} {n i : Nat} {x a q : PySem.Str} {ga c P : Addr} {k : Nat} {pg : Arguments} {bg : List Stmt} {sg : Scope} {dV kV doc pm cdv ct oc : Value} {an od : Option Addr} {osl : Array (Option Value)} {Ng : List PySem.Str}
    {params : Arguments} {body : Expr} {scope : Scope} {fe : DEnv → Mo Vx} {p lpos pos : Pos} (hT : g.T = tabsOf Tl) (hx : exmB X.K g.xs = true) (hi : i < n) (hok : ∀ nm ∈ nms, okS nm) (hq : X.env.qual ++ "<lambda>" = q) (hg : Gl X x) (hm : X.mg x = some (.ref ga)) (hk : PySem.W.keepIn X.K (.ref ga) = true)
    (lk : X.K.lookup ga = some ⟨oc, od, .func (PySem.W.fnOf x x pg bg sg dV kV doc pm an cdv ct), osl⟩) (hcg : PySem.W.codeIn X.K cdv x = true) (hb : L2.Binds X.K (PySem.W.fnOf x x pg bg sg dV kV doc pm an cdv ct) [a] []) (Sg : FnScope Ng [a] sg) (hNg : Ng[0]? = some a) (hva : Vis sg a)
    (hG : GivesTo X Ng x sg ga cdv bg a q (TToldD X.K i (toldL X.K n i g.xs nms)))
    (TB : TabB X.base X.mg c P) (hcode : X.env.code = .ref c) (hmT : (P, q) ∈ Tl) (hu : ∀ p ∈ Tl, p.1 = P → p.2 = q) (hr : Room (k + 2) X.A) (L : LamS X.env.scope scope) (hdef : defaultsOf params X.env = ([], []))
    (hbind : ∀ (q : PySem.Str) (cl : List (PySem.Str × Addr)) (pm cv ctv : Value), bindArgs (PySem.W.kla_fn "<lambda>" q params body scope cl pm cv ctv) ⟨[], []⟩ = pure [])
    (hbody : ∀ (A : Around) (outer : List Env) (s : Shared) (H : Hp) (E : XK) (f c2 : Addr), Room k (A.deeper (lamEnv X scope s.heap.objs.size f c2)) →
      Takes (lamCx X A outer s H E scope f c2) (fun c d _ H => E c d H) → PE (lamCx X A outer s H E scope f c2) body (LE X.K g (fun c d _ H => E c d H) fe))
    (hdb : (x == ("__debug__" : PySem.Str)) = false) (hd : (a == ("__debug__" : PySem.Str)) = false) (hcd : (a == ("__classdict__" : PySem.Str)) = false) :
    PE X (.Call (.Name x p) [.Lambda params body scope lpos] [] pos) (LE X.K g Wx (eTold nms fe)) := by
  subst hq
  refine (pe_lamD (T := Tl) (TT := TToldD X.K i (toldL X.K n i g.xs nms)) (t := fun E => LE X.K g (fun c d _ H => E c d H) fe) hg hm hk lk hcg hb Sg hNg hva hG TB hcode hmT hu hr L hdef hbind (fun A outer s H E f c2 hr2 => hbody A outer s H E f c2 hr2 (takes_of rfl rfl rfl rfl)) hdb hd hcd).imp fun σ H Q p => ?_
  obtain ⟨W, ρ, h, hrr, er, p⟩ := p
  refine ⟨tabs_of (by rw [← hT]; exact hrr.tab), fun H1 eN dm T1 => ?_⟩
  obtain ⟨hr1, ex1⟩ := hrr.tabbed eN dm (by rw [hT]; exact of_tabs T1)
  refine ⟨W, ρ, h, hr1, er, ?_⟩
  unfold eTold at p
  cases hf : fe ρ h with
  | stk => rw [hf] at p; exact p.elim
  | ok y h2 =>
    rw [hf] at p
    simp only at p
    split at p
    · rename_i x
      intro W2 v H2 ex2 hr2 rv T nT
      obtain ⟨hr3, ex3⟩ := hr2.new nT (o := .tup [V.str (toStr valS), v]) (fun ps z => by cases z)
      exact p _ _ _ ((ex1.trans ex2).trans ex3) hr3 (RepD.tup (.inl (.inl upd_same)) (.cons (.str valS okS_val) (.cons (RepD.le ex3.F rv) .nil)))
    · exact p.elim
  | err c pp h2 =>
    rw [hf] at p
    simp only at p
    split at p
    · rename_i nm hnm
      intro W2 cls dd H2 ex2 hr2 rx σ2
      exact told_at hx hi hr2 rx hnm (hok nm (List.mem_of_getElem? hnm)) (fun W3 v H3 ex3 hr3 rv => p W3 v H3 ((ex1.trans ex2).trans ex3) hr3 rv) σ2 0 g.xs nms (Nat.zero_le _) rfl rfl
    · exact p.elim
end
end Dn
end
section
set_option Elab.async false
set_option linter.all false
set_option maxRecDepth 100000
set_option maxHeartbeats 4000000
/-! Dn22: defs whose code object is known; an exception class's __init__. -/
namespace Dn
open PySem PySem.Spec PyProof.Rows L2

def clsInit (s : Stmt) : Stmt := match s with
  | .ClassDef _ _ _ b _ _ _ _ _ _ _ => b.getD 0 (.Pass ⟨0, 0, 0, 0⟩)
  | _ => .Pass ⟨0, 0, 0, 0⟩
section
variable {P : Program} {w : World} {K : PySem.W.Frag} {mg : PySem.Str → Option Value} {base : Heap} {g : Gp}
theorem fn_okC {pth : PySem.Str × Option PySem.Str} {x qual : PySem.Str} {params : Arguments} {body : List Stmt} {scope : Scope} {dvs : List V} {kws : List (PySem.Str × V)} {fd : FuncData} {N ps : List PySem.Str} {k nl n : Nat} {fb : SF} (F : FunD K x qual params body scope dvs kws (He.fAd K pth) fd) (S : FnScope N ps scope) (hn : N.length = nl) (hp : ps.length = n)
    (hb : ∀ (A : Around) (outer : List Env) (s : Shared) (H : Hp) (E : XK), Room k (A.deeper (envOfC qual scope s.heap.objs.size (He.fAd K pth) (.ref (He.codeOf K pth)))) →
      Takes (cxOf (L2.CX P w) P w K mg base N qual scope (He.fAd K pth) (.ref (He.codeOf K pth)) A outer s H E) (fun c d _ H => E c d H) →
      PassesOwn (model P w) (cxOf (L2.CX P w) P w K mg base N qual scope (He.fAd K pth) (.ref (He.codeOf K pth)) A outer s H E).A (cxOf (L2.CX P w) P w K mg base N qual scope (He.fAd K pth) (.ref (He.codeOf K pth)) A outer s H E).env (cxOf (L2.CX P w) P w K mg base N qual scope (He.fAd K pth) (.ref (He.codeOf K pth)) A outer s H E).xe →
      PSs (cxOf (L2.CX P w) P w K mg base N qual scope (He.fAd K pth) (.ref (He.codeOf K pth)) A outer s H E) body (LS K g (fun c d _ H => E c d H) fb)) :
    FnOk P w K mg base (L2.CX P w) (k + 1) (He.fAd K pth) fd ps (spD K g n (fnM nl fb)) := by
  have hcode : ∀ cdv : Value, (∃ (oc : Value) (od : Option Addr) (dV kV doc pm : Value) (an : Option Addr) (ct : Value) (osl : Array (Option Value)), fd = PySem.W.fnOf x qual params body scope dV kV doc pm an cdv ct ∧ K.lookup (He.fAd K pth) = some ⟨oc, od, .func fd, osl⟩ ∧ PySem.W.codeIn K cdv qual = true) → cdv = .ref (He.codeOf K pth) := by
    rintro cdv ⟨oc, od, dV, kV, doc, pm, an, ct, osl, rfl, lk, hc⟩
    obtain ⟨c, rfl⟩ := He.codeIn_ref hc
    rw [He.codeOf_eq lk rfl]
  subst hn hp
  obtain ⟨oc, od, dV, kV, doc, pm, an, cdv, ct, osl, rfl, lk, hcd, h1, h2⟩ := F.ex
  have ec := hcode cdv ⟨oc, od, dV, kV, doc, pm, an, ct, osl, rfl, lk, hcd⟩
  subst ec
  refine fn_of lk hcd S (fun vs H Q E h => h.1) fun A outer s H vs Q E hr h => ⟨_, hb A outer s H E hr (takes_of rfl rfl rfl rfl) (passes_of rfl), ?_⟩
  obtain ⟨hl, W, h0, ys, r, rv, p⟩ := h
  refine ⟨W, start0 N.length ys, h0, r, start_rel rv, (Post.bnd (R := RO K) p).imp (fun v H' ⟨W1, y, h1, ex, hr1, rr, p1⟩ => ?_) fun _ _ _ q => q⟩
  obtain ⟨o, ρ⟩ := y
  cases v with
  | nx σ =>
    cases o with
    | nx => exact Post.ret (v := V.non) p1 hr1 RepD.non
    | _ => exact rr.elim
  | rt v =>
    cases o with
    | rt y => exact Post.ret (v := v) p1 hr1 rr
    | _ => exact rr.elim
  | bk σ =>
    cases o with
    | bk => exact p1.elim
    | _ => exact rr.elim
  | ct σ =>
    cases o with
    | ct => exact p1.elim
    | _ => exact rr.elim
end
theorem okSs_of {l : List (List Nat)} (h : (l.all fun s => decide (s.length ≤ 16777216) && s.all fun c => decide (c < 0x110000)) = true) : ∀ s ∈ l, okS s := fun s hs => by
  have h1 := List.all_eq_true.mp h s hs
  simp only [Bool.and_eq_true] at h1
  exact ⟨by rw [sizeLine_eq]; exact of_decide_eq_true h1.1, fun c hc => of_decide_eq_true (List.all_eq_true.mp h1.2 c hc)⟩
theorem pe_strT {X : Cx} {s : List Nat} {x : PySem.Str} {j : Nat} {pos : Pos} (e : x = toStr s) : PE X (.Constant (.str x) j pos) (tC (.str (toStr s))) := by
  subst e
  exact pe_str
theorem nodup_u : ∀ {l : List (Addr × PySem.Str)}, (l.map (·.1)).Nodup → ∀ {a p : Addr × PySem.Str}, a ∈ l → p ∈ l → p.1 = a.1 → p.2 = a.2
  | y :: l, h, a, p, ha, hp, e => by
    obtain ⟨h1, h2⟩ := List.nodup_cons.mp (show (y.1 :: l.map (·.1)).Nodup from h)
    rcases List.mem_cons.mp ha with q | q
    · rcases List.mem_cons.mp hp with z | z
      · rw [q, z]
      · exact absurd (List.mem_map.mpr ⟨p, z, by rw [e, q]⟩) h1
    · rcases List.mem_cons.mp hp with z | z
      · exact absurd (List.mem_map.mpr ⟨a, q, by rw [← e, z]⟩) h1
      · exact nodup_u h2 q z e
end Dn
end
section
set_option Elab.async false
set_option linter.all false
set_option maxRecDepth 100000
set_option maxHeartbeats 4000000
/-! Dn23: the law's promise from the reading's answer. -/
namespace Dn
open PySem PySem.Spec PyProof.Rows L2

def seqOf : Option HO → Option HO
  | some (.lst xs) => some (.lst xs)
  | some (.frz o u) => some (.frz o u)
  | _ => none
def onlyAt (H : Hp) (a : Addr) : Hp := fun b => if b = a then seqOf (H a) else none
theorem spD_true {K : PySem.W.Frag} {g : Gp} {f : List Vx → Mo Vx} {H : Hp} {a : Addr} {ns : List Int} (hT : ∀ p ∈ g.T, H p.1 = some (.tbl #[])) (hS : SqL K H a (ns.map V.int)) (hf : ∃ h', f [.s ns] [] = .ok (.d (.bl true)) h') :
    spD K g 1 f [.ref a] H (fun v _ => v = .bl true) (fun _ _ _ => False) := by
  obtain ⟨h', e⟩ := hf
  have hF : ∀ b o, onlyAt H a b = some o → H b = some o ∧ notTbl o := fun b o q => by
    unfold onlyAt at q
    split at q
    · rename_i eb
      subst eb
      unfold seqOf at q
      split at q
      · rename_i xs z; cases q; exact ⟨z, notTbl_lst xs⟩
      · rename_i o u z; cases q; exact ⟨z, fun ps y => by cases y⟩
      · cases q
    · cases q
  have hSF : SqL K (onlyAt H a) a (ns.map V.int) := by
    rcases hS with (z | ⟨o, z⟩) | z
    · exact .inl (.inl (by unfold onlyAt seqOf; rw [if_pos rfl, z]))
    · exact .inl (.inr ⟨o, by unfold onlyAt seqOf; rw [if_pos rfl, z]⟩)
    · exact .inr z
  refine ⟨rfl, ⟨onlyAt H a, []⟩, [], [.s ns], ⟨fun b o q => (hF b o q).1, fun b o q => (hF b o q).2, rfl, fun k b o q => (by cases q), fun k b o q => (by cases q), List.nodup_nil, fun p hp => NdefX.TabN.nil (hT p hp)⟩, .cons ⟨a, rfl, hSF⟩ .nil, ?_⟩
  rw [e]
  intro W' v H' ex hr rv
  have rv : RepD K W'.F v (.bl true) := rv
  cases rv
  rfl
theorem cx_none {P : Program} {w : World} {H : Hp} {s : Shared} {e : Value} {s' : Shared} (h : L2.CX P w [] H s (fun _ _ _ => False) e s') : False := by
  obtain ⟨_, _, _, _, _, _, _, _, _, _, _, _, z⟩ := h
  exact z
theorem fd_same {K : PySem.W.Frag} {x x2 qual qual2 : PySem.Str} {params params2 : Arguments} {body body2 : List Stmt} {scope scope2 : Scope} {dvs dvs2 : List V} {kws kws2 : List (PySem.Str × V)} {f : Addr} {fd fd2 : FuncData} (F : FunD K x qual params body scope dvs kws f fd) (F2 : FunD K x2 qual2 params2 body2 scope2 dvs2 kws2 f fd2) : fd = fd2 := by
  obtain ⟨_, _, _, _, _, _, _, _, _, _, _, lk, _⟩ := F.ex
  obtain ⟨_, _, _, _, _, _, _, _, _, _, _, lk2, _⟩ := F2.ex
  rw [lk] at lk2
  cases lk2
  rfl
theorem tab_of_cs {H : Hp} {tl : List (Addr × PySem.Str)} {cs : List (Addr × Addr)} (e : tl.map (·.1) = cs.map (·.2)) (hH : ∀ p ∈ cs, H p.2 = some (.tbl #[])) : ∀ p ∈ tabsOf tl, H p.1 = some (.tbl #[]) := fun p hp => by
  obtain ⟨q, hq, rfl⟩ := List.mem_map.mp hp
  have m : q.1 ∈ cs.map (·.2) := by rw [← e]; exact List.mem_map.mpr ⟨q, hq, rfl⟩
  obtain ⟨z, hz, ez⟩ := List.mem_map.mp m
  show H q.1 = _
  rw [← ez]
  exact hH z hz
end Dn
end
section
set_option Elab.async false
set_option linter.all false
set_option maxRecDepth 100000
set_option maxHeartbeats 4000000
/-! Dn24: plain: loops; the numbers of a script; draws. -/
namespace Dn
open PySem PySem.Spec PyProof.Rows L2

/-- a loop over L, as a walk that gives L's items whatever the heap; P holds at each turn; it may break off into B -/
theorem fGo_list {wk : Wk} {t : MT} {fb : SF} {L : List Vx} {P : Nat → DEnv → DH → Prop} {B : DEnv → DH → Prop} (hL : ∀ i h, wk.item i h = some L[i]?)
    (step : ∀ (i : Nat) (y : Vx) (ρ : DEnv) (h : DH), L[i]? = some y → P i ρ h → ∃ ρ1, asg t y ρ = some ρ1 ∧ ∃ ρ2 h2, (fb ρ1 h = .ok (.nx, ρ2) h2 ∧ P (i + 1) ρ2 h2) ∨ (fb ρ1 h = .ok (.ct, ρ2) h2 ∧ P (i + 1) ρ2 h2) ∨ (fb ρ1 h = .ok (.bk, ρ2) h2 ∧ B ρ2 h2)) :
    ∀ (n i : Nat) (ρ : DEnv) (h : DH), L.length < i + n → i ≤ L.length → P i ρ h → ∃ ρ2 h2, fGo wk t fb n i ρ h = .ok (.nx, ρ2) h2 ∧ (P L.length ρ2 h2 ∨ B ρ2 h2)
  | 0, i, ρ, h, hn, hi, p => by omega
  | n + 1, i, ρ, h, hn, hi, p => by
    unfold fGo
    rw [hL i h]
    by_cases hlt : i < L.length
    · have e : L[i]? = some L[i] := List.getElem?_eq_getElem hlt
      rw [e]
      obtain ⟨ρ1, ea, ρ2, h2, q⟩ := step i _ ρ h e p
      simp only [ea]
      rcases q with ⟨eb, q⟩ | ⟨eb, q⟩ | ⟨eb, q⟩
      · obtain ⟨ρ3, h3, e3, q3⟩ := fGo_list hL step n (i + 1) ρ2 h2 (by omega) hlt q
        exact ⟨ρ3, h3, by unfold bnd; rw [eb]; exact e3, q3⟩
      · obtain ⟨ρ3, h3, e3, q3⟩ := fGo_list hL step n (i + 1) ρ2 h2 (by omega) hlt q
        exact ⟨ρ3, h3, by unfold bnd; rw [eb]; exact e3, q3⟩
      · exact ⟨ρ2, h2, by unfold bnd; rw [eb], .inr q⟩
    · have e : i = L.length := by omega
      subst e
      rw [List.getElem?_eq_none (Nat.le_refl _)]
      exact ⟨ρ, h, rfl, .inl p⟩
theorem item_ds (l : List Dt) (i : Nat) (h : DH) : (Wk.s (.ds l)).item i h = some (l.map Vx.d)[i]? := by
  show some (match l[i]? with | some x => some (Vx.d x) | none => none) = _
  rw [List.getElem?_map]
  cases l[i]? <;> rfl
theorem item_rg (lo : Int) (n : Nat) (i : Nat) (h : DH) : (Wk.rg lo n).item i h = some ((List.range n).map fun j => Vx.d (.int (lo + (j : Nat))))[i]? := by
  show some (if i < n then some (Vx.d (.int (lo + i))) else none) = _
  rw [List.getElem?_map]
  by_cases hi : i < n
  · rw [if_pos hi, List.getElem?_range hi]; rfl
  · rw [if_neg hi, List.getElem?_eq_none (by simpa using hi)]; rfl
/-! ### the numbers of a script -/
def nB1 : SF := sCons (sIf (tTst (eBin dEq (eVar 3) (eC (.int 0)))) (sCons sBk sNil) sNil) (sCons (sExpr (eMt .list mAppend (eVar 1) (aCons (eBin dMod (eCall bInt (aCons (eVar 3) aNil)) (eC (.int 997))) aNil))) (sCons (sSet (.nm 3) (eBin dFdiv (eVar 3) (eC (.int 997)))) sNil))
def nB2 : SF := sCons (sSet (.nm 5) (eBin dMod (eCall bInt (aCons (eBin dAdd (eBin dAdd (eBin dMul (eVar 2) (eC (.int 48271))) (eBin dMul (eVar 4) (eC (.int 69621)))) (eC (.int 11))) aNil)) (eC (.int 2147483647)))) (sCons (sExpr (eMt .list mAppend (eVar 1) (aCons (eBin dMod (eCall bInt (aCons (eBin dAdd (eBin dMul (eVar 5) (eC (.int 16807))) (eVar 4)) aNil)) (eC (.int 2147483629))) aNil))) sNil)
def nB : SF := sCons (sIf (tTst (eBin dGe (eVar 2) (eBin dPow (eC (.int 10)) (eC (.int 18))))) (sCons (sSet (.nm 3) (eVar 2)) (sCons (sFor (wRng1 (aCons (eC (.int 60)) aNil)) (.nm 4) nB1) sNil)) (sCons (sFor (wRng1 (aCons (eC (.int 4)) aNil)) (.nm 4) nB2) sNil)) sNil
def numbersB : SF := sCons (sSet (.nm 1) (eNew aNil)) (sCons (sFor (wVal (eSl (eVar 0) oNone (oSome (eC (.int 63))))) (.nm 2) nB) (sCons (sIf (tTst (eBin dEq (eCall bLen (aCons (eVar 1) aNil)) (eC (.int 0)))) (sCons (sExpr (eMt .list mAppend (eVar 1) (aCons (eC (.int 0)) aNil))) sNil) sNil) (sCons (sRet (eVar 1)) sNil)))
def numbersM : List Vx → Mo Vx := fun ys => fnM 6 numbersB ys
def zL (rs : List Int) : List Vx := rs.map fun r => Vx.d (.int r)
theorem zL_len (rs : List Int) : (zL rs).length = rs.length := List.length_map ..
theorem zL_app (rs : List Int) (r : Int) : zL rs ++ [Vx.d (.int r)] = zL (rs ++ [r]) := by simp [zL]
def NSt (s : Option Vx) (k : Nat) (ρ : DEnv) (h : DH) : Prop := ∃ (x2 x3 x4 x5 : Option Vx) (rs : List Int), ρ = [s, some (.r 0), x2, x3, x4, x5] ∧ h = [.lst (zL rs)] ∧ rs.length ≤ k
theorem mul_c (i j : Int) (h : j.natAbs < 18446744073709551616) : mulOk i j = true := by
  unfold mulOk
  rw [decide_eq_true h]
  simp
theorem mul_d (i j : Int) (h : i.natAbs < 18446744073709551616) : mulOk i j = true := by
  unfold mulOk
  rw [decide_eq_true h]
  simp
theorem app_z (rs : List Int) (r : Int) (hl : rs.length < 16777216) : mAppend (.r 0) [.d (.int r)] [.lst (zL rs)] = .ok (.d .non) [.lst (zL (rs ++ [r]))] := by
  have h2 : (zL rs).length < 16777216 := by rw [zL_len]; exact hl
  show (if (zL rs).length < 16777216 then _ else _) = _
  rw [if_pos h2, ← zL_app]
  rfl
theorem fdiv_c (i j : Int) (h : DH) (hc : 0 < j ∧ j.natAbs.log2 < 9000) : dFdiv (.d (.int i)) (.d (.int j)) h = .ok (.d (.int (i / j))) h := if_pos hc
theorem mod_c (i j : Int) (h : DH) (hc : 0 < j) : dMod (.d (.int i)) (.d (.int j)) h = .ok (.d (.int (i % j))) h := if_pos hc
theorem mul_r (i j : Int) (h : DH) (hc : j.natAbs < 18446744073709551616) : dMul (.d (.int i)) (.d (.int j)) h = .ok (.d (.int (i * j))) h := if_pos (mul_c i j hc)
theorem pow_c (i j : Int) (h : DH) (hc : 0 ≤ j ∧ j ≤ 1000 ∧ i.natAbs < 1000000) : dPow (.d (.int i)) (.d (.int j)) h = .ok (.d (.int (i ^ j.toNat))) h := if_pos hc
theorem bnd_ok {α β : Type} {m : Mo α} {k : α → Mo β} {a : α} {h h' : DH} (e : m h = .ok a h') : bnd m k h = k a h' := by
  unfold bnd; rw [e]
theorem nB1_run (s x2 x5 : Option Vx) (l k : Int) (rs : List Int) (hl : rs.length < 16777216) :
    nB1 [s, some (.r 0), x2, some (.d (.int l)), some (.d (.int k)), x5] [.lst (zL rs)] = if l = 0 then .ok (.bk, [s, some (.r 0), x2, some (.d (.int l)), some (.d (.int k)), x5]) [.lst (zL rs)]
      else .ok (.nx, [s, some (.r 0), x2, some (.d (.int (l / 997))), some (.d (.int k)), x5]) [.lst (zL (rs ++ [l % 997]))] := by
  by_cases h0 : l = 0
  · rw [if_pos h0]
    subst h0
    rfl
  · rw [if_neg h0]
    have e : deq (.int l) (.int 0) = false := by
      show decide (l = 0) = false
      exact decide_eq_false h0
    have e1 := app_z rs (l % 997) hl
    have e2 := fun h => fdiv_c l 997 h ⟨by decide, by decide +kernel⟩
    simp [nB1, sCons, sIf, tTst, eBin, bnd, ret, eVar, eC, dEq, asD, dep, e, isBl, sNil, sExpr, eMt, tyD, asL, aCons, aNil, eCall, bInt, mod_c, e1, sSet, e2, asg]
theorem nB2_run (s x3 x5 : Option Vx) (a k : Int) (rs : List Int) (hl : rs.length < 16777216) :
    ∃ r1 r2 : Int, nB2 [s, some (.r 0), some (.d (.int a)), x3, some (.d (.int k)), x5] [.lst (zL rs)] = .ok (.nx, [s, some (.r 0), some (.d (.int a)), x3, some (.d (.int k)), some (.d (.int r1))]) [.lst (zL (rs ++ [r2]))] := by
  refine ⟨(a * 48271 + k * 69621 + 11) % 2147483647, ((a * 48271 + k * 69621 + 11) % 2147483647 * 16807 + k) % 2147483629, ?_⟩
  have e1 := app_z rs (((a * 48271 + k * 69621 + 11) % 2147483647 * 16807 + k) % 2147483629) hl
  simp [nB2, sCons, eBin, bnd, ret, eVar, eC, sNil, sExpr, eMt, tyD, asL, aCons, aNil, eCall, bInt, mod_c, mul_r, dAdd, e1, sSet, asg]
theorem rg_item (lo : Int) (n i : Nat) (y : Vx) (e : ((List.range n).map fun j => Vx.d (.int (lo + (j : Nat))))[i]? = some y) : ∃ k : Int, y = .d (.int k) := by
  rw [List.getElem?_map] at e
  cases e2 : (List.range n)[i]? with
  | none => rw [e2] at e; cases e
  | some j => rw [e2] at e; exact ⟨_, (Option.some.inj e).symm⟩
theorem nB_run (s x3 x4 x5 : Option Vx) (a : Int) (rs : List Int) (hl : rs.length + 60 < 16777216) :
    ∃ (y3 y4 y5 : Option Vx) (rs' : List Int), nB [s, some (.r 0), some (.d (.int a)), x3, x4, x5] [.lst (zL rs)] = .ok (.nx, [s, some (.r 0), some (.d (.int a)), y3, y4, y5]) [.lst (zL rs')] ∧ rs'.length ≤ rs.length + 60 := by
  have hp : (10 : Int) ^ (18 : Int).toNat = 1000000000000000000 := rfl
  by_cases hc : 1000000000000000000 ≤ a
  · have L := fGo_list (wk := .rg 0 60) (t := .nm 4) (fb := nB1) (L := (List.range 60).map fun j => Vx.d (.int (0 + (j : Nat)))) (item_rg 0 60)
      (P := fun i ρ h => ∃ (l : Int) (x4 : Option Vx) (rs' : List Int), ρ = [s, some (.r 0), some (.d (.int a)), some (.d (.int l)), x4, x5] ∧ h = [.lst (zL rs')] ∧ rs'.length = rs.length + i)
      (B := fun ρ h => ∃ (l : Int) (x4 : Option Vx) (rs' : List Int), ρ = [s, some (.r 0), some (.d (.int a)), some (.d (.int l)), x4, x5] ∧ h = [.lst (zL rs')] ∧ rs'.length ≤ rs.length + 60)
      (by
        rintro i y ρ h ey ⟨l, x4, rs', rfl, rfl, hr⟩
        obtain ⟨k, rfl⟩ := rg_item _ _ _ _ ey
        have hi : i < 60 := by
          rw [List.getElem?_eq_some_iff] at ey
          obtain ⟨q, _⟩ := ey
          simpa using q
        have := nB1_run s (some (.d (.int a))) x5 l k rs' (by omega)
        refine ⟨_, rfl, ?_⟩
        by_cases h0 : l = 0
        · rw [if_pos h0] at this
          exact ⟨_, _, .inr (.inr ⟨this, _, _, _, rfl, rfl, by omega⟩)⟩
        · rw [if_neg h0] at this
          exact ⟨_, _, .inl ⟨this, _, _, _, rfl, rfl, by simp; omega⟩⟩)
    obtain ⟨ρ2, h2, e, q⟩ := L 61 0 [s, some (.r 0), some (.d (.int a)), some (.d (.int a)), x4, x5] [.lst (zL rs)] (by simp) (by simp) ⟨_, _, _, rfl, rfl, rfl⟩
    have q : ∃ (l : Int) (x4 : Option Vx) (rs' : List Int), ρ2 = [s, some (.r 0), some (.d (.int a)), some (.d (.int l)), x4, x5] ∧ h2 = [.lst (zL rs')] ∧ rs'.length ≤ rs.length + 60 := by
      rcases q with ⟨l, x4, rs', q1, q2, q3⟩ | q
      · exact ⟨l, x4, rs', q1, q2, by simp at q3; omega⟩
      · exact q
    obtain ⟨l, x4', rs', rfl, rfl, q3⟩ := q
    refine ⟨some (.d (.int l)), x4', x5, rs', ?_, q3⟩
    simp [nB, sCons, sIf, tTst, eBin, bnd, ret, eVar, eC, dGe, pow_c, hp, hc, isBl, sNil, sSet, asg, sFor, wRng1, aCons, aNil, Wk.len]
    rw [e]
  · have L := fGo_list (wk := .rg 0 4) (t := .nm 4) (fb := nB2) (L := (List.range 4).map fun j => Vx.d (.int (0 + (j : Nat)))) (item_rg 0 4)
      (P := fun i ρ h => ∃ (x4 x5 : Option Vx) (rs' : List Int), ρ = [s, some (.r 0), some (.d (.int a)), x3, x4, x5] ∧ h = [.lst (zL rs')] ∧ rs'.length = rs.length + i)
      (B := fun ρ h => False)
      (by
        rintro i y ρ h ey ⟨x4, x5, rs', rfl, rfl, hr⟩
        obtain ⟨k, rfl⟩ := rg_item _ _ _ _ ey
        have hi : i < 4 := by
          rw [List.getElem?_eq_some_iff] at ey
          obtain ⟨q, _⟩ := ey
          simpa using q
        obtain ⟨r1, r2, this⟩ := nB2_run s x3 x5 a k rs' (by omega)
        exact ⟨_, rfl, _, _, .inl ⟨this, _, _, _, rfl, rfl, by simp; omega⟩⟩)
    obtain ⟨ρ2, h2, e, q⟩ := L 5 0 [s, some (.r 0), some (.d (.int a)), x3, x4, x5] [.lst (zL rs)] (by simp) (by simp) ⟨_, _, _, rfl, rfl, rfl⟩
    rcases q with ⟨x4', x5', rs', rfl, rfl, q3⟩ | q
    · refine ⟨x3, x4', x5', rs', ?_, by simp at q3; omega⟩
      simp [nB, sCons, sIf, tTst, eBin, bnd, ret, eVar, eC, dGe, pow_c, hp, hc, isBl, sNil, sFor, wRng1, aCons, aNil, Wk.len]
      rw [e]
    · exact q.elim
theorem cut63 (ns : List Int) (h : ns.length ≤ 63) : cutD ns none (some 63) = ns := by
  apply cutD_whole
  constructor
  · simp [HT.sIx]
  · simp [HT.sIx]; omega
theorem intL_item (ns : List Int) (i : Nat) (y : Vx) (e : ((ns.map Dt.int).map Vx.d)[i]? = some y) : ∃ a : Int, y = .d (.int a) := by
  rw [List.getElem?_map, List.getElem?_map] at e
  cases e2 : ns[i]? with
  | none => rw [e2] at e; cases e
  | some j => rw [e2] at e; exact ⟨_, (Option.some.inj e).symm⟩
theorem numbers_run (ns : List Int) (hn : ns.length ≤ 63) : ∃ rs : List Int, numbersM [.s ns] [] = .ok (.r 0) [.lst (zL rs)] ∧ rs ≠ [] ∧ rs.length ≤ 3780 := by
  have L := fGo_list (wk := .s (.ds (ns.map Dt.int))) (t := .nm 2) (fb := nB) (L := (ns.map Dt.int).map Vx.d) (item_ds _)
    (P := fun i ρ h => ∃ (x2 x3 x4 x5 : Option Vx) (rs' : List Int), ρ = [some (.s ns), some (.r 0), x2, x3, x4, x5] ∧ h = [.lst (zL rs')] ∧ rs'.length ≤ 60 * i)
    (B := fun ρ h => False)
    (by
      rintro i y ρ h ey ⟨x2, x3, x4, x5, rs', rfl, rfl, hr⟩
      obtain ⟨a, rfl⟩ := intL_item _ _ _ ey
      have hi : i < ns.length := by
        rw [List.getElem?_eq_some_iff] at ey
        obtain ⟨q, _⟩ := ey
        simpa using q
      obtain ⟨y3, y4, y5, rs2, e, q⟩ := nB_run (some (.s ns)) x3 x4 x5 a rs' (by omega)
      exact ⟨_, rfl, _, _, .inl ⟨e, _, _, _, _, _, rfl, rfl, by omega⟩⟩)
  obtain ⟨ρ2, h2, e, q⟩ := L (ns.length + 1) 0 [some (.s ns), some (.r 0), none, none, none, none] [.lst (zL [])] (by simp) (by simp) ⟨_, _, _, _, _, rfl, rfl, by simp⟩
  rcases q with ⟨x2, x3, x4, x5, rs', rfl, rfl, hr⟩ | q
  · have hr : rs'.length ≤ 3780 := by simp at hr; omega
    have e0 : numbersM [.s ns] [] = bnd (sCons (sIf (tTst (eBin dEq (eCall bLen (aCons (eVar 1) aNil)) (eC (.int 0)))) (sCons (sExpr (eMt .list mAppend (eVar 1) (aCons (eC (.int 0)) aNil))) sNil) sNil) (sCons (sRet (eVar 1)) sNil) [some (.s ns), some (.r 0), x2, x3, x4, x5]) bodyEnd [.lst (zL rs')] := by
      have e' : fGo (.s (.ds (ns.map Dt.int))) (.nm 2) nB (ns.length + 1) 0 [some (.s ns), some (.r 0), none, none, none, none] [.lst []] = _ := e
      simp [numbersM, fnM, numbersB, start0, sCons, sSet, eNew, aNil, bnd, ret, asg, sFor, wVal, eSl, eVar, oNone, oSome, eC, dSl, cut63 ns hn, srcOf, Src.item, Wk.len, Src.len, e']
    rw [e0]
    by_cases hz : rs' = []
    · subst hz
      exact ⟨[0], rfl, by simp, by simp⟩
    · refine ⟨rs', ?_, hz, hr⟩
      have hz : ¬ rs'.length = 0 := by simpa using hz
      have eq : deq (.int (rs'.length : Int)) (.int 0) = false := by
        show decide ((rs'.length : Int) = 0) = false
        exact decide_eq_false (by omega)
      simp [sCons, sIf, tTst, eBin, eCall, bLen, aCons, eVar, aNil, ret, bnd, eC, dEq, asD, dep, isBl, sNil, sRet, bodyEnd, asL, zL_len, eq]
  · exact q.elim
end Dn
end
section
set_option Elab.async false
set_option linter.all false
set_option maxRecDepth 100000
set_option maxHeartbeats 4000000
/-! Dn25: plain: draws and takes from a row. -/
namespace Dn
open PySem PySem.Spec PyProof.Rows L2
theorem reifyL_z (ex : Nat → Bool) (h : DH) (n : Nat) : ∀ rs : List Int, reifyL (reify ex h n) (zL rs) = some (rs.map Dt.int)
  | [] => rfl
  | r :: rs => by
    show (match reify ex h n (.d (.int r)), reifyL (reify ex h n) (zL rs) with | some d, some ds => some (d :: ds) | _, _ => none) = _
    rw [reifyL_z ex h n rs]
    cases n <;> rfl
/-- the numbers, as the caller gets them -/
theorem numbers_call (ns : List Int) (hn : ns.length ≤ 63) : ∃ rs : List Int, (∀ h, callM [false] numbersM [.s ns] h = .ok (.d (.lst (rs.map Dt.int))) h) ∧ rs ≠ [] ∧ rs.length ≤ 3780 := by
  obtain ⟨rs, e, h0, h1⟩ := numbers_run ns hn
  refine ⟨rs, fun h => ?_, h0, h1⟩
  show back false none h (numbersM [.s ns] []) = _
  rw [e]
  simp [back, reify, reifyL_z, putBack]
def drawB : SF := sCons (sIf (tTst (eBin dLt (eVar 1) (eCall bLen (aCons (eVar 0) aNil)))) (sCons (sRet (eBin dMod (eCall bInt (aCons (eBin dIx (eVar 0) (eVar 1)) aNil)) (eVar 2))) sNil) sNil) (sCons (sSet (.nm 3) (eBin dMod (eCall bInt (aCons (eBin dAdd (eBin dAdd (eBin dMul (eBin dIx (eVar 0) (eBin dMod (eCall bInt (aCons (eVar 1) aNil)) (eCall bLen (aCons (eVar 0) aNil)))) (eC (.int 40692))) (eBin dMul (eVar 1) (eC (.int 7919)))) (eC (.int 3))) aNil)) (eC (.int 2147483399)))) (sCons (sRet (eBin dMod (eCall bInt (aCons (eBin dMod (eCall bInt (aCons (eBin dAdd (eBin dMul (eVar 3) (eC (.int 48271))) (eVar 1)) aNil)) (eC (.int 2147483647))) aNil)) (eVar 2))) sNil))
def drawM : List Vx → Mo Vx := fun ys => fnM 4 drawB ys
def takeB : SF := sCons (sPut (eVar 1) (eC (.int 0)) (eBin dAdd (eBin dIx (eVar 1) (eC (.int 0))) (eC (.int 1))) dPut) (sCons (sRet (eCall (fun ys => callM [false, false, false] drawM (ys ++ ([] : List Dt).map Vx.d)) (aCons (eVar 0) (aCons (eBin dSub (eBin dIx (eVar 1) (eC (.int 0))) (eC (.int 1))) (aCons (eVar 2) aNil))))) sNil)
def takeM : List Vx → Mo Vx := fun ys => fnM 3 takeB ys
theorem ix_row (rs : List Int) (i : Int) (h : DH) (h0 : 0 ≤ i) (h1 : i < rs.length) : ∃ r, dIx (.d (.lst (rs.map Dt.int))) (.d (.int i)) h = .ok (.d (.int r)) h := by
  obtain ⟨n, rfl⟩ := Int.eq_ofNat_of_zero_le h0
  have hn : n < rs.length := by omega
  refine ⟨rs[n], ?_⟩
  have e : ((rs.map Dt.int).map Vx.d)[n]? = some (.d (.int rs[n])) := by simp [hn]
  have e2 : atI ((rs.map Dt.int).map Vx.d) (n : Int) = some (.d (.int rs[n])) := by
    unfold atI ixN
    simp [hn]
  show (match atI ((rs.map Dt.int).map Vx.d) (n : Int) with | some y => (Rz.ok y h : Rz Vx) | none => Rz.stk) = _
  rw [e2]
theorem add_i (i j : Int) (h : DH) : dAdd (.d (.int i)) (.d (.int j)) h = .ok (.d (.int (i + j))) h := rfl
theorem draw_run (rs : List Int) (hr : rs ≠ []) (at' lim : Int) (ha : 0 ≤ at') (hl : 0 < lim) (h : DH) : ∃ p, drawM [.d (.lst (rs.map Dt.int)), .d (.int at'), .d (.int lim)] h = .ok (.d (.int p)) h ∧ 0 ≤ p ∧ p < lim := by
  have hz : 0 < rs.length := List.length_pos_iff.2 hr
  by_cases hc : at' < rs.length
  · obtain ⟨r, e⟩ := ix_row rs at' h ha hc
    refine ⟨r % lim, ?_, Int.emod_nonneg _ (by omega), Int.emod_lt_of_pos _ hl⟩
    simp [drawM, drawB, fnM, start0, sCons, sIf, tTst, eBin, bnd, ret, eVar, eC, dLt, isBl, eCall, bLen, aCons, aNil, asL, hc, sRet, bInt, bodyEnd, e, mod_c, hl]
  · obtain ⟨r, e⟩ := ix_row rs (at' % rs.length) h (Int.emod_nonneg _ (by omega)) (Int.emod_lt_of_pos _ (by omega))
    refine ⟨((((r * 40692 + at' * 7919 + 3) % 2147483399) * 48271 + at') % 2147483647) % lim, ?_, Int.emod_nonneg _ (by omega), Int.emod_lt_of_pos _ hl⟩
    have em := mod_c at' rs.length h (by omega)
    simp [drawM, drawB, fnM, start0, sCons, sIf, tTst, eBin, bnd, ret, eVar, eC, dLt, isBl, eCall, bLen, aCons, aNil, asL, hc, sRet, bInt, bodyEnd, e, mod_c, hl, em, mul_r, add_i, sNil, sSet, asg]
theorem draw_call (rs : List Int) (hr : rs ≠ []) (at' lim : Int) (ha : 0 ≤ at') (hl : 0 < lim) (h : DH) : ∃ p, callM [false, false, false] drawM [.d (.lst (rs.map Dt.int)), .d (.int at'), .d (.int lim)] h = .ok (.d (.int p)) h ∧ 0 ≤ p ∧ p < lim := by
  obtain ⟨p, e, q⟩ := draw_run rs hr at' lim ha hl []
  refine ⟨p, ?_, q⟩
  show back false none h (drawM [.d (.lst (rs.map Dt.int)), .d (.int at'), .d (.int lim)] []) = _
  rw [e]
  rfl
/-- a draw from a row, the spot k moved on -/
theorem take_call (rs : List Int) (hr : rs ≠ []) (k : Nat) (n lim : Int) (hn : 0 ≤ n) (hl : 0 < lim) (h : DH) (hk : h[k]? = some (.lst [.d (.int n)])) :
    ∃ p, callM [false, true, false] takeM [.d (.lst (rs.map Dt.int)), .r k, .d (.int lim)] h = .ok (.d (.int p)) (h.set k (.lst [.d (.int (n + 1))])) ∧ 0 ≤ p ∧ p < lim := by
  obtain ⟨p, e, q⟩ := draw_call rs hr n lim hn hl [.lst [.d (.int (n + 1))]]
  refine ⟨p, ?_, q⟩
  have et : takeM [.d (.lst (rs.map Dt.int)), .r 0, .d (.int lim)] [.lst [.d (.int n)]] = .ok (.d (.int p)) [.lst [.d (.int (n + 1))]] := by
    simp [takeM, takeB, fnM, start0, sCons, sPut, eBin, bnd, ret, eVar, eC, eCall, aCons, aNil, asL, sRet, bodyEnd, dIx, atI, ixN, dAdd, dPut, dSub, e]
  simp [callM, passed, subOf, hk, plains, prep, lent, et, back, reify, putBack, noLsts, noLst]
end Dn
end
section
set_option Elab.async false
set_option linter.all false
set_option maxRecDepth 100000
set_option maxHeartbeats 4000000
/-! Dn26: plain: a piece of code looks at some slots only, and changes some slots only. -/
namespace Dn
open PySem PySem.Spec PyProof.Rows L2
def Sim (R : List Nat) (a b : DEnv) : Prop := ∀ i ∈ R, a[i]? = b[i]?
def Rd {α : Type} (R : List Nat) (f : DEnv → α) : Prop := ∀ a b, Sim R a b → f a = f b
section
variable {R : List Nat} {fa fb fc : DEnv → Mo Vx} {fs fr : DEnv → Mo (List Vx)} {ft fu : DEnv → Mo Bool}
theorem rd_var {i : Nat} (h : i ∈ R) : Rd R (eVar i) := fun a b s => by unfold eVar; rw [s i h]
theorem rd_c {d : Dt} : Rd R (eC d) := fun a b s => rfl
theorem rd_bin {dop : Vx → Vx → Mo Vx} (ha : Rd R fa) (hb : Rd R fb) : Rd R (eBin dop fa fb) := fun a b s => by unfold eBin; rw [ha a b s, hb a b s]
theorem rd_un {dop : Vx → Mo Vx} (ha : Rd R fa) : Rd R (eUn dop fa) := fun a b s => by unfold eUn; rw [ha a b s]
theorem rd_call {dop : List Vx → Mo Vx} (ha : Rd R fs) : Rd R (eCall dop fs) := fun a b s => by unfold eCall; rw [ha a b s]
theorem rd_mt {T : Ty} {dop : Vx → List Vx → Mo Vx} (ha : Rd R fa) (hb : Rd R fs) : Rd R (eMt T dop fa fs) := fun a b s => by unfold eMt; rw [ha a b s, hb a b s]
theorem rd_nil : Rd R aNil := fun a b s => rfl
theorem rd_cons (ha : Rd R fa) (hb : Rd R fs) : Rd R (aCons fa fs) := fun a b s => by unfold aCons; rw [ha a b s, hb a b s]
theorem rd_tup (ha : Rd R fs) : Rd R (eTup fs) := fun a b s => by unfold eTup; rw [ha a b s]
theorem rd_lst (ha : Rd R fs) : Rd R (eLst fs) := fun a b s => by unfold eLst; rw [ha a b s]
theorem rd_new (ha : Rd R fs) : Rd R (eNew fs) := fun a b s => by unfold eNew; rw [ha a b s]
theorem rd_if (ht : Rd R ft) (ha : Rd R fa) (hb : Rd R fb) : Rd R (eIf ft fa fb) := fun a b s => by unfold eIf; rw [ht a b s, ha a b s, hb a b s]
theorem rd_and (ha : Rd R fa) (hb : Rd R fb) : Rd R (eAnd fa fb) := fun a b s => by unfold eAnd; rw [ha a b s, hb a b s]
theorem rd_or (ha : Rd R fa) (hb : Rd R fb) : Rd R (eOr fa fb) := fun a b s => by unfold eOr; rw [ha a b s, hb a b s]
theorem rd_not (ha : Rd R fa) : Rd R (eNot fa) := fun a b s => by unfold eNot; rw [ha a b s]
theorem rd_isi {cs : List Tn} (ha : Rd R fa) : Rd R (eIsi cs fa) := fun a b s => by unfold eIsi; rw [ha a b s]
theorem rd_chain {d1 d2 : Vx → Vx → Mo Vx} (ha : Rd R fa) (hb : Rd R fb) (hc : Rd R fc) : Rd R (eChain d1 d2 fa fb fc) := fun a b s => by unfold eChain; rw [ha a b s, hb a b s, hc a b s]
theorem rd_tst (ha : Rd R fa) : Rd R (tTst fa) := fun a b s => by unfold tTst; rw [ha a b s]
theorem rd_val (ha : Rd R fa) : Rd R (tVal fa) := fun a b s => by unfold tVal; rw [ha a b s]
theorem rd_notD (ha : Rd R ft) : Rd R (tNotD ft) := fun a b s => by unfold tNotD; rw [ha a b s]
theorem rd_andD (ha : Rd R ft) (hb : Rd R fu) : Rd R (tAndD ft fu) := fun a b s => by unfold tAndD; rw [ha a b s, hb a b s]
theorem rd_orD (ha : Rd R ft) (hb : Rd R fu) : Rd R (tOrD ft fu) := fun a b s => by unfold tOrD; rw [ha a b s, hb a b s]
theorem rd_told {nms : List (List Nat)} (ha : Rd R fa) : Rd R (eTold nms fa) := fun a b s => by unfold eTold; rw [ha a b s]
theorem rd_sl {fl fh : DEnv → Mo (Option Int)} (ha : Rd R fa) (hb : Rd R fl) (hc : Rd R fh) : Rd R (eSl fa fl fh) := fun a b s => by unfold eSl; rw [ha a b s, hb a b s, hc a b s]
theorem rd_oN : Rd R oNone := fun a b s => rfl
theorem rd_oS (ha : Rd R fa) : Rd R (oSome fa) := fun a b s => by unfold oSome; rw [ha a b s]
end
/-- results alike: on a plain end the slots of R are alike, and the first differs from a in D only -/
def SRel (D R : List Nat) (a b : DEnv) : Rz (Out × DEnv) → Rz (Out × DEnv) → Prop
  | .ok (o, a1) h, .ok (o', b1) h' => o = o' ∧ h = h' ∧ (o = .nx → Sim R a1 b1 ∧ a1.length = a.length ∧ b1.length = b.length ∧ ∀ i, i ∉ D → a1[i]? = a[i]?)
  | .err c p h, .err c' p' h' => c = c' ∧ p = p' ∧ h = h'
  | .stk, .stk => True
  | _, _ => False
def SRd (D R R' : List Nat) (f : SF) : Prop := ∀ a b h, Sim R a b → a.length = b.length → SRel D R' a b (f a h) (f b h)
section
variable {D R R1 R2 : List Nat} {fa : DEnv → Mo Vx} {ft : DEnv → Mo Bool} {f1 f2 : SF}
theorem SRel.same {a b : DEnv} {o : Out} {h : DH} (s : o = .nx → Sim R a b) : SRel D R a b (.ok (o, a) h) (.ok (o, b) h) := ⟨rfl, rfl, fun e => ⟨s e, rfl, rfl, fun _ _ => rfl⟩⟩
theorem sr_nil : SRd D R R sNil := fun a b h s l => SRel.same fun _ => s
theorem sr_set {i : Nat} (ha : Rd R fa) (hd : i ∈ D) : SRd D R (i :: R) (sSet (.nm i) fa) := fun a b h s l => by
  unfold sSet bnd
  rw [ha a b s]
  cases fa b h with
  | stk => trivial
  | err c p h1 => exact ⟨rfl, rfl, rfl⟩
  | ok y h1 =>
    refine ⟨rfl, rfl, fun _ => ⟨fun j hj => ?_, List.length_set .., List.length_set .., fun j hj => ?_⟩⟩
    · rw [List.getElem?_set, List.getElem?_set]
      by_cases e : i = j
      · rw [if_pos e, if_pos e, l]
      · rw [if_neg e, if_neg e]
        exact s j ((List.mem_cons.1 hj).resolve_left fun q => e q.symm)
    · rw [List.getElem?_set_ne]
      intro e
      exact hj (e ▸ hd)
theorem sr_ret (ha : Rd R fa) : SRd D R R1 (sRet fa) := fun a b h s l => by
  unfold sRet bnd
  rw [ha a b s]
  cases fa b h with
  | stk => trivial
  | err c p h1 => exact ⟨rfl, rfl, rfl⟩
  | ok y h1 => exact SRel.same fun e => nomatch e
theorem sr_expr (ha : Rd R fa) : SRd D R R (sExpr fa) := fun a b h s l => by
  unfold sExpr bnd
  rw [ha a b s]
  cases fa b h with
  | stk => trivial
  | err c p h1 => exact ⟨rfl, rfl, rfl⟩
  | ok y h1 => exact SRel.same fun _ => s
theorem sr_if (ht : Rd R ft) (h1 : SRd D R R1 f1) (h2 : SRd D R R1 f2) : SRd D R R1 (sIf ft f1 f2) := fun a b h s l => by
  unfold sIf bnd
  rw [ht a b s]
  cases ft b h with
  | stk => trivial
  | err c p h1 => exact ⟨rfl, rfl, rfl⟩
  | ok y hh => cases y with
    | true => exact h1 a b hh s l
    | false => exact h2 a b hh s l
theorem sr_sub (h1 : SRd D R R1 f1) (q : ∀ i ∈ R2, i ∈ R1) : SRd D R R2 f1 := fun a b h s l => by
  have := h1 a b h s l
  revert this
  cases f1 a h with
  | stk => cases f1 b h with
    | stk => exact id
    | err _ _ _ => exact id
    | ok _ _ => exact id
  | err _ _ _ => cases f1 b h with
    | stk => exact id
    | err _ _ _ => exact id
    | ok _ _ => exact id
  | ok x _ => cases f1 b h with
    | stk => exact id
    | err _ _ _ => exact id
    | ok y _ => exact fun ⟨e1, e2, e3⟩ => ⟨e1, e2, fun e => ⟨fun i hi => (e3 e).1 i (q i hi), (e3 e).2⟩⟩
theorem sr_cons (h1 : SRd D R R1 f1) (h2 : SRd D R1 R2 f2) : SRd D R R2 (sCons f1 f2) := fun a b h s l => by
  have q := h1 a b h s l
  unfold sCons bnd
  revert q
  cases f1 a h with
  | stk => cases f1 b h with
    | stk => exact fun _ => trivial
    | err _ _ _ => exact False.elim
    | ok _ _ => exact False.elim
  | err _ _ _ => cases f1 b h with
    | stk => exact False.elim
    | err _ _ _ => exact id
    | ok _ _ => exact False.elim
  | ok x hx => cases f1 b h with
    | stk => exact False.elim
    | err _ _ _ => exact False.elim
    | ok y hy =>
      obtain ⟨o, a1⟩ := x
      obtain ⟨o', b1⟩ := y
      rintro ⟨rfl, rfl, e3⟩
      cases o with
      | nx =>
        obtain ⟨s1, l1, l2, k1⟩ := e3 rfl
        have q2 := h2 a1 b1 hx s1 (l1.trans (l.trans l2.symm))
        show SRel D R2 a b (f2 a1 hx) (f2 b1 hx)
        revert q2
        cases f2 a1 hx with
        | stk => cases f2 b1 hx with
          | stk => exact id
          | err _ _ _ => exact id
          | ok _ _ => exact id
        | err _ _ _ => cases f2 b1 hx with
          | stk => exact id
          | err _ _ _ => exact id
          | ok _ _ => exact id
        | ok x2 hx2 => cases f2 b1 hx with
          | stk => exact id
          | err _ _ _ => exact id
          | ok y2 hy2 => exact fun ⟨e1, e2, e4⟩ => ⟨e1, e2, fun e => ⟨(e4 e).1, (e4 e).2.1.trans l1, (e4 e).2.2.1.trans l2, fun i hi => ((e4 e).2.2.2 i hi).trans (k1 i hi)⟩⟩
      | bk => exact ⟨rfl, rfl, fun e => nomatch e⟩
      | ct => exact ⟨rfl, rfl, fun e => nomatch e⟩
      | rt _ => exact ⟨rfl, rfl, fun e => nomatch e⟩
/-- a run at b is a run at a -/
theorem SRd.run (hf : SRd D R R1 f1) {a b b1 : DEnv} {h h1 : DH} (s : Sim R a b) (l : a.length = b.length) (e : f1 b h = .ok (.nx, b1) h1) :
    ∃ a1, f1 a h = .ok (.nx, a1) h1 ∧ Sim R1 a1 b1 ∧ a1.length = a.length ∧ ∀ i, i ∉ D → a1[i]? = a[i]? := by
  have q := hf a b h s l
  rw [e] at q
  revert q
  cases f1 a h with
  | stk => exact False.elim
  | err _ _ _ => exact False.elim
  | ok x hx =>
    obtain ⟨o, a1⟩ := x
    rintro ⟨rfl, rfl, e3⟩
    exact ⟨a1, rfl, (e3 rfl).1, (e3 rfl).2.1, (e3 rfl).2.2.2⟩
end
/-- ends plainly with the heap as it was: one spot drawn once -/
def plain1 : Rz (Out × DEnv) → Bool
  | .ok (.nx, _) [.lst [.d (.int 1)]] => true
  | _ => false
theorem plain1_eq {r : Rz (Out × DEnv)} (h : plain1 r = true) : ∃ a, r = .ok (.nx, a) [.lst [.d (.int 1)]] := by
  unfold plain1 at h
  split at h
  · exact ⟨_, rfl⟩
  · cases h
theorem sIf_and {t1 t2 : DEnv → Mo Bool} {fa fb : SF} {a : DEnv} {h : DH} {b : Bool} (e : t1 a h = .ok b h) : sIf (tAndD t1 t2) fa fb a h = if b = true then sIf t2 fa fb a h else fb a h := by
  unfold sIf tAndD bnd
  rw [e]
  cases b <;> rfl
end Dn
end
section
set_option Elab.async false
set_option linter.all false
set_option maxRecDepth 100000
set_option maxHeartbeats 4000000
namespace Dn
open PySem PySem.Spec PyProof.Rows L2
def top (i : Nat) : Stmt := PySem.Challenge.pw_inkwright_k51_all_small_words.main.body.getD i (.Pass ⟨0, 0, 0, 0⟩)
def xsL : Exs := [("BadValue", "at"), ("BadText", "line"), ("TooFew", "step"), ("WrongKind", "step"), ("NoWord", "step"), ("NoPoint", "step"), ("TooMuch", "step")]
def tabL (K : PySem.W.Frag) : List (Addr × PySem.Str) := [((He.cT K ("law", none)).2, "law.<locals>.<lambda>")]
def csL (K : PySem.W.Frag) : List (Addr × Addr) := [He.cT K ("law", none)]
def g0 (K : PySem.W.Frag) : Gp := ⟨xsL, tabsOf (tabL K)⟩
def D_in_tuples : He.DefD := ⟨("in_tuples", none), "in_tuples", "in_tuples", defArgs (top 2), defBody (top 2), defScope (top 2), [], []⟩
def D_I_BadValue : He.DefD := ⟨("BadValue", some "__init__"), "__init__", "BadValue.__init__", defArgs (clsInit (top 5)), defBody (clsInit (top 5)), defScope (clsInit (top 5)), [], []⟩
def D_I_BadText : He.DefD := ⟨("BadText", some "__init__"), "__init__", "BadText.__init__", defArgs (clsInit (top 6)), defBody (clsInit (top 6)), defScope (clsInit (top 6)), [], []⟩
def D_I_TooFew : He.DefD := ⟨("TooFew", some "__init__"), "__init__", "TooFew.__init__", defArgs (clsInit (top 7)), defBody (clsInit (top 7)), defScope (clsInit (top 7)), [], []⟩
def D_I_WrongKind : He.DefD := ⟨("WrongKind", some "__init__"), "__init__", "WrongKind.__init__", defArgs (clsInit (top 8)), defBody (clsInit (top 8)), defScope (clsInit (top 8)), [], []⟩
def D_I_NoWord : He.DefD := ⟨("NoWord", some "__init__"), "__init__", "NoWord.__init__", defArgs (clsInit (top 9)), defBody (clsInit (top 9)), defScope (clsInit (top 9)), [], []⟩
def D_I_NoPoint : He.DefD := ⟨("NoPoint", some "__init__"), "__init__", "NoPoint.__init__", defArgs (clsInit (top 10)), defBody (clsInit (top 10)), defScope (clsInit (top 10)), [], []⟩
def D_I_TooMuch : He.DefD := ⟨("TooMuch", some "__init__"), "__init__", "TooMuch.__init__", defArgs (clsInit (top 11)), defBody (clsInit (top 11)), defScope (clsInit (top 11)), [], []⟩
def D_demand : He.DefD := ⟨("demand", none), "demand", "demand", defArgs (top 15), defBody (top 15), defScope (top 15), [], []⟩
def D_is_integer : He.DefD := ⟨("is_integer", none), "is_integer", "is_integer", defArgs (top 16), defBody (top 16), defScope (top 16), [], []⟩
def D_is_between : He.DefD := ⟨("is_between", none), "is_between", "is_between", defArgs (top 17), defBody (top 17), defScope (top 17), [], []⟩
def D_is_sequence : He.DefD := ⟨("is_sequence", none), "is_sequence", "is_sequence", defArgs (top 18), defBody (top 18), defScope (top 18), [], []⟩
def D_is_text : He.DefD := ⟨("is_text", none), "is_text", "is_text", defArgs (top 19), defBody (top 19), defScope (top 19), [], []⟩
def D_is_fraction : He.DefD := ⟨("is_fraction", none), "is_fraction", "is_fraction", defArgs (top 20), defBody (top 20), defScope (top 20), [.int 1000000000000], []⟩
def D_is_letters : He.DefD := ⟨("is_letters", none), "is_letters", "is_letters", defArgs (top 28), defBody (top 28), defScope (top 28), [], []⟩
def D_is_figures : He.DefD := ⟨("is_figures", none), "is_figures", "is_figures", defArgs (top 29), defBody (top 29), defScope (top 29), [], []⟩
def D_is_integer_word : He.DefD := ⟨("is_integer_word", none), "is_integer_word", "is_integer_word", defArgs (top 30), defBody (top 30), defScope (top 30), [], []⟩
def D_number_of : He.DefD := ⟨("number_of", none), "number_of", "number_of", defArgs (top 31), defBody (top 31), defScope (top 31), [], []⟩
def D_number_word : He.DefD := ⟨("number_word", none), "number_word", "number_word", defArgs (top 32), defBody (top 32), defScope (top 32), [], []⟩
def D_is_name : He.DefD := ⟨("is_name", none), "is_name", "is_name", defArgs (top 33), defBody (top 33), defScope (top 33), [], []⟩
def D_is_name_word : He.DefD := ⟨("is_name_word", none), "is_name_word", "is_name_word", defArgs (top 34), defBody (top 34), defScope (top 34), [], []⟩
def D_is_letter_word : He.DefD := ⟨("is_letter_word", none), "is_letter_word", "is_letter_word", defArgs (top 35), defBody (top 35), defScope (top 35), [], []⟩
def D_is_word : He.DefD := ⟨("is_word", none), "is_word", "is_word", defArgs (top 36), defBody (top 36), defScope (top 36), [], []⟩
def D_runs_of : He.DefD := ⟨("runs_of", none), "runs_of", "runs_of", defArgs (top 37), defBody (top 37), defScope (top 37), [], []⟩
def D_checked_words : He.DefD := ⟨("checked_words", none), "checked_words", "checked_words", defArgs (top 38), defBody (top 38), defScope (top 38), [], []⟩
def D_words : He.DefD := ⟨("words", none), "words", "words", defArgs (top 41), defBody (top 41), defScope (top 41), [], []⟩
def D_joined : He.DefD := ⟨("joined", none), "joined", "joined", defArgs (top 42), defBody (top 42), defScope (top 42), [], []⟩
def D_value_of : He.DefD := ⟨("value_of", none), "value_of", "value_of", defArgs (top 43), defBody (top 43), defScope (top 43), [], []⟩
def D_word_of : He.DefD := ⟨("word_of", none), "word_of", "word_of", defArgs (top 44), defBody (top 44), defScope (top 44), [], []⟩
def D_is_tree : He.DefD := ⟨("is_tree", none), "is_tree", "is_tree", defArgs (top 47), defBody (top 47), defScope (top 47), [.int 20], []⟩
def D_check_braces : He.DefD := ⟨("check_braces", none), "check_braces", "check_braces", defArgs (top 48), defBody (top 48), defScope (top 48), [], []⟩
def D_nested : He.DefD := ⟨("nested", none), "nested", "nested", defArgs (top 49), defBody (top 49), defScope (top 49), [], []⟩
def D_checked_tree : He.DefD := ⟨("checked_tree", none), "checked_tree", "checked_tree", defArgs (top 50), defBody (top 50), defScope (top 50), [], []⟩
def D_words_of : He.DefD := ⟨("words_of", none), "words_of", "words_of", defArgs (top 51), defBody (top 51), defScope (top 51), [], []⟩
def D_text_of : He.DefD := ⟨("text_of", none), "text_of", "text_of", defArgs (top 52), defBody (top 52), defScope (top 52), [], []⟩
def D_read : He.DefD := ⟨("read", none), "read", "read", defArgs (top 54), defBody (top 54), defScope (top 54), [], []⟩
def D_written : He.DefD := ⟨("written", none), "written", "written", defArgs (top 55), defBody (top 55), defScope (top 55), [], []⟩
def D__law_so : He.DefD := ⟨("_law_so", none), "_law_so", "_law_so", defArgs (top 57), defBody (top 57), defScope (top 57), [], []⟩
def D__law_numbers : He.DefD := ⟨("_law_numbers", none), "_law_numbers", "_law_numbers", defArgs (top 58), defBody (top 58), defScope (top 58), [], []⟩
def D__law_draw : He.DefD := ⟨("_law_draw", none), "_law_draw", "_law_draw", defArgs (top 59), defBody (top 59), defScope (top 59), [], []⟩
def D__law_take : He.DefD := ⟨("_law_take", none), "_law_take", "_law_take", defArgs (top 60), defBody (top 60), defScope (top 60), [], []⟩
def D__law_gcd : He.DefD := ⟨("_law_gcd", none), "_law_gcd", "_law_gcd", defArgs (top 61), defBody (top 61), defScope (top 61), [], []⟩
def D__law_same_told : He.DefD := ⟨("_law_same_told", none), "_law_same_told", "_law_same_told", defArgs (top 62), defBody (top 62), defScope (top 62), [], []⟩
def D__law_all_digits : He.DefD := ⟨("_law_all_digits", none), "_law_all_digits", "_law_all_digits", defArgs (top 63), defBody (top 63), defScope (top 63), [], []⟩
def D__law_red : He.DefD := ⟨("_law_red", none), "_law_red", "_law_red", defArgs (top 64), defBody (top 64), defScope (top 64), [], []⟩
def D__law_is_name : He.DefD := ⟨("_law_is_name", none), "_law_is_name", "_law_is_name", defArgs (top 65), defBody (top 65), defScope (top 65), [], []⟩
def D__law_whole_word : He.DefD := ⟨("_law_whole_word", none), "_law_whole_word", "_law_whole_word", defArgs (top 67), defBody (top 67), defScope (top 67), [], []⟩
def D__law_number_word : He.DefD := ⟨("_law_number_word", none), "_law_number_word", "_law_number_word", defArgs (top 68), defBody (top 68), defScope (top 68), [], []⟩
def D__law_is_low : He.DefD := ⟨("_law_is_low", none), "_law_is_low", "_law_is_low", defArgs (top 70), defBody (top 70), defScope (top 70), [], []⟩
def D__law_kind : He.DefD := ⟨("_law_kind", none), "_law_kind", "_law_kind", defArgs (top 69), defBody (top 69), defScope (top 69), [], []⟩
def D_law : He.DefD := ⟨("law", none), "law", "law", defArgs (top 71), defBody (top 71), defScope (top 71), [], []⟩
def D__law_told : He.DefD := ⟨("_law_told", none), "_law_told", "_law_told", defArgs (top 66), defBody (top 66), defScope (top 66), [], []⟩
def fns0 : List He.DefD := [D_in_tuples, D_I_BadValue, D_I_BadText, D_I_TooFew, D_I_WrongKind, D_I_NoWord, D_I_NoPoint, D_I_TooMuch, D_demand, D_is_integer, D_is_between, D_is_sequence]
def fns1 : List He.DefD := [D_is_text, D_is_fraction, D_is_letters, D_is_figures, D_is_integer_word, D_number_of, D_number_word, D_is_name, D_is_name_word, D_is_letter_word, D_is_word, D_runs_of]
def fns2 : List He.DefD := [D_checked_words, D_words, D_joined, D_value_of, D_word_of, D_is_tree, D_check_braces, D_nested, D_checked_tree, D_words_of, D_text_of, D_read]
def fns3 : List He.DefD := [D_written, D__law_so, D__law_numbers, D__law_draw, D__law_take, D__law_gcd, D__law_same_told, D__law_all_digits, D__law_red, D__law_is_name, D__law_whole_word, D__law_number_word]
def fns4 : List He.DefD := [D__law_is_low, D__law_kind, D_law, D__law_told]
def fns : List He.DefD := fns0 ++ fns1 ++ fns2 ++ fns3 ++ fns4
def fas0 : List He.Fa := [.free "isinstance", .free "list", .free "tuple", .glo "in_tuples", .glo "BadValue", .free "bool", .free "int", .glo "is_integer", .free "len", .free "str", .glo "is_between", .glo "is_sequence"]
def fas1 : List He.Fa := [.free "all", .glo "is_figures", .glo "is_integer_word", .glo "is_letters", .glo "is_name", .glo "is_letter_word", .glo "is_name_word", .glo "number_of", .free "enumerate", .glo "is_word", .glo "runs_of", .glo "BadText"]
def fas2 : List He.Fa := [.glo "checked_words", .glo "demand", .glo "is_text", .glo "is_fraction", .glo "number_word", .glo "is_tree", .glo "check_braces", .glo "nested", .glo "words_of", .glo "checked_tree", .glo "text_of", .free "range"]
def fas3 : List He.Fa := [.glo "_law_so", .glo "_law_draw", .glo "_law_gcd", .glo "_law_red", .glo "_law_all_digits", .glo "_law_whole_word", .glo "_law_is_low", .glo "_law_is_name", .glo "_law_number_word", .glo "_law_kind", .glo "_law_numbers", .glo "_law_same_told"]
def fas4 : List He.Fa := [.glo "_law_take", .glo "joined", .glo "read", .glo "value_of", .glo "word_of", .glo "words", .glo "written", .glo "_law_told", .glo "TooFew", .glo "WrongKind", .glo "NoWord", .glo "NoPoint"]
def fas5 : List He.Fa := [.glo "TooMuch", .glo "law"]
def fas : List He.Fa := fas0 ++ fas1 ++ fas2 ++ fas3 ++ fas4 ++ fas5
structure FX (K : PySem.W.Frag) : Prop where
  defs : ∀ {d : He.DefD}, d ∈ fns → ∃ fd, FunD K d.name d.qual d.params d.body d.scope (d.dvs K) (d.kws K) (He.fAd K d.at_) fd
  facts : ∀ {f : He.Fa}, f ∈ fas → f.ok K = true
  const_MOST_CHARACTERS : constB K "MOST_CHARACTERS" (.int 4000) = true
  const_LETTERS : constB K "LETTERS" (.str [97, 98, 99, 100, 101, 102, 103, 104, 105, 106, 107, 108, 109, 110, 111, 112, 113, 114, 115, 116, 117, 118, 119, 120, 121, 122]) = true
  const_FIGURES : constB K "FIGURES" (.str [48, 49, 50, 51, 52, 53, 54, 55, 56, 57]) = true
  const_MOST_FIGURES : constB K "MOST_FIGURES" (.int 9) = true
  const_GREATEST : constB K "GREATEST" (.int 999999999) = true
  const_MOST_LETTERS : constB K "MOST_LETTERS" (.int 8) = true
  const_BRACES : constB K "BRACES" (.tup [.str [123], .str [125]]) = true
  const_MOST_OF_WORD : constB K "MOST_OF_WORD" (.int 1000000000000000000000000000000) = true
  const_MOST_LEVELS : constB K "MOST_LEVELS" (.int 20) = true
  oex_BadValue : oexB K (He.ga K "BadValue") (He.ma K (He.ga K "BadValue") "__init__") "at" = true
  oex_BadText : oexB K (He.ga K "BadText") (He.ma K (He.ga K "BadText") "__init__") "line" = true
  oex_TooFew : oexB K (He.ga K "TooFew") (He.ma K (He.ga K "TooFew") "__init__") "step" = true
  oex_WrongKind : oexB K (He.ga K "WrongKind") (He.ma K (He.ga K "WrongKind") "__init__") "step" = true
  oex_NoWord : oexB K (He.ga K "NoWord") (He.ma K (He.ga K "NoWord") "__init__") "step" = true
  oex_NoPoint : oexB K (He.ga K "NoPoint") (He.ma K (He.ga K "NoPoint") "__init__") "step" = true
  oex_TooMuch : oexB K (He.ga K "TooMuch") (He.ma K (He.ga K "TooMuch") "__init__") "step" = true
  exm : exmB K xsL = true
  gcd : He.eqO (PySem.W.nsIn K mainGlobals "gcd") (some (some (.builtin "math.gcd"))) = true
def exK (K : PySem.W.Frag) : Bool := constB K "MOST_CHARACTERS" (.int 4000) && (constB K "LETTERS" (.str [97, 98, 99, 100, 101, 102, 103, 104, 105, 106, 107, 108, 109, 110, 111, 112, 113, 114, 115, 116, 117, 118, 119, 120, 121, 122]) && (constB K "FIGURES" (.str [48, 49, 50, 51, 52, 53, 54, 55, 56, 57]) && (constB K "MOST_FIGURES" (.int 9) && (constB K "GREATEST" (.int 999999999) && (constB K "MOST_LETTERS" (.int 8) && (constB K "BRACES" (.tup [.str [123], .str [125]]) && (constB K "MOST_OF_WORD" (.int 1000000000000000000000000000000) && (constB K "MOST_LEVELS" (.int 20) && (oexB K (He.ga K "BadValue") (He.ma K (He.ga K "BadValue") "__init__") "at" && (oexB K (He.ga K "BadText") (He.ma K (He.ga K "BadText") "__init__") "line" && (oexB K (He.ga K "TooFew") (He.ma K (He.ga K "TooFew") "__init__") "step" && (oexB K (He.ga K "WrongKind") (He.ma K (He.ga K "WrongKind") "__init__") "step" && (oexB K (He.ga K "NoWord") (He.ma K (He.ga K "NoWord") "__init__") "step" && (oexB K (He.ga K "NoPoint") (He.ma K (He.ga K "NoPoint") "__init__") "step" && (oexB K (He.ga K "TooMuch") (He.ma K (He.ga K "TooMuch") "__init__") "step" && (exmB K xsL && (He.eqO (PySem.W.nsIn K mainGlobals "gcd") (some (some (.builtin "math.gcd"))))))))))))))))))))
theorem fx_mk {K : PySem.W.Frag} (hd : ∀ {d : He.DefD}, d ∈ fns → ∃ fd, FunD K d.name d.qual d.params d.body d.scope (d.dvs K) (d.kws K) (He.fAd K d.at_) fd) (hf : ∀ {f : He.Fa}, f ∈ fas → f.ok K = true) (h : exK K = true) : FX K := by
  unfold exK at h
  obtain ⟨h0, h⟩ := He.ba h
  obtain ⟨h1, h⟩ := He.ba h
  obtain ⟨h2, h⟩ := He.ba h
  obtain ⟨h3, h⟩ := He.ba h
  obtain ⟨h4, h⟩ := He.ba h
  obtain ⟨h5, h⟩ := He.ba h
  obtain ⟨h6, h⟩ := He.ba h
  obtain ⟨h7, h⟩ := He.ba h
  obtain ⟨h8, h⟩ := He.ba h
  obtain ⟨h9, h⟩ := He.ba h
  obtain ⟨h10, h⟩ := He.ba h
  obtain ⟨h11, h⟩ := He.ba h
  obtain ⟨h12, h⟩ := He.ba h
  obtain ⟨h13, h⟩ := He.ba h
  obtain ⟨h14, h⟩ := He.ba h
  obtain ⟨h15, h⟩ := He.ba h
  obtain ⟨h16, h⟩ := He.ba h
  exact ⟨hd, hf, h0, h1, h2, h3, h4, h5, h6, h7, h8, h9, h10, h11, h12, h13, h14, h15, h16, h⟩
def lawIx : Nat := 50
def lawFa : Nat := 61
theorem tabL_u0 {K : PySem.W.Frag} (c : FX K) : ∀ p ∈ tabL K, p.1 = (He.cT K ("law", none)).2 → p.2 = "law.<locals>.<lambda>" := fun p hp _ => by cases hp with | head => rfl | tail _ h => cases h
/-! in_tuples -/
def d_in_tuples : Nat → List Vx → Mo Vx
  | 0, _ => stk
  | n + 1, ys => fnM 2 (sCons (sIf (tVal (eIsi [.list, .tuple] (eVar 0))) (sCons (sRet (eCall bTuple (aCons (eLc true (wVal (eVar 0)) (.nm 1) tYesD (eCall (fun ys => callM [false] (d_in_tuples n) (ys ++ ([] : List Dt).map Vx.d)) (aCons (eVar 1) aNil)) [1]) aNil))) sNil) sNil) (sCons (sRet (eVar 0)) sNil)) ys
theorem S_in_tuples : FnScope ["value", "item"] ["value"] (defScope (top 2)) := ⟨rfl, rfl, rfl, by decide +kernel, rfl, by decide +kernel, by decide +kernel⟩
theorem ok_in_tuples {P : Program} {w : World} {K : PySem.W.Frag} {h : Heap} {mg : PySem.Str → Option Value} {base : Heap} (KX : K.In h) (G : h.Ns mainGlobals mg) (c : FX K) (TBs : ∀ p ∈ csL K, LamX.TabB base mg p.1 p.2) (n : Nat) : ∃ fd, FunD K "in_tuples" "in_tuples" (defArgs (top 2)) (defBody (top 2)) (defScope (top 2)) (D_in_tuples.dvs K) [] (He.ga K "in_tuples") fd ∧ (Binds K fd ["value"] []) ∧ FnOk P w K mg base (L2.CX P w) (n + 0) (He.ga K "in_tuples") fd ["value"] (spD K (g0 K) 1 (d_in_tuples n)) := by
  obtain ⟨fd, F⟩ := c.defs (d := D_in_tuples) (List.mem_of_getElem? (i := 0) rfl)
  have m_isinstance : mg "isinstance" = none := He.free_ok KX G (c.facts (f := .free "isinstance") (List.mem_of_getElem? (i := 0) rfl))
  have m_list : mg "list" = none := He.free_ok KX G (c.facts (f := .free "list") (List.mem_of_getElem? (i := 1) rfl))
  have m_tuple : mg "tuple" = none := He.free_ok KX G (c.facts (f := .free "tuple") (List.mem_of_getElem? (i := 2) rfl))
  have m_in_tuples : mg "in_tuples" = some (.ref (He.ga K "in_tuples")) := He.glo_ok KX G (c.facts (f := .glo "in_tuples") (List.mem_of_getElem? (i := 3) rfl))
  have bF : Binds K fd ["value"] [] := F.bindsN fun _ _ _ _ _ _ us hl => match us, hl with | [_], _ => rfl
  refine ⟨fd, F, bF, ?_⟩
  induction n with
  | zero => exact ⟨fun vs H Q E h => h.1, fun A outer s H args us vs Q E hr he hb hv h => by obtain ⟨_, W, h0, ys, _, _, p⟩ := h; exact p.elim⟩
  | succ n F_self =>
    have FD_in_tuples := F
    have b_in_tuples := bF
    have v_in_tuples : Vals [] [] := .nil
    refine fn_ok F S_in_tuples rfl rfl fun cdv A outer s H E hr tk po => ?_
    have hU := room64 hr
    have hU0 := room0 hr
    have hN := S_in_tuples.nd
    exact (pds_cons insE (pd_if (pdt_val (pd_isi2 (c := .list) (d := .tuple) rfl m_isinstance (pd_var (i := 0) rfl (visB_ok rfl) (by decide) (by decide)) (pe_tyn rfl m_list (by decide +kernel) (by decide) (by decide)) (pe_tyn rfl m_tuple (by decide +kernel) (by decide) (by decide)) rfl rfl rfl rfl rfl) (fun _ => rfl)) (pds_cons insE (pd_ret (pd_callTy cd_tuple rfl m_tuple (by decide +kernel) (pda_cons (pd_lc [("item", 1)] rfl hN (pd_wval (pd_var (i := 0) rfl (visB_ok rfl) (by decide) (by decide))) rfl rfl (tg_nm 1) rfl (fun _ _ _ _ _ => (pg_name (i := 1) hN rfl (locB_ok rfl) (by first | exact .inl rfl | exact .inr rfl))) (fun _ _ _ _ _ => pts_nilD) (fun _ _ _ _ _ => (pd_call (hy := [false]) (dd := []) (F_self.mono (by omega)) hr rfl m_in_tuples FD_in_tuples.kp b_in_tuples v_in_tuples .nil takes0 ins0 (by decide) (pda_cons (pd_var (i := 1) rfl (visB_ok rfl) (by decide) (by decide)) pda_nil rfl) rfl rfl rfl ((alen_cons alen_nil)))) (fun _ => rfl)) pda_nil rfl) (by decide) (by decide) rfl rfl)) pds_nil) pds_nil) (pds_cons insE (pd_ret (pd_var (i := 0) rfl (visB_ok rfl) (by decide) (by decide))) pds_nil))
/-! BadValue.__init__ -/
theorem SI_BadValue : FnScope ["self", "at"] ["self", "at"] (defScope (clsInit (top 5))) := ⟨rfl, rfl, rfl, by decide +kernel, rfl, by decide +kernel, by decide +kernel⟩
theorem okI_BadValue {P : Program} {w : World} {K : PySem.W.Frag} {h : Heap} {mg : PySem.Str → Option Value} {base : Heap} (KX : K.In h) (G : h.Ns mainGlobals mg) (c : FX K) (TBs : ∀ p ∈ csL K, LamX.TabB base mg p.1 p.2) : ∃ fd, Binds K fd ["self", "at"] [] ∧ FnOk P w K mg base (L2.CX P w) 25 (He.ma K (He.ga K "BadValue") "__init__") fd ["self", "at"] (spI K (g0 K) (He.ga K "BadValue") "at" (d_in_tuples 24)) := by
  obtain ⟨fd, F⟩ := c.defs (d := D_I_BadValue) (List.mem_of_getElem? (i := 1) rfl)
  have T_BadValue := oexB_ok c.oex_BadValue
  have m_in_tuples : mg "in_tuples" = some (.ref (He.ga K "in_tuples")) := He.glo_ok KX G (c.facts (f := .glo "in_tuples") (List.mem_of_getElem? (i := 3) rfl))
  obtain ⟨fd_in, FD_in, b_in, F_in⟩ := ok_in_tuples (P := P) (w := w) (mg := mg) (base := base) KX G c TBs 24
  refine ⟨fd, F.bindsN fun _ _ _ _ _ _ us hl => (match us, hl with | [_, _], _ => rfl), init_ok F SI_BadValue fun cdv A outer s H E hr tk => ?_⟩
  exact pss_one (ps_ostE T_BadValue rfl (visB_ok rfl) (pd_call (hy := [false]) (dd := []) F_in hr rfl m_in_tuples FD_in.kp b_in .nil .nil tk insE (by decide) (pda_cons (pd_var (i := 1) rfl (visB_ok rfl) (by decide) (by decide)) pda_nil rfl) rfl rfl rfl (alen_cons alen_nil)) rfl)
/-! BadText.__init__ -/
theorem SI_BadText : FnScope ["self", "line"] ["self", "line"] (defScope (clsInit (top 6))) := ⟨rfl, rfl, rfl, by decide +kernel, rfl, by decide +kernel, by decide +kernel⟩
theorem okI_BadText {P : Program} {w : World} {K : PySem.W.Frag} {h : Heap} {mg : PySem.Str → Option Value} {base : Heap} (KX : K.In h) (G : h.Ns mainGlobals mg) (c : FX K) (TBs : ∀ p ∈ csL K, LamX.TabB base mg p.1 p.2) : ∃ fd, Binds K fd ["self", "line"] [] ∧ FnOk P w K mg base (L2.CX P w) 25 (He.ma K (He.ga K "BadText") "__init__") fd ["self", "line"] (spI K (g0 K) (He.ga K "BadText") "line" (d_in_tuples 24)) := by
  obtain ⟨fd, F⟩ := c.defs (d := D_I_BadText) (List.mem_of_getElem? (i := 2) rfl)
  have T_BadText := oexB_ok c.oex_BadText
  have m_in_tuples : mg "in_tuples" = some (.ref (He.ga K "in_tuples")) := He.glo_ok KX G (c.facts (f := .glo "in_tuples") (List.mem_of_getElem? (i := 3) rfl))
  obtain ⟨fd_in, FD_in, b_in, F_in⟩ := ok_in_tuples (P := P) (w := w) (mg := mg) (base := base) KX G c TBs 24
  refine ⟨fd, F.bindsN fun _ _ _ _ _ _ us hl => (match us, hl with | [_, _], _ => rfl), init_ok F SI_BadText fun cdv A outer s H E hr tk => ?_⟩
  exact pss_one (ps_ostE T_BadText rfl (visB_ok rfl) (pd_call (hy := [false]) (dd := []) F_in hr rfl m_in_tuples FD_in.kp b_in .nil .nil tk insE (by decide) (pda_cons (pd_var (i := 1) rfl (visB_ok rfl) (by decide) (by decide)) pda_nil rfl) rfl rfl rfl (alen_cons alen_nil)) rfl)
/-! TooFew.__init__ -/
theorem SI_TooFew : FnScope ["self", "step"] ["self", "step"] (defScope (clsInit (top 7))) := ⟨rfl, rfl, rfl, by decide +kernel, rfl, by decide +kernel, by decide +kernel⟩
theorem okI_TooFew {P : Program} {w : World} {K : PySem.W.Frag} {h : Heap} {mg : PySem.Str → Option Value} {base : Heap} (KX : K.In h) (G : h.Ns mainGlobals mg) (c : FX K) (TBs : ∀ p ∈ csL K, LamX.TabB base mg p.1 p.2) : ∃ fd, Binds K fd ["self", "step"] [] ∧ FnOk P w K mg base (L2.CX P w) 25 (He.ma K (He.ga K "TooFew") "__init__") fd ["self", "step"] (spI K (g0 K) (He.ga K "TooFew") "step" (d_in_tuples 24)) := by
  obtain ⟨fd, F⟩ := c.defs (d := D_I_TooFew) (List.mem_of_getElem? (i := 3) rfl)
  have T_TooFew := oexB_ok c.oex_TooFew
  have m_in_tuples : mg "in_tuples" = some (.ref (He.ga K "in_tuples")) := He.glo_ok KX G (c.facts (f := .glo "in_tuples") (List.mem_of_getElem? (i := 3) rfl))
  obtain ⟨fd_in, FD_in, b_in, F_in⟩ := ok_in_tuples (P := P) (w := w) (mg := mg) (base := base) KX G c TBs 24
  refine ⟨fd, F.bindsN fun _ _ _ _ _ _ us hl => (match us, hl with | [_, _], _ => rfl), init_ok F SI_TooFew fun cdv A outer s H E hr tk => ?_⟩
  exact pss_one (ps_ostE T_TooFew rfl (visB_ok rfl) (pd_call (hy := [false]) (dd := []) F_in hr rfl m_in_tuples FD_in.kp b_in .nil .nil tk insE (by decide) (pda_cons (pd_var (i := 1) rfl (visB_ok rfl) (by decide) (by decide)) pda_nil rfl) rfl rfl rfl (alen_cons alen_nil)) rfl)
/-! WrongKind.__init__ -/
theorem SI_WrongKind : FnScope ["self", "step"] ["self", "step"] (defScope (clsInit (top 8))) := ⟨rfl, rfl, rfl, by decide +kernel, rfl, by decide +kernel, by decide +kernel⟩
theorem okI_WrongKind {P : Program} {w : World} {K : PySem.W.Frag} {h : Heap} {mg : PySem.Str → Option Value} {base : Heap} (KX : K.In h) (G : h.Ns mainGlobals mg) (c : FX K) (TBs : ∀ p ∈ csL K, LamX.TabB base mg p.1 p.2) : ∃ fd, Binds K fd ["self", "step"] [] ∧ FnOk P w K mg base (L2.CX P w) 25 (He.ma K (He.ga K "WrongKind") "__init__") fd ["self", "step"] (spI K (g0 K) (He.ga K "WrongKind") "step" (d_in_tuples 24)) := by
  obtain ⟨fd, F⟩ := c.defs (d := D_I_WrongKind) (List.mem_of_getElem? (i := 4) rfl)
  have T_WrongKind := oexB_ok c.oex_WrongKind
  have m_in_tuples : mg "in_tuples" = some (.ref (He.ga K "in_tuples")) := He.glo_ok KX G (c.facts (f := .glo "in_tuples") (List.mem_of_getElem? (i := 3) rfl))
  obtain ⟨fd_in, FD_in, b_in, F_in⟩ := ok_in_tuples (P := P) (w := w) (mg := mg) (base := base) KX G c TBs 24
  refine ⟨fd, F.bindsN fun _ _ _ _ _ _ us hl => (match us, hl with | [_, _], _ => rfl), init_ok F SI_WrongKind fun cdv A outer s H E hr tk => ?_⟩
  exact pss_one (ps_ostE T_WrongKind rfl (visB_ok rfl) (pd_call (hy := [false]) (dd := []) F_in hr rfl m_in_tuples FD_in.kp b_in .nil .nil tk insE (by decide) (pda_cons (pd_var (i := 1) rfl (visB_ok rfl) (by decide) (by decide)) pda_nil rfl) rfl rfl rfl (alen_cons alen_nil)) rfl)
/-! NoWord.__init__ -/
theorem SI_NoWord : FnScope ["self", "step"] ["self", "step"] (defScope (clsInit (top 9))) := ⟨rfl, rfl, rfl, by decide +kernel, rfl, by decide +kernel, by decide +kernel⟩
theorem okI_NoWord {P : Program} {w : World} {K : PySem.W.Frag} {h : Heap} {mg : PySem.Str → Option Value} {base : Heap} (KX : K.In h) (G : h.Ns mainGlobals mg) (c : FX K) (TBs : ∀ p ∈ csL K, LamX.TabB base mg p.1 p.2) : ∃ fd, Binds K fd ["self", "step"] [] ∧ FnOk P w K mg base (L2.CX P w) 25 (He.ma K (He.ga K "NoWord") "__init__") fd ["self", "step"] (spI K (g0 K) (He.ga K "NoWord") "step" (d_in_tuples 24)) := by
  obtain ⟨fd, F⟩ := c.defs (d := D_I_NoWord) (List.mem_of_getElem? (i := 5) rfl)
  have T_NoWord := oexB_ok c.oex_NoWord
  have m_in_tuples : mg "in_tuples" = some (.ref (He.ga K "in_tuples")) := He.glo_ok KX G (c.facts (f := .glo "in_tuples") (List.mem_of_getElem? (i := 3) rfl))
  obtain ⟨fd_in, FD_in, b_in, F_in⟩ := ok_in_tuples (P := P) (w := w) (mg := mg) (base := base) KX G c TBs 24
  refine ⟨fd, F.bindsN fun _ _ _ _ _ _ us hl => (match us, hl with | [_, _], _ => rfl), init_ok F SI_NoWord fun cdv A outer s H E hr tk => ?_⟩
  exact pss_one (ps_ostE T_NoWord rfl (visB_ok rfl) (pd_call (hy := [false]) (dd := []) F_in hr rfl m_in_tuples FD_in.kp b_in .nil .nil tk insE (by decide) (pda_cons (pd_var (i := 1) rfl (visB_ok rfl) (by decide) (by decide)) pda_nil rfl) rfl rfl rfl (alen_cons alen_nil)) rfl)
/-! NoPoint.__init__ -/
theorem SI_NoPoint : FnScope ["self", "step"] ["self", "step"] (defScope (clsInit (top 10))) := ⟨rfl, rfl, rfl, by decide +kernel, rfl, by decide +kernel, by decide +kernel⟩
theorem okI_NoPoint {P : Program} {w : World} {K : PySem.W.Frag} {h : Heap} {mg : PySem.Str → Option Value} {base : Heap} (KX : K.In h) (G : h.Ns mainGlobals mg) (c : FX K) (TBs : ∀ p ∈ csL K, LamX.TabB base mg p.1 p.2) : ∃ fd, Binds K fd ["self", "step"] [] ∧ FnOk P w K mg base (L2.CX P w) 25 (He.ma K (He.ga K "NoPoint") "__init__") fd ["self", "step"] (spI K (g0 K) (He.ga K "NoPoint") "step" (d_in_tuples 24)) := by
  obtain ⟨fd, F⟩ := c.defs (d := D_I_NoPoint) (List.mem_of_getElem? (i := 6) rfl)
  have T_NoPoint := oexB_ok c.oex_NoPoint
  have m_in_tuples : mg "in_tuples" = some (.ref (He.ga K "in_tuples")) := He.glo_ok KX G (c.facts (f := .glo "in_tuples") (List.mem_of_getElem? (i := 3) rfl))
  obtain ⟨fd_in, FD_in, b_in, F_in⟩ := ok_in_tuples (P := P) (w := w) (mg := mg) (base := base) KX G c TBs 24
  refine ⟨fd, F.bindsN fun _ _ _ _ _ _ us hl => (match us, hl with | [_, _], _ => rfl), init_ok F SI_NoPoint fun cdv A outer s H E hr tk => ?_⟩
  exact pss_one (ps_ostE T_NoPoint rfl (visB_ok rfl) (pd_call (hy := [false]) (dd := []) F_in hr rfl m_in_tuples FD_in.kp b_in .nil .nil tk insE (by decide) (pda_cons (pd_var (i := 1) rfl (visB_ok rfl) (by decide) (by decide)) pda_nil rfl) rfl rfl rfl (alen_cons alen_nil)) rfl)
/-! TooMuch.__init__ -/
theorem SI_TooMuch : FnScope ["self", "step"] ["self", "step"] (defScope (clsInit (top 11))) := ⟨rfl, rfl, rfl, by decide +kernel, rfl, by decide +kernel, by decide +kernel⟩
theorem okI_TooMuch {P : Program} {w : World} {K : PySem.W.Frag} {h : Heap} {mg : PySem.Str → Option Value} {base : Heap} (KX : K.In h) (G : h.Ns mainGlobals mg) (c : FX K) (TBs : ∀ p ∈ csL K, LamX.TabB base mg p.1 p.2) : ∃ fd, Binds K fd ["self", "step"] [] ∧ FnOk P w K mg base (L2.CX P w) 25 (He.ma K (He.ga K "TooMuch") "__init__") fd ["self", "step"] (spI K (g0 K) (He.ga K "TooMuch") "step" (d_in_tuples 24)) := by
  obtain ⟨fd, F⟩ := c.defs (d := D_I_TooMuch) (List.mem_of_getElem? (i := 7) rfl)
  have T_TooMuch := oexB_ok c.oex_TooMuch
  have m_in_tuples : mg "in_tuples" = some (.ref (He.ga K "in_tuples")) := He.glo_ok KX G (c.facts (f := .glo "in_tuples") (List.mem_of_getElem? (i := 3) rfl))
  obtain ⟨fd_in, FD_in, b_in, F_in⟩ := ok_in_tuples (P := P) (w := w) (mg := mg) (base := base) KX G c TBs 24
  refine ⟨fd, F.bindsN fun _ _ _ _ _ _ us hl => (match us, hl with | [_, _], _ => rfl), init_ok F SI_TooMuch fun cdv A outer s H E hr tk => ?_⟩
  exact pss_one (ps_ostE T_TooMuch rfl (visB_ok rfl) (pd_call (hy := [false]) (dd := []) F_in hr rfl m_in_tuples FD_in.kp b_in .nil .nil tk insE (by decide) (pda_cons (pd_var (i := 1) rfl (visB_ok rfl) (by decide) (by decide)) pda_nil rfl) rfl rfl rfl (alen_cons alen_nil)) rfl)
/-! demand -/
def d_demand : List Vx → Mo Vx := fun ys => fnM 2 (sCons (sIf (tNotD (tVal (eVar 0))) (sCons (sRaise 0 (d_in_tuples 24) (eVar 1)) sNil) sNil) sNil) ys
theorem S_demand : FnScope ["holds", "at"] ["holds", "at"] (defScope (top 15)) := ⟨rfl, rfl, rfl, by decide +kernel, rfl, by decide +kernel, by decide +kernel⟩
theorem ok_demand {P : Program} {w : World} {K : PySem.W.Frag} {h : Heap} {mg : PySem.Str → Option Value} {base : Heap} (KX : K.In h) (G : h.Ns mainGlobals mg) (c : FX K) (TBs : ∀ p ∈ csL K, LamX.TabB base mg p.1 p.2) : ∃ fd, FunD K "demand" "demand" (defArgs (top 15)) (defBody (top 15)) (defScope (top 15)) (D_demand.dvs K) [] (He.ga K "demand") fd ∧ (Binds K fd ["holds", "at"] []) ∧ FnOk P w K mg base (L2.CX P w) 27 (He.ga K "demand") fd ["holds", "at"] (spD K (g0 K) 2 d_demand) := by
  obtain ⟨fd, F⟩ := c.defs (d := D_demand) (List.mem_of_getElem? (i := 8) rfl)
  have m_BadValue : mg "BadValue" = some (.ref (He.ga K "BadValue")) := He.glo_ok KX G (c.facts (f := .glo "BadValue") (List.mem_of_getElem? (i := 4) rfl))
  have T_BadValue := oexB_ok c.oex_BadValue
  obtain ⟨fdI_BadValue, bI_BadValue, FI_BadValue⟩ := okI_BadValue (P := P) (w := w) (mg := mg) (base := base) KX G c TBs
  refine ⟨fd, F, F.bindsN fun _ _ _ _ _ _ us hl => match us, hl with | [_, _], _ => rfl, fn_ok F S_demand rfl rfl fun cdv A outer s H E hr tk po => ?_⟩
  have hU := room64 hr
  have hU0 := room0 hr
  have hN := S_demand.nd
  exact (pds_cons insE (pd_if (pdt_not (pdt_val (pd_var (i := 0) rfl (visB_ok rfl) (by decide) (by decide)) (fun _ => rfl))) (pds_cons insE (pd_raise (c := 0) rfl tk rfl T_BadValue (FI_BadValue.mono (by decide)) (k := 25) hr bI_BadValue rfl m_BadValue (pd_var (i := 1) rfl (visB_ok rfl) (by decide) (by decide)) (by decide) rfl rfl) pds_nil) pds_nil) pds_nil)
/-! is_integer -/
def d_is_integer : List Vx → Mo Vx := fun ys => fnM 1 (sCons (sRet (eAnd (eIsi [.int] (eVar 0)) (eNot (eIsi [.bool] (eVar 0))))) sNil) ys
theorem S_is_integer : FnScope ["value"] ["value"] (defScope (top 16)) := ⟨rfl, rfl, rfl, by decide +kernel, rfl, by decide +kernel, by decide +kernel⟩
theorem ok_is_integer {P : Program} {w : World} {K : PySem.W.Frag} {h : Heap} {mg : PySem.Str → Option Value} {base : Heap} (KX : K.In h) (G : h.Ns mainGlobals mg) (c : FX K) (TBs : ∀ p ∈ csL K, LamX.TabB base mg p.1 p.2) : ∃ fd, FunD K "is_integer" "is_integer" (defArgs (top 16)) (defBody (top 16)) (defScope (top 16)) (D_is_integer.dvs K) [] (He.ga K "is_integer") fd ∧ (Binds K fd ["value"] []) ∧ FnOk P w K mg base (L2.CX P w) 1 (He.ga K "is_integer") fd ["value"] (spD K (g0 K) 1 d_is_integer) := by
  obtain ⟨fd, F⟩ := c.defs (d := D_is_integer) (List.mem_of_getElem? (i := 9) rfl)
  have m_bool : mg "bool" = none := He.free_ok KX G (c.facts (f := .free "bool") (List.mem_of_getElem? (i := 5) rfl))
  have m_int : mg "int" = none := He.free_ok KX G (c.facts (f := .free "int") (List.mem_of_getElem? (i := 6) rfl))
  have m_isinstance : mg "isinstance" = none := He.free_ok KX G (c.facts (f := .free "isinstance") (List.mem_of_getElem? (i := 0) rfl))
  refine ⟨fd, F, F.bindsN fun _ _ _ _ _ _ us hl => match us, hl with | [_], _ => rfl, fn_ok F S_is_integer rfl rfl fun cdv A outer s H E hr tk po => ?_⟩
  have hU := room64 hr
  have hU0 := room0 hr
  have hN := S_is_integer.nd
  exact (pds_cons insE (pd_ret (pd_and (pd_isi (c := .int) rfl m_isinstance (pd_var (i := 0) rfl (visB_ok rfl) (by decide) (by decide)) (pe_tyn rfl m_int (by decide +kernel) (by decide) (by decide)) rfl rfl rfl) (pd_one (pd_not (pd_isi (c := .bool) rfl m_isinstance (pd_var (i := 0) rfl (visB_ok rfl) (by decide) (by decide)) (pe_tyn rfl m_bool (by decide +kernel) (by decide) (by decide)) rfl rfl rfl))))) pds_nil)
/-! is_between -/
def d_is_between : List Vx → Mo Vx := fun ys => fnM 3 (sCons (sRet (eAnd (eCall (fun ys => callM [false] d_is_integer (ys ++ ([] : List Dt).map Vx.d)) (aCons (eVar 0) aNil)) (eChain dLe dLe (eVar 1) (eVar 0) (eVar 2)))) sNil) ys
theorem S_is_between : FnScope ["value", "low", "high"] ["value", "low", "high"] (defScope (top 17)) := ⟨rfl, rfl, rfl, by decide +kernel, rfl, by decide +kernel, by decide +kernel⟩
theorem ok_is_between {P : Program} {w : World} {K : PySem.W.Frag} {h : Heap} {mg : PySem.Str → Option Value} {base : Heap} (KX : K.In h) (G : h.Ns mainGlobals mg) (c : FX K) (TBs : ∀ p ∈ csL K, LamX.TabB base mg p.1 p.2) : ∃ fd, FunD K "is_between" "is_between" (defArgs (top 17)) (defBody (top 17)) (defScope (top 17)) (D_is_between.dvs K) [] (He.ga K "is_between") fd ∧ (Binds K fd ["value", "low", "high"] []) ∧ FnOk P w K mg base (L2.CX P w) 2 (He.ga K "is_between") fd ["value", "low", "high"] (spD K (g0 K) 3 d_is_between) := by
  obtain ⟨fd, F⟩ := c.defs (d := D_is_between) (List.mem_of_getElem? (i := 10) rfl)
  have m_is_integer : mg "is_integer" = some (.ref (He.ga K "is_integer")) := He.glo_ok KX G (c.facts (f := .glo "is_integer") (List.mem_of_getElem? (i := 7) rfl))
  obtain ⟨fd_is_integer, FD_is_integer, b_is_integer, F_is_integer⟩ := ok_is_integer (P := P) (w := w) (mg := mg) (base := base) KX G c TBs
  have v_is_integer : Vals [] [] := .nil
  refine ⟨fd, F, F.bindsN fun _ _ _ _ _ _ us hl => match us, hl with | [_, _, _], _ => rfl, fn_ok F S_is_between rfl rfl fun cdv A outer s H E hr tk po => ?_⟩
  have hU := room64 hr
  have hU0 := room0 hr
  have hN := S_is_between.nd
  exact (pds_cons insE (pd_ret (pd_and (pd_call (hy := [false]) (dd := []) (F_is_integer.mono (by decide)) hr rfl m_is_integer FD_is_integer.kp b_is_integer v_is_integer .nil tk insE (by decide) (pda_cons (pd_var (i := 0) rfl (visB_ok rfl) (by decide) (by decide)) pda_nil rfl) rfl rfl rfl ((alen_cons alen_nil))) (pd_one (pd_chain od_le od_le (pd_var (i := 1) rfl (visB_ok rfl) (by decide) (by decide)) (pd_var (i := 0) rfl (visB_ok rfl) (by decide) (by decide)) (pd_var (i := 2) rfl (visB_ok rfl) (by decide) (by decide)) rfl)))) pds_nil)
/-! is_sequence -/
def d_is_sequence : List Vx → Mo Vx := fun ys => fnM 1 (sCons (sRet (eIsi [.list, .tuple] (eVar 0))) sNil) ys
theorem S_is_sequence : FnScope ["value"] ["value"] (defScope (top 18)) := ⟨rfl, rfl, rfl, by decide +kernel, rfl, by decide +kernel, by decide +kernel⟩
theorem ok_is_sequence {P : Program} {w : World} {K : PySem.W.Frag} {h : Heap} {mg : PySem.Str → Option Value} {base : Heap} (KX : K.In h) (G : h.Ns mainGlobals mg) (c : FX K) (TBs : ∀ p ∈ csL K, LamX.TabB base mg p.1 p.2) : ∃ fd, FunD K "is_sequence" "is_sequence" (defArgs (top 18)) (defBody (top 18)) (defScope (top 18)) (D_is_sequence.dvs K) [] (He.ga K "is_sequence") fd ∧ (Binds K fd ["value"] []) ∧ FnOk P w K mg base (L2.CX P w) 1 (He.ga K "is_sequence") fd ["value"] (spD K (g0 K) 1 d_is_sequence) := by
  obtain ⟨fd, F⟩ := c.defs (d := D_is_sequence) (List.mem_of_getElem? (i := 11) rfl)
  have m_isinstance : mg "isinstance" = none := He.free_ok KX G (c.facts (f := .free "isinstance") (List.mem_of_getElem? (i := 0) rfl))
  have m_list : mg "list" = none := He.free_ok KX G (c.facts (f := .free "list") (List.mem_of_getElem? (i := 1) rfl))
  have m_tuple : mg "tuple" = none := He.free_ok KX G (c.facts (f := .free "tuple") (List.mem_of_getElem? (i := 2) rfl))
  refine ⟨fd, F, F.bindsN fun _ _ _ _ _ _ us hl => match us, hl with | [_], _ => rfl, fn_ok F S_is_sequence rfl rfl fun cdv A outer s H E hr tk po => ?_⟩
  have hU := room64 hr
  have hU0 := room0 hr
  have hN := S_is_sequence.nd
  exact (pds_cons insE (pd_ret (pd_isi2 (c := .list) (d := .tuple) rfl m_isinstance (pd_var (i := 0) rfl (visB_ok rfl) (by decide) (by decide)) (pe_tyn rfl m_list (by decide +kernel) (by decide) (by decide)) (pe_tyn rfl m_tuple (by decide +kernel) (by decide) (by decide)) rfl rfl rfl rfl rfl)) pds_nil)
/-! is_text -/
def d_is_text : List Vx → Mo Vx := fun ys => fnM 1 (sCons (sRet (eAnd (eIsi [.str] (eVar 0)) (eBin dLe (eCall bLen (aCons (eVar 0) aNil)) (eC (.int 4000))))) sNil) ys
theorem S_is_text : FnScope ["value"] ["value"] (defScope (top 19)) := ⟨rfl, rfl, rfl, by decide +kernel, rfl, by decide +kernel, by decide +kernel⟩
theorem ok_is_text {P : Program} {w : World} {K : PySem.W.Frag} {h : Heap} {mg : PySem.Str → Option Value} {base : Heap} (KX : K.In h) (G : h.Ns mainGlobals mg) (c : FX K) (TBs : ∀ p ∈ csL K, LamX.TabB base mg p.1 p.2) : ∃ fd, FunD K "is_text" "is_text" (defArgs (top 19)) (defBody (top 19)) (defScope (top 19)) (D_is_text.dvs K) [] (He.ga K "is_text") fd ∧ (Binds K fd ["value"] []) ∧ FnOk P w K mg base (L2.CX P w) 1 (He.ga K "is_text") fd ["value"] (spD K (g0 K) 1 d_is_text) := by
  obtain ⟨fd, F⟩ := c.defs (d := D_is_text) (List.mem_of_getElem? (i := 12) rfl)
  have m_isinstance : mg "isinstance" = none := He.free_ok KX G (c.facts (f := .free "isinstance") (List.mem_of_getElem? (i := 0) rfl))
  have m_len : mg "len" = none := He.free_ok KX G (c.facts (f := .free "len") (List.mem_of_getElem? (i := 8) rfl))
  have m_str : mg "str" = none := He.free_ok KX G (c.facts (f := .free "str") (List.mem_of_getElem? (i := 9) rfl))
  obtain ⟨u_MOST_CHARACTERS, w_MOST_CHARACTERS, m_MOST_CHARACTERS, r_MOST_CHARACTERS, p_MOST_CHARACTERS⟩ := constB_ok KX G (c.const_MOST_CHARACTERS)
  refine ⟨fd, F, F.bindsN fun _ _ _ _ _ _ us hl => match us, hl with | [_], _ => rfl, fn_ok F S_is_text rfl rfl fun cdv A outer s H E hr tk po => ?_⟩
  have hU := room64 hr
  have hU0 := room0 hr
  have hN := S_is_text.nd
  exact (pds_cons insE (pd_ret (pd_and (pd_isi (c := .str) rfl m_isinstance (pd_var (i := 0) rfl (visB_ok rfl) (by decide) (by decide)) (pe_tyn rfl m_str (by decide +kernel) (by decide) (by decide)) rfl rfl rfl) (pd_one (pd_cmp od_le (pd_callB cd_len rfl m_len (by decide +kernel) (pda_cons (pd_var (i := 0) rfl (visB_ok rfl) (by decide) (by decide)) pda_nil rfl) (by decide) (by decide) rfl rfl) (pd_glob rfl m_MOST_CHARACTERS r_MOST_CHARACTERS p_MOST_CHARACTERS (by decide)) rfl)))) pds_nil)
/-! is_fraction -/
def d_is_fraction : List Vx → Mo Vx := fun ys => fnM 4 (sCons (sIf (tOrD (tNotD (tVal (eCall (fun ys => callM [false] d_is_sequence (ys ++ ([] : List Dt).map Vx.d)) (aCons (eVar 0) aNil)))) (tTst (eBin dNe (eCall bLen (aCons (eVar 0) aNil)) (eC (.int 2))))) (sCons (sRet (eC (.bl false))) sNil) sNil) (sCons (sSet (.tup [(.nm 2), (.nm 3)]) (eVar 0)) (sCons (sRet (eAnd (eCall (fun ys => callM [false, false, false] d_is_between (ys ++ ([] : List Dt).map Vx.d)) (aCons (eVar 2) (aCons (eUn dNeg (eVar 1)) (aCons (eVar 1) aNil)))) (eAnd (eCall (fun ys => callM [false, false, false] d_is_between (ys ++ ([] : List Dt).map Vx.d)) (aCons (eVar 3) (aCons (eC (.int 1)) (aCons (eVar 1) aNil)))) (eBin dEq (eCall bGcd (aCons (eVar 2) (aCons (eVar 3) aNil))) (eC (.int 1)))))) sNil))) ys
theorem S_is_fraction : FnScope ["value", "most", "top", "bottom"] ["value", "most"] (defScope (top 20)) := ⟨rfl, rfl, rfl, by decide +kernel, rfl, by decide +kernel, by decide +kernel⟩
theorem ok_is_fraction {P : Program} {w : World} {K : PySem.W.Frag} {h : Heap} {mg : PySem.Str → Option Value} {base : Heap} (KX : K.In h) (G : h.Ns mainGlobals mg) (c : FX K) (TBs : ∀ p ∈ csL K, LamX.TabB base mg p.1 p.2) : ∃ fd, FunD K "is_fraction" "is_fraction" (defArgs (top 20)) (defBody (top 20)) (defScope (top 20)) (D_is_fraction.dvs K) [] (He.ga K "is_fraction") fd ∧ (Binds K fd ["value", "most"] [] ∧ (∃ ds, Vals (D_is_fraction.dvs K) ds ∧ Binds K fd ["value", "most"] ds)) ∧ FnOk P w K mg base (L2.CX P w) 3 (He.ga K "is_fraction") fd ["value", "most"] (spD K (g0 K) 2 d_is_fraction) := by
  obtain ⟨fd, F⟩ := c.defs (d := D_is_fraction) (List.mem_of_getElem? (i := 13) rfl)
  have m_gcd : mg "gcd" = some (.builtin "math.gcd") := PySem.W.mg_of KX G (He.eqO_ok c.gcd)
  have m_len : mg "len" = none := He.free_ok KX G (c.facts (f := .free "len") (List.mem_of_getElem? (i := 8) rfl))
  have m_is_between : mg "is_between" = some (.ref (He.ga K "is_between")) := He.glo_ok KX G (c.facts (f := .glo "is_between") (List.mem_of_getElem? (i := 10) rfl))
  obtain ⟨fd_is_between, FD_is_between, b_is_between, F_is_between⟩ := ok_is_between (P := P) (w := w) (mg := mg) (base := base) KX G c TBs
  have v_is_between : Vals [] [] := .nil
  have m_is_sequence : mg "is_sequence" = some (.ref (He.ga K "is_sequence")) := He.glo_ok KX G (c.facts (f := .glo "is_sequence") (List.mem_of_getElem? (i := 11) rfl))
  obtain ⟨fd_is_sequence, FD_is_sequence, b_is_sequence, F_is_sequence⟩ := ok_is_sequence (P := P) (w := w) (mg := mg) (base := base) KX G c TBs
  have v_is_sequence : Vals [] [] := .nil
  refine ⟨fd, F, ⟨by obtain ⟨ds, v, b⟩ := F.binds1 (ps := ["value", "most"]) 2 1 (by intro z; cases z) rfl fun _ _ _ _ _ _ _ us its h1 h2 => (match us, its, h1, h2 with | [_, _], [_], _, _ => ⟨_, rfl, rfl⟩); cases v; exact b, F.binds1 (ps := ["value", "most"]) 1 0 (by intro z; cases z) rfl fun _ _ _ _ _ _ _ us its h1 h2 => (match us, its, h1, h2 with | [_], [_], _, _ => ⟨_, rfl, rfl⟩)⟩, fn_ok F S_is_fraction rfl rfl fun cdv A outer s H E hr tk po => ?_⟩
  have hU := room64 hr
  have hU0 := room0 hr
  have hN := S_is_fraction.nd
  exact (pds_cons insE (pd_if (PW.pt (pdw_or (pdt_not (pdt_val (pd_call (hy := [false]) (dd := []) (F_is_sequence.mono (by decide)) hr rfl m_is_sequence FD_is_sequence.kp b_is_sequence v_is_sequence .nil tk insE (by decide) (pda_cons (pd_var (i := 0) rfl (visB_ok rfl) (by decide) (by decide)) pda_nil rfl) rfl rfl rfl ((alen_cons alen_nil))) (fun _ => rfl))) (pdw_or1 (pdt_cmp (od_ne hU) (pd_callB cd_len rfl m_len (by decide +kernel) (pda_cons (pd_var (i := 0) rfl (visB_ok rfl) (by decide) (by decide)) pda_nil rfl) (by decide) (by decide) rfl rfl) pd_int rfl)))) (pds_cons insE (pd_ret pd_bl) pds_nil) pds_nil) (pds_cons insE (pd_asg (tg_tup (tgs_cons (tg_nm 2) (tgs_cons (tg_nm 3) tgs_nil))) (pd_var (i := 0) rfl (visB_ok rfl) (by decide) (by decide)) (pg_sq (n := 2) rfl (pgs_cons (pg_name (i := 2) hN rfl (locB_ok rfl) (by first | exact .inl rfl | exact .inr rfl)) (pgs_cons (pg_name (i := 3) hN rfl (locB_ok rfl) (by first | exact .inl rfl | exact .inr rfl)) pgs_nil rfl) rfl) rfl rfl) rfl rfl rfl) (pds_cons insE (pd_ret (pd_and (pd_call (hy := [false, false, false]) (dd := []) (F_is_between.mono (by decide)) hr rfl m_is_between FD_is_between.kp b_is_between v_is_between .nil tk insE (by decide) (pda_cons (pd_var (i := 2) rfl (visB_ok rfl) (by decide) (by decide)) (pda_cons (pd_un ud_neg (pd_var (i := 1) rfl (visB_ok rfl) (by decide) (by decide))) (pda_cons (pd_var (i := 1) rfl (visB_ok rfl) (by decide) (by decide)) pda_nil rfl) rfl) rfl) rfl rfl rfl ((alen_cons (alen_cons (alen_cons alen_nil))))) (pd_and (pd_call (hy := [false, false, false]) (dd := []) (F_is_between.mono (by decide)) hr rfl m_is_between FD_is_between.kp b_is_between v_is_between .nil tk insE (by decide) (pda_cons (pd_var (i := 3) rfl (visB_ok rfl) (by decide) (by decide)) (pda_cons pd_int (pda_cons (pd_var (i := 1) rfl (visB_ok rfl) (by decide) (by decide)) pda_nil rfl) rfl) rfl) rfl rfl rfl ((alen_cons (alen_cons (alen_cons alen_nil))))) (pd_one (pd_cmp (od_eq hU) (pd_callG cd_gcd rfl m_gcd (pda_cons (pd_var (i := 2) rfl (visB_ok rfl) (by decide) (by decide)) (pda_cons (pd_var (i := 3) rfl (visB_ok rfl) (by decide) (by decide)) pda_nil rfl) rfl) (by decide) rfl rfl) pd_int rfl))))) pds_nil)))
/-! is_letters -/
def d_is_letters : List Vx → Mo Vx := fun ys => fnM 2 (sCons (sRet (eCall bAll (aCons (eLc true (wVal (eVar 0)) (.nm 1) tYesD (eBin dIn (eVar 1) (eC (.str [97, 98, 99, 100, 101, 102, 103, 104, 105, 106, 107, 108, 109, 110, 111, 112, 113, 114, 115, 116, 117, 118, 119, 120, 121, 122]))) [1]) aNil))) sNil) ys
theorem S_is_letters : FnScope ["run", "sign"] ["run"] (defScope (top 28)) := ⟨rfl, rfl, rfl, by decide +kernel, rfl, by decide +kernel, by decide +kernel⟩
theorem ok_is_letters {P : Program} {w : World} {K : PySem.W.Frag} {h : Heap} {mg : PySem.Str → Option Value} {base : Heap} (KX : K.In h) (G : h.Ns mainGlobals mg) (c : FX K) (TBs : ∀ p ∈ csL K, LamX.TabB base mg p.1 p.2) : ∃ fd, FunD K "is_letters" "is_letters" (defArgs (top 28)) (defBody (top 28)) (defScope (top 28)) (D_is_letters.dvs K) [] (He.ga K "is_letters") fd ∧ (Binds K fd ["run"] []) ∧ FnOk P w K mg base (L2.CX P w) 1 (He.ga K "is_letters") fd ["run"] (spD K (g0 K) 1 d_is_letters) := by
  obtain ⟨fd, F⟩ := c.defs (d := D_is_letters) (List.mem_of_getElem? (i := 14) rfl)
  have m_all : mg "all" = none := He.free_ok KX G (c.facts (f := .free "all") (List.mem_of_getElem? (i := 12) rfl))
  obtain ⟨u_LETTERS, w_LETTERS, m_LETTERS, r_LETTERS, p_LETTERS⟩ := constB_ok KX G (c.const_LETTERS)
  refine ⟨fd, F, F.bindsN fun _ _ _ _ _ _ us hl => match us, hl with | [_], _ => rfl, fn_ok F S_is_letters rfl rfl fun cdv A outer s H E hr tk po => ?_⟩
  have hU := room64 hr
  have hU0 := room0 hr
  have hN := S_is_letters.nd
  exact (pds_cons insE (pd_ret (pd_callB (cd_all rfl) rfl m_all (by decide +kernel) (pda_cons (pd_lc [("sign", 1)] rfl hN (pd_wval (pd_var (i := 0) rfl (visB_ok rfl) (by decide) (by decide))) rfl rfl (tg_nm 1) rfl (fun _ _ _ _ _ => (pg_name (i := 1) hN rfl (locB_ok rfl) (by first | exact .inl rfl | exact .inr rfl))) (fun _ _ _ _ _ => pts_nilD) (fun _ _ _ _ _ => (pd_cmp (od_in hU) (pd_var (i := 1) rfl (visB_ok rfl) (by decide) (by decide)) (pd_glob rfl m_LETTERS r_LETTERS p_LETTERS (by decide)) rfl)) (fun _ => rfl)) pda_nil rfl) (by decide) (by decide) rfl rfl)) pds_nil)
/-! is_figures -/
def d_is_figures : List Vx → Mo Vx := fun ys => fnM 2 (sCons (sIf (tOrD (tNotD (tTst (eChain dLe dLe (eC (.int 1)) (eCall bLen (aCons (eVar 0) aNil)) (eC (.int 9))))) (tNotD (tVal (eCall bAll (aCons (eLc true (wVal (eVar 0)) (.nm 1) tYesD (eBin dIn (eVar 1) (eC (.str [48, 49, 50, 51, 52, 53, 54, 55, 56, 57]))) [1]) aNil))))) (sCons (sRet (eC (.bl false))) sNil) sNil) (sCons (sRet (eOr (eBin dEq (eVar 0) (eC (.str [48]))) (eBin dNe (eBin dIx (eVar 0) (eC (.int 0))) (eC (.str [48]))))) sNil)) ys
theorem S_is_figures : FnScope ["run", "sign"] ["run"] (defScope (top 29)) := ⟨rfl, rfl, rfl, by decide +kernel, rfl, by decide +kernel, by decide +kernel⟩
theorem ok_is_figures {P : Program} {w : World} {K : PySem.W.Frag} {h : Heap} {mg : PySem.Str → Option Value} {base : Heap} (KX : K.In h) (G : h.Ns mainGlobals mg) (c : FX K) (TBs : ∀ p ∈ csL K, LamX.TabB base mg p.1 p.2) : ∃ fd, FunD K "is_figures" "is_figures" (defArgs (top 29)) (defBody (top 29)) (defScope (top 29)) (D_is_figures.dvs K) [] (He.ga K "is_figures") fd ∧ (Binds K fd ["run"] []) ∧ FnOk P w K mg base (L2.CX P w) 1 (He.ga K "is_figures") fd ["run"] (spD K (g0 K) 1 d_is_figures) := by
  obtain ⟨fd, F⟩ := c.defs (d := D_is_figures) (List.mem_of_getElem? (i := 15) rfl)
  have m_all : mg "all" = none := He.free_ok KX G (c.facts (f := .free "all") (List.mem_of_getElem? (i := 12) rfl))
  have m_len : mg "len" = none := He.free_ok KX G (c.facts (f := .free "len") (List.mem_of_getElem? (i := 8) rfl))
  obtain ⟨u_FIGURES, w_FIGURES, m_FIGURES, r_FIGURES, p_FIGURES⟩ := constB_ok KX G (c.const_FIGURES)
  obtain ⟨u_MOST_FIGURES, w_MOST_FIGURES, m_MOST_FIGURES, r_MOST_FIGURES, p_MOST_FIGURES⟩ := constB_ok KX G (c.const_MOST_FIGURES)
  refine ⟨fd, F, F.bindsN fun _ _ _ _ _ _ us hl => match us, hl with | [_], _ => rfl, fn_ok F S_is_figures rfl rfl fun cdv A outer s H E hr tk po => ?_⟩
  have hU := room64 hr
  have hU0 := room0 hr
  have hN := S_is_figures.nd
  exact (pds_cons insE (pd_if (PW.pt (pdw_or (pdt_not (pdt_chain od_le od_le pd_int (pd_callB cd_len rfl m_len (by decide +kernel) (pda_cons (pd_var (i := 0) rfl (visB_ok rfl) (by decide) (by decide)) pda_nil rfl) (by decide) (by decide) rfl rfl) (pd_glob rfl m_MOST_FIGURES r_MOST_FIGURES p_MOST_FIGURES (by decide)) rfl)) (pdw_or1 (pdt_not (pdt_val (pd_callB (cd_all rfl) rfl m_all (by decide +kernel) (pda_cons (pd_lc [("sign", 1)] rfl hN (pd_wval (pd_var (i := 0) rfl (visB_ok rfl) (by decide) (by decide))) rfl rfl (tg_nm 1) rfl (fun _ _ _ _ _ => (pg_name (i := 1) hN rfl (locB_ok rfl) (by first | exact .inl rfl | exact .inr rfl))) (fun _ _ _ _ _ => pts_nilD) (fun _ _ _ _ _ => (pd_cmp (od_in hU) (pd_var (i := 1) rfl (visB_ok rfl) (by decide) (by decide)) (pd_glob rfl m_FIGURES r_FIGURES p_FIGURES (by decide)) rfl)) (fun _ => rfl)) pda_nil rfl) (by decide) (by decide) rfl rfl) (fun _ => rfl)))))) (pds_cons insE (pd_ret pd_bl) pds_nil) pds_nil) (pds_cons insE (pd_ret (pd_or (pd_cmp (od_eq hU) (pd_var (i := 0) rfl (visB_ok rfl) (by decide) (by decide)) (pd_str (s := [48]) (by decide +kernel) ⟨by decide +kernel, by decide +kernel⟩) rfl) (pd_one (pd_cmp (od_ne hU) (pd_ix (pd_var (i := 0) rfl (visB_ok rfl) (by decide) (by decide)) pd_int (fun _ _ => rfl)) (pd_str (s := [48]) (by decide +kernel) ⟨by decide +kernel, by decide +kernel⟩) rfl)))) pds_nil))
/-! is_integer_word -/
def d_is_integer_word : List Vx → Mo Vx := fun ys => fnM 1 (sCons (sIf (tVal (eMt .str mStarts (eVar 0) (aCons (eC (.str [45])) aNil))) (sCons (sRet (eAnd (eBin dNe (eVar 0) (eC (.str [45, 48]))) (eCall (fun ys => callM [false] d_is_figures (ys ++ ([] : List Dt).map Vx.d)) (aCons (eSl (eVar 0) (oSome (eC (.int 1))) oNone) aNil)))) sNil) sNil) (sCons (sRet (eCall (fun ys => callM [false] d_is_figures (ys ++ ([] : List Dt).map Vx.d)) (aCons (eVar 0) aNil))) sNil)) ys
theorem S_is_integer_word : FnScope ["run"] ["run"] (defScope (top 30)) := ⟨rfl, rfl, rfl, by decide +kernel, rfl, by decide +kernel, by decide +kernel⟩
theorem ok_is_integer_word {P : Program} {w : World} {K : PySem.W.Frag} {h : Heap} {mg : PySem.Str → Option Value} {base : Heap} (KX : K.In h) (G : h.Ns mainGlobals mg) (c : FX K) (TBs : ∀ p ∈ csL K, LamX.TabB base mg p.1 p.2) : ∃ fd, FunD K "is_integer_word" "is_integer_word" (defArgs (top 30)) (defBody (top 30)) (defScope (top 30)) (D_is_integer_word.dvs K) [] (He.ga K "is_integer_word") fd ∧ (Binds K fd ["run"] []) ∧ FnOk P w K mg base (L2.CX P w) 2 (He.ga K "is_integer_word") fd ["run"] (spD K (g0 K) 1 d_is_integer_word) := by
  obtain ⟨fd, F⟩ := c.defs (d := D_is_integer_word) (List.mem_of_getElem? (i := 16) rfl)
  have m_is_figures : mg "is_figures" = some (.ref (He.ga K "is_figures")) := He.glo_ok KX G (c.facts (f := .glo "is_figures") (List.mem_of_getElem? (i := 13) rfl))
  obtain ⟨fd_is_figures, FD_is_figures, b_is_figures, F_is_figures⟩ := ok_is_figures (P := P) (w := w) (mg := mg) (base := base) KX G c TBs
  have v_is_figures : Vals [] [] := .nil
  refine ⟨fd, F, F.bindsN fun _ _ _ _ _ _ us hl => match us, hl with | [_], _ => rfl, fn_ok F S_is_integer_word rfl rfl fun cdv A outer s H E hr tk po => ?_⟩
  have hU := room64 hr
  have hU0 := room0 hr
  have hN := S_is_integer_word.nd
  exact (pds_cons insE (pd_if (pdt_val (pd_mt (T := .str) PySem.F.plainAttrs_str PySem.F.slot_str_startswith PySem.F.type_str_startswith od_starts (pd_var (i := 0) rfl (visB_ok rfl) (by decide) (by decide)) (pda_cons (pd_str (s := [45]) (by decide +kernel) ⟨by decide +kernel, by decide +kernel⟩) pda_nil rfl) rfl rfl rfl rfl rfl) (fun _ => rfl)) (pds_cons insE (pd_ret (pd_and (pd_cmp (od_ne hU) (pd_var (i := 0) rfl (visB_ok rfl) (by decide) (by decide)) (pd_str (s := [45, 48]) (by decide +kernel) ⟨by decide +kernel, by decide +kernel⟩) rfl) (pd_one (pd_call (hy := [false]) (dd := []) (F_is_figures.mono (by decide)) hr rfl m_is_figures FD_is_figures.kp b_is_figures v_is_figures .nil tk insE (by decide) (pda_cons (pd_sl (pd_var (i := 0) rfl (visB_ok rfl) (by decide) (by decide)) (pdo_some pd_int) pdo_none) pda_nil rfl) rfl rfl rfl ((alen_cons alen_nil)))))) pds_nil) pds_nil) (pds_cons insE (pd_ret (pd_call (hy := [false]) (dd := []) (F_is_figures.mono (by decide)) hr rfl m_is_figures FD_is_figures.kp b_is_figures v_is_figures .nil tk insE (by decide) (pda_cons (pd_var (i := 0) rfl (visB_ok rfl) (by decide) (by decide)) pda_nil rfl) rfl rfl rfl ((alen_cons alen_nil)))) pds_nil))
/-! number_of -/
def d_number_of : List Vx → Mo Vx := fun ys => fnM 5 (sCons (sSet (.tup [(.nm 1), (.nm 2), (.nm 3)]) (eMt .str mPart (eVar 0) (aCons (eC (.str [47])) aNil))) (sCons (sIf (tNotD (tVal (eCall (fun ys => callM [false] d_is_integer_word (ys ++ ([] : List Dt).map Vx.d)) (aCons (eVar 1) aNil)))) (sCons (sRet (eC .non)) sNil) sNil) (sCons (sIf (tTst (eBin dEq (eVar 2) (eC (.str [])))) (sCons (sRet (eTup (aCons (eCall bInt (aCons (eVar 1) aNil)) (aCons (eC (.int 1)) aNil)))) sNil) sNil) (sCons (sIf (tOrD (tTst (eBin dEq (eVar 1) (eC (.str [48])))) (tNotD (tVal (eCall (fun ys => callM [false] d_is_figures (ys ++ ([] : List Dt).map Vx.d)) (aCons (eVar 3) aNil))))) (sCons (sRet (eC .non)) sNil) sNil) (sCons (sSet (.nm 4) (eTup (aCons (eCall bInt (aCons (eVar 1) aNil)) (aCons (eCall bInt (aCons (eVar 3) aNil)) aNil)))) (sCons (sIf (tOrD (tTst (eBin dLt (eBin dIx (eVar 4) (eC (.int 1))) (eC (.int 2)))) (tTst (eBin dNe (eCall bGcd (aCons (eBin dIx (eVar 4) (eC (.int 0))) (aCons (eBin dIx (eVar 4) (eC (.int 1))) aNil))) (eC (.int 1))))) (sCons (sRet (eC .non)) sNil) sNil) (sCons (sRet (eVar 4)) sNil))))))) ys
theorem S_number_of : FnScope ["word", "top", "stroke", "bottom", "pair"] ["word"] (defScope (top 31)) := ⟨rfl, rfl, rfl, by decide +kernel, rfl, by decide +kernel, by decide +kernel⟩
theorem ok_number_of {P : Program} {w : World} {K : PySem.W.Frag} {h : Heap} {mg : PySem.Str → Option Value} {base : Heap} (KX : K.In h) (G : h.Ns mainGlobals mg) (c : FX K) (TBs : ∀ p ∈ csL K, LamX.TabB base mg p.1 p.2) : ∃ fd, FunD K "number_of" "number_of" (defArgs (top 31)) (defBody (top 31)) (defScope (top 31)) (D_number_of.dvs K) [] (He.ga K "number_of") fd ∧ (Binds K fd ["word"] []) ∧ FnOk P w K mg base (L2.CX P w) 3 (He.ga K "number_of") fd ["word"] (spD K (g0 K) 1 d_number_of) := by
  obtain ⟨fd, F⟩ := c.defs (d := D_number_of) (List.mem_of_getElem? (i := 17) rfl)
  have m_gcd : mg "gcd" = some (.builtin "math.gcd") := PySem.W.mg_of KX G (He.eqO_ok c.gcd)
  have m_int : mg "int" = none := He.free_ok KX G (c.facts (f := .free "int") (List.mem_of_getElem? (i := 6) rfl))
  have m_is_figures : mg "is_figures" = some (.ref (He.ga K "is_figures")) := He.glo_ok KX G (c.facts (f := .glo "is_figures") (List.mem_of_getElem? (i := 13) rfl))
  obtain ⟨fd_is_figures, FD_is_figures, b_is_figures, F_is_figures⟩ := ok_is_figures (P := P) (w := w) (mg := mg) (base := base) KX G c TBs
  have v_is_figures : Vals [] [] := .nil
  have m_is_integer_word : mg "is_integer_word" = some (.ref (He.ga K "is_integer_word")) := He.glo_ok KX G (c.facts (f := .glo "is_integer_word") (List.mem_of_getElem? (i := 14) rfl))
  obtain ⟨fd_is_integer_word, FD_is_integer_word, b_is_integer_word, F_is_integer_word⟩ := ok_is_integer_word (P := P) (w := w) (mg := mg) (base := base) KX G c TBs
  have v_is_integer_word : Vals [] [] := .nil
  refine ⟨fd, F, F.bindsN fun _ _ _ _ _ _ us hl => match us, hl with | [_], _ => rfl, fn_ok F S_number_of rfl rfl fun cdv A outer s H E hr tk po => ?_⟩
  have hU := room64 hr
  have hU0 := room0 hr
  have hN := S_number_of.nd
  exact (pds_cons insE (pd_asg (tg_tup (tgs_cons (tg_nm 1) (tgs_cons (tg_nm 2) (tgs_cons (tg_nm 3) tgs_nil)))) (pd_mt (T := .str) PySem.F.plainAttrs_str PySem.F.slot_str_partition PySem.F.type_str_partition od_part (pd_var (i := 0) rfl (visB_ok rfl) (by decide) (by decide)) (pda_cons (pd_str (s := [47]) (by decide +kernel) ⟨by decide +kernel, by decide +kernel⟩) pda_nil rfl) rfl rfl rfl rfl rfl) (pg_sq (n := 3) rfl (pgs_cons (pg_name (i := 1) hN rfl (locB_ok rfl) (by first | exact .inl rfl | exact .inr rfl)) (pgs_cons (pg_name (i := 2) hN rfl (locB_ok rfl) (by first | exact .inl rfl | exact .inr rfl)) (pgs_cons (pg_name (i := 3) hN rfl (locB_ok rfl) (by first | exact .inl rfl | exact .inr rfl)) pgs_nil rfl) rfl) rfl) rfl rfl) rfl rfl rfl) (pds_cons insE (pd_if (pdt_not (pdt_val (pd_call (hy := [false]) (dd := []) (F_is_integer_word.mono (by decide)) hr rfl m_is_integer_word FD_is_integer_word.kp b_is_integer_word v_is_integer_word .nil tk insE (by decide) (pda_cons (pd_var (i := 1) rfl (visB_ok rfl) (by decide) (by decide)) pda_nil rfl) rfl rfl rfl ((alen_cons alen_nil))) (fun _ => rfl))) (pds_cons insE (pd_ret pd_non) pds_nil) pds_nil) (pds_cons insE (pd_if (pdt_cmp (od_eq hU) (pd_var (i := 2) rfl (visB_ok rfl) (by decide) (by decide)) (pd_str (s := []) (by decide +kernel) ⟨by decide +kernel, by decide +kernel⟩) rfl) (pds_cons insE (pd_ret (pd_tup (pda_cons (pd_callTy cd_int rfl m_int (by decide +kernel) (pda_cons (pd_var (i := 1) rfl (visB_ok rfl) (by decide) (by decide)) pda_nil rfl) (by decide) (by decide) rfl rfl) (pda_cons pd_int pda_nil rfl) rfl))) pds_nil) pds_nil) (pds_cons insE (pd_if (PW.pt (pdw_or (pdt_cmp (od_eq hU) (pd_var (i := 1) rfl (visB_ok rfl) (by decide) (by decide)) (pd_str (s := [48]) (by decide +kernel) ⟨by decide +kernel, by decide +kernel⟩) rfl) (pdw_or1 (pdt_not (pdt_val (pd_call (hy := [false]) (dd := []) (F_is_figures.mono (by decide)) hr rfl m_is_figures FD_is_figures.kp b_is_figures v_is_figures .nil tk insE (by decide) (pda_cons (pd_var (i := 3) rfl (visB_ok rfl) (by decide) (by decide)) pda_nil rfl) rfl rfl rfl ((alen_cons alen_nil))) (fun _ => rfl)))))) (pds_cons insE (pd_ret pd_non) pds_nil) pds_nil) (pds_cons insE (pd_set (i := 4) hN rfl (locB_ok rfl) (pd_tup (pda_cons (pd_callTy cd_int rfl m_int (by decide +kernel) (pda_cons (pd_var (i := 1) rfl (visB_ok rfl) (by decide) (by decide)) pda_nil rfl) (by decide) (by decide) rfl rfl) (pda_cons (pd_callTy cd_int rfl m_int (by decide +kernel) (pda_cons (pd_var (i := 3) rfl (visB_ok rfl) (by decide) (by decide)) pda_nil rfl) (by decide) (by decide) rfl rfl) pda_nil rfl) rfl)) rfl (by first | exact .inl rfl | exact .inr rfl)) (pds_cons insE (pd_if (PW.pt (pdw_or (pdt_cmp (od_lt hU0) (pd_ix (pd_var (i := 4) rfl (visB_ok rfl) (by decide) (by decide)) pd_int (fun _ _ => rfl)) pd_int rfl) (pdw_or1 (pdt_cmp (od_ne hU) (pd_callG cd_gcd rfl m_gcd (pda_cons (pd_ix (pd_var (i := 4) rfl (visB_ok rfl) (by decide) (by decide)) pd_int (fun _ _ => rfl)) (pda_cons (pd_ix (pd_var (i := 4) rfl (visB_ok rfl) (by decide) (by decide)) pd_int (fun _ _ => rfl)) pda_nil rfl) rfl) (by decide) rfl rfl) pd_int rfl)))) (pds_cons insE (pd_ret pd_non) pds_nil) pds_nil) (pds_cons insE (pd_ret (pd_var (i := 4) rfl (visB_ok rfl) (by decide) (by decide))) pds_nil)))))))
/-! number_word -/
def d_number_word : List Vx → Mo Vx := fun ys => fnM 3 (sCons (sSet (.tup [(.nm 1), (.nm 2)]) (eVar 0)) (sCons (sIf (tOrD (tNotD (tTst (eChain dLe dLe (eUn dNeg (eC (.int 999999999))) (eVar 1) (eC (.int 999999999))))) (tTst (eBin dGt (eVar 2) (eC (.int 999999999))))) (sCons (sRet (eC .non)) sNil) sNil) (sCons (sIf (tTst (eBin dEq (eVar 2) (eC (.int 1)))) (sCons (sRet (eCall bStr (aCons (eVar 1) aNil))) sNil) sNil) (sCons (sRet ((jCons (eFmt (eVar 1)) (jCons (eC (.str [47])) (jCons (eFmt (eVar 2)) jNil))) [])) sNil)))) ys
theorem S_number_word : FnScope ["number", "top", "bottom"] ["number"] (defScope (top 32)) := ⟨rfl, rfl, rfl, by decide +kernel, rfl, by decide +kernel, by decide +kernel⟩
theorem ok_number_word {P : Program} {w : World} {K : PySem.W.Frag} {h : Heap} {mg : PySem.Str → Option Value} {base : Heap} (KX : K.In h) (G : h.Ns mainGlobals mg) (c : FX K) (TBs : ∀ p ∈ csL K, LamX.TabB base mg p.1 p.2) : ∃ fd, FunD K "number_word" "number_word" (defArgs (top 32)) (defBody (top 32)) (defScope (top 32)) (D_number_word.dvs K) [] (He.ga K "number_word") fd ∧ (Binds K fd ["number"] []) ∧ FnOk P w K mg base (L2.CX P w) 1 (He.ga K "number_word") fd ["number"] (spD K (g0 K) 1 d_number_word) := by
  obtain ⟨fd, F⟩ := c.defs (d := D_number_word) (List.mem_of_getElem? (i := 18) rfl)
  have m_str : mg "str" = none := He.free_ok KX G (c.facts (f := .free "str") (List.mem_of_getElem? (i := 9) rfl))
  obtain ⟨u_GREATEST, w_GREATEST, m_GREATEST, r_GREATEST, p_GREATEST⟩ := constB_ok KX G (c.const_GREATEST)
  refine ⟨fd, F, F.bindsN fun _ _ _ _ _ _ us hl => match us, hl with | [_], _ => rfl, fn_ok F S_number_word rfl rfl fun cdv A outer s H E hr tk po => ?_⟩
  have hU := room64 hr
  have hU0 := room0 hr
  have hN := S_number_word.nd
  exact (pds_cons insE (pd_asg (tg_tup (tgs_cons (tg_nm 1) (tgs_cons (tg_nm 2) tgs_nil))) (pd_var (i := 0) rfl (visB_ok rfl) (by decide) (by decide)) (pg_sq (n := 2) rfl (pgs_cons (pg_name (i := 1) hN rfl (locB_ok rfl) (by first | exact .inl rfl | exact .inr rfl)) (pgs_cons (pg_name (i := 2) hN rfl (locB_ok rfl) (by first | exact .inl rfl | exact .inr rfl)) pgs_nil rfl) rfl) rfl rfl) rfl rfl rfl) (pds_cons insE (pd_if (PW.pt (pdw_or (pdt_not (pdt_chain od_le od_le (pd_un ud_neg (pd_glob rfl m_GREATEST r_GREATEST p_GREATEST (by decide))) (pd_var (i := 1) rfl (visB_ok rfl) (by decide) (by decide)) (pd_glob rfl m_GREATEST r_GREATEST p_GREATEST (by decide)) rfl)) (pdw_or1 (pdt_cmp od_gt (pd_var (i := 2) rfl (visB_ok rfl) (by decide) (by decide)) (pd_glob rfl m_GREATEST r_GREATEST p_GREATEST (by decide)) rfl)))) (pds_cons insE (pd_ret pd_non) pds_nil) pds_nil) (pds_cons insE (pd_if (pdt_cmp (od_eq hU) (pd_var (i := 2) rfl (visB_ok rfl) (by decide) (by decide)) pd_int rfl) (pds_cons insE (pd_ret (pd_callTy cd_str rfl m_str (by decide +kernel) (pda_cons (pd_var (i := 1) rfl (visB_ok rfl) (by decide) (by decide)) pda_nil rfl) (by decide) (by decide) rfl rfl)) pds_nil) pds_nil) (pds_cons insE (pd_ret (pd_joined (.cons (pd_fmt (pd_var (i := 1) rfl (visB_ok rfl) (by decide) (by decide))) (.cons (pd_str (s := [47]) (by decide +kernel) ⟨by decide +kernel, by decide +kernel⟩) (.cons (pd_fmt (pd_var (i := 2) rfl (visB_ok rfl) (by decide) (by decide))) .nil))))) pds_nil))))
/-! is_name -/
def d_is_name : List Vx → Mo Vx := fun ys => fnM 1 (sCons (sRet (eAnd (eChain dLe dLe (eC (.int 1)) (eCall bLen (aCons (eVar 0) aNil)) (eC (.int 8))) (eCall (fun ys => callM [false] d_is_letters (ys ++ ([] : List Dt).map Vx.d)) (aCons (eVar 0) aNil)))) sNil) ys
theorem S_is_name : FnScope ["word"] ["word"] (defScope (top 33)) := ⟨rfl, rfl, rfl, by decide +kernel, rfl, by decide +kernel, by decide +kernel⟩
theorem ok_is_name {P : Program} {w : World} {K : PySem.W.Frag} {h : Heap} {mg : PySem.Str → Option Value} {base : Heap} (KX : K.In h) (G : h.Ns mainGlobals mg) (c : FX K) (TBs : ∀ p ∈ csL K, LamX.TabB base mg p.1 p.2) : ∃ fd, FunD K "is_name" "is_name" (defArgs (top 33)) (defBody (top 33)) (defScope (top 33)) (D_is_name.dvs K) [] (He.ga K "is_name") fd ∧ (Binds K fd ["word"] []) ∧ FnOk P w K mg base (L2.CX P w) 2 (He.ga K "is_name") fd ["word"] (spD K (g0 K) 1 d_is_name) := by
  obtain ⟨fd, F⟩ := c.defs (d := D_is_name) (List.mem_of_getElem? (i := 19) rfl)
  have m_len : mg "len" = none := He.free_ok KX G (c.facts (f := .free "len") (List.mem_of_getElem? (i := 8) rfl))
  obtain ⟨u_MOST_LETTERS, w_MOST_LETTERS, m_MOST_LETTERS, r_MOST_LETTERS, p_MOST_LETTERS⟩ := constB_ok KX G (c.const_MOST_LETTERS)
  have m_is_letters : mg "is_letters" = some (.ref (He.ga K "is_letters")) := He.glo_ok KX G (c.facts (f := .glo "is_letters") (List.mem_of_getElem? (i := 15) rfl))
  obtain ⟨fd_is_letters, FD_is_letters, b_is_letters, F_is_letters⟩ := ok_is_letters (P := P) (w := w) (mg := mg) (base := base) KX G c TBs
  have v_is_letters : Vals [] [] := .nil
  refine ⟨fd, F, F.bindsN fun _ _ _ _ _ _ us hl => match us, hl with | [_], _ => rfl, fn_ok F S_is_name rfl rfl fun cdv A outer s H E hr tk po => ?_⟩
  have hU := room64 hr
  have hU0 := room0 hr
  have hN := S_is_name.nd
  exact (pds_cons insE (pd_ret (pd_and (pd_chain od_le od_le pd_int (pd_callB cd_len rfl m_len (by decide +kernel) (pda_cons (pd_var (i := 0) rfl (visB_ok rfl) (by decide) (by decide)) pda_nil rfl) (by decide) (by decide) rfl rfl) (pd_glob rfl m_MOST_LETTERS r_MOST_LETTERS p_MOST_LETTERS (by decide)) rfl) (pd_one (pd_call (hy := [false]) (dd := []) (F_is_letters.mono (by decide)) hr rfl m_is_letters FD_is_letters.kp b_is_letters v_is_letters .nil tk insE (by decide) (pda_cons (pd_var (i := 0) rfl (visB_ok rfl) (by decide) (by decide)) pda_nil rfl) rfl rfl rfl ((alen_cons alen_nil)))))) pds_nil)
/-! is_name_word -/
def d_is_name_word : List Vx → Mo Vx := fun ys => fnM 1 (sCons (sRet (eAnd (eMt .str mStarts (eVar 0) (aCons (eC (.str [47])) aNil)) (eCall (fun ys => callM [false] d_is_name (ys ++ ([] : List Dt).map Vx.d)) (aCons (eSl (eVar 0) (oSome (eC (.int 1))) oNone) aNil)))) sNil) ys
theorem S_is_name_word : FnScope ["word"] ["word"] (defScope (top 34)) := ⟨rfl, rfl, rfl, by decide +kernel, rfl, by decide +kernel, by decide +kernel⟩
theorem ok_is_name_word {P : Program} {w : World} {K : PySem.W.Frag} {h : Heap} {mg : PySem.Str → Option Value} {base : Heap} (KX : K.In h) (G : h.Ns mainGlobals mg) (c : FX K) (TBs : ∀ p ∈ csL K, LamX.TabB base mg p.1 p.2) : ∃ fd, FunD K "is_name_word" "is_name_word" (defArgs (top 34)) (defBody (top 34)) (defScope (top 34)) (D_is_name_word.dvs K) [] (He.ga K "is_name_word") fd ∧ (Binds K fd ["word"] []) ∧ FnOk P w K mg base (L2.CX P w) 3 (He.ga K "is_name_word") fd ["word"] (spD K (g0 K) 1 d_is_name_word) := by
  obtain ⟨fd, F⟩ := c.defs (d := D_is_name_word) (List.mem_of_getElem? (i := 20) rfl)
  have m_is_name : mg "is_name" = some (.ref (He.ga K "is_name")) := He.glo_ok KX G (c.facts (f := .glo "is_name") (List.mem_of_getElem? (i := 16) rfl))
  obtain ⟨fd_is_name, FD_is_name, b_is_name, F_is_name⟩ := ok_is_name (P := P) (w := w) (mg := mg) (base := base) KX G c TBs
  have v_is_name : Vals [] [] := .nil
  refine ⟨fd, F, F.bindsN fun _ _ _ _ _ _ us hl => match us, hl with | [_], _ => rfl, fn_ok F S_is_name_word rfl rfl fun cdv A outer s H E hr tk po => ?_⟩
  have hU := room64 hr
  have hU0 := room0 hr
  have hN := S_is_name_word.nd
  exact (pds_cons insE (pd_ret (pd_and (pd_mt (T := .str) PySem.F.plainAttrs_str PySem.F.slot_str_startswith PySem.F.type_str_startswith od_starts (pd_var (i := 0) rfl (visB_ok rfl) (by decide) (by decide)) (pda_cons (pd_str (s := [47]) (by decide +kernel) ⟨by decide +kernel, by decide +kernel⟩) pda_nil rfl) rfl rfl rfl rfl rfl) (pd_one (pd_call (hy := [false]) (dd := []) (F_is_name.mono (by decide)) hr rfl m_is_name FD_is_name.kp b_is_name v_is_name .nil tk insE (by decide) (pda_cons (pd_sl (pd_var (i := 0) rfl (visB_ok rfl) (by decide) (by decide)) (pdo_some pd_int) pdo_none) pda_nil rfl) rfl rfl rfl ((alen_cons alen_nil)))))) pds_nil)
/-! is_letter_word -/
def d_is_letter_word : List Vx → Mo Vx := fun ys => fnM 1 (sCons (sRet (eAnd (eBin dGe (eCall bLen (aCons (eVar 0) aNil)) (eC (.int 2))) (eAnd (eMt .str mStarts (eVar 0) (aCons (eC (.str [40])) aNil)) (eAnd (eMt .str mEnds (eVar 0) (aCons (eC (.str [41])) aNil)) (eCall (fun ys => callM [false] d_is_letters (ys ++ ([] : List Dt).map Vx.d)) (aCons (eSl (eVar 0) (oSome (eC (.int 1))) (oSome (eUn dNeg (eC (.int 1))))) aNil)))))) sNil) ys
theorem S_is_letter_word : FnScope ["word"] ["word"] (defScope (top 35)) := ⟨rfl, rfl, rfl, by decide +kernel, rfl, by decide +kernel, by decide +kernel⟩
theorem ok_is_letter_word {P : Program} {w : World} {K : PySem.W.Frag} {h : Heap} {mg : PySem.Str → Option Value} {base : Heap} (KX : K.In h) (G : h.Ns mainGlobals mg) (c : FX K) (TBs : ∀ p ∈ csL K, LamX.TabB base mg p.1 p.2) : ∃ fd, FunD K "is_letter_word" "is_letter_word" (defArgs (top 35)) (defBody (top 35)) (defScope (top 35)) (D_is_letter_word.dvs K) [] (He.ga K "is_letter_word") fd ∧ (Binds K fd ["word"] []) ∧ FnOk P w K mg base (L2.CX P w) 2 (He.ga K "is_letter_word") fd ["word"] (spD K (g0 K) 1 d_is_letter_word) := by
  obtain ⟨fd, F⟩ := c.defs (d := D_is_letter_word) (List.mem_of_getElem? (i := 21) rfl)
  have m_len : mg "len" = none := He.free_ok KX G (c.facts (f := .free "len") (List.mem_of_getElem? (i := 8) rfl))
  have m_is_letters : mg "is_letters" = some (.ref (He.ga K "is_letters")) := He.glo_ok KX G (c.facts (f := .glo "is_letters") (List.mem_of_getElem? (i := 15) rfl))
  obtain ⟨fd_is_letters, FD_is_letters, b_is_letters, F_is_letters⟩ := ok_is_letters (P := P) (w := w) (mg := mg) (base := base) KX G c TBs
  have v_is_letters : Vals [] [] := .nil
  refine ⟨fd, F, F.bindsN fun _ _ _ _ _ _ us hl => match us, hl with | [_], _ => rfl, fn_ok F S_is_letter_word rfl rfl fun cdv A outer s H E hr tk po => ?_⟩
  have hU := room64 hr
  have hU0 := room0 hr
  have hN := S_is_letter_word.nd
  exact (pds_cons insE (pd_ret (pd_and (pd_cmp od_ge (pd_callB cd_len rfl m_len (by decide +kernel) (pda_cons (pd_var (i := 0) rfl (visB_ok rfl) (by decide) (by decide)) pda_nil rfl) (by decide) (by decide) rfl rfl) pd_int rfl) (pd_and (pd_mt (T := .str) PySem.F.plainAttrs_str PySem.F.slot_str_startswith PySem.F.type_str_startswith od_starts (pd_var (i := 0) rfl (visB_ok rfl) (by decide) (by decide)) (pda_cons (pd_str (s := [40]) (by decide +kernel) ⟨by decide +kernel, by decide +kernel⟩) pda_nil rfl) rfl rfl rfl rfl rfl) (pd_and (pd_mt (T := .str) PySem.F.plainAttrs_str PySem.F.slot_str_endswith PySem.F.type_str_endswith od_ends (pd_var (i := 0) rfl (visB_ok rfl) (by decide) (by decide)) (pda_cons (pd_str (s := [41]) (by decide +kernel) ⟨by decide +kernel, by decide +kernel⟩) pda_nil rfl) rfl rfl rfl rfl rfl) (pd_one (pd_call (hy := [false]) (dd := []) (F_is_letters.mono (by decide)) hr rfl m_is_letters FD_is_letters.kp b_is_letters v_is_letters .nil tk insE (by decide) (pda_cons (pd_sl (pd_var (i := 0) rfl (visB_ok rfl) (by decide) (by decide)) (pdo_some pd_int) (pdo_some (pd_un ud_neg pd_int))) pda_nil rfl) rfl rfl rfl ((alen_cons alen_nil)))))))) pds_nil)
/-! is_word -/
def d_is_word : List Vx → Mo Vx := fun ys => fnM 1 (sCons (sIf (tOrD (tTst (eBin dIn (eVar 0) (eC (.tup [.str [123], .str [125]])))) (tOrD (tVal (eCall (fun ys => callM [false] d_is_name (ys ++ ([] : List Dt).map Vx.d)) (aCons (eVar 0) aNil))) (tOrD (tVal (eCall (fun ys => callM [false] d_is_name_word (ys ++ ([] : List Dt).map Vx.d)) (aCons (eVar 0) aNil))) (tVal (eCall (fun ys => callM [false] d_is_letter_word (ys ++ ([] : List Dt).map Vx.d)) (aCons (eVar 0) aNil)))))) (sCons (sRet (eC (.bl true))) sNil) sNil) (sCons (sRet (eBin dIsNot (eCall (fun ys => callM [false] d_number_of (ys ++ ([] : List Dt).map Vx.d)) (aCons (eVar 0) aNil)) (eC .non))) sNil)) ys
theorem S_is_word : FnScope ["run"] ["run"] (defScope (top 36)) := ⟨rfl, rfl, rfl, by decide +kernel, rfl, by decide +kernel, by decide +kernel⟩
theorem ok_is_word {P : Program} {w : World} {K : PySem.W.Frag} {h : Heap} {mg : PySem.Str → Option Value} {base : Heap} (KX : K.In h) (G : h.Ns mainGlobals mg) (c : FX K) (TBs : ∀ p ∈ csL K, LamX.TabB base mg p.1 p.2) : ∃ fd, FunD K "is_word" "is_word" (defArgs (top 36)) (defBody (top 36)) (defScope (top 36)) (D_is_word.dvs K) [] (He.ga K "is_word") fd ∧ (Binds K fd ["run"] []) ∧ FnOk P w K mg base (L2.CX P w) 4 (He.ga K "is_word") fd ["run"] (spD K (g0 K) 1 d_is_word) := by
  obtain ⟨fd, F⟩ := c.defs (d := D_is_word) (List.mem_of_getElem? (i := 22) rfl)
  obtain ⟨u_BRACES, w_BRACES, m_BRACES, r_BRACES, p_BRACES⟩ := constB_ok KX G (c.const_BRACES)
  have m_is_letter_word : mg "is_letter_word" = some (.ref (He.ga K "is_letter_word")) := He.glo_ok KX G (c.facts (f := .glo "is_letter_word") (List.mem_of_getElem? (i := 17) rfl))
  obtain ⟨fd_is_letter_word, FD_is_letter_word, b_is_letter_word, F_is_letter_word⟩ := ok_is_letter_word (P := P) (w := w) (mg := mg) (base := base) KX G c TBs
  have v_is_letter_word : Vals [] [] := .nil
  have m_is_name : mg "is_name" = some (.ref (He.ga K "is_name")) := He.glo_ok KX G (c.facts (f := .glo "is_name") (List.mem_of_getElem? (i := 16) rfl))
  obtain ⟨fd_is_name, FD_is_name, b_is_name, F_is_name⟩ := ok_is_name (P := P) (w := w) (mg := mg) (base := base) KX G c TBs
  have v_is_name : Vals [] [] := .nil
  have m_is_name_word : mg "is_name_word" = some (.ref (He.ga K "is_name_word")) := He.glo_ok KX G (c.facts (f := .glo "is_name_word") (List.mem_of_getElem? (i := 18) rfl))
  obtain ⟨fd_is_name_word, FD_is_name_word, b_is_name_word, F_is_name_word⟩ := ok_is_name_word (P := P) (w := w) (mg := mg) (base := base) KX G c TBs
  have v_is_name_word : Vals [] [] := .nil
  have m_number_of : mg "number_of" = some (.ref (He.ga K "number_of")) := He.glo_ok KX G (c.facts (f := .glo "number_of") (List.mem_of_getElem? (i := 19) rfl))
  obtain ⟨fd_number_of, FD_number_of, b_number_of, F_number_of⟩ := ok_number_of (P := P) (w := w) (mg := mg) (base := base) KX G c TBs
  have v_number_of : Vals [] [] := .nil
  refine ⟨fd, F, F.bindsN fun _ _ _ _ _ _ us hl => match us, hl with | [_], _ => rfl, fn_ok F S_is_word rfl rfl fun cdv A outer s H E hr tk po => ?_⟩
  have hU := room64 hr
  have hU0 := room0 hr
  have hN := S_is_word.nd
  exact (pds_cons insE (pd_if (PW.pt (pdw_or (pdt_cmp (od_in hU) (pd_var (i := 0) rfl (visB_ok rfl) (by decide) (by decide)) (pd_glob rfl m_BRACES r_BRACES p_BRACES (by decide)) rfl) (pdw_or (pdt_val (pd_call (hy := [false]) (dd := []) (F_is_name.mono (by decide)) hr rfl m_is_name FD_is_name.kp b_is_name v_is_name .nil tk insE (by decide) (pda_cons (pd_var (i := 0) rfl (visB_ok rfl) (by decide) (by decide)) pda_nil rfl) rfl rfl rfl ((alen_cons alen_nil))) (fun _ => rfl)) (pdw_or (pdt_val (pd_call (hy := [false]) (dd := []) (F_is_name_word.mono (by decide)) hr rfl m_is_name_word FD_is_name_word.kp b_is_name_word v_is_name_word .nil tk insE (by decide) (pda_cons (pd_var (i := 0) rfl (visB_ok rfl) (by decide) (by decide)) pda_nil rfl) rfl rfl rfl ((alen_cons alen_nil))) (fun _ => rfl)) (pdw_or1 (pdt_val (pd_call (hy := [false]) (dd := []) (F_is_letter_word.mono (by decide)) hr rfl m_is_letter_word FD_is_letter_word.kp b_is_letter_word v_is_letter_word .nil tk insE (by decide) (pda_cons (pd_var (i := 0) rfl (visB_ok rfl) (by decide) (by decide)) pda_nil rfl) rfl rfl rfl ((alen_cons alen_nil))) (fun _ => rfl))))))) (pds_cons insE (pd_ret pd_bl) pds_nil) pds_nil) (pds_cons insE (pd_ret (pd_cmp od_isNot (pd_call (hy := [false]) (dd := []) (F_number_of.mono (by decide)) hr rfl m_number_of FD_number_of.kp b_number_of v_number_of .nil tk insE (by decide) (pda_cons (pd_var (i := 0) rfl (visB_ok rfl) (by decide) (by decide)) pda_nil rfl) rfl rfl rfl ((alen_cons alen_nil))) pd_non rfl)) pds_nil))
/-! runs_of -/
def d_runs_of : List Vx → Mo Vx := fun ys => fnM 6 (sCons (sSet (.nm 1) (eNew aNil)) (sCons (sFor (wEnL (eMt .str mSplit (eVar 0) (aCons (eC (.str [10])) aNil))) (.tup [(.nm 2), (.nm 3)]) (sCons (sSet (.nm 4) (eBin dIx (eMt .str mPart (eVar 3) (aCons (eC (.str [35])) aNil)) (eC (.int 0)))) (sCons (sExpr (eMt .list mExtend (eVar 1) (aCons (eLc true (wVal (eMt .str mSplit (eVar 4) (aCons (eC (.str [32])) aNil))) (.nm 5) (tTst (eBin dNe (eVar 5) (eC (.str [])))) (eTup (aCons (eVar 5) (aCons (eVar 2) aNil))) [5]) aNil))) sNil))) (sCons (sRet (eVar 1)) sNil))) ys
theorem S_runs_of : FnScope ["text", "pairs", "line", "row", "kept", "run"] ["text"] (defScope (top 37)) := ⟨rfl, rfl, rfl, by decide +kernel, rfl, by decide +kernel, by decide +kernel⟩
theorem ok_runs_of {P : Program} {w : World} {K : PySem.W.Frag} {h : Heap} {mg : PySem.Str → Option Value} {base : Heap} (KX : K.In h) (G : h.Ns mainGlobals mg) (c : FX K) (TBs : ∀ p ∈ csL K, LamX.TabB base mg p.1 p.2) : ∃ fd, FunD K "runs_of" "runs_of" (defArgs (top 37)) (defBody (top 37)) (defScope (top 37)) (D_runs_of.dvs K) [] (He.ga K "runs_of") fd ∧ (Binds K fd ["text"] []) ∧ FnOk P w K mg base (L2.CX P w) 1 (He.ga K "runs_of") fd ["text"] (spD K (g0 K) 1 d_runs_of) := by
  obtain ⟨fd, F⟩ := c.defs (d := D_runs_of) (List.mem_of_getElem? (i := 23) rfl)
  have m_enumerate : mg "enumerate" = none := He.free_ok KX G (c.facts (f := .free "enumerate") (List.mem_of_getElem? (i := 20) rfl))
  refine ⟨fd, F, F.bindsN fun _ _ _ _ _ _ us hl => match us, hl with | [_], _ => rfl, fn_ok F S_runs_of rfl rfl fun cdv A outer s H E hr tk po => ?_⟩
  have hU := room64 hr
  have hU0 := room0 hr
  have hN := S_runs_of.nd
  exact (pds_cons insE (pd_set (i := 1) hN rfl (locB_ok rfl) (pd_new pda_nil) rfl (by first | exact .inl rfl | exact .inr rfl)) (pds_cons insE (pd_for insE po rfl (tg_tup (tgs_cons (tg_nm 2) (tgs_cons (tg_nm 3) tgs_nil))) (pd_enL rfl m_enumerate (pd_mt (T := .str) PySem.F.plainAttrs_str PySem.F.slot_str_split PySem.F.type_str_split od_split (pd_var (i := 0) rfl (visB_ok rfl) (by decide) (by decide)) (pda_cons (pd_str (s := [10]) (by decide +kernel) ⟨by decide +kernel, by decide +kernel⟩) pda_nil rfl) rfl rfl rfl rfl rfl) rfl) (pg_sq (n := 2) rfl (pgs_cons (pg_name (i := 2) hN rfl (locB_ok rfl) (by first | exact .inl rfl | exact .inr rfl)) (pgs_cons (pg_name (i := 3) hN rfl (locB_ok rfl) (by first | exact .inl rfl | exact .inr rfl)) pgs_nil rfl) rfl) rfl rfl) (pds_cons insE (pd_set (i := 4) hN rfl (locB_ok rfl) (pd_ix (pd_mt (T := .str) PySem.F.plainAttrs_str PySem.F.slot_str_partition PySem.F.type_str_partition od_part (pd_var (i := 3) rfl (visB_ok rfl) (by decide) (by decide)) (pda_cons (pd_str (s := [35]) (by decide +kernel) ⟨by decide +kernel, by decide +kernel⟩) pda_nil rfl) rfl rfl rfl rfl rfl) pd_int (fun _ _ => rfl)) rfl (by first | exact .inl rfl | exact .inr rfl)) (pds_cons insE (pd_expr (pd_mt (T := .list) PySem.F.plainAttrs_list PySem.F.slot_list_extend PySem.F.type_list_extend od_ext (pd_var (i := 1) rfl (visB_ok rfl) (by decide) (by decide)) (pda_cons (pd_lc [("run", 5)] rfl hN (pd_wval (pd_mt (T := .str) PySem.F.plainAttrs_str PySem.F.slot_str_split PySem.F.type_str_split od_split (pd_var (i := 4) rfl (visB_ok rfl) (by decide) (by decide)) (pda_cons (pd_str (s := [32]) (by decide +kernel) ⟨by decide +kernel, by decide +kernel⟩) pda_nil rfl) rfl rfl rfl rfl rfl)) rfl rfl (tg_nm 5) rfl (fun _ _ _ _ _ => (pg_name (i := 5) hN rfl (locB_ok rfl) (by first | exact .inl rfl | exact .inr rfl))) (fun _ _ _ _ _ => (pts_one (pdt_cmp (od_ne hU) (pd_var (i := 5) rfl (visB_ok rfl) (by decide) (by decide)) (pd_str (s := []) (by decide +kernel) ⟨by decide +kernel, by decide +kernel⟩) rfl))) (fun _ _ _ _ _ => (pd_tup (pda_cons (pd_var (i := 5) rfl (visB_ok rfl) (by decide) (by decide)) (pda_cons (pd_var (i := 2) rfl (visB_ok rfl) (by decide) (by decide)) pda_nil rfl) rfl))) (fun _ => rfl)) pda_nil rfl) rfl rfl rfl rfl rfl) rfl) pds_nil)) (fun _ => rfl)) (pds_cons insE (pd_ret (pd_var (i := 1) rfl (visB_ok rfl) (by decide) (by decide))) pds_nil)))
/-! checked_words -/
def d_checked_words : List Vx → Mo Vx := fun ys => fnM 4 (sCons (sSet (.nm 1) (eCall (fun ys => callM [false] d_runs_of (ys ++ ([] : List Dt).map Vx.d)) (aCons (eVar 0) aNil))) (sCons (sFor (wVal (eVar 1)) (.tup [(.nm 2), (.nm 3)]) (sCons (sIf (tNotD (tVal (eCall (fun ys => callM [false] d_is_word (ys ++ ([] : List Dt).map Vx.d)) (aCons (eVar 2) aNil)))) (sCons (sRaise 1 (d_in_tuples 24) (eVar 3)) sNil) sNil) sNil)) (sCons (sRet (eVar 1)) sNil))) ys
theorem S_checked_words : FnScope ["text", "pairs", "run", "line"] ["text"] (defScope (top 38)) := ⟨rfl, rfl, rfl, by decide +kernel, rfl, by decide +kernel, by decide +kernel⟩
theorem ok_checked_words {P : Program} {w : World} {K : PySem.W.Frag} {h : Heap} {mg : PySem.Str → Option Value} {base : Heap} (KX : K.In h) (G : h.Ns mainGlobals mg) (c : FX K) (TBs : ∀ p ∈ csL K, LamX.TabB base mg p.1 p.2) : ∃ fd, FunD K "checked_words" "checked_words" (defArgs (top 38)) (defBody (top 38)) (defScope (top 38)) (D_checked_words.dvs K) [] (He.ga K "checked_words") fd ∧ (Binds K fd ["text"] []) ∧ FnOk P w K mg base (L2.CX P w) 27 (He.ga K "checked_words") fd ["text"] (spD K (g0 K) 1 d_checked_words) := by
  obtain ⟨fd, F⟩ := c.defs (d := D_checked_words) (List.mem_of_getElem? (i := 24) rfl)
  have m_is_word : mg "is_word" = some (.ref (He.ga K "is_word")) := He.glo_ok KX G (c.facts (f := .glo "is_word") (List.mem_of_getElem? (i := 21) rfl))
  obtain ⟨fd_is_word, FD_is_word, b_is_word, F_is_word⟩ := ok_is_word (P := P) (w := w) (mg := mg) (base := base) KX G c TBs
  have v_is_word : Vals [] [] := .nil
  have m_runs_of : mg "runs_of" = some (.ref (He.ga K "runs_of")) := He.glo_ok KX G (c.facts (f := .glo "runs_of") (List.mem_of_getElem? (i := 22) rfl))
  obtain ⟨fd_runs_of, FD_runs_of, b_runs_of, F_runs_of⟩ := ok_runs_of (P := P) (w := w) (mg := mg) (base := base) KX G c TBs
  have v_runs_of : Vals [] [] := .nil
  have m_BadText : mg "BadText" = some (.ref (He.ga K "BadText")) := He.glo_ok KX G (c.facts (f := .glo "BadText") (List.mem_of_getElem? (i := 23) rfl))
  have T_BadText := oexB_ok c.oex_BadText
  obtain ⟨fdI_BadText, bI_BadText, FI_BadText⟩ := okI_BadText (P := P) (w := w) (mg := mg) (base := base) KX G c TBs
  refine ⟨fd, F, F.bindsN fun _ _ _ _ _ _ us hl => match us, hl with | [_], _ => rfl, fn_ok F S_checked_words rfl rfl fun cdv A outer s H E hr tk po => ?_⟩
  have hU := room64 hr
  have hU0 := room0 hr
  have hN := S_checked_words.nd
  exact (pds_cons insE (pd_set (i := 1) hN rfl (locB_ok rfl) (pd_call (hy := [false]) (dd := []) (F_runs_of.mono (by decide)) hr rfl m_runs_of FD_runs_of.kp b_runs_of v_runs_of .nil tk insE (by decide) (pda_cons (pd_var (i := 0) rfl (visB_ok rfl) (by decide) (by decide)) pda_nil rfl) rfl rfl rfl ((alen_cons alen_nil))) rfl (by first | exact .inl rfl | exact .inr rfl)) (pds_cons insE (pd_for insE po rfl (tg_tup (tgs_cons (tg_nm 2) (tgs_cons (tg_nm 3) tgs_nil))) (pd_wval (pd_var (i := 1) rfl (visB_ok rfl) (by decide) (by decide))) (pg_sq (n := 2) rfl (pgs_cons (pg_name (i := 2) hN rfl (locB_ok rfl) (by first | exact .inl rfl | exact .inr rfl)) (pgs_cons (pg_name (i := 3) hN rfl (locB_ok rfl) (by first | exact .inl rfl | exact .inr rfl)) pgs_nil rfl) rfl) rfl rfl) (pds_cons insE (pd_if (pdt_not (pdt_val (pd_call (hy := [false]) (dd := []) (F_is_word.mono (by decide)) hr rfl m_is_word FD_is_word.kp b_is_word v_is_word .nil tk insE (by decide) (pda_cons (pd_var (i := 2) rfl (visB_ok rfl) (by decide) (by decide)) pda_nil rfl) rfl rfl rfl ((alen_cons alen_nil))) (fun _ => rfl))) (pds_cons insE (pd_raise (c := 1) rfl tk rfl T_BadText (FI_BadText.mono (by decide)) (k := 25) hr bI_BadText rfl m_BadText (pd_var (i := 3) rfl (visB_ok rfl) (by decide) (by decide)) (by decide) rfl rfl) pds_nil) pds_nil) pds_nil) (fun _ => rfl)) (pds_cons insE (pd_ret (pd_var (i := 1) rfl (visB_ok rfl) (by decide) (by decide))) pds_nil)))
/-! words -/
def d_words : List Vx → Mo Vx := fun ys => fnM 3 (sCons (sExpr (eCall (fun ys => callM [false, false] d_demand (ys ++ ([] : List Dt).map Vx.d)) (aCons (eCall (fun ys => callM [false] d_is_text (ys ++ ([] : List Dt).map Vx.d)) (aCons (eVar 0) aNil)) (aCons (eC (.int 0)) aNil)))) (sCons (sRet (eCall bTuple (aCons (eLc true (wVal (eCall (fun ys => callM [false] d_checked_words (ys ++ ([] : List Dt).map Vx.d)) (aCons (eVar 0) aNil))) (.tup [(.nm 1), (.nm 2)]) tYesD (eVar 1) [1, 2]) aNil))) sNil)) ys
theorem S_words : FnScope ["text", "word", "_"] ["text"] (defScope (top 41)) := ⟨rfl, rfl, rfl, by decide +kernel, rfl, by decide +kernel, by decide +kernel⟩
theorem ok_words {P : Program} {w : World} {K : PySem.W.Frag} {h : Heap} {mg : PySem.Str → Option Value} {base : Heap} (KX : K.In h) (G : h.Ns mainGlobals mg) (c : FX K) (TBs : ∀ p ∈ csL K, LamX.TabB base mg p.1 p.2) : ∃ fd, FunD K "words" "words" (defArgs (top 41)) (defBody (top 41)) (defScope (top 41)) (D_words.dvs K) [] (He.ga K "words") fd ∧ (Binds K fd ["text"] []) ∧ FnOk P w K mg base (L2.CX P w) 28 (He.ga K "words") fd ["text"] (spD K (g0 K) 1 d_words) := by
  obtain ⟨fd, F⟩ := c.defs (d := D_words) (List.mem_of_getElem? (i := 25) rfl)
  have m_tuple : mg "tuple" = none := He.free_ok KX G (c.facts (f := .free "tuple") (List.mem_of_getElem? (i := 2) rfl))
  have m_checked_words : mg "checked_words" = some (.ref (He.ga K "checked_words")) := He.glo_ok KX G (c.facts (f := .glo "checked_words") (List.mem_of_getElem? (i := 24) rfl))
  obtain ⟨fd_checked_words, FD_checked_words, b_checked_words, F_checked_words⟩ := ok_checked_words (P := P) (w := w) (mg := mg) (base := base) KX G c TBs
  have v_checked_words : Vals [] [] := .nil
  have m_demand : mg "demand" = some (.ref (He.ga K "demand")) := He.glo_ok KX G (c.facts (f := .glo "demand") (List.mem_of_getElem? (i := 25) rfl))
  obtain ⟨fd_demand, FD_demand, b_demand, F_demand⟩ := ok_demand (P := P) (w := w) (mg := mg) (base := base) KX G c TBs
  have v_demand : Vals [] [] := .nil
  have m_is_text : mg "is_text" = some (.ref (He.ga K "is_text")) := He.glo_ok KX G (c.facts (f := .glo "is_text") (List.mem_of_getElem? (i := 26) rfl))
  obtain ⟨fd_is_text, FD_is_text, b_is_text, F_is_text⟩ := ok_is_text (P := P) (w := w) (mg := mg) (base := base) KX G c TBs
  have v_is_text : Vals [] [] := .nil
  refine ⟨fd, F, F.bindsN fun _ _ _ _ _ _ us hl => match us, hl with | [_], _ => rfl, fn_ok F S_words rfl rfl fun cdv A outer s H E hr tk po => ?_⟩
  have hU := room64 hr
  have hU0 := room0 hr
  have hN := S_words.nd
  exact (pds_cons insE (pd_expr (pd_call (hy := [false, false]) (dd := []) (F_demand.mono (by decide)) hr rfl m_demand FD_demand.kp b_demand v_demand .nil tk insE (by decide) (pda_cons (pd_call (hy := [false]) (dd := []) (F_is_text.mono (by decide)) hr rfl m_is_text FD_is_text.kp b_is_text v_is_text .nil tk insE (by decide) (pda_cons (pd_var (i := 0) rfl (visB_ok rfl) (by decide) (by decide)) pda_nil rfl) rfl rfl rfl ((alen_cons alen_nil))) (pda_cons pd_int pda_nil rfl) rfl) rfl rfl rfl ((alen_cons (alen_cons alen_nil)))) rfl) (pds_cons insE (pd_ret (pd_callTy cd_tuple rfl m_tuple (by decide +kernel) (pda_cons (pd_lc [("word", 1), ("_", 2)] rfl hN (pd_wval (pd_call (hy := [false]) (dd := []) (F_checked_words.mono (by decide)) hr rfl m_checked_words FD_checked_words.kp b_checked_words v_checked_words .nil tk insE (by decide) (pda_cons (pd_var (i := 0) rfl (visB_ok rfl) (by decide) (by decide)) pda_nil rfl) rfl rfl rfl ((alen_cons alen_nil)))) rfl rfl (tg_tup (tgs_cons (tg_nm 1) (tgs_cons (tg_nm 2) tgs_nil))) rfl (fun _ _ _ _ _ => (pg_sq (n := 2) rfl (pgs_cons (pg_name (i := 1) hN rfl (locB_ok rfl) (by first | exact .inl rfl | exact .inr rfl)) (pgs_cons (pg_name (i := 2) hN rfl (locB_ok rfl) (by first | exact .inl rfl | exact .inr rfl)) pgs_nil rfl) rfl) rfl rfl)) (fun _ _ _ _ _ => pts_nilD) (fun _ _ _ _ _ => (pd_var (i := 1) rfl (visB_ok rfl) (by decide) (by decide))) (fun _ => rfl)) pda_nil rfl) (by decide) (by decide) rfl rfl)) pds_nil))
/-! joined -/
def d_joined : List Vx → Mo Vx := fun ys => fnM 2 (sCons (sExpr (eCall (fun ys => callM [false, false] d_demand (ys ++ ([] : List Dt).map Vx.d)) (aCons (eAnd (eCall (fun ys => callM [false] d_is_sequence (ys ++ ([] : List Dt).map Vx.d)) (aCons (eVar 0) aNil)) (eCall bAll (aCons (eLc true (wVal (eVar 0)) (.nm 1) tYesD (eAnd (eIsi [.str] (eVar 1)) (eCall (fun ys => callM [false] d_is_word (ys ++ ([] : List Dt).map Vx.d)) (aCons (eVar 1) aNil))) [1]) aNil))) (aCons (eC (.int 0)) aNil)))) (sCons (sRet (eMt .str mJoin (eC (.str [32])) (aCons (eVar 0) aNil))) sNil)) ys
theorem S_joined : FnScope ["words", "word"] ["words"] (defScope (top 42)) := ⟨rfl, rfl, rfl, by decide +kernel, rfl, by decide +kernel, by decide +kernel⟩
theorem ok_joined {P : Program} {w : World} {K : PySem.W.Frag} {h : Heap} {mg : PySem.Str → Option Value} {base : Heap} (KX : K.In h) (G : h.Ns mainGlobals mg) (c : FX K) (TBs : ∀ p ∈ csL K, LamX.TabB base mg p.1 p.2) : ∃ fd, FunD K "joined" "joined" (defArgs (top 42)) (defBody (top 42)) (defScope (top 42)) (D_joined.dvs K) [] (He.ga K "joined") fd ∧ (Binds K fd ["words"] []) ∧ FnOk P w K mg base (L2.CX P w) 28 (He.ga K "joined") fd ["words"] (spD K (g0 K) 1 d_joined) := by
  obtain ⟨fd, F⟩ := c.defs (d := D_joined) (List.mem_of_getElem? (i := 26) rfl)
  have m_all : mg "all" = none := He.free_ok KX G (c.facts (f := .free "all") (List.mem_of_getElem? (i := 12) rfl))
  have m_isinstance : mg "isinstance" = none := He.free_ok KX G (c.facts (f := .free "isinstance") (List.mem_of_getElem? (i := 0) rfl))
  have m_str : mg "str" = none := He.free_ok KX G (c.facts (f := .free "str") (List.mem_of_getElem? (i := 9) rfl))
  have m_demand : mg "demand" = some (.ref (He.ga K "demand")) := He.glo_ok KX G (c.facts (f := .glo "demand") (List.mem_of_getElem? (i := 25) rfl))
  obtain ⟨fd_demand, FD_demand, b_demand, F_demand⟩ := ok_demand (P := P) (w := w) (mg := mg) (base := base) KX G c TBs
  have v_demand : Vals [] [] := .nil
  have m_is_sequence : mg "is_sequence" = some (.ref (He.ga K "is_sequence")) := He.glo_ok KX G (c.facts (f := .glo "is_sequence") (List.mem_of_getElem? (i := 11) rfl))
  obtain ⟨fd_is_sequence, FD_is_sequence, b_is_sequence, F_is_sequence⟩ := ok_is_sequence (P := P) (w := w) (mg := mg) (base := base) KX G c TBs
  have v_is_sequence : Vals [] [] := .nil
  have m_is_word : mg "is_word" = some (.ref (He.ga K "is_word")) := He.glo_ok KX G (c.facts (f := .glo "is_word") (List.mem_of_getElem? (i := 21) rfl))
  obtain ⟨fd_is_word, FD_is_word, b_is_word, F_is_word⟩ := ok_is_word (P := P) (w := w) (mg := mg) (base := base) KX G c TBs
  have v_is_word : Vals [] [] := .nil
  refine ⟨fd, F, F.bindsN fun _ _ _ _ _ _ us hl => match us, hl with | [_], _ => rfl, fn_ok F S_joined rfl rfl fun cdv A outer s H E hr tk po => ?_⟩
  have hU := room64 hr
  have hU0 := room0 hr
  have hN := S_joined.nd
  exact (pds_cons insE (pd_expr (pd_call (hy := [false, false]) (dd := []) (F_demand.mono (by decide)) hr rfl m_demand FD_demand.kp b_demand v_demand .nil tk insE (by decide) (pda_cons (pd_and (pd_call (hy := [false]) (dd := []) (F_is_sequence.mono (by decide)) hr rfl m_is_sequence FD_is_sequence.kp b_is_sequence v_is_sequence .nil tk insE (by decide) (pda_cons (pd_var (i := 0) rfl (visB_ok rfl) (by decide) (by decide)) pda_nil rfl) rfl rfl rfl ((alen_cons alen_nil))) (pd_one (pd_callB (cd_all rfl) rfl m_all (by decide +kernel) (pda_cons (pd_lc [("word", 1)] rfl hN (pd_wval (pd_var (i := 0) rfl (visB_ok rfl) (by decide) (by decide))) rfl rfl (tg_nm 1) rfl (fun _ _ _ _ _ => (pg_name (i := 1) hN rfl (locB_ok rfl) (by first | exact .inl rfl | exact .inr rfl))) (fun _ _ _ _ _ => pts_nilD) (fun _ _ _ _ _ => (pd_and (pd_isi (c := .str) rfl m_isinstance (pd_var (i := 1) rfl (visB_ok rfl) (by decide) (by decide)) (pe_tyn rfl m_str (by decide +kernel) (by decide) (by decide)) rfl rfl rfl) (pd_one (pd_call (hy := [false]) (dd := []) (F_is_word.mono (by decide)) hr rfl m_is_word FD_is_word.kp b_is_word v_is_word .nil takes0 ins0 (by decide) (pda_cons (pd_var (i := 1) rfl (visB_ok rfl) (by decide) (by decide)) pda_nil rfl) rfl rfl rfl ((alen_cons alen_nil)))))) (fun _ => rfl)) pda_nil rfl) (by decide) (by decide) rfl rfl))) (pda_cons pd_int pda_nil rfl) rfl) rfl rfl rfl ((alen_cons (alen_cons alen_nil)))) rfl) (pds_cons insE (pd_ret (pd_mt (T := .str) PySem.F.plainAttrs_str PySem.F.slot_str_join PySem.F.type_str_join od_join (pd_str (s := [32]) (by decide +kernel) ⟨by decide +kernel, by decide +kernel⟩) (pda_cons (pd_var (i := 0) rfl (visB_ok rfl) (by decide) (by decide)) pda_nil rfl) rfl rfl rfl rfl rfl)) pds_nil))
/-! value_of -/
def d_value_of : List Vx → Mo Vx := fun ys => fnM 1 (sCons (sExpr (eCall (fun ys => callM [false, false] d_demand (ys ++ ([] : List Dt).map Vx.d)) (aCons (eIsi [.str] (eVar 0)) (aCons (eC (.int 0)) aNil)))) (sCons (sRet (eCall (fun ys => callM [false] d_number_of (ys ++ ([] : List Dt).map Vx.d)) (aCons (eVar 0) aNil))) sNil)) ys
theorem S_value_of : FnScope ["word"] ["word"] (defScope (top 43)) := ⟨rfl, rfl, rfl, by decide +kernel, rfl, by decide +kernel, by decide +kernel⟩
theorem ok_value_of {P : Program} {w : World} {K : PySem.W.Frag} {h : Heap} {mg : PySem.Str → Option Value} {base : Heap} (KX : K.In h) (G : h.Ns mainGlobals mg) (c : FX K) (TBs : ∀ p ∈ csL K, LamX.TabB base mg p.1 p.2) : ∃ fd, FunD K "value_of" "value_of" (defArgs (top 43)) (defBody (top 43)) (defScope (top 43)) (D_value_of.dvs K) [] (He.ga K "value_of") fd ∧ (Binds K fd ["word"] []) ∧ FnOk P w K mg base (L2.CX P w) 28 (He.ga K "value_of") fd ["word"] (spD K (g0 K) 1 d_value_of) := by
  obtain ⟨fd, F⟩ := c.defs (d := D_value_of) (List.mem_of_getElem? (i := 27) rfl)
  have m_isinstance : mg "isinstance" = none := He.free_ok KX G (c.facts (f := .free "isinstance") (List.mem_of_getElem? (i := 0) rfl))
  have m_str : mg "str" = none := He.free_ok KX G (c.facts (f := .free "str") (List.mem_of_getElem? (i := 9) rfl))
  have m_demand : mg "demand" = some (.ref (He.ga K "demand")) := He.glo_ok KX G (c.facts (f := .glo "demand") (List.mem_of_getElem? (i := 25) rfl))
  obtain ⟨fd_demand, FD_demand, b_demand, F_demand⟩ := ok_demand (P := P) (w := w) (mg := mg) (base := base) KX G c TBs
  have v_demand : Vals [] [] := .nil
  have m_number_of : mg "number_of" = some (.ref (He.ga K "number_of")) := He.glo_ok KX G (c.facts (f := .glo "number_of") (List.mem_of_getElem? (i := 19) rfl))
  obtain ⟨fd_number_of, FD_number_of, b_number_of, F_number_of⟩ := ok_number_of (P := P) (w := w) (mg := mg) (base := base) KX G c TBs
  have v_number_of : Vals [] [] := .nil
  refine ⟨fd, F, F.bindsN fun _ _ _ _ _ _ us hl => match us, hl with | [_], _ => rfl, fn_ok F S_value_of rfl rfl fun cdv A outer s H E hr tk po => ?_⟩
  have hU := room64 hr
  have hU0 := room0 hr
  have hN := S_value_of.nd
  exact (pds_cons insE (pd_expr (pd_call (hy := [false, false]) (dd := []) (F_demand.mono (by decide)) hr rfl m_demand FD_demand.kp b_demand v_demand .nil tk insE (by decide) (pda_cons (pd_isi (c := .str) rfl m_isinstance (pd_var (i := 0) rfl (visB_ok rfl) (by decide) (by decide)) (pe_tyn rfl m_str (by decide +kernel) (by decide) (by decide)) rfl rfl rfl) (pda_cons pd_int pda_nil rfl) rfl) rfl rfl rfl ((alen_cons (alen_cons alen_nil)))) rfl) (pds_cons insE (pd_ret (pd_call (hy := [false]) (dd := []) (F_number_of.mono (by decide)) hr rfl m_number_of FD_number_of.kp b_number_of v_number_of .nil tk insE (by decide) (pda_cons (pd_var (i := 0) rfl (visB_ok rfl) (by decide) (by decide)) pda_nil rfl) rfl rfl rfl ((alen_cons alen_nil)))) pds_nil))
/-! word_of -/
def d_word_of : List Vx → Mo Vx := fun ys => fnM 1 (sCons (sExpr (eCall (fun ys => callM [false, false] d_demand (ys ++ ([] : List Dt).map Vx.d)) (aCons (eCall (fun ys => callM [false, false] d_is_fraction (ys ++ ([] : List Dt).map Vx.d)) (aCons (eVar 0) (aCons (eC (.int 1000000000000000000000000000000)) aNil))) (aCons (eC (.int 0)) aNil)))) (sCons (sRet (eCall (fun ys => callM [false] d_number_word (ys ++ ([] : List Dt).map Vx.d)) (aCons (eVar 0) aNil))) sNil)) ys
theorem S_word_of : FnScope ["number"] ["number"] (defScope (top 44)) := ⟨rfl, rfl, rfl, by decide +kernel, rfl, by decide +kernel, by decide +kernel⟩
theorem ok_word_of {P : Program} {w : World} {K : PySem.W.Frag} {h : Heap} {mg : PySem.Str → Option Value} {base : Heap} (KX : K.In h) (G : h.Ns mainGlobals mg) (c : FX K) (TBs : ∀ p ∈ csL K, LamX.TabB base mg p.1 p.2) : ∃ fd, FunD K "word_of" "word_of" (defArgs (top 44)) (defBody (top 44)) (defScope (top 44)) (D_word_of.dvs K) [] (He.ga K "word_of") fd ∧ (Binds K fd ["number"] []) ∧ FnOk P w K mg base (L2.CX P w) 28 (He.ga K "word_of") fd ["number"] (spD K (g0 K) 1 d_word_of) := by
  obtain ⟨fd, F⟩ := c.defs (d := D_word_of) (List.mem_of_getElem? (i := 28) rfl)
  obtain ⟨u_MOST_OF_WORD, w_MOST_OF_WORD, m_MOST_OF_WORD, r_MOST_OF_WORD, p_MOST_OF_WORD⟩ := constB_ok KX G (c.const_MOST_OF_WORD)
  have m_demand : mg "demand" = some (.ref (He.ga K "demand")) := He.glo_ok KX G (c.facts (f := .glo "demand") (List.mem_of_getElem? (i := 25) rfl))
  obtain ⟨fd_demand, FD_demand, b_demand, F_demand⟩ := ok_demand (P := P) (w := w) (mg := mg) (base := base) KX G c TBs
  have v_demand : Vals [] [] := .nil
  have m_is_fraction : mg "is_fraction" = some (.ref (He.ga K "is_fraction")) := He.glo_ok KX G (c.facts (f := .glo "is_fraction") (List.mem_of_getElem? (i := 27) rfl))
  obtain ⟨fd_is_fraction, FD_is_fraction, ⟨b_is_fraction, ds_is_fraction, v0_is_fraction, b0_is_fraction⟩, F_is_fraction⟩ := ok_is_fraction (P := P) (w := w) (mg := mg) (base := base) KX G c TBs
  have v_is_fraction : Vals [] [] := .nil
  have m_number_word : mg "number_word" = some (.ref (He.ga K "number_word")) := He.glo_ok KX G (c.facts (f := .glo "number_word") (List.mem_of_getElem? (i := 28) rfl))
  obtain ⟨fd_number_word, FD_number_word, b_number_word, F_number_word⟩ := ok_number_word (P := P) (w := w) (mg := mg) (base := base) KX G c TBs
  have v_number_word : Vals [] [] := .nil
  refine ⟨fd, F, F.bindsN fun _ _ _ _ _ _ us hl => match us, hl with | [_], _ => rfl, fn_ok F S_word_of rfl rfl fun cdv A outer s H E hr tk po => ?_⟩
  have hU := room64 hr
  have hU0 := room0 hr
  have hN := S_word_of.nd
  exact (pds_cons insE (pd_expr (pd_call (hy := [false, false]) (dd := []) (F_demand.mono (by decide)) hr rfl m_demand FD_demand.kp b_demand v_demand .nil tk insE (by decide) (pda_cons (pd_call (hy := [false, false]) (dd := []) (F_is_fraction.mono (by decide)) hr rfl m_is_fraction FD_is_fraction.kp b_is_fraction v_is_fraction .nil tk insE (by decide) (pda_cons (pd_var (i := 0) rfl (visB_ok rfl) (by decide) (by decide)) (pda_cons (pd_glob rfl m_MOST_OF_WORD r_MOST_OF_WORD p_MOST_OF_WORD (by decide)) pda_nil rfl) rfl) rfl rfl rfl ((alen_cons (alen_cons alen_nil)))) (pda_cons pd_int pda_nil rfl) rfl) rfl rfl rfl ((alen_cons (alen_cons alen_nil)))) rfl) (pds_cons insE (pd_ret (pd_call (hy := [false]) (dd := []) (F_number_word.mono (by decide)) hr rfl m_number_word FD_number_word.kp b_number_word v_number_word .nil tk insE (by decide) (pda_cons (pd_var (i := 0) rfl (visB_ok rfl) (by decide) (by decide)) pda_nil rfl) rfl rfl rfl ((alen_cons alen_nil)))) pds_nil))
/-! is_tree -/
def d_is_tree : Nat → List Vx → Mo Vx
  | 0, _ => stk
  | n + 1, ys => fnM 3 (sCons (sIf (tNotD (tVal (eCall (fun ys => callM [false] d_is_sequence (ys ++ ([] : List Dt).map Vx.d)) (aCons (eVar 0) aNil)))) (sCons (sRet (eC (.bl false))) sNil) sNil) (sCons (sFor (wVal (eVar 0)) (.nm 2) (sCons (sIf (tVal (eIsi [.str] (eVar 2))) (sCons (sIf (tOrD (tTst (eBin dIn (eVar 2) (eC (.tup [.str [123], .str [125]])))) (tNotD (tVal (eCall (fun ys => callM [false] d_is_word (ys ++ ([] : List Dt).map Vx.d)) (aCons (eVar 2) aNil))))) (sCons (sRet (eC (.bl false))) sNil) sNil) sNil) (sCons (sIf (tOrD (tTst (eBin dEq (eVar 1) (eC (.int 0)))) (tNotD (tVal (eCall (fun ys => callM [false, false] (d_is_tree n) (ys ++ ([] : List Dt).map Vx.d)) (aCons (eVar 2) (aCons (eBin dSub (eVar 1) (eC (.int 1))) aNil)))))) (sCons (sRet (eC (.bl false))) sNil) sNil) sNil)) sNil)) (sCons (sRet (eC (.bl true))) sNil))) ys
theorem S_is_tree : FnScope ["value", "levels", "item"] ["value", "levels"] (defScope (top 47)) := ⟨rfl, rfl, rfl, by decide +kernel, rfl, by decide +kernel, by decide +kernel⟩
theorem ok_is_tree {P : Program} {w : World} {K : PySem.W.Frag} {h : Heap} {mg : PySem.Str → Option Value} {base : Heap} (KX : K.In h) (G : h.Ns mainGlobals mg) (c : FX K) (TBs : ∀ p ∈ csL K, LamX.TabB base mg p.1 p.2) (n : Nat) : ∃ fd, FunD K "is_tree" "is_tree" (defArgs (top 47)) (defBody (top 47)) (defScope (top 47)) (D_is_tree.dvs K) [] (He.ga K "is_tree") fd ∧ (Binds K fd ["value", "levels"] [] ∧ (∃ ds, Vals (D_is_tree.dvs K) ds ∧ Binds K fd ["value", "levels"] ds)) ∧ FnOk P w K mg base (L2.CX P w) (n + 4) (He.ga K "is_tree") fd ["value", "levels"] (spD K (g0 K) 2 (d_is_tree n)) := by
  obtain ⟨fd, F⟩ := c.defs (d := D_is_tree) (List.mem_of_getElem? (i := 29) rfl)
  have m_isinstance : mg "isinstance" = none := He.free_ok KX G (c.facts (f := .free "isinstance") (List.mem_of_getElem? (i := 0) rfl))
  have m_str : mg "str" = none := He.free_ok KX G (c.facts (f := .free "str") (List.mem_of_getElem? (i := 9) rfl))
  obtain ⟨u_BRACES, w_BRACES, m_BRACES, r_BRACES, p_BRACES⟩ := constB_ok KX G (c.const_BRACES)
  have m_is_sequence : mg "is_sequence" = some (.ref (He.ga K "is_sequence")) := He.glo_ok KX G (c.facts (f := .glo "is_sequence") (List.mem_of_getElem? (i := 11) rfl))
  obtain ⟨fd_is_sequence, FD_is_sequence, b_is_sequence, F_is_sequence⟩ := ok_is_sequence (P := P) (w := w) (mg := mg) (base := base) KX G c TBs
  have v_is_sequence : Vals [] [] := .nil
  have m_is_tree : mg "is_tree" = some (.ref (He.ga K "is_tree")) := He.glo_ok KX G (c.facts (f := .glo "is_tree") (List.mem_of_getElem? (i := 29) rfl))
  have m_is_word : mg "is_word" = some (.ref (He.ga K "is_word")) := He.glo_ok KX G (c.facts (f := .glo "is_word") (List.mem_of_getElem? (i := 21) rfl))
  obtain ⟨fd_is_word, FD_is_word, b_is_word, F_is_word⟩ := ok_is_word (P := P) (w := w) (mg := mg) (base := base) KX G c TBs
  have v_is_word : Vals [] [] := .nil
  have bF : Binds K fd ["value", "levels"] [] ∧ (∃ ds, Vals (D_is_tree.dvs K) ds ∧ Binds K fd ["value", "levels"] ds) := ⟨by obtain ⟨ds, v, b⟩ := F.binds1 (ps := ["value", "levels"]) 2 1 (by intro z; cases z) rfl fun _ _ _ _ _ _ _ us its h1 h2 => (match us, its, h1, h2 with | [_, _], [_], _, _ => ⟨_, rfl, rfl⟩); cases v; exact b, F.binds1 (ps := ["value", "levels"]) 1 0 (by intro z; cases z) rfl fun _ _ _ _ _ _ _ us its h1 h2 => (match us, its, h1, h2 with | [_], [_], _, _ => ⟨_, rfl, rfl⟩)⟩
  refine ⟨fd, F, bF, ?_⟩
  induction n with
  | zero => exact ⟨fun vs H Q E h => h.1, fun A outer s H args us vs Q E hr he hb hv h => by obtain ⟨_, W, h0, ys, _, _, p⟩ := h; exact p.elim⟩
  | succ n F_self =>
    have FD_is_tree := F
    have b_is_tree := bF.1
    obtain ⟨ds_is_tree, v0_is_tree, b0_is_tree⟩ := bF.2
    have v_is_tree : Vals [] [] := .nil
    refine fn_ok F S_is_tree rfl rfl fun cdv A outer s H E hr tk po => ?_
    have hU := room64 hr
    have hU0 := room0 hr
    have hN := S_is_tree.nd
    exact (pds_cons insE (pd_if (pdt_not (pdt_val (pd_call (hy := [false]) (dd := []) (F_is_sequence.mono (by omega)) hr rfl m_is_sequence FD_is_sequence.kp b_is_sequence v_is_sequence .nil tk insE (by decide) (pda_cons (pd_var (i := 0) rfl (visB_ok rfl) (by decide) (by decide)) pda_nil rfl) rfl rfl rfl ((alen_cons alen_nil))) (fun _ => rfl))) (pds_cons insE (pd_ret pd_bl) pds_nil) pds_nil) (pds_cons insE (pd_for insE po rfl (tg_nm 2) (pd_wval (pd_var (i := 0) rfl (visB_ok rfl) (by decide) (by decide))) (pg_name (i := 2) hN rfl (locB_ok rfl) (by first | exact .inl rfl | exact .inr rfl)) (pds_cons insE (pd_if (pdt_val (pd_isi (c := .str) rfl m_isinstance (pd_var (i := 2) rfl (visB_ok rfl) (by decide) (by decide)) (pe_tyn rfl m_str (by decide +kernel) (by decide) (by decide)) rfl rfl rfl) (fun _ => rfl)) (pds_cons insE (pd_if (PW.pt (pdw_or (pdt_cmp (od_in hU) (pd_var (i := 2) rfl (visB_ok rfl) (by decide) (by decide)) (pd_glob rfl m_BRACES r_BRACES p_BRACES (by decide)) rfl) (pdw_or1 (pdt_not (pdt_val (pd_call (hy := [false]) (dd := []) (F_is_word.mono (by omega)) hr rfl m_is_word FD_is_word.kp b_is_word v_is_word .nil tk insE (by decide) (pda_cons (pd_var (i := 2) rfl (visB_ok rfl) (by decide) (by decide)) pda_nil rfl) rfl rfl rfl ((alen_cons alen_nil))) (fun _ => rfl)))))) (pds_cons insE (pd_ret pd_bl) pds_nil) pds_nil) pds_nil) (pds_cons insE (pd_if (PW.pt (pdw_or (pdt_cmp (od_eq hU) (pd_var (i := 1) rfl (visB_ok rfl) (by decide) (by decide)) pd_int rfl) (pdw_or1 (pdt_not (pdt_val (pd_call (hy := [false, false]) (dd := []) (F_self.mono (by omega)) hr rfl m_is_tree FD_is_tree.kp b_is_tree v_is_tree .nil tk insE (by decide) (pda_cons (pd_var (i := 2) rfl (visB_ok rfl) (by decide) (by decide)) (pda_cons (pd_op od_sub (pd_var (i := 1) rfl (visB_ok rfl) (by decide) (by decide)) pd_int) pda_nil rfl) rfl) rfl rfl rfl ((alen_cons (alen_cons alen_nil)))) (fun _ => rfl)))))) (pds_cons insE (pd_ret pd_bl) pds_nil) pds_nil) pds_nil)) pds_nil) (fun _ => rfl)) (pds_cons insE (pd_ret pd_bl) pds_nil)))
/-! check_braces -/
def d_check_braces : List Vx → Mo Vx := fun ys => fnM 4 (sCons (sSet (.nm 1) (eNew aNil)) (sCons (sFor (wVal (eVar 0)) (.tup [(.nm 2), (.nm 3)]) (sCons (sIf (tTst (eBin dEq (eVar 2) (eC (.str [123])))) (sCons (sIf (tTst (eBin dEq (eCall bLen (aCons (eVar 1) aNil)) (eC (.int 20)))) (sCons (sRaise 1 (d_in_tuples 24) (eVar 3)) sNil) sNil) (sCons (sExpr (eMt .list mAppend (eVar 1) (aCons (eVar 3) aNil))) sNil)) (sCons (sIf (tTst (eBin dEq (eVar 2) (eC (.str [125])))) (sCons (sIf (tTst (eBin dEq (eCall bLen (aCons (eVar 1) aNil)) (eC (.int 0)))) (sCons (sRaise 1 (d_in_tuples 24) (eVar 3)) sNil) sNil) (sCons (sExpr (eMt .list mPop (eVar 1) aNil)) sNil)) sNil) sNil)) sNil)) (sCons (sIf (tTst (eBin dGt (eCall bLen (aCons (eVar 1) aNil)) (eC (.int 0)))) (sCons (sRaise 1 (d_in_tuples 24) (eBin dIx (eVar 1) (eC (.int 0)))) sNil) sNil) sNil))) ys
theorem S_check_braces : FnScope ["pairs", "opened", "word", "line"] ["pairs"] (defScope (top 48)) := ⟨rfl, rfl, rfl, by decide +kernel, rfl, by decide +kernel, by decide +kernel⟩
theorem ok_check_braces {P : Program} {w : World} {K : PySem.W.Frag} {h : Heap} {mg : PySem.Str → Option Value} {base : Heap} (KX : K.In h) (G : h.Ns mainGlobals mg) (c : FX K) (TBs : ∀ p ∈ csL K, LamX.TabB base mg p.1 p.2) : ∃ fd, FunD K "check_braces" "check_braces" (defArgs (top 48)) (defBody (top 48)) (defScope (top 48)) (D_check_braces.dvs K) [] (He.ga K "check_braces") fd ∧ (Binds K fd ["pairs"] []) ∧ FnOk P w K mg base (L2.CX P w) 27 (He.ga K "check_braces") fd ["pairs"] (spD K (g0 K) 1 d_check_braces) := by
  obtain ⟨fd, F⟩ := c.defs (d := D_check_braces) (List.mem_of_getElem? (i := 30) rfl)
  have m_len : mg "len" = none := He.free_ok KX G (c.facts (f := .free "len") (List.mem_of_getElem? (i := 8) rfl))
  obtain ⟨u_MOST_LEVELS, w_MOST_LEVELS, m_MOST_LEVELS, r_MOST_LEVELS, p_MOST_LEVELS⟩ := constB_ok KX G (c.const_MOST_LEVELS)
  have m_BadText : mg "BadText" = some (.ref (He.ga K "BadText")) := He.glo_ok KX G (c.facts (f := .glo "BadText") (List.mem_of_getElem? (i := 23) rfl))
  have T_BadText := oexB_ok c.oex_BadText
  obtain ⟨fdI_BadText, bI_BadText, FI_BadText⟩ := okI_BadText (P := P) (w := w) (mg := mg) (base := base) KX G c TBs
  refine ⟨fd, F, F.bindsN fun _ _ _ _ _ _ us hl => match us, hl with | [_], _ => rfl, fn_ok F S_check_braces rfl rfl fun cdv A outer s H E hr tk po => ?_⟩
  have hU := room64 hr
  have hU0 := room0 hr
  have hN := S_check_braces.nd
  exact (pds_cons insE (pd_set (i := 1) hN rfl (locB_ok rfl) (pd_new pda_nil) rfl (by first | exact .inl rfl | exact .inr rfl)) (pds_cons insE (pd_for insE po rfl (tg_tup (tgs_cons (tg_nm 2) (tgs_cons (tg_nm 3) tgs_nil))) (pd_wval (pd_var (i := 0) rfl (visB_ok rfl) (by decide) (by decide))) (pg_sq (n := 2) rfl (pgs_cons (pg_name (i := 2) hN rfl (locB_ok rfl) (by first | exact .inl rfl | exact .inr rfl)) (pgs_cons (pg_name (i := 3) hN rfl (locB_ok rfl) (by first | exact .inl rfl | exact .inr rfl)) pgs_nil rfl) rfl) rfl rfl) (pds_cons insE (pd_if (pdt_cmp (od_eq hU) (pd_var (i := 2) rfl (visB_ok rfl) (by decide) (by decide)) (pd_str (s := [123]) (by decide +kernel) ⟨by decide +kernel, by decide +kernel⟩) rfl) (pds_cons insE (pd_if (pdt_cmp (od_eq hU) (pd_callB cd_len rfl m_len (by decide +kernel) (pda_cons (pd_var (i := 1) rfl (visB_ok rfl) (by decide) (by decide)) pda_nil rfl) (by decide) (by decide) rfl rfl) (pd_glob rfl m_MOST_LEVELS r_MOST_LEVELS p_MOST_LEVELS (by decide)) rfl) (pds_cons insE (pd_raise (c := 1) rfl tk rfl T_BadText (FI_BadText.mono (by decide)) (k := 25) hr bI_BadText rfl m_BadText (pd_var (i := 3) rfl (visB_ok rfl) (by decide) (by decide)) (by decide) rfl rfl) pds_nil) pds_nil) (pds_cons insE (pd_expr (pd_mt (T := .list) PySem.F.plainAttrs_list PySem.F.slot_list_append PySem.F.type_list_append od_app (pd_var (i := 1) rfl (visB_ok rfl) (by decide) (by decide)) (pda_cons (pd_var (i := 3) rfl (visB_ok rfl) (by decide) (by decide)) pda_nil rfl) rfl rfl rfl rfl rfl) rfl) pds_nil)) (pds_cons insE (pd_if (pdt_cmp (od_eq hU) (pd_var (i := 2) rfl (visB_ok rfl) (by decide) (by decide)) (pd_str (s := [125]) (by decide +kernel) ⟨by decide +kernel, by decide +kernel⟩) rfl) (pds_cons insE (pd_if (pdt_cmp (od_eq hU) (pd_callB cd_len rfl m_len (by decide +kernel) (pda_cons (pd_var (i := 1) rfl (visB_ok rfl) (by decide) (by decide)) pda_nil rfl) (by decide) (by decide) rfl rfl) pd_int rfl) (pds_cons insE (pd_raise (c := 1) rfl tk rfl T_BadText (FI_BadText.mono (by decide)) (k := 25) hr bI_BadText rfl m_BadText (pd_var (i := 3) rfl (visB_ok rfl) (by decide) (by decide)) (by decide) rfl rfl) pds_nil) pds_nil) (pds_cons insE (pd_expr (pd_mt0 (T := .list) PySem.F.plainAttrs_list PySem.F.slot_list_pop PySem.F.type_list_pop od_pop (pd_var (i := 1) rfl (visB_ok rfl) (by decide) (by decide)) rfl rfl) rfl) pds_nil)) pds_nil) pds_nil)) pds_nil) (fun _ => rfl)) (pds_cons insE (pd_if (pdt_cmp od_gt (pd_callB cd_len rfl m_len (by decide +kernel) (pda_cons (pd_var (i := 1) rfl (visB_ok rfl) (by decide) (by decide)) pda_nil rfl) (by decide) (by decide) rfl rfl) pd_int rfl) (pds_cons insE (pd_raise (c := 1) rfl tk rfl T_BadText (FI_BadText.mono (by decide)) (k := 25) hr bI_BadText rfl m_BadText (pd_ix (pd_var (i := 1) rfl (visB_ok rfl) (by decide) (by decide)) pd_int (fun _ _ => rfl)) (by decide) rfl rfl) pds_nil) pds_nil) pds_nil)))
/-! nested -/
def d_nested : List Vx → Mo Vx := fun ys => fnM 4 (sCons (sSet (.nm 1) (eNew (aCons (eNew aNil) aNil))) (sCons (sFor (wVal (eVar 0)) (.nm 2) (sCons (sIf (tTst (eBin dEq (eVar 2) (eC (.str [123])))) (sCons (sExpr (eMt .list mAppend (eVar 1) (aCons (eNew aNil) aNil))) sNil) (sCons (sIf (tTst (eBin dEq (eVar 2) (eC (.str [125])))) (sCons (sSet (.nm 3) (eCall bTuple (aCons (eMt .list mPop (eVar 1) aNil) aNil))) (sCons (sExpr (eMt .list mAppend (eBin dIx (eVar 1) (eUn dNeg (eC (.int 1)))) (aCons (eVar 3) aNil))) sNil)) (sCons (sExpr (eMt .list mAppend (eBin dIx (eVar 1) (eUn dNeg (eC (.int 1)))) (aCons (eVar 2) aNil))) sNil)) sNil)) sNil)) (sCons (sRet (eCall bTuple (aCons (eBin dIx (eVar 1) (eC (.int 0))) aNil))) sNil))) ys
theorem S_nested : FnScope ["words", "levels", "word", "tree"] ["words"] (defScope (top 49)) := ⟨rfl, rfl, rfl, by decide +kernel, rfl, by decide +kernel, by decide +kernel⟩
theorem ok_nested {P : Program} {w : World} {K : PySem.W.Frag} {h : Heap} {mg : PySem.Str → Option Value} {base : Heap} (KX : K.In h) (G : h.Ns mainGlobals mg) (c : FX K) (TBs : ∀ p ∈ csL K, LamX.TabB base mg p.1 p.2) : ∃ fd, FunD K "nested" "nested" (defArgs (top 49)) (defBody (top 49)) (defScope (top 49)) (D_nested.dvs K) [] (He.ga K "nested") fd ∧ (Binds K fd ["words"] []) ∧ FnOk P w K mg base (L2.CX P w) 1 (He.ga K "nested") fd ["words"] (spD K (g0 K) 1 d_nested) := by
  obtain ⟨fd, F⟩ := c.defs (d := D_nested) (List.mem_of_getElem? (i := 31) rfl)
  have m_tuple : mg "tuple" = none := He.free_ok KX G (c.facts (f := .free "tuple") (List.mem_of_getElem? (i := 2) rfl))
  refine ⟨fd, F, F.bindsN fun _ _ _ _ _ _ us hl => match us, hl with | [_], _ => rfl, fn_ok F S_nested rfl rfl fun cdv A outer s H E hr tk po => ?_⟩
  have hU := room64 hr
  have hU0 := room0 hr
  have hN := S_nested.nd
  exact (pds_cons insE (pd_set (i := 1) hN rfl (locB_ok rfl) (pd_new (pda_cons (pd_new pda_nil) pda_nil rfl)) rfl (by first | exact .inl rfl | exact .inr rfl)) (pds_cons insE (pd_for insE po rfl (tg_nm 2) (pd_wval (pd_var (i := 0) rfl (visB_ok rfl) (by decide) (by decide))) (pg_name (i := 2) hN rfl (locB_ok rfl) (by first | exact .inl rfl | exact .inr rfl)) (pds_cons insE (pd_if (pdt_cmp (od_eq hU) (pd_var (i := 2) rfl (visB_ok rfl) (by decide) (by decide)) (pd_str (s := [123]) (by decide +kernel) ⟨by decide +kernel, by decide +kernel⟩) rfl) (pds_cons insE (pd_expr (pd_mt (T := .list) PySem.F.plainAttrs_list PySem.F.slot_list_append PySem.F.type_list_append od_app (pd_var (i := 1) rfl (visB_ok rfl) (by decide) (by decide)) (pda_cons (pd_new pda_nil) pda_nil rfl) rfl rfl rfl rfl rfl) rfl) pds_nil) (pds_cons insE (pd_if (pdt_cmp (od_eq hU) (pd_var (i := 2) rfl (visB_ok rfl) (by decide) (by decide)) (pd_str (s := [125]) (by decide +kernel) ⟨by decide +kernel, by decide +kernel⟩) rfl) (pds_cons insE (pd_set (i := 3) hN rfl (locB_ok rfl) (pd_callTy cd_tuple rfl m_tuple (by decide +kernel) (pda_cons (pd_mt0 (T := .list) PySem.F.plainAttrs_list PySem.F.slot_list_pop PySem.F.type_list_pop od_pop (pd_var (i := 1) rfl (visB_ok rfl) (by decide) (by decide)) rfl rfl) pda_nil rfl) (by decide) (by decide) rfl rfl) rfl (by first | exact .inl rfl | exact .inr rfl)) (pds_cons insE (pd_expr (pd_mt (T := .list) PySem.F.plainAttrs_list PySem.F.slot_list_append PySem.F.type_list_append od_app (pd_ix (pd_var (i := 1) rfl (visB_ok rfl) (by decide) (by decide)) (pd_un ud_neg pd_int) (fun _ _ => rfl)) (pda_cons (pd_var (i := 3) rfl (visB_ok rfl) (by decide) (by decide)) pda_nil rfl) rfl rfl rfl rfl rfl) rfl) pds_nil)) (pds_cons insE (pd_expr (pd_mt (T := .list) PySem.F.plainAttrs_list PySem.F.slot_list_append PySem.F.type_list_append od_app (pd_ix (pd_var (i := 1) rfl (visB_ok rfl) (by decide) (by decide)) (pd_un ud_neg pd_int) (fun _ _ => rfl)) (pda_cons (pd_var (i := 2) rfl (visB_ok rfl) (by decide) (by decide)) pda_nil rfl) rfl rfl rfl rfl rfl) rfl) pds_nil)) pds_nil)) pds_nil) (fun _ => rfl)) (pds_cons insE (pd_ret (pd_callTy cd_tuple rfl m_tuple (by decide +kernel) (pda_cons (pd_ix (pd_var (i := 1) rfl (visB_ok rfl) (by decide) (by decide)) pd_int (fun _ _ => rfl)) pda_nil rfl) (by decide) (by decide) rfl rfl)) pds_nil)))
/-! checked_tree -/
def d_checked_tree : List Vx → Mo Vx := fun ys => fnM 4 (sCons (sSet (.nm 1) (eCall (fun ys => callM [false] d_checked_words (ys ++ ([] : List Dt).map Vx.d)) (aCons (eVar 0) aNil))) (sCons (sExpr (eCall (fun ys => callM [false] d_check_braces (ys ++ ([] : List Dt).map Vx.d)) (aCons (eVar 1) aNil))) (sCons (sRet (eCall (fun ys => callM [false] d_nested (ys ++ ([] : List Dt).map Vx.d)) (aCons (eLc true (wVal (eVar 1)) (.tup [(.nm 2), (.nm 3)]) tYesD (eVar 2) [2, 3]) aNil))) sNil))) ys
theorem S_checked_tree : FnScope ["text", "pairs", "word", "_"] ["text"] (defScope (top 50)) := ⟨rfl, rfl, rfl, by decide +kernel, rfl, by decide +kernel, by decide +kernel⟩
theorem ok_checked_tree {P : Program} {w : World} {K : PySem.W.Frag} {h : Heap} {mg : PySem.Str → Option Value} {base : Heap} (KX : K.In h) (G : h.Ns mainGlobals mg) (c : FX K) (TBs : ∀ p ∈ csL K, LamX.TabB base mg p.1 p.2) : ∃ fd, FunD K "checked_tree" "checked_tree" (defArgs (top 50)) (defBody (top 50)) (defScope (top 50)) (D_checked_tree.dvs K) [] (He.ga K "checked_tree") fd ∧ (Binds K fd ["text"] []) ∧ FnOk P w K mg base (L2.CX P w) 28 (He.ga K "checked_tree") fd ["text"] (spD K (g0 K) 1 d_checked_tree) := by
  obtain ⟨fd, F⟩ := c.defs (d := D_checked_tree) (List.mem_of_getElem? (i := 32) rfl)
  have m_check_braces : mg "check_braces" = some (.ref (He.ga K "check_braces")) := He.glo_ok KX G (c.facts (f := .glo "check_braces") (List.mem_of_getElem? (i := 30) rfl))
  obtain ⟨fd_check_braces, FD_check_braces, b_check_braces, F_check_braces⟩ := ok_check_braces (P := P) (w := w) (mg := mg) (base := base) KX G c TBs
  have v_check_braces : Vals [] [] := .nil
  have m_checked_words : mg "checked_words" = some (.ref (He.ga K "checked_words")) := He.glo_ok KX G (c.facts (f := .glo "checked_words") (List.mem_of_getElem? (i := 24) rfl))
  obtain ⟨fd_checked_words, FD_checked_words, b_checked_words, F_checked_words⟩ := ok_checked_words (P := P) (w := w) (mg := mg) (base := base) KX G c TBs
  have v_checked_words : Vals [] [] := .nil
  have m_nested : mg "nested" = some (.ref (He.ga K "nested")) := He.glo_ok KX G (c.facts (f := .glo "nested") (List.mem_of_getElem? (i := 31) rfl))
  obtain ⟨fd_nested, FD_nested, b_nested, F_nested⟩ := ok_nested (P := P) (w := w) (mg := mg) (base := base) KX G c TBs
  have v_nested : Vals [] [] := .nil
  refine ⟨fd, F, F.bindsN fun _ _ _ _ _ _ us hl => match us, hl with | [_], _ => rfl, fn_ok F S_checked_tree rfl rfl fun cdv A outer s H E hr tk po => ?_⟩
  have hU := room64 hr
  have hU0 := room0 hr
  have hN := S_checked_tree.nd
  exact (pds_cons insE (pd_set (i := 1) hN rfl (locB_ok rfl) (pd_call (hy := [false]) (dd := []) (F_checked_words.mono (by decide)) hr rfl m_checked_words FD_checked_words.kp b_checked_words v_checked_words .nil tk insE (by decide) (pda_cons (pd_var (i := 0) rfl (visB_ok rfl) (by decide) (by decide)) pda_nil rfl) rfl rfl rfl ((alen_cons alen_nil))) rfl (by first | exact .inl rfl | exact .inr rfl)) (pds_cons insE (pd_expr (pd_call (hy := [false]) (dd := []) (F_check_braces.mono (by decide)) hr rfl m_check_braces FD_check_braces.kp b_check_braces v_check_braces .nil tk insE (by decide) (pda_cons (pd_var (i := 1) rfl (visB_ok rfl) (by decide) (by decide)) pda_nil rfl) rfl rfl rfl ((alen_cons alen_nil))) rfl) (pds_cons insE (pd_ret (pd_call (hy := [false]) (dd := []) (F_nested.mono (by decide)) hr rfl m_nested FD_nested.kp b_nested v_nested .nil tk insE (by decide) (pda_cons (pd_lc [("word", 2), ("_", 3)] rfl hN (pd_wval (pd_var (i := 1) rfl (visB_ok rfl) (by decide) (by decide))) rfl rfl (tg_tup (tgs_cons (tg_nm 2) (tgs_cons (tg_nm 3) tgs_nil))) rfl (fun _ _ _ _ _ => (pg_sq (n := 2) rfl (pgs_cons (pg_name (i := 2) hN rfl (locB_ok rfl) (by first | exact .inl rfl | exact .inr rfl)) (pgs_cons (pg_name (i := 3) hN rfl (locB_ok rfl) (by first | exact .inl rfl | exact .inr rfl)) pgs_nil rfl) rfl) rfl rfl)) (fun _ _ _ _ _ => pts_nilD) (fun _ _ _ _ _ => (pd_var (i := 2) rfl (visB_ok rfl) (by decide) (by decide))) (fun _ => rfl)) pda_nil rfl) rfl rfl rfl ((alen_cons alen_nil)))) pds_nil)))
/-! words_of -/
def d_words_of : Nat → List Vx → Mo Vx
  | 0, _ => stk
  | n + 1, ys => fnM 3 (sCons (sSet (.nm 1) (eNew aNil)) (sCons (sFor (wVal (eVar 0)) (.nm 2) (sCons (sIf (tVal (eIsi [.str] (eVar 2))) (sCons (sExpr (eMt .list mAppend (eVar 1) (aCons (eVar 2) aNil))) sNil) (sCons (sExpr (eMt .list mAppend (eVar 1) (aCons (eC (.str [123])) aNil))) (sCons (sExpr (eMt .list mExtend (eVar 1) (aCons (eCall (fun ys => callM [false] (d_words_of n) (ys ++ ([] : List Dt).map Vx.d)) (aCons (eVar 2) aNil)) aNil))) (sCons (sExpr (eMt .list mAppend (eVar 1) (aCons (eC (.str [125])) aNil))) sNil)))) sNil)) (sCons (sRet (eVar 1)) sNil))) ys
theorem S_words_of : FnScope ["tree", "found", "item"] ["tree"] (defScope (top 51)) := ⟨rfl, rfl, rfl, by decide +kernel, rfl, by decide +kernel, by decide +kernel⟩
theorem ok_words_of {P : Program} {w : World} {K : PySem.W.Frag} {h : Heap} {mg : PySem.Str → Option Value} {base : Heap} (KX : K.In h) (G : h.Ns mainGlobals mg) (c : FX K) (TBs : ∀ p ∈ csL K, LamX.TabB base mg p.1 p.2) (n : Nat) : ∃ fd, FunD K "words_of" "words_of" (defArgs (top 51)) (defBody (top 51)) (defScope (top 51)) (D_words_of.dvs K) [] (He.ga K "words_of") fd ∧ (Binds K fd ["tree"] []) ∧ FnOk P w K mg base (L2.CX P w) (n + 0) (He.ga K "words_of") fd ["tree"] (spD K (g0 K) 1 (d_words_of n)) := by
  obtain ⟨fd, F⟩ := c.defs (d := D_words_of) (List.mem_of_getElem? (i := 33) rfl)
  have m_isinstance : mg "isinstance" = none := He.free_ok KX G (c.facts (f := .free "isinstance") (List.mem_of_getElem? (i := 0) rfl))
  have m_str : mg "str" = none := He.free_ok KX G (c.facts (f := .free "str") (List.mem_of_getElem? (i := 9) rfl))
  have m_words_of : mg "words_of" = some (.ref (He.ga K "words_of")) := He.glo_ok KX G (c.facts (f := .glo "words_of") (List.mem_of_getElem? (i := 32) rfl))
  have bF : Binds K fd ["tree"] [] := F.bindsN fun _ _ _ _ _ _ us hl => match us, hl with | [_], _ => rfl
  refine ⟨fd, F, bF, ?_⟩
  induction n with
  | zero => exact ⟨fun vs H Q E h => h.1, fun A outer s H args us vs Q E hr he hb hv h => by obtain ⟨_, W, h0, ys, _, _, p⟩ := h; exact p.elim⟩
  | succ n F_self =>
    have FD_words_of := F
    have b_words_of := bF
    have v_words_of : Vals [] [] := .nil
    refine fn_ok F S_words_of rfl rfl fun cdv A outer s H E hr tk po => ?_
    have hU := room64 hr
    have hU0 := room0 hr
    have hN := S_words_of.nd
    exact (pds_cons insE (pd_set (i := 1) hN rfl (locB_ok rfl) (pd_new pda_nil) rfl (by first | exact .inl rfl | exact .inr rfl)) (pds_cons insE (pd_for insE po rfl (tg_nm 2) (pd_wval (pd_var (i := 0) rfl (visB_ok rfl) (by decide) (by decide))) (pg_name (i := 2) hN rfl (locB_ok rfl) (by first | exact .inl rfl | exact .inr rfl)) (pds_cons insE (pd_if (pdt_val (pd_isi (c := .str) rfl m_isinstance (pd_var (i := 2) rfl (visB_ok rfl) (by decide) (by decide)) (pe_tyn rfl m_str (by decide +kernel) (by decide) (by decide)) rfl rfl rfl) (fun _ => rfl)) (pds_cons insE (pd_expr (pd_mt (T := .list) PySem.F.plainAttrs_list PySem.F.slot_list_append PySem.F.type_list_append od_app (pd_var (i := 1) rfl (visB_ok rfl) (by decide) (by decide)) (pda_cons (pd_var (i := 2) rfl (visB_ok rfl) (by decide) (by decide)) pda_nil rfl) rfl rfl rfl rfl rfl) rfl) pds_nil) (pds_cons insE (pd_expr (pd_mt (T := .list) PySem.F.plainAttrs_list PySem.F.slot_list_append PySem.F.type_list_append od_app (pd_var (i := 1) rfl (visB_ok rfl) (by decide) (by decide)) (pda_cons (pd_str (s := [123]) (by decide +kernel) ⟨by decide +kernel, by decide +kernel⟩) pda_nil rfl) rfl rfl rfl rfl rfl) rfl) (pds_cons insE (pd_expr (pd_mt (T := .list) PySem.F.plainAttrs_list PySem.F.slot_list_extend PySem.F.type_list_extend od_ext (pd_var (i := 1) rfl (visB_ok rfl) (by decide) (by decide)) (pda_cons (pd_call (hy := [false]) (dd := []) (F_self.mono (by omega)) hr rfl m_words_of FD_words_of.kp b_words_of v_words_of .nil tk insE (by decide) (pda_cons (pd_var (i := 2) rfl (visB_ok rfl) (by decide) (by decide)) pda_nil rfl) rfl rfl rfl ((alen_cons alen_nil))) pda_nil rfl) rfl rfl rfl rfl rfl) rfl) (pds_cons insE (pd_expr (pd_mt (T := .list) PySem.F.plainAttrs_list PySem.F.slot_list_append PySem.F.type_list_append od_app (pd_var (i := 1) rfl (visB_ok rfl) (by decide) (by decide)) (pda_cons (pd_str (s := [125]) (by decide +kernel) ⟨by decide +kernel, by decide +kernel⟩) pda_nil rfl) rfl rfl rfl rfl rfl) rfl) pds_nil)))) pds_nil) (fun _ => rfl)) (pds_cons insE (pd_ret (pd_var (i := 1) rfl (visB_ok rfl) (by decide) (by decide))) pds_nil)))
/-! text_of -/
def d_text_of : List Vx → Mo Vx := fun ys => fnM 1 (sCons (sRet (eMt .str mJoin (eC (.str [32])) (aCons (eCall (fun ys => callM [false] (d_words_of 24) (ys ++ ([] : List Dt).map Vx.d)) (aCons (eVar 0) aNil)) aNil))) sNil) ys
theorem S_text_of : FnScope ["tree"] ["tree"] (defScope (top 52)) := ⟨rfl, rfl, rfl, by decide +kernel, rfl, by decide +kernel, by decide +kernel⟩
theorem ok_text_of {P : Program} {w : World} {K : PySem.W.Frag} {h : Heap} {mg : PySem.Str → Option Value} {base : Heap} (KX : K.In h) (G : h.Ns mainGlobals mg) (c : FX K) (TBs : ∀ p ∈ csL K, LamX.TabB base mg p.1 p.2) : ∃ fd, FunD K "text_of" "text_of" (defArgs (top 52)) (defBody (top 52)) (defScope (top 52)) (D_text_of.dvs K) [] (He.ga K "text_of") fd ∧ (Binds K fd ["tree"] []) ∧ FnOk P w K mg base (L2.CX P w) 25 (He.ga K "text_of") fd ["tree"] (spD K (g0 K) 1 d_text_of) := by
  obtain ⟨fd, F⟩ := c.defs (d := D_text_of) (List.mem_of_getElem? (i := 34) rfl)
  have m_words_of : mg "words_of" = some (.ref (He.ga K "words_of")) := He.glo_ok KX G (c.facts (f := .glo "words_of") (List.mem_of_getElem? (i := 32) rfl))
  obtain ⟨fd_words_of, FD_words_of, b_words_of, F_words_of⟩ := ok_words_of (P := P) (w := w) (mg := mg) (base := base) KX G c TBs 24
  have v_words_of : Vals [] [] := .nil
  refine ⟨fd, F, F.bindsN fun _ _ _ _ _ _ us hl => match us, hl with | [_], _ => rfl, fn_ok F S_text_of rfl rfl fun cdv A outer s H E hr tk po => ?_⟩
  have hU := room64 hr
  have hU0 := room0 hr
  have hN := S_text_of.nd
  exact (pds_cons insE (pd_ret (pd_mt (T := .str) PySem.F.plainAttrs_str PySem.F.slot_str_join PySem.F.type_str_join od_join (pd_str (s := [32]) (by decide +kernel) ⟨by decide +kernel, by decide +kernel⟩) (pda_cons (pd_call (hy := [false]) (dd := []) (F_words_of.mono (by decide)) hr rfl m_words_of FD_words_of.kp b_words_of v_words_of .nil tk insE (by decide) (pda_cons (pd_var (i := 0) rfl (visB_ok rfl) (by decide) (by decide)) pda_nil rfl) rfl rfl rfl ((alen_cons alen_nil))) pda_nil rfl) rfl rfl rfl rfl rfl)) pds_nil)
/-! read -/
def d_read : List Vx → Mo Vx := fun ys => fnM 1 (sCons (sExpr (eCall (fun ys => callM [false, false] d_demand (ys ++ ([] : List Dt).map Vx.d)) (aCons (eCall (fun ys => callM [false] d_is_text (ys ++ ([] : List Dt).map Vx.d)) (aCons (eVar 0) aNil)) (aCons (eC (.int 0)) aNil)))) (sCons (sRet (eCall (fun ys => callM [false] d_checked_tree (ys ++ ([] : List Dt).map Vx.d)) (aCons (eVar 0) aNil))) sNil)) ys
theorem S_read : FnScope ["text"] ["text"] (defScope (top 54)) := ⟨rfl, rfl, rfl, by decide +kernel, rfl, by decide +kernel, by decide +kernel⟩
theorem ok_read {P : Program} {w : World} {K : PySem.W.Frag} {h : Heap} {mg : PySem.Str → Option Value} {base : Heap} (KX : K.In h) (G : h.Ns mainGlobals mg) (c : FX K) (TBs : ∀ p ∈ csL K, LamX.TabB base mg p.1 p.2) : ∃ fd, FunD K "read" "read" (defArgs (top 54)) (defBody (top 54)) (defScope (top 54)) (D_read.dvs K) [] (He.ga K "read") fd ∧ (Binds K fd ["text"] []) ∧ FnOk P w K mg base (L2.CX P w) 29 (He.ga K "read") fd ["text"] (spD K (g0 K) 1 d_read) := by
  obtain ⟨fd, F⟩ := c.defs (d := D_read) (List.mem_of_getElem? (i := 35) rfl)
  have m_checked_tree : mg "checked_tree" = some (.ref (He.ga K "checked_tree")) := He.glo_ok KX G (c.facts (f := .glo "checked_tree") (List.mem_of_getElem? (i := 33) rfl))
  obtain ⟨fd_checked_tree, FD_checked_tree, b_checked_tree, F_checked_tree⟩ := ok_checked_tree (P := P) (w := w) (mg := mg) (base := base) KX G c TBs
  have v_checked_tree : Vals [] [] := .nil
  have m_demand : mg "demand" = some (.ref (He.ga K "demand")) := He.glo_ok KX G (c.facts (f := .glo "demand") (List.mem_of_getElem? (i := 25) rfl))
  obtain ⟨fd_demand, FD_demand, b_demand, F_demand⟩ := ok_demand (P := P) (w := w) (mg := mg) (base := base) KX G c TBs
  have v_demand : Vals [] [] := .nil
  have m_is_text : mg "is_text" = some (.ref (He.ga K "is_text")) := He.glo_ok KX G (c.facts (f := .glo "is_text") (List.mem_of_getElem? (i := 26) rfl))
  obtain ⟨fd_is_text, FD_is_text, b_is_text, F_is_text⟩ := ok_is_text (P := P) (w := w) (mg := mg) (base := base) KX G c TBs
  have v_is_text : Vals [] [] := .nil
  refine ⟨fd, F, F.bindsN fun _ _ _ _ _ _ us hl => match us, hl with | [_], _ => rfl, fn_ok F S_read rfl rfl fun cdv A outer s H E hr tk po => ?_⟩
  have hU := room64 hr
  have hU0 := room0 hr
  have hN := S_read.nd
  exact (pds_cons insE (pd_expr (pd_call (hy := [false, false]) (dd := []) (F_demand.mono (by decide)) hr rfl m_demand FD_demand.kp b_demand v_demand .nil tk insE (by decide) (pda_cons (pd_call (hy := [false]) (dd := []) (F_is_text.mono (by decide)) hr rfl m_is_text FD_is_text.kp b_is_text v_is_text .nil tk insE (by decide) (pda_cons (pd_var (i := 0) rfl (visB_ok rfl) (by decide) (by decide)) pda_nil rfl) rfl rfl rfl ((alen_cons alen_nil))) (pda_cons pd_int pda_nil rfl) rfl) rfl rfl rfl ((alen_cons (alen_cons alen_nil)))) rfl) (pds_cons insE (pd_ret (pd_call (hy := [false]) (dd := []) (F_checked_tree.mono (by decide)) hr rfl m_checked_tree FD_checked_tree.kp b_checked_tree v_checked_tree .nil tk insE (by decide) (pda_cons (pd_var (i := 0) rfl (visB_ok rfl) (by decide) (by decide)) pda_nil rfl) rfl rfl rfl ((alen_cons alen_nil)))) pds_nil))
/-! written -/
def d_written : List Vx → Mo Vx := fun ys => fnM 1 (sCons (sExpr (eCall (fun ys => callM [false, false] d_demand (ys ++ ([] : List Dt).map Vx.d)) (aCons (eCall (fun ys => callM [false, false] (d_is_tree 24) (ys ++ ([.int 20] : List Dt).map Vx.d)) (aCons (eVar 0) aNil)) (aCons (eC (.int 0)) aNil)))) (sCons (sRet (eCall (fun ys => callM [false] d_text_of (ys ++ ([] : List Dt).map Vx.d)) (aCons (eVar 0) aNil))) sNil)) ys
theorem S_written : FnScope ["tree"] ["tree"] (defScope (top 55)) := ⟨rfl, rfl, rfl, by decide +kernel, rfl, by decide +kernel, by decide +kernel⟩
theorem ok_written {P : Program} {w : World} {K : PySem.W.Frag} {h : Heap} {mg : PySem.Str → Option Value} {base : Heap} (KX : K.In h) (G : h.Ns mainGlobals mg) (c : FX K) (TBs : ∀ p ∈ csL K, LamX.TabB base mg p.1 p.2) : ∃ fd, FunD K "written" "written" (defArgs (top 55)) (defBody (top 55)) (defScope (top 55)) (D_written.dvs K) [] (He.ga K "written") fd ∧ (Binds K fd ["tree"] []) ∧ FnOk P w K mg base (L2.CX P w) 29 (He.ga K "written") fd ["tree"] (spD K (g0 K) 1 d_written) := by
  obtain ⟨fd, F⟩ := c.defs (d := D_written) (List.mem_of_getElem? (i := 36) rfl)
  have m_demand : mg "demand" = some (.ref (He.ga K "demand")) := He.glo_ok KX G (c.facts (f := .glo "demand") (List.mem_of_getElem? (i := 25) rfl))
  obtain ⟨fd_demand, FD_demand, b_demand, F_demand⟩ := ok_demand (P := P) (w := w) (mg := mg) (base := base) KX G c TBs
  have v_demand : Vals [] [] := .nil
  have m_is_tree : mg "is_tree" = some (.ref (He.ga K "is_tree")) := He.glo_ok KX G (c.facts (f := .glo "is_tree") (List.mem_of_getElem? (i := 29) rfl))
  obtain ⟨fd_is_tree, FD_is_tree, ⟨b_is_tree, ds_is_tree, v0_is_tree, b0_is_tree⟩, F_is_tree⟩ := ok_is_tree (P := P) (w := w) (mg := mg) (base := base) KX G c TBs 24
  have v_is_tree : Vals [] [] := .nil
  have m_text_of : mg "text_of" = some (.ref (He.ga K "text_of")) := He.glo_ok KX G (c.facts (f := .glo "text_of") (List.mem_of_getElem? (i := 34) rfl))
  obtain ⟨fd_text_of, FD_text_of, b_text_of, F_text_of⟩ := ok_text_of (P := P) (w := w) (mg := mg) (base := base) KX G c TBs
  have v_text_of : Vals [] [] := .nil
  refine ⟨fd, F, F.bindsN fun _ _ _ _ _ _ us hl => match us, hl with | [_], _ => rfl, fn_ok F S_written rfl rfl fun cdv A outer s H E hr tk po => ?_⟩
  have hU := room64 hr
  have hU0 := room0 hr
  have hN := S_written.nd
  exact (pds_cons insE (pd_expr (pd_call (hy := [false, false]) (dd := []) (F_demand.mono (by decide)) hr rfl m_demand FD_demand.kp b_demand v_demand .nil tk insE (by decide) (pda_cons (pd_call (hy := [false, false]) (dd := [.int 20]) (F_is_tree.mono (by decide)) hr rfl m_is_tree FD_is_tree.kp b0_is_tree v0_is_tree (.cons (.int _) .nil) tk insE (by decide) (pda_cons (pd_var (i := 0) rfl (visB_ok rfl) (by decide) (by decide)) pda_nil rfl) rfl rfl rfl ((alen_cons alen_nil))) (pda_cons pd_int pda_nil rfl) rfl) rfl rfl rfl ((alen_cons (alen_cons alen_nil)))) rfl) (pds_cons insE (pd_ret (pd_call (hy := [false]) (dd := []) (F_text_of.mono (by decide)) hr rfl m_text_of FD_text_of.kp b_text_of v_text_of .nil tk insE (by decide) (pda_cons (pd_var (i := 0) rfl (visB_ok rfl) (by decide) (by decide)) pda_nil rfl) rfl rfl rfl ((alen_cons alen_nil)))) pds_nil))
/-! _law_so -/
def d__law_so : Nat → List Vx → Mo Vx
  | 0, _ => stk
  | n + 1, ys => fnM 3 (sCons (sIf (tTst (eBin dIs (eVar 1) (eC .non))) (sCons (sRet (eBin dIs (eVar 0) (eC .non))) sNil) sNil) (sCons (sIf (tVal (eIsi [.tuple] (eVar 1))) (sCons (sIf (tOrD (tNotD (tVal (eIsi [.tuple] (eVar 0)))) (tTst (eBin dNe (eCall bLen (aCons (eVar 0) aNil)) (eCall bLen (aCons (eVar 1) aNil))))) (sCons (sRet (eC (.bl false))) sNil) sNil) (sCons (sFor (wRng1 (aCons (eCall bLen (aCons (eVar 1) aNil)) aNil)) (.nm 2) (sCons (sIf (tNotD (tVal (eCall (fun ys => callM [false, false] (d__law_so n) (ys ++ ([] : List Dt).map Vx.d)) (aCons (eBin dIx (eVar 0) (eVar 2)) (aCons (eBin dIx (eVar 1) (eVar 2)) aNil))))) (sCons (sRet (eC (.bl false))) sNil) sNil) sNil)) (sCons (sRet (eC (.bl true))) sNil))) sNil) (sCons (sIf (tOrD (tVal (eIsi [.bool] (eVar 1))) (tVal (eIsi [.bool] (eVar 0)))) (sCons (sRet (eAnd (eIsi [.bool] (eVar 1)) (eAnd (eIsi [.bool] (eVar 0)) (eBin dEq (eVar 0) (eVar 1))))) sNil) sNil) (sCons (sIf (tVal (eIsi [.int] (eVar 1))) (sCons (sRet (eAnd (eIsi [.int] (eVar 0)) (eBin dEq (eVar 0) (eVar 1)))) sNil) sNil) (sCons (sRet (eAnd (eIsi [.str] (eVar 1)) (eAnd (eIsi [.str] (eVar 0)) (eBin dEq (eVar 0) (eVar 1))))) sNil))))) ys
theorem S__law_so : FnScope ["found", "meant", "k"] ["found", "meant"] (defScope (top 57)) := ⟨rfl, rfl, rfl, by decide +kernel, rfl, by decide +kernel, by decide +kernel⟩
theorem ok__law_so {P : Program} {w : World} {K : PySem.W.Frag} {h : Heap} {mg : PySem.Str → Option Value} {base : Heap} (KX : K.In h) (G : h.Ns mainGlobals mg) (c : FX K) (TBs : ∀ p ∈ csL K, LamX.TabB base mg p.1 p.2) (n : Nat) : ∃ fd, FunD K "_law_so" "_law_so" (defArgs (top 57)) (defBody (top 57)) (defScope (top 57)) (D__law_so.dvs K) [] (He.ga K "_law_so") fd ∧ (Binds K fd ["found", "meant"] []) ∧ FnOk P w K mg base (L2.CX P w) (n + 0) (He.ga K "_law_so") fd ["found", "meant"] (spD K (g0 K) 2 (d__law_so n)) := by
  obtain ⟨fd, F⟩ := c.defs (d := D__law_so) (List.mem_of_getElem? (i := 37) rfl)
  have m_bool : mg "bool" = none := He.free_ok KX G (c.facts (f := .free "bool") (List.mem_of_getElem? (i := 5) rfl))
  have m_int : mg "int" = none := He.free_ok KX G (c.facts (f := .free "int") (List.mem_of_getElem? (i := 6) rfl))
  have m_isinstance : mg "isinstance" = none := He.free_ok KX G (c.facts (f := .free "isinstance") (List.mem_of_getElem? (i := 0) rfl))
  have m_len : mg "len" = none := He.free_ok KX G (c.facts (f := .free "len") (List.mem_of_getElem? (i := 8) rfl))
  have m_range : mg "range" = none := He.free_ok KX G (c.facts (f := .free "range") (List.mem_of_getElem? (i := 35) rfl))
  have m_str : mg "str" = none := He.free_ok KX G (c.facts (f := .free "str") (List.mem_of_getElem? (i := 9) rfl))
  have m_tuple : mg "tuple" = none := He.free_ok KX G (c.facts (f := .free "tuple") (List.mem_of_getElem? (i := 2) rfl))
  have m__law_so : mg "_law_so" = some (.ref (He.ga K "_law_so")) := He.glo_ok KX G (c.facts (f := .glo "_law_so") (List.mem_of_getElem? (i := 36) rfl))
  have bF : Binds K fd ["found", "meant"] [] := F.bindsN fun _ _ _ _ _ _ us hl => match us, hl with | [_, _], _ => rfl
  refine ⟨fd, F, bF, ?_⟩
  induction n with
  | zero => exact ⟨fun vs H Q E h => h.1, fun A outer s H args us vs Q E hr he hb hv h => by obtain ⟨_, W, h0, ys, _, _, p⟩ := h; exact p.elim⟩
  | succ n F_self =>
    have FD__law_so := F
    have b__law_so := bF
    have v__law_so : Vals [] [] := .nil
    refine fn_ok F S__law_so rfl rfl fun cdv A outer s H E hr tk po => ?_
    have hU := room64 hr
    have hU0 := room0 hr
    have hN := S__law_so.nd
    exact (pds_cons insE (pd_if (pdt_cmp od_is (pd_var (i := 1) rfl (visB_ok rfl) (by decide) (by decide)) pd_non rfl) (pds_cons insE (pd_ret (pd_cmp od_is (pd_var (i := 0) rfl (visB_ok rfl) (by decide) (by decide)) pd_non rfl)) pds_nil) pds_nil) (pds_cons insE (pd_if (pdt_val (pd_isi (c := .tuple) rfl m_isinstance (pd_var (i := 1) rfl (visB_ok rfl) (by decide) (by decide)) (pe_tyn rfl m_tuple (by decide +kernel) (by decide) (by decide)) rfl rfl rfl) (fun _ => rfl)) (pds_cons insE (pd_if (PW.pt (pdw_or (pdt_not (pdt_val (pd_isi (c := .tuple) rfl m_isinstance (pd_var (i := 0) rfl (visB_ok rfl) (by decide) (by decide)) (pe_tyn rfl m_tuple (by decide +kernel) (by decide) (by decide)) rfl rfl rfl) (fun _ => rfl))) (pdw_or1 (pdt_cmp (od_ne hU) (pd_callB cd_len rfl m_len (by decide +kernel) (pda_cons (pd_var (i := 0) rfl (visB_ok rfl) (by decide) (by decide)) pda_nil rfl) (by decide) (by decide) rfl rfl) (pd_callB cd_len rfl m_len (by decide +kernel) (pda_cons (pd_var (i := 1) rfl (visB_ok rfl) (by decide) (by decide)) pda_nil rfl) (by decide) (by decide) rfl rfl) rfl)))) (pds_cons insE (pd_ret pd_bl) pds_nil) pds_nil) (pds_cons insE (pd_for insE po rfl (tg_nm 2) (pd_rng1 rfl m_range (pda_cons (pd_callB cd_len rfl m_len (by decide +kernel) (pda_cons (pd_var (i := 1) rfl (visB_ok rfl) (by decide) (by decide)) pda_nil rfl) (by decide) (by decide) rfl rfl) pda_nil rfl) rfl) (pg_name (i := 2) hN rfl (locB_ok rfl) (by first | exact .inl rfl | exact .inr rfl)) (pds_cons insE (pd_if (pdt_not (pdt_val (pd_call (hy := [false, false]) (dd := []) (F_self.mono (by omega)) hr rfl m__law_so FD__law_so.kp b__law_so v__law_so .nil tk insE (by decide) (pda_cons (pd_ix (pd_var (i := 0) rfl (visB_ok rfl) (by decide) (by decide)) (pd_var (i := 2) rfl (visB_ok rfl) (by decide) (by decide)) (fun _ _ => rfl)) (pda_cons (pd_ix (pd_var (i := 1) rfl (visB_ok rfl) (by decide) (by decide)) (pd_var (i := 2) rfl (visB_ok rfl) (by decide) (by decide)) (fun _ _ => rfl)) pda_nil rfl) rfl) rfl rfl rfl ((alen_cons (alen_cons alen_nil)))) (fun _ => rfl))) (pds_cons insE (pd_ret pd_bl) pds_nil) pds_nil) pds_nil) (fun _ => rfl)) (pds_cons insE (pd_ret pd_bl) pds_nil))) pds_nil) (pds_cons insE (pd_if (PW.pt (pdw_or (pdt_val (pd_isi (c := .bool) rfl m_isinstance (pd_var (i := 1) rfl (visB_ok rfl) (by decide) (by decide)) (pe_tyn rfl m_bool (by decide +kernel) (by decide) (by decide)) rfl rfl rfl) (fun _ => rfl)) (pdw_or1 (pdt_val (pd_isi (c := .bool) rfl m_isinstance (pd_var (i := 0) rfl (visB_ok rfl) (by decide) (by decide)) (pe_tyn rfl m_bool (by decide +kernel) (by decide) (by decide)) rfl rfl rfl) (fun _ => rfl))))) (pds_cons insE (pd_ret (pd_and (pd_isi (c := .bool) rfl m_isinstance (pd_var (i := 1) rfl (visB_ok rfl) (by decide) (by decide)) (pe_tyn rfl m_bool (by decide +kernel) (by decide) (by decide)) rfl rfl rfl) (pd_and (pd_isi (c := .bool) rfl m_isinstance (pd_var (i := 0) rfl (visB_ok rfl) (by decide) (by decide)) (pe_tyn rfl m_bool (by decide +kernel) (by decide) (by decide)) rfl rfl rfl) (pd_one (pd_cmp (od_eq hU) (pd_var (i := 0) rfl (visB_ok rfl) (by decide) (by decide)) (pd_var (i := 1) rfl (visB_ok rfl) (by decide) (by decide)) rfl))))) pds_nil) pds_nil) (pds_cons insE (pd_if (pdt_val (pd_isi (c := .int) rfl m_isinstance (pd_var (i := 1) rfl (visB_ok rfl) (by decide) (by decide)) (pe_tyn rfl m_int (by decide +kernel) (by decide) (by decide)) rfl rfl rfl) (fun _ => rfl)) (pds_cons insE (pd_ret (pd_and (pd_isi (c := .int) rfl m_isinstance (pd_var (i := 0) rfl (visB_ok rfl) (by decide) (by decide)) (pe_tyn rfl m_int (by decide +kernel) (by decide) (by decide)) rfl rfl rfl) (pd_one (pd_cmp (od_eq hU) (pd_var (i := 0) rfl (visB_ok rfl) (by decide) (by decide)) (pd_var (i := 1) rfl (visB_ok rfl) (by decide) (by decide)) rfl)))) pds_nil) pds_nil) (pds_cons insE (pd_ret (pd_and (pd_isi (c := .str) rfl m_isinstance (pd_var (i := 1) rfl (visB_ok rfl) (by decide) (by decide)) (pe_tyn rfl m_str (by decide +kernel) (by decide) (by decide)) rfl rfl rfl) (pd_and (pd_isi (c := .str) rfl m_isinstance (pd_var (i := 0) rfl (visB_ok rfl) (by decide) (by decide)) (pe_tyn rfl m_str (by decide +kernel) (by decide) (by decide)) rfl rfl rfl) (pd_one (pd_cmp (od_eq hU) (pd_var (i := 0) rfl (visB_ok rfl) (by decide) (by decide)) (pd_var (i := 1) rfl (visB_ok rfl) (by decide) (by decide)) rfl))))) pds_nil)))))
/-! _law_numbers -/
def d__law_numbers : List Vx → Mo Vx := fun ys => fnM 6 (sCons (sSet (.nm 1) (eNew aNil)) (sCons (sFor (wVal (eSl (eVar 0) oNone (oSome (eC (.int 63))))) (.nm 2) (sCons (sIf (tTst (eBin dGe (eVar 2) (eBin dPow (eC (.int 10)) (eC (.int 18))))) (sCons (sSet (.nm 3) (eVar 2)) (sCons (sFor (wRng1 (aCons (eC (.int 60)) aNil)) (.nm 4) (sCons (sIf (tTst (eBin dEq (eVar 3) (eC (.int 0)))) (sCons sBk sNil) sNil) (sCons (sExpr (eMt .list mAppend (eVar 1) (aCons (eBin dMod (eCall bInt (aCons (eVar 3) aNil)) (eC (.int 997))) aNil))) (sCons (sSet (.nm 3) (eBin dFdiv (eVar 3) (eC (.int 997)))) sNil)))) sNil)) (sCons (sFor (wRng1 (aCons (eC (.int 4)) aNil)) (.nm 4) (sCons (sSet (.nm 5) (eBin dMod (eCall bInt (aCons (eBin dAdd (eBin dAdd (eBin dMul (eVar 2) (eC (.int 48271))) (eBin dMul (eVar 4) (eC (.int 69621)))) (eC (.int 11))) aNil)) (eC (.int 2147483647)))) (sCons (sExpr (eMt .list mAppend (eVar 1) (aCons (eBin dMod (eCall bInt (aCons (eBin dAdd (eBin dMul (eVar 5) (eC (.int 16807))) (eVar 4)) aNil)) (eC (.int 2147483629))) aNil))) sNil))) sNil)) sNil)) (sCons (sIf (tTst (eBin dEq (eCall bLen (aCons (eVar 1) aNil)) (eC (.int 0)))) (sCons (sExpr (eMt .list mAppend (eVar 1) (aCons (eC (.int 0)) aNil))) sNil) sNil) (sCons (sRet (eVar 1)) sNil)))) ys
theorem S__law_numbers : FnScope ["script", "row", "alone", "left", "k", "stirred"] ["script"] (defScope (top 58)) := ⟨rfl, rfl, rfl, by decide +kernel, rfl, by decide +kernel, by decide +kernel⟩
theorem ok__law_numbers {P : Program} {w : World} {K : PySem.W.Frag} {h : Heap} {mg : PySem.Str → Option Value} {base : Heap} (KX : K.In h) (G : h.Ns mainGlobals mg) (c : FX K) (TBs : ∀ p ∈ csL K, LamX.TabB base mg p.1 p.2) : ∃ fd, FunD K "_law_numbers" "_law_numbers" (defArgs (top 58)) (defBody (top 58)) (defScope (top 58)) (D__law_numbers.dvs K) [] (He.ga K "_law_numbers") fd ∧ (Binds K fd ["script"] []) ∧ FnOk P w K mg base (L2.CX P w) 1 (He.ga K "_law_numbers") fd ["script"] (spD K (g0 K) 1 d__law_numbers) := by
  obtain ⟨fd, F⟩ := c.defs (d := D__law_numbers) (List.mem_of_getElem? (i := 38) rfl)
  have m_int : mg "int" = none := He.free_ok KX G (c.facts (f := .free "int") (List.mem_of_getElem? (i := 6) rfl))
  have m_len : mg "len" = none := He.free_ok KX G (c.facts (f := .free "len") (List.mem_of_getElem? (i := 8) rfl))
  have m_range : mg "range" = none := He.free_ok KX G (c.facts (f := .free "range") (List.mem_of_getElem? (i := 35) rfl))
  refine ⟨fd, F, F.bindsN fun _ _ _ _ _ _ us hl => match us, hl with | [_], _ => rfl, fn_ok F S__law_numbers rfl rfl fun cdv A outer s H E hr tk po => ?_⟩
  have hU := room64 hr
  have hU0 := room0 hr
  have hN := S__law_numbers.nd
  exact (pds_cons insE (pd_set (i := 1) hN rfl (locB_ok rfl) (pd_new pda_nil) rfl (by first | exact .inl rfl | exact .inr rfl)) (pds_cons insE (pd_for insE po rfl (tg_nm 2) (pd_wval (pd_sl (pd_var (i := 0) rfl (visB_ok rfl) (by decide) (by decide)) pdo_none (pdo_some pd_int))) (pg_name (i := 2) hN rfl (locB_ok rfl) (by first | exact .inl rfl | exact .inr rfl)) (pds_cons insE (pd_if (pdt_cmp od_ge (pd_var (i := 2) rfl (visB_ok rfl) (by decide) (by decide)) (pd_op od_pow pd_int pd_int) rfl) (pds_cons insE (pd_set (i := 3) hN rfl (locB_ok rfl) (pd_var (i := 2) rfl (visB_ok rfl) (by decide) (by decide)) rfl (by first | exact .inl rfl | exact .inr rfl)) (pds_cons insE (pd_for insE po rfl (tg_nm 4) (pd_rng1 rfl m_range (pda_cons pd_int pda_nil rfl) rfl) (pg_name (i := 4) hN rfl (locB_ok rfl) (by first | exact .inl rfl | exact .inr rfl)) (pds_cons insE (pd_if (pdt_cmp (od_eq hU) (pd_var (i := 3) rfl (visB_ok rfl) (by decide) (by decide)) pd_int rfl) (pds_cons insE pd_brk pds_nil) pds_nil) (pds_cons insE (pd_expr (pd_mt (T := .list) PySem.F.plainAttrs_list PySem.F.slot_list_append PySem.F.type_list_append od_app (pd_var (i := 1) rfl (visB_ok rfl) (by decide) (by decide)) (pda_cons (pd_op od_mod (pd_callTy cd_int rfl m_int (by decide +kernel) (pda_cons (pd_var (i := 3) rfl (visB_ok rfl) (by decide) (by decide)) pda_nil rfl) (by decide) (by decide) rfl rfl) pd_int) pda_nil rfl) rfl rfl rfl rfl rfl) rfl) (pds_cons insE (pd_set (i := 3) hN rfl (locB_ok rfl) (pd_op od_fdiv (pd_var (i := 3) rfl (visB_ok rfl) (by decide) (by decide)) pd_int) rfl (by first | exact .inl rfl | exact .inr rfl)) pds_nil))) (fun _ => rfl)) pds_nil)) (pds_cons insE (pd_for insE po rfl (tg_nm 4) (pd_rng1 rfl m_range (pda_cons pd_int pda_nil rfl) rfl) (pg_name (i := 4) hN rfl (locB_ok rfl) (by first | exact .inl rfl | exact .inr rfl)) (pds_cons insE (pd_set (i := 5) hN rfl (locB_ok rfl) (pd_op od_mod (pd_callTy cd_int rfl m_int (by decide +kernel) (pda_cons (pd_op od_add (pd_op od_add (pd_op od_mul (pd_var (i := 2) rfl (visB_ok rfl) (by decide) (by decide)) pd_int) (pd_op od_mul (pd_var (i := 4) rfl (visB_ok rfl) (by decide) (by decide)) pd_int)) pd_int) pda_nil rfl) (by decide) (by decide) rfl rfl) pd_int) rfl (by first | exact .inl rfl | exact .inr rfl)) (pds_cons insE (pd_expr (pd_mt (T := .list) PySem.F.plainAttrs_list PySem.F.slot_list_append PySem.F.type_list_append od_app (pd_var (i := 1) rfl (visB_ok rfl) (by decide) (by decide)) (pda_cons (pd_op od_mod (pd_callTy cd_int rfl m_int (by decide +kernel) (pda_cons (pd_op od_add (pd_op od_mul (pd_var (i := 5) rfl (visB_ok rfl) (by decide) (by decide)) pd_int) (pd_var (i := 4) rfl (visB_ok rfl) (by decide) (by decide))) pda_nil rfl) (by decide) (by decide) rfl rfl) pd_int) pda_nil rfl) rfl rfl rfl rfl rfl) rfl) pds_nil)) (fun _ => rfl)) pds_nil)) pds_nil) (fun _ => rfl)) (pds_cons insE (pd_if (pdt_cmp (od_eq hU) (pd_callB cd_len rfl m_len (by decide +kernel) (pda_cons (pd_var (i := 1) rfl (visB_ok rfl) (by decide) (by decide)) pda_nil rfl) (by decide) (by decide) rfl rfl) pd_int rfl) (pds_cons insE (pd_expr (pd_mt (T := .list) PySem.F.plainAttrs_list PySem.F.slot_list_append PySem.F.type_list_append od_app (pd_var (i := 1) rfl (visB_ok rfl) (by decide) (by decide)) (pda_cons pd_int pda_nil rfl) rfl rfl rfl rfl rfl) rfl) pds_nil) pds_nil) (pds_cons insE (pd_ret (pd_var (i := 1) rfl (visB_ok rfl) (by decide) (by decide))) pds_nil))))
/-! _law_draw -/
def d__law_draw : List Vx → Mo Vx := fun ys => fnM 4 (sCons (sIf (tTst (eBin dLt (eVar 1) (eCall bLen (aCons (eVar 0) aNil)))) (sCons (sRet (eBin dMod (eCall bInt (aCons (eBin dIx (eVar 0) (eVar 1)) aNil)) (eVar 2))) sNil) sNil) (sCons (sSet (.nm 3) (eBin dMod (eCall bInt (aCons (eBin dAdd (eBin dAdd (eBin dMul (eBin dIx (eVar 0) (eBin dMod (eCall bInt (aCons (eVar 1) aNil)) (eCall bLen (aCons (eVar 0) aNil)))) (eC (.int 40692))) (eBin dMul (eVar 1) (eC (.int 7919)))) (eC (.int 3))) aNil)) (eC (.int 2147483399)))) (sCons (sRet (eBin dMod (eCall bInt (aCons (eBin dMod (eCall bInt (aCons (eBin dAdd (eBin dMul (eVar 3) (eC (.int 48271))) (eVar 1)) aNil)) (eC (.int 2147483647))) aNil)) (eVar 2))) sNil))) ys
theorem S__law_draw : FnScope ["row", "at", "limit", "stirred"] ["row", "at", "limit"] (defScope (top 59)) := ⟨rfl, rfl, rfl, by decide +kernel, rfl, by decide +kernel, by decide +kernel⟩
theorem ok__law_draw {P : Program} {w : World} {K : PySem.W.Frag} {h : Heap} {mg : PySem.Str → Option Value} {base : Heap} (KX : K.In h) (G : h.Ns mainGlobals mg) (c : FX K) (TBs : ∀ p ∈ csL K, LamX.TabB base mg p.1 p.2) : ∃ fd, FunD K "_law_draw" "_law_draw" (defArgs (top 59)) (defBody (top 59)) (defScope (top 59)) (D__law_draw.dvs K) [] (He.ga K "_law_draw") fd ∧ (Binds K fd ["row", "at", "limit"] []) ∧ FnOk P w K mg base (L2.CX P w) 1 (He.ga K "_law_draw") fd ["row", "at", "limit"] (spD K (g0 K) 3 d__law_draw) := by
  obtain ⟨fd, F⟩ := c.defs (d := D__law_draw) (List.mem_of_getElem? (i := 39) rfl)
  have m_int : mg "int" = none := He.free_ok KX G (c.facts (f := .free "int") (List.mem_of_getElem? (i := 6) rfl))
  have m_len : mg "len" = none := He.free_ok KX G (c.facts (f := .free "len") (List.mem_of_getElem? (i := 8) rfl))
  refine ⟨fd, F, F.bindsN fun _ _ _ _ _ _ us hl => match us, hl with | [_, _, _], _ => rfl, fn_ok F S__law_draw rfl rfl fun cdv A outer s H E hr tk po => ?_⟩
  have hU := room64 hr
  have hU0 := room0 hr
  have hN := S__law_draw.nd
  exact (pds_cons insE (pd_if (pdt_cmp (od_lt hU0) (pd_var (i := 1) rfl (visB_ok rfl) (by decide) (by decide)) (pd_callB cd_len rfl m_len (by decide +kernel) (pda_cons (pd_var (i := 0) rfl (visB_ok rfl) (by decide) (by decide)) pda_nil rfl) (by decide) (by decide) rfl rfl) rfl) (pds_cons insE (pd_ret (pd_op od_mod (pd_callTy cd_int rfl m_int (by decide +kernel) (pda_cons (pd_ix (pd_var (i := 0) rfl (visB_ok rfl) (by decide) (by decide)) (pd_var (i := 1) rfl (visB_ok rfl) (by decide) (by decide)) (fun _ _ => rfl)) pda_nil rfl) (by decide) (by decide) rfl rfl) (pd_var (i := 2) rfl (visB_ok rfl) (by decide) (by decide)))) pds_nil) pds_nil) (pds_cons insE (pd_set (i := 3) hN rfl (locB_ok rfl) (pd_op od_mod (pd_callTy cd_int rfl m_int (by decide +kernel) (pda_cons (pd_op od_add (pd_op od_add (pd_op od_mul (pd_ix (pd_var (i := 0) rfl (visB_ok rfl) (by decide) (by decide)) (pd_op od_mod (pd_callTy cd_int rfl m_int (by decide +kernel) (pda_cons (pd_var (i := 1) rfl (visB_ok rfl) (by decide) (by decide)) pda_nil rfl) (by decide) (by decide) rfl rfl) (pd_callB cd_len rfl m_len (by decide +kernel) (pda_cons (pd_var (i := 0) rfl (visB_ok rfl) (by decide) (by decide)) pda_nil rfl) (by decide) (by decide) rfl rfl)) (fun _ _ => rfl)) pd_int) (pd_op od_mul (pd_var (i := 1) rfl (visB_ok rfl) (by decide) (by decide)) pd_int)) pd_int) pda_nil rfl) (by decide) (by decide) rfl rfl) pd_int) rfl (by first | exact .inl rfl | exact .inr rfl)) (pds_cons insE (pd_ret (pd_op od_mod (pd_callTy cd_int rfl m_int (by decide +kernel) (pda_cons (pd_op od_mod (pd_callTy cd_int rfl m_int (by decide +kernel) (pda_cons (pd_op od_add (pd_op od_mul (pd_var (i := 3) rfl (visB_ok rfl) (by decide) (by decide)) pd_int) (pd_var (i := 1) rfl (visB_ok rfl) (by decide) (by decide))) pda_nil rfl) (by decide) (by decide) rfl rfl) pd_int) pda_nil rfl) (by decide) (by decide) rfl rfl) (pd_var (i := 2) rfl (visB_ok rfl) (by decide) (by decide)))) pds_nil)))
/-! _law_take -/
def d__law_take : List Vx → Mo Vx := fun ys => fnM 3 (sCons (sPut (eVar 1) (eC (.int 0)) (eBin dAdd (eBin dIx (eVar 1) (eC (.int 0))) (eC (.int 1))) dPut) (sCons (sRet (eCall (fun ys => callM [false, false, false] d__law_draw (ys ++ ([] : List Dt).map Vx.d)) (aCons (eVar 0) (aCons (eBin dSub (eBin dIx (eVar 1) (eC (.int 0))) (eC (.int 1))) (aCons (eVar 2) aNil))))) sNil)) ys
theorem S__law_take : FnScope ["row", "spot", "limit"] ["row", "spot", "limit"] (defScope (top 60)) := ⟨rfl, rfl, rfl, by decide +kernel, rfl, by decide +kernel, by decide +kernel⟩
theorem ok__law_take {P : Program} {w : World} {K : PySem.W.Frag} {h : Heap} {mg : PySem.Str → Option Value} {base : Heap} (KX : K.In h) (G : h.Ns mainGlobals mg) (c : FX K) (TBs : ∀ p ∈ csL K, LamX.TabB base mg p.1 p.2) : ∃ fd, FunD K "_law_take" "_law_take" (defArgs (top 60)) (defBody (top 60)) (defScope (top 60)) (D__law_take.dvs K) [] (He.ga K "_law_take") fd ∧ (Binds K fd ["row", "spot", "limit"] []) ∧ FnOk P w K mg base (L2.CX P w) 2 (He.ga K "_law_take") fd ["row", "spot", "limit"] (spD K (g0 K) 3 d__law_take) := by
  obtain ⟨fd, F⟩ := c.defs (d := D__law_take) (List.mem_of_getElem? (i := 40) rfl)
  have m__law_draw : mg "_law_draw" = some (.ref (He.ga K "_law_draw")) := He.glo_ok KX G (c.facts (f := .glo "_law_draw") (List.mem_of_getElem? (i := 37) rfl))
  obtain ⟨fd__law_draw, FD__law_draw, b__law_draw, F__law_draw⟩ := ok__law_draw (P := P) (w := w) (mg := mg) (base := base) KX G c TBs
  have v__law_draw : Vals [] [] := .nil
  refine ⟨fd, F, F.bindsN fun _ _ _ _ _ _ us hl => match us, hl with | [_, _, _], _ => rfl, fn_ok F S__law_take rfl rfl fun cdv A outer s H E hr tk po => ?_⟩
  have hU := room64 hr
  have hU0 := room0 hr
  have hN := S__law_take.nd
  exact (pds_cons insE (pd_put pu_list (pd_var (i := 1) rfl (visB_ok rfl) (by decide) (by decide)) pd_int (pd_op od_add (pd_ix (pd_var (i := 1) rfl (visB_ok rfl) (by decide) (by decide)) pd_int (fun _ _ => rfl)) pd_int) (fun _ => rfl) rfl rfl rfl) (pds_cons insE (pd_ret (pd_call (hy := [false, false, false]) (dd := []) (F__law_draw.mono (by decide)) hr rfl m__law_draw FD__law_draw.kp b__law_draw v__law_draw .nil tk insE (by decide) (pda_cons (pd_var (i := 0) rfl (visB_ok rfl) (by decide) (by decide)) (pda_cons (pd_op od_sub (pd_ix (pd_var (i := 1) rfl (visB_ok rfl) (by decide) (by decide)) pd_int (fun _ _ => rfl)) pd_int) (pda_cons (pd_var (i := 2) rfl (visB_ok rfl) (by decide) (by decide)) pda_nil rfl) rfl) rfl) rfl rfl rfl ((alen_cons (alen_cons (alen_cons alen_nil)))))) pds_nil))
/-! _law_gcd -/
def d__law_gcd : List Vx → Mo Vx := fun ys => fnM 6 (sCons (sSet (.nm 2) (eIf (tTst (eBin dGe (eVar 0) (eC (.int 0)))) (eVar 0) (eUn dNeg (eVar 0)))) (sCons (sSet (.nm 3) (eIf (tTst (eBin dGe (eVar 1) (eC (.int 0)))) (eVar 1) (eUn dNeg (eVar 1)))) (sCons (sFor (wRng1 (aCons (eC (.int 20000)) aNil)) (.nm 4) (sCons (sIf (tTst (eBin dEq (eVar 3) (eC (.int 0)))) (sCons sBk sNil) sNil) (sCons (sSet (.nm 5) (eBin dMod (eCall bInt (aCons (eVar 2) aNil)) (eVar 3))) (sCons (sSet (.nm 2) (eVar 3)) (sCons (sSet (.nm 3) (eVar 5)) sNil))))) (sCons (sRet (eVar 2)) sNil)))) ys
theorem S__law_gcd : FnScope ["one", "other", "left", "right", "k", "over_by"] ["one", "other"] (defScope (top 61)) := ⟨rfl, rfl, rfl, by decide +kernel, rfl, by decide +kernel, by decide +kernel⟩
theorem ok__law_gcd {P : Program} {w : World} {K : PySem.W.Frag} {h : Heap} {mg : PySem.Str → Option Value} {base : Heap} (KX : K.In h) (G : h.Ns mainGlobals mg) (c : FX K) (TBs : ∀ p ∈ csL K, LamX.TabB base mg p.1 p.2) : ∃ fd, FunD K "_law_gcd" "_law_gcd" (defArgs (top 61)) (defBody (top 61)) (defScope (top 61)) (D__law_gcd.dvs K) [] (He.ga K "_law_gcd") fd ∧ (Binds K fd ["one", "other"] []) ∧ FnOk P w K mg base (L2.CX P w) 1 (He.ga K "_law_gcd") fd ["one", "other"] (spD K (g0 K) 2 d__law_gcd) := by
  obtain ⟨fd, F⟩ := c.defs (d := D__law_gcd) (List.mem_of_getElem? (i := 41) rfl)
  have m_int : mg "int" = none := He.free_ok KX G (c.facts (f := .free "int") (List.mem_of_getElem? (i := 6) rfl))
  have m_range : mg "range" = none := He.free_ok KX G (c.facts (f := .free "range") (List.mem_of_getElem? (i := 35) rfl))
  refine ⟨fd, F, F.bindsN fun _ _ _ _ _ _ us hl => match us, hl with | [_, _], _ => rfl, fn_ok F S__law_gcd rfl rfl fun cdv A outer s H E hr tk po => ?_⟩
  have hU := room64 hr
  have hU0 := room0 hr
  have hN := S__law_gcd.nd
  exact (pds_cons insE (pd_set (i := 2) hN rfl (locB_ok rfl) (pd_ifExp (pdt_cmp od_ge (pd_var (i := 0) rfl (visB_ok rfl) (by decide) (by decide)) pd_int rfl) (pd_var (i := 0) rfl (visB_ok rfl) (by decide) (by decide)) (pd_un ud_neg (pd_var (i := 0) rfl (visB_ok rfl) (by decide) (by decide)))) rfl (by first | exact .inl rfl | exact .inr rfl)) (pds_cons insE (pd_set (i := 3) hN rfl (locB_ok rfl) (pd_ifExp (pdt_cmp od_ge (pd_var (i := 1) rfl (visB_ok rfl) (by decide) (by decide)) pd_int rfl) (pd_var (i := 1) rfl (visB_ok rfl) (by decide) (by decide)) (pd_un ud_neg (pd_var (i := 1) rfl (visB_ok rfl) (by decide) (by decide)))) rfl (by first | exact .inl rfl | exact .inr rfl)) (pds_cons insE (pd_for insE po rfl (tg_nm 4) (pd_rng1 rfl m_range (pda_cons pd_int pda_nil rfl) rfl) (pg_name (i := 4) hN rfl (locB_ok rfl) (by first | exact .inl rfl | exact .inr rfl)) (pds_cons insE (pd_if (pdt_cmp (od_eq hU) (pd_var (i := 3) rfl (visB_ok rfl) (by decide) (by decide)) pd_int rfl) (pds_cons insE pd_brk pds_nil) pds_nil) (pds_cons insE (pd_set (i := 5) hN rfl (locB_ok rfl) (pd_op od_mod (pd_callTy cd_int rfl m_int (by decide +kernel) (pda_cons (pd_var (i := 2) rfl (visB_ok rfl) (by decide) (by decide)) pda_nil rfl) (by decide) (by decide) rfl rfl) (pd_var (i := 3) rfl (visB_ok rfl) (by decide) (by decide))) rfl (by first | exact .inl rfl | exact .inr rfl)) (pds_cons insE (pd_set (i := 2) hN rfl (locB_ok rfl) (pd_var (i := 3) rfl (visB_ok rfl) (by decide) (by decide)) rfl (by first | exact .inl rfl | exact .inr rfl)) (pds_cons insE (pd_set (i := 3) hN rfl (locB_ok rfl) (pd_var (i := 5) rfl (visB_ok rfl) (by decide) (by decide)) rfl (by first | exact .inl rfl | exact .inr rfl)) pds_nil)))) (fun _ => rfl)) (pds_cons insE (pd_ret (pd_var (i := 2) rfl (visB_ok rfl) (by decide) (by decide))) pds_nil))))
/-! _law_same_told -/
def d__law_same_told : List Vx → Mo Vx := fun ys => fnM 2 (sCons (sRet (eAnd (eBin dEq (eCall bLen (aCons (eVar 0) aNil)) (eCall bLen (aCons (eVar 1) aNil))) (eAnd (eBin dEq (eBin dIx (eVar 0) (eC (.int 0))) (eBin dIx (eVar 1) (eC (.int 0)))) (eCall (fun ys => callM [false, false] (d__law_so 24) (ys ++ ([] : List Dt).map Vx.d)) (aCons (eCall bTuple (aCons (eSl (eVar 0) (oSome (eC (.int 1))) oNone) aNil)) (aCons (eCall bTuple (aCons (eSl (eVar 1) (oSome (eC (.int 1))) oNone) aNil)) aNil)))))) sNil) ys
theorem S__law_same_told : FnScope ["told", "meant"] ["told", "meant"] (defScope (top 62)) := ⟨rfl, rfl, rfl, by decide +kernel, rfl, by decide +kernel, by decide +kernel⟩
theorem ok__law_same_told {P : Program} {w : World} {K : PySem.W.Frag} {h : Heap} {mg : PySem.Str → Option Value} {base : Heap} (KX : K.In h) (G : h.Ns mainGlobals mg) (c : FX K) (TBs : ∀ p ∈ csL K, LamX.TabB base mg p.1 p.2) : ∃ fd, FunD K "_law_same_told" "_law_same_told" (defArgs (top 62)) (defBody (top 62)) (defScope (top 62)) (D__law_same_told.dvs K) [] (He.ga K "_law_same_told") fd ∧ (Binds K fd ["told", "meant"] []) ∧ FnOk P w K mg base (L2.CX P w) 25 (He.ga K "_law_same_told") fd ["told", "meant"] (spD K (g0 K) 2 d__law_same_told) := by
  obtain ⟨fd, F⟩ := c.defs (d := D__law_same_told) (List.mem_of_getElem? (i := 42) rfl)
  have m_len : mg "len" = none := He.free_ok KX G (c.facts (f := .free "len") (List.mem_of_getElem? (i := 8) rfl))
  have m_tuple : mg "tuple" = none := He.free_ok KX G (c.facts (f := .free "tuple") (List.mem_of_getElem? (i := 2) rfl))
  have m__law_so : mg "_law_so" = some (.ref (He.ga K "_law_so")) := He.glo_ok KX G (c.facts (f := .glo "_law_so") (List.mem_of_getElem? (i := 36) rfl))
  obtain ⟨fd__law_so, FD__law_so, b__law_so, F__law_so⟩ := ok__law_so (P := P) (w := w) (mg := mg) (base := base) KX G c TBs 24
  have v__law_so : Vals [] [] := .nil
  refine ⟨fd, F, F.bindsN fun _ _ _ _ _ _ us hl => match us, hl with | [_, _], _ => rfl, fn_ok F S__law_same_told rfl rfl fun cdv A outer s H E hr tk po => ?_⟩
  have hU := room64 hr
  have hU0 := room0 hr
  have hN := S__law_same_told.nd
  exact (pds_cons insE (pd_ret (pd_and (pd_cmp (od_eq hU) (pd_callB cd_len rfl m_len (by decide +kernel) (pda_cons (pd_var (i := 0) rfl (visB_ok rfl) (by decide) (by decide)) pda_nil rfl) (by decide) (by decide) rfl rfl) (pd_callB cd_len rfl m_len (by decide +kernel) (pda_cons (pd_var (i := 1) rfl (visB_ok rfl) (by decide) (by decide)) pda_nil rfl) (by decide) (by decide) rfl rfl) rfl) (pd_and (pd_cmp (od_eq hU) (pd_ix (pd_var (i := 0) rfl (visB_ok rfl) (by decide) (by decide)) pd_int (fun _ _ => rfl)) (pd_ix (pd_var (i := 1) rfl (visB_ok rfl) (by decide) (by decide)) pd_int (fun _ _ => rfl)) rfl) (pd_one (pd_call (hy := [false, false]) (dd := []) (F__law_so.mono (by decide)) hr rfl m__law_so FD__law_so.kp b__law_so v__law_so .nil tk insE (by decide) (pda_cons (pd_callTy cd_tuple rfl m_tuple (by decide +kernel) (pda_cons (pd_sl (pd_var (i := 0) rfl (visB_ok rfl) (by decide) (by decide)) (pdo_some pd_int) pdo_none) pda_nil rfl) (by decide) (by decide) rfl rfl) (pda_cons (pd_callTy cd_tuple rfl m_tuple (by decide +kernel) (pda_cons (pd_sl (pd_var (i := 1) rfl (visB_ok rfl) (by decide) (by decide)) (pdo_some pd_int) pdo_none) pda_nil rfl) (by decide) (by decide) rfl rfl) pda_nil rfl) rfl) rfl rfl rfl ((alen_cons (alen_cons alen_nil)))))))) pds_nil)
/-! _law_all_digits -/
def d__law_all_digits : List Vx → Mo Vx := fun ys => fnM 2 (sCons (sRet (eAnd (eBin dGt (eCall bLen (aCons (eVar 0) aNil)) (eC (.int 0))) (eBin dEq (eCall bLen (aCons (eLc true (wVal (eVar 0)) (.nm 1) (tTst (eBin dNotIn (eVar 1) (eC (.str [48, 49, 50, 51, 52, 53, 54, 55, 56, 57])))) (eVar 1) [1]) aNil)) (eC (.int 0))))) sNil) ys
theorem S__law_all_digits : FnScope ["text", "sign"] ["text"] (defScope (top 63)) := ⟨rfl, rfl, rfl, by decide +kernel, rfl, by decide +kernel, by decide +kernel⟩
theorem ok__law_all_digits {P : Program} {w : World} {K : PySem.W.Frag} {h : Heap} {mg : PySem.Str → Option Value} {base : Heap} (KX : K.In h) (G : h.Ns mainGlobals mg) (c : FX K) (TBs : ∀ p ∈ csL K, LamX.TabB base mg p.1 p.2) : ∃ fd, FunD K "_law_all_digits" "_law_all_digits" (defArgs (top 63)) (defBody (top 63)) (defScope (top 63)) (D__law_all_digits.dvs K) [] (He.ga K "_law_all_digits") fd ∧ (Binds K fd ["text"] []) ∧ FnOk P w K mg base (L2.CX P w) 1 (He.ga K "_law_all_digits") fd ["text"] (spD K (g0 K) 1 d__law_all_digits) := by
  obtain ⟨fd, F⟩ := c.defs (d := D__law_all_digits) (List.mem_of_getElem? (i := 43) rfl)
  have m_len : mg "len" = none := He.free_ok KX G (c.facts (f := .free "len") (List.mem_of_getElem? (i := 8) rfl))
  refine ⟨fd, F, F.bindsN fun _ _ _ _ _ _ us hl => match us, hl with | [_], _ => rfl, fn_ok F S__law_all_digits rfl rfl fun cdv A outer s H E hr tk po => ?_⟩
  have hU := room64 hr
  have hU0 := room0 hr
  have hN := S__law_all_digits.nd
  exact (pds_cons insE (pd_ret (pd_and (pd_cmp od_gt (pd_callB cd_len rfl m_len (by decide +kernel) (pda_cons (pd_var (i := 0) rfl (visB_ok rfl) (by decide) (by decide)) pda_nil rfl) (by decide) (by decide) rfl rfl) pd_int rfl) (pd_one (pd_cmp (od_eq hU) (pd_callB cd_len rfl m_len (by decide +kernel) (pda_cons (pd_lc [("sign", 1)] rfl hN (pd_wval (pd_var (i := 0) rfl (visB_ok rfl) (by decide) (by decide))) rfl rfl (tg_nm 1) rfl (fun _ _ _ _ _ => (pg_name (i := 1) hN rfl (locB_ok rfl) (by first | exact .inl rfl | exact .inr rfl))) (fun _ _ _ _ _ => (pts_one (pdt_cmp (od_notIn hU) (pd_var (i := 1) rfl (visB_ok rfl) (by decide) (by decide)) (pd_str (s := [48, 49, 50, 51, 52, 53, 54, 55, 56, 57]) (by decide +kernel) ⟨by decide +kernel, by decide +kernel⟩) rfl))) (fun _ _ _ _ _ => (pd_var (i := 1) rfl (visB_ok rfl) (by decide) (by decide))) (fun _ => rfl)) pda_nil rfl) (by decide) (by decide) rfl rfl) pd_int rfl)))) pds_nil)
/-! _law_red -/
def d__law_red : Nat → List Vx → Mo Vx
  | 0, _ => stk
  | n + 1, ys => fnM 3 (sCons (sIf (tTst (eBin dLt (eVar 1) (eC (.int 0)))) (sCons (sRet (eCall (fun ys => callM [false, false] (d__law_red n) (ys ++ ([] : List Dt).map Vx.d)) (aCons (eUn dNeg (eVar 0)) (aCons (eUn dNeg (eVar 1)) aNil)))) sNil) sNil) (sCons (sSet (.nm 2) (eCall (fun ys => callM [false, false] d__law_gcd (ys ++ ([] : List Dt).map Vx.d)) (aCons (eVar 0) (aCons (eVar 1) aNil)))) (sCons (sIf (tTst (eBin dEq (eVar 2) (eC (.int 0)))) (sCons (sRet (eTup (aCons (eC (.int 0)) (aCons (eC (.int 1)) aNil)))) sNil) sNil) (sCons (sRet (eTup (aCons (eBin dFdiv (eVar 0) (eVar 2)) (aCons (eBin dFdiv (eVar 1) (eVar 2)) aNil)))) sNil)))) ys
theorem S__law_red : FnScope ["n", "d", "common"] ["n", "d"] (defScope (top 64)) := ⟨rfl, rfl, rfl, by decide +kernel, rfl, by decide +kernel, by decide +kernel⟩
theorem ok__law_red {P : Program} {w : World} {K : PySem.W.Frag} {h : Heap} {mg : PySem.Str → Option Value} {base : Heap} (KX : K.In h) (G : h.Ns mainGlobals mg) (c : FX K) (TBs : ∀ p ∈ csL K, LamX.TabB base mg p.1 p.2) (n : Nat) : ∃ fd, FunD K "_law_red" "_law_red" (defArgs (top 64)) (defBody (top 64)) (defScope (top 64)) (D__law_red.dvs K) [] (He.ga K "_law_red") fd ∧ (Binds K fd ["n", "d"] []) ∧ FnOk P w K mg base (L2.CX P w) (n + 1) (He.ga K "_law_red") fd ["n", "d"] (spD K (g0 K) 2 (d__law_red n)) := by
  obtain ⟨fd, F⟩ := c.defs (d := D__law_red) (List.mem_of_getElem? (i := 44) rfl)
  have m__law_gcd : mg "_law_gcd" = some (.ref (He.ga K "_law_gcd")) := He.glo_ok KX G (c.facts (f := .glo "_law_gcd") (List.mem_of_getElem? (i := 38) rfl))
  obtain ⟨fd__law_gcd, FD__law_gcd, b__law_gcd, F__law_gcd⟩ := ok__law_gcd (P := P) (w := w) (mg := mg) (base := base) KX G c TBs
  have v__law_gcd : Vals [] [] := .nil
  have m__law_red : mg "_law_red" = some (.ref (He.ga K "_law_red")) := He.glo_ok KX G (c.facts (f := .glo "_law_red") (List.mem_of_getElem? (i := 39) rfl))
  have bF : Binds K fd ["n", "d"] [] := F.bindsN fun _ _ _ _ _ _ us hl => match us, hl with | [_, _], _ => rfl
  refine ⟨fd, F, bF, ?_⟩
  induction n with
  | zero => exact ⟨fun vs H Q E h => h.1, fun A outer s H args us vs Q E hr he hb hv h => by obtain ⟨_, W, h0, ys, _, _, p⟩ := h; exact p.elim⟩
  | succ n F_self =>
    have FD__law_red := F
    have b__law_red := bF
    have v__law_red : Vals [] [] := .nil
    refine fn_ok F S__law_red rfl rfl fun cdv A outer s H E hr tk po => ?_
    have hU := room64 hr
    have hU0 := room0 hr
    have hN := S__law_red.nd
    exact (pds_cons insE (pd_if (pdt_cmp (od_lt hU0) (pd_var (i := 1) rfl (visB_ok rfl) (by decide) (by decide)) pd_int rfl) (pds_cons insE (pd_ret (pd_call (hy := [false, false]) (dd := []) (F_self.mono (by omega)) hr rfl m__law_red FD__law_red.kp b__law_red v__law_red .nil tk insE (by decide) (pda_cons (pd_un ud_neg (pd_var (i := 0) rfl (visB_ok rfl) (by decide) (by decide))) (pda_cons (pd_un ud_neg (pd_var (i := 1) rfl (visB_ok rfl) (by decide) (by decide))) pda_nil rfl) rfl) rfl rfl rfl ((alen_cons (alen_cons alen_nil))))) pds_nil) pds_nil) (pds_cons insE (pd_set (i := 2) hN rfl (locB_ok rfl) (pd_call (hy := [false, false]) (dd := []) (F__law_gcd.mono (by omega)) hr rfl m__law_gcd FD__law_gcd.kp b__law_gcd v__law_gcd .nil tk insE (by decide) (pda_cons (pd_var (i := 0) rfl (visB_ok rfl) (by decide) (by decide)) (pda_cons (pd_var (i := 1) rfl (visB_ok rfl) (by decide) (by decide)) pda_nil rfl) rfl) rfl rfl rfl ((alen_cons (alen_cons alen_nil)))) rfl (by first | exact .inl rfl | exact .inr rfl)) (pds_cons insE (pd_if (pdt_cmp (od_eq hU) (pd_var (i := 2) rfl (visB_ok rfl) (by decide) (by decide)) pd_int rfl) (pds_cons insE (pd_ret (pd_tup (pda_cons pd_int (pda_cons pd_int pda_nil rfl) rfl))) pds_nil) pds_nil) (pds_cons insE (pd_ret (pd_tup (pda_cons (pd_op od_fdiv (pd_var (i := 0) rfl (visB_ok rfl) (by decide) (by decide)) (pd_var (i := 2) rfl (visB_ok rfl) (by decide) (by decide))) (pda_cons (pd_op od_fdiv (pd_var (i := 1) rfl (visB_ok rfl) (by decide) (by decide)) (pd_var (i := 2) rfl (visB_ok rfl) (by decide) (by decide))) pda_nil rfl) rfl))) pds_nil))))
/-! _law_is_name -/
def d__law_is_name : List Vx → Mo Vx := fun ys => fnM 2 (sCons (sRet (eAnd (eBin dGt (eCall bLen (aCons (eVar 0) aNil)) (eC (.int 0))) (eAnd (eBin dLt (eCall bLen (aCons (eVar 0) aNil)) (eC (.int 9))) (eBin dEq (eCall bLen (aCons (eLc true (wVal (eVar 0)) (.nm 1) (tTst (eBin dNotIn (eVar 1) (eC (.str [97, 98, 99, 100, 101, 102, 103, 104, 105, 106, 107, 108, 109, 110, 111, 112, 113, 114, 115, 116, 117, 118, 119, 120, 121, 122])))) (eVar 1) [1]) aNil)) (eC (.int 0)))))) sNil) ys
theorem S__law_is_name : FnScope ["text", "sign"] ["text"] (defScope (top 65)) := ⟨rfl, rfl, rfl, by decide +kernel, rfl, by decide +kernel, by decide +kernel⟩
theorem ok__law_is_name {P : Program} {w : World} {K : PySem.W.Frag} {h : Heap} {mg : PySem.Str → Option Value} {base : Heap} (KX : K.In h) (G : h.Ns mainGlobals mg) (c : FX K) (TBs : ∀ p ∈ csL K, LamX.TabB base mg p.1 p.2) : ∃ fd, FunD K "_law_is_name" "_law_is_name" (defArgs (top 65)) (defBody (top 65)) (defScope (top 65)) (D__law_is_name.dvs K) [] (He.ga K "_law_is_name") fd ∧ (Binds K fd ["text"] []) ∧ FnOk P w K mg base (L2.CX P w) 1 (He.ga K "_law_is_name") fd ["text"] (spD K (g0 K) 1 d__law_is_name) := by
  obtain ⟨fd, F⟩ := c.defs (d := D__law_is_name) (List.mem_of_getElem? (i := 45) rfl)
  have m_len : mg "len" = none := He.free_ok KX G (c.facts (f := .free "len") (List.mem_of_getElem? (i := 8) rfl))
  refine ⟨fd, F, F.bindsN fun _ _ _ _ _ _ us hl => match us, hl with | [_], _ => rfl, fn_ok F S__law_is_name rfl rfl fun cdv A outer s H E hr tk po => ?_⟩
  have hU := room64 hr
  have hU0 := room0 hr
  have hN := S__law_is_name.nd
  exact (pds_cons insE (pd_ret (pd_and (pd_cmp od_gt (pd_callB cd_len rfl m_len (by decide +kernel) (pda_cons (pd_var (i := 0) rfl (visB_ok rfl) (by decide) (by decide)) pda_nil rfl) (by decide) (by decide) rfl rfl) pd_int rfl) (pd_and (pd_cmp (od_lt hU0) (pd_callB cd_len rfl m_len (by decide +kernel) (pda_cons (pd_var (i := 0) rfl (visB_ok rfl) (by decide) (by decide)) pda_nil rfl) (by decide) (by decide) rfl rfl) pd_int rfl) (pd_one (pd_cmp (od_eq hU) (pd_callB cd_len rfl m_len (by decide +kernel) (pda_cons (pd_lc [("sign", 1)] rfl hN (pd_wval (pd_var (i := 0) rfl (visB_ok rfl) (by decide) (by decide))) rfl rfl (tg_nm 1) rfl (fun _ _ _ _ _ => (pg_name (i := 1) hN rfl (locB_ok rfl) (by first | exact .inl rfl | exact .inr rfl))) (fun _ _ _ _ _ => (pts_one (pdt_cmp (od_notIn hU) (pd_var (i := 1) rfl (visB_ok rfl) (by decide) (by decide)) (pd_str (s := [97, 98, 99, 100, 101, 102, 103, 104, 105, 106, 107, 108, 109, 110, 111, 112, 113, 114, 115, 116, 117, 118, 119, 120, 121, 122]) (by decide +kernel) ⟨by decide +kernel, by decide +kernel⟩) rfl))) (fun _ _ _ _ _ => (pd_var (i := 1) rfl (visB_ok rfl) (by decide) (by decide))) (fun _ => rfl)) pda_nil rfl) (by decide) (by decide) rfl rfl) pd_int rfl))))) pds_nil)
/-! _law_whole_word -/
def d__law_whole_word : List Vx → Mo Vx := fun ys => fnM 2 (sCons (sSet (.nm 1) (eIf (tTst (eBin dEq (eSl (eVar 0) oNone (oSome (eC (.int 1)))) (eC (.str [45])))) (eSl (eVar 0) (oSome (eC (.int 1))) oNone) (eVar 0))) (sCons (sIf (tOrD (tNotD (tVal (eCall (fun ys => callM [false] d__law_all_digits (ys ++ ([] : List Dt).map Vx.d)) (aCons (eVar 1) aNil)))) (tOrD (tTst (eBin dGt (eCall bLen (aCons (eVar 1) aNil)) (eC (.int 9)))) (tAndD (tTst (eBin dGt (eCall bLen (aCons (eVar 1) aNil)) (eC (.int 1)))) (tTst (eBin dEq (eBin dIx (eVar 1) (eC (.int 0))) (eC (.str [48]))))))) (sCons (sRet (eC .non)) sNil) sNil) (sCons (sRet (eIf (tTst (eBin dEq (eVar 0) (eC (.str [45, 48])))) (eC .non) (eCall bInt (aCons (eVar 0) aNil)))) sNil))) ys
theorem S__law_whole_word : FnScope ["word", "bare"] ["word"] (defScope (top 67)) := ⟨rfl, rfl, rfl, by decide +kernel, rfl, by decide +kernel, by decide +kernel⟩
theorem ok__law_whole_word {P : Program} {w : World} {K : PySem.W.Frag} {h : Heap} {mg : PySem.Str → Option Value} {base : Heap} (KX : K.In h) (G : h.Ns mainGlobals mg) (c : FX K) (TBs : ∀ p ∈ csL K, LamX.TabB base mg p.1 p.2) : ∃ fd, FunD K "_law_whole_word" "_law_whole_word" (defArgs (top 67)) (defBody (top 67)) (defScope (top 67)) (D__law_whole_word.dvs K) [] (He.ga K "_law_whole_word") fd ∧ (Binds K fd ["word"] []) ∧ FnOk P w K mg base (L2.CX P w) 2 (He.ga K "_law_whole_word") fd ["word"] (spD K (g0 K) 1 d__law_whole_word) := by
  obtain ⟨fd, F⟩ := c.defs (d := D__law_whole_word) (List.mem_of_getElem? (i := 46) rfl)
  have m_int : mg "int" = none := He.free_ok KX G (c.facts (f := .free "int") (List.mem_of_getElem? (i := 6) rfl))
  have m_len : mg "len" = none := He.free_ok KX G (c.facts (f := .free "len") (List.mem_of_getElem? (i := 8) rfl))
  have m__law_all_digits : mg "_law_all_digits" = some (.ref (He.ga K "_law_all_digits")) := He.glo_ok KX G (c.facts (f := .glo "_law_all_digits") (List.mem_of_getElem? (i := 40) rfl))
  obtain ⟨fd__law_all_digits, FD__law_all_digits, b__law_all_digits, F__law_all_digits⟩ := ok__law_all_digits (P := P) (w := w) (mg := mg) (base := base) KX G c TBs
  have v__law_all_digits : Vals [] [] := .nil
  refine ⟨fd, F, F.bindsN fun _ _ _ _ _ _ us hl => match us, hl with | [_], _ => rfl, fn_ok F S__law_whole_word rfl rfl fun cdv A outer s H E hr tk po => ?_⟩
  have hU := room64 hr
  have hU0 := room0 hr
  have hN := S__law_whole_word.nd
  exact (pds_cons insE (pd_set (i := 1) hN rfl (locB_ok rfl) (pd_ifExp (pdt_cmp (od_eq hU) (pd_sl (pd_var (i := 0) rfl (visB_ok rfl) (by decide) (by decide)) pdo_none (pdo_some pd_int)) (pd_str (s := [45]) (by decide +kernel) ⟨by decide +kernel, by decide +kernel⟩) rfl) (pd_sl (pd_var (i := 0) rfl (visB_ok rfl) (by decide) (by decide)) (pdo_some pd_int) pdo_none) (pd_var (i := 0) rfl (visB_ok rfl) (by decide) (by decide))) rfl (by first | exact .inl rfl | exact .inr rfl)) (pds_cons insE (pd_if (PW.pt (pdw_or (pdt_not (pdt_val (pd_call (hy := [false]) (dd := []) (F__law_all_digits.mono (by decide)) hr rfl m__law_all_digits FD__law_all_digits.kp b__law_all_digits v__law_all_digits .nil tk insE (by decide) (pda_cons (pd_var (i := 1) rfl (visB_ok rfl) (by decide) (by decide)) pda_nil rfl) rfl rfl rfl ((alen_cons alen_nil))) (fun _ => rfl))) (pdw_or (pdt_cmp od_gt (pd_callB cd_len rfl m_len (by decide +kernel) (pda_cons (pd_var (i := 1) rfl (visB_ok rfl) (by decide) (by decide)) pda_nil rfl) (by decide) (by decide) rfl rfl) pd_int rfl) (pdw_or1 (PW.pt (pdw_and (pdt_cmp od_gt (pd_callB cd_len rfl m_len (by decide +kernel) (pda_cons (pd_var (i := 1) rfl (visB_ok rfl) (by decide) (by decide)) pda_nil rfl) (by decide) (by decide) rfl rfl) pd_int rfl) (pdw_and1 (pdt_cmp (od_eq hU) (pd_ix (pd_var (i := 1) rfl (visB_ok rfl) (by decide) (by decide)) pd_int (fun _ _ => rfl)) (pd_str (s := [48]) (by decide +kernel) ⟨by decide +kernel, by decide +kernel⟩) rfl)))))))) (pds_cons insE (pd_ret pd_non) pds_nil) pds_nil) (pds_cons insE (pd_ret (pd_ifExp (pdt_cmp (od_eq hU) (pd_var (i := 0) rfl (visB_ok rfl) (by decide) (by decide)) (pd_str (s := [45, 48]) (by decide +kernel) ⟨by decide +kernel, by decide +kernel⟩) rfl) pd_non (pd_callTy cd_int rfl m_int (by decide +kernel) (pda_cons (pd_var (i := 0) rfl (visB_ok rfl) (by decide) (by decide)) pda_nil rfl) (by decide) (by decide) rfl rfl))) pds_nil)))
/-! _law_number_word -/
def d__law_number_word : List Vx → Mo Vx := fun ys => fnM 5 (sCons (sIf (tTst (eBin dNotIn (eC (.str [47])) (eVar 0))) (sCons (sSet (.nm 1) (eCall (fun ys => callM [false] d__law_whole_word (ys ++ ([] : List Dt).map Vx.d)) (aCons (eVar 0) aNil))) (sCons (sRet (eIf (tTst (eBin dIs (eVar 1) (eC .non))) (eC .non) (eTup (aCons (eVar 1) (aCons (eC (.int 1)) aNil))))) sNil)) sNil) (sCons (sSet (.nm 2) (eMt .str mSplit (eVar 0) (aCons (eC (.str [47])) aNil))) (sCons (sIf (tTst (eBin dNe (eCall bLen (aCons (eVar 2) aNil)) (eC (.int 2)))) (sCons (sRet (eC .non)) sNil) sNil) (sCons (sSet (.nm 3) (eCall (fun ys => callM [false] d__law_whole_word (ys ++ ([] : List Dt).map Vx.d)) (aCons (eBin dIx (eVar 2) (eC (.int 0))) aNil))) (sCons (sSet (.nm 4) (eCall (fun ys => callM [false] d__law_whole_word (ys ++ ([] : List Dt).map Vx.d)) (aCons (eBin dIx (eVar 2) (eC (.int 1))) aNil))) (sCons (sIf (tOrD (tTst (eBin dIs (eVar 3) (eC .non))) (tOrD (tTst (eBin dIs (eVar 4) (eC .non))) (tOrD (tTst (eBin dEq (eVar 3) (eC (.int 0)))) (tOrD (tTst (eBin dLt (eVar 4) (eC (.int 2)))) (tTst (eBin dNe (eCall (fun ys => callM [false, false] d__law_gcd (ys ++ ([] : List Dt).map Vx.d)) (aCons (eVar 3) (aCons (eVar 4) aNil))) (eC (.int 1)))))))) (sCons (sRet (eC .non)) sNil) sNil) (sCons (sRet (eTup (aCons (eVar 3) (aCons (eVar 4) aNil)))) sNil))))))) ys
theorem S__law_number_word : FnScope ["word", "one", "parts", "above", "below"] ["word"] (defScope (top 68)) := ⟨rfl, rfl, rfl, by decide +kernel, rfl, by decide +kernel, by decide +kernel⟩
theorem ok__law_number_word {P : Program} {w : World} {K : PySem.W.Frag} {h : Heap} {mg : PySem.Str → Option Value} {base : Heap} (KX : K.In h) (G : h.Ns mainGlobals mg) (c : FX K) (TBs : ∀ p ∈ csL K, LamX.TabB base mg p.1 p.2) : ∃ fd, FunD K "_law_number_word" "_law_number_word" (defArgs (top 68)) (defBody (top 68)) (defScope (top 68)) (D__law_number_word.dvs K) [] (He.ga K "_law_number_word") fd ∧ (Binds K fd ["word"] []) ∧ FnOk P w K mg base (L2.CX P w) 3 (He.ga K "_law_number_word") fd ["word"] (spD K (g0 K) 1 d__law_number_word) := by
  obtain ⟨fd, F⟩ := c.defs (d := D__law_number_word) (List.mem_of_getElem? (i := 47) rfl)
  have m_len : mg "len" = none := He.free_ok KX G (c.facts (f := .free "len") (List.mem_of_getElem? (i := 8) rfl))
  have m__law_gcd : mg "_law_gcd" = some (.ref (He.ga K "_law_gcd")) := He.glo_ok KX G (c.facts (f := .glo "_law_gcd") (List.mem_of_getElem? (i := 38) rfl))
  obtain ⟨fd__law_gcd, FD__law_gcd, b__law_gcd, F__law_gcd⟩ := ok__law_gcd (P := P) (w := w) (mg := mg) (base := base) KX G c TBs
  have v__law_gcd : Vals [] [] := .nil
  have m__law_whole_word : mg "_law_whole_word" = some (.ref (He.ga K "_law_whole_word")) := He.glo_ok KX G (c.facts (f := .glo "_law_whole_word") (List.mem_of_getElem? (i := 41) rfl))
  obtain ⟨fd__law_whole_word, FD__law_whole_word, b__law_whole_word, F__law_whole_word⟩ := ok__law_whole_word (P := P) (w := w) (mg := mg) (base := base) KX G c TBs
  have v__law_whole_word : Vals [] [] := .nil
  refine ⟨fd, F, F.bindsN fun _ _ _ _ _ _ us hl => match us, hl with | [_], _ => rfl, fn_ok F S__law_number_word rfl rfl fun cdv A outer s H E hr tk po => ?_⟩
  have hU := room64 hr
  have hU0 := room0 hr
  have hN := S__law_number_word.nd
  exact (pds_cons insE (pd_if (pdt_cmp (od_notIn hU) (pd_str (s := [47]) (by decide +kernel) ⟨by decide +kernel, by decide +kernel⟩) (pd_var (i := 0) rfl (visB_ok rfl) (by decide) (by decide)) rfl) (pds_cons insE (pd_set (i := 1) hN rfl (locB_ok rfl) (pd_call (hy := [false]) (dd := []) (F__law_whole_word.mono (by decide)) hr rfl m__law_whole_word FD__law_whole_word.kp b__law_whole_word v__law_whole_word .nil tk insE (by decide) (pda_cons (pd_var (i := 0) rfl (visB_ok rfl) (by decide) (by decide)) pda_nil rfl) rfl rfl rfl ((alen_cons alen_nil))) rfl (by first | exact .inl rfl | exact .inr rfl)) (pds_cons insE (pd_ret (pd_ifExp (pdt_cmp od_is (pd_var (i := 1) rfl (visB_ok rfl) (by decide) (by decide)) pd_non rfl) pd_non (pd_tup (pda_cons (pd_var (i := 1) rfl (visB_ok rfl) (by decide) (by decide)) (pda_cons pd_int pda_nil rfl) rfl)))) pds_nil)) pds_nil) (pds_cons insE (pd_set (i := 2) hN rfl (locB_ok rfl) (pd_mt (T := .str) PySem.F.plainAttrs_str PySem.F.slot_str_split PySem.F.type_str_split od_split (pd_var (i := 0) rfl (visB_ok rfl) (by decide) (by decide)) (pda_cons (pd_str (s := [47]) (by decide +kernel) ⟨by decide +kernel, by decide +kernel⟩) pda_nil rfl) rfl rfl rfl rfl rfl) rfl (by first | exact .inl rfl | exact .inr rfl)) (pds_cons insE (pd_if (pdt_cmp (od_ne hU) (pd_callB cd_len rfl m_len (by decide +kernel) (pda_cons (pd_var (i := 2) rfl (visB_ok rfl) (by decide) (by decide)) pda_nil rfl) (by decide) (by decide) rfl rfl) pd_int rfl) (pds_cons insE (pd_ret pd_non) pds_nil) pds_nil) (pds_cons insE (pd_set (i := 3) hN rfl (locB_ok rfl) (pd_call (hy := [false]) (dd := []) (F__law_whole_word.mono (by decide)) hr rfl m__law_whole_word FD__law_whole_word.kp b__law_whole_word v__law_whole_word .nil tk insE (by decide) (pda_cons (pd_ix (pd_var (i := 2) rfl (visB_ok rfl) (by decide) (by decide)) pd_int (fun _ _ => rfl)) pda_nil rfl) rfl rfl rfl ((alen_cons alen_nil))) rfl (by first | exact .inl rfl | exact .inr rfl)) (pds_cons insE (pd_set (i := 4) hN rfl (locB_ok rfl) (pd_call (hy := [false]) (dd := []) (F__law_whole_word.mono (by decide)) hr rfl m__law_whole_word FD__law_whole_word.kp b__law_whole_word v__law_whole_word .nil tk insE (by decide) (pda_cons (pd_ix (pd_var (i := 2) rfl (visB_ok rfl) (by decide) (by decide)) pd_int (fun _ _ => rfl)) pda_nil rfl) rfl rfl rfl ((alen_cons alen_nil))) rfl (by first | exact .inl rfl | exact .inr rfl)) (pds_cons insE (pd_if (PW.pt (pdw_or (pdt_cmp od_is (pd_var (i := 3) rfl (visB_ok rfl) (by decide) (by decide)) pd_non rfl) (pdw_or (pdt_cmp od_is (pd_var (i := 4) rfl (visB_ok rfl) (by decide) (by decide)) pd_non rfl) (pdw_or (pdt_cmp (od_eq hU) (pd_var (i := 3) rfl (visB_ok rfl) (by decide) (by decide)) pd_int rfl) (pdw_or (pdt_cmp (od_lt hU0) (pd_var (i := 4) rfl (visB_ok rfl) (by decide) (by decide)) pd_int rfl) (pdw_or1 (pdt_cmp (od_ne hU) (pd_call (hy := [false, false]) (dd := []) (F__law_gcd.mono (by decide)) hr rfl m__law_gcd FD__law_gcd.kp b__law_gcd v__law_gcd .nil tk insE (by decide) (pda_cons (pd_var (i := 3) rfl (visB_ok rfl) (by decide) (by decide)) (pda_cons (pd_var (i := 4) rfl (visB_ok rfl) (by decide) (by decide)) pda_nil rfl) rfl) rfl rfl rfl ((alen_cons (alen_cons alen_nil)))) pd_int rfl))))))) (pds_cons insE (pd_ret pd_non) pds_nil) pds_nil) (pds_cons insE (pd_ret (pd_tup (pda_cons (pd_var (i := 3) rfl (visB_ok rfl) (by decide) (by decide)) (pda_cons (pd_var (i := 4) rfl (visB_ok rfl) (by decide) (by decide)) pda_nil rfl) rfl))) pds_nil)))))))
/-! _law_is_low -/
def d__law_is_low : List Vx → Mo Vx := fun ys => fnM 2 (sCons (sRet (eBin dEq (eCall bLen (aCons (eLc true (wVal (eVar 0)) (.nm 1) (tTst (eBin dNotIn (eVar 1) (eC (.str [97, 98, 99, 100, 101, 102, 103, 104, 105, 106, 107, 108, 109, 110, 111, 112, 113, 114, 115, 116, 117, 118, 119, 120, 121, 122])))) (eVar 1) [1]) aNil)) (eC (.int 0)))) sNil) ys
theorem S__law_is_low : FnScope ["text", "sign"] ["text"] (defScope (top 70)) := ⟨rfl, rfl, rfl, by decide +kernel, rfl, by decide +kernel, by decide +kernel⟩
theorem ok__law_is_low {P : Program} {w : World} {K : PySem.W.Frag} {h : Heap} {mg : PySem.Str → Option Value} {base : Heap} (KX : K.In h) (G : h.Ns mainGlobals mg) (c : FX K) (TBs : ∀ p ∈ csL K, LamX.TabB base mg p.1 p.2) : ∃ fd, FunD K "_law_is_low" "_law_is_low" (defArgs (top 70)) (defBody (top 70)) (defScope (top 70)) (D__law_is_low.dvs K) [] (He.ga K "_law_is_low") fd ∧ (Binds K fd ["text"] []) ∧ FnOk P w K mg base (L2.CX P w) 1 (He.ga K "_law_is_low") fd ["text"] (spD K (g0 K) 1 d__law_is_low) := by
  obtain ⟨fd, F⟩ := c.defs (d := D__law_is_low) (List.mem_of_getElem? (i := 48) rfl)
  have m_len : mg "len" = none := He.free_ok KX G (c.facts (f := .free "len") (List.mem_of_getElem? (i := 8) rfl))
  refine ⟨fd, F, F.bindsN fun _ _ _ _ _ _ us hl => match us, hl with | [_], _ => rfl, fn_ok F S__law_is_low rfl rfl fun cdv A outer s H E hr tk po => ?_⟩
  have hU := room64 hr
  have hU0 := room0 hr
  have hN := S__law_is_low.nd
  exact (pds_cons insE (pd_ret (pd_cmp (od_eq hU) (pd_callB cd_len rfl m_len (by decide +kernel) (pda_cons (pd_lc [("sign", 1)] rfl hN (pd_wval (pd_var (i := 0) rfl (visB_ok rfl) (by decide) (by decide))) rfl rfl (tg_nm 1) rfl (fun _ _ _ _ _ => (pg_name (i := 1) hN rfl (locB_ok rfl) (by first | exact .inl rfl | exact .inr rfl))) (fun _ _ _ _ _ => (pts_one (pdt_cmp (od_notIn hU) (pd_var (i := 1) rfl (visB_ok rfl) (by decide) (by decide)) (pd_str (s := [97, 98, 99, 100, 101, 102, 103, 104, 105, 106, 107, 108, 109, 110, 111, 112, 113, 114, 115, 116, 117, 118, 119, 120, 121, 122]) (by decide +kernel) ⟨by decide +kernel, by decide +kernel⟩) rfl))) (fun _ _ _ _ _ => (pd_var (i := 1) rfl (visB_ok rfl) (by decide) (by decide))) (fun _ => rfl)) pda_nil rfl) (by decide) (by decide) rfl rfl) pd_int rfl)) pds_nil)
/-! _law_kind -/
def d__law_kind : List Vx → Mo Vx := fun ys => fnM 1 (sCons (sIf (tTst (eBin dIn (eVar 0) (eLst (aCons (eC (.str [123])) (aCons (eC (.str [125])) aNil))))) (sCons (sRet (eC (.str [98, 114, 97, 99, 101]))) sNil) sNil) (sCons (sIf (tTst (eBin dIsNot (eCall (fun ys => callM [false] d__law_number_word (ys ++ ([] : List Dt).map Vx.d)) (aCons (eVar 0) aNil)) (eC .non))) (sCons (sRet (eC (.str [110, 117, 109, 98, 101, 114]))) sNil) sNil) (sCons (sIf (tAndD (tTst (eBin dEq (eSl (eVar 0) oNone (oSome (eC (.int 1)))) (eC (.str [47])))) (tVal (eCall (fun ys => callM [false] d__law_is_name (ys ++ ([] : List Dt).map Vx.d)) (aCons (eSl (eVar 0) (oSome (eC (.int 1))) oNone) aNil)))) (sCons (sRet (eC (.str [110, 97, 109, 101]))) sNil) sNil) (sCons (sIf (tAndD (tTst (eBin dGt (eCall bLen (aCons (eVar 0) aNil)) (eC (.int 1)))) (tAndD (tTst (eBin dEq (eBin dIx (eVar 0) (eC (.int 0))) (eC (.str [40])))) (tAndD (tTst (eBin dEq (eBin dIx (eVar 0) (eBin dSub (eCall bLen (aCons (eVar 0) aNil)) (eC (.int 1)))) (eC (.str [41])))) (tOrD (tTst (eBin dEq (eCall bLen (aCons (eVar 0) aNil)) (eC (.int 2)))) (tVal (eCall (fun ys => callM [false] d__law_is_low (ys ++ ([] : List Dt).map Vx.d)) (aCons (eSl (eVar 0) (oSome (eC (.int 1))) (oSome (eBin dSub (eCall bLen (aCons (eVar 0) aNil)) (eC (.int 1))))) aNil))))))) (sCons (sRet (eC (.str [108, 101, 116, 116, 101, 114, 115]))) sNil) sNil) (sCons (sRet (eIf (tVal (eCall (fun ys => callM [false] d__law_is_name (ys ++ ([] : List Dt).map Vx.d)) (aCons (eVar 0) aNil))) (eC (.str [99, 97, 108, 108])) (eC .non))) sNil))))) ys
theorem S__law_kind : FnScope ["word"] ["word"] (defScope (top 69)) := ⟨rfl, rfl, rfl, by decide +kernel, rfl, by decide +kernel, by decide +kernel⟩
theorem ok__law_kind {P : Program} {w : World} {K : PySem.W.Frag} {h : Heap} {mg : PySem.Str → Option Value} {base : Heap} (KX : K.In h) (G : h.Ns mainGlobals mg) (c : FX K) (TBs : ∀ p ∈ csL K, LamX.TabB base mg p.1 p.2) : ∃ fd, FunD K "_law_kind" "_law_kind" (defArgs (top 69)) (defBody (top 69)) (defScope (top 69)) (D__law_kind.dvs K) [] (He.ga K "_law_kind") fd ∧ (Binds K fd ["word"] []) ∧ FnOk P w K mg base (L2.CX P w) 4 (He.ga K "_law_kind") fd ["word"] (spD K (g0 K) 1 d__law_kind) := by
  obtain ⟨fd, F⟩ := c.defs (d := D__law_kind) (List.mem_of_getElem? (i := 49) rfl)
  have m_len : mg "len" = none := He.free_ok KX G (c.facts (f := .free "len") (List.mem_of_getElem? (i := 8) rfl))
  have m__law_is_low : mg "_law_is_low" = some (.ref (He.ga K "_law_is_low")) := He.glo_ok KX G (c.facts (f := .glo "_law_is_low") (List.mem_of_getElem? (i := 42) rfl))
  obtain ⟨fd__law_is_low, FD__law_is_low, b__law_is_low, F__law_is_low⟩ := ok__law_is_low (P := P) (w := w) (mg := mg) (base := base) KX G c TBs
  have v__law_is_low : Vals [] [] := .nil
  have m__law_is_name : mg "_law_is_name" = some (.ref (He.ga K "_law_is_name")) := He.glo_ok KX G (c.facts (f := .glo "_law_is_name") (List.mem_of_getElem? (i := 43) rfl))
  obtain ⟨fd__law_is_name, FD__law_is_name, b__law_is_name, F__law_is_name⟩ := ok__law_is_name (P := P) (w := w) (mg := mg) (base := base) KX G c TBs
  have v__law_is_name : Vals [] [] := .nil
  have m__law_number_word : mg "_law_number_word" = some (.ref (He.ga K "_law_number_word")) := He.glo_ok KX G (c.facts (f := .glo "_law_number_word") (List.mem_of_getElem? (i := 44) rfl))
  obtain ⟨fd__law_number_word, FD__law_number_word, b__law_number_word, F__law_number_word⟩ := ok__law_number_word (P := P) (w := w) (mg := mg) (base := base) KX G c TBs
  have v__law_number_word : Vals [] [] := .nil
  refine ⟨fd, F, F.bindsN fun _ _ _ _ _ _ us hl => match us, hl with | [_], _ => rfl, fn_ok F S__law_kind rfl rfl fun cdv A outer s H E hr tk po => ?_⟩
  have hU := room64 hr
  have hU0 := room0 hr
  have hN := S__law_kind.nd
  exact (pds_cons insE (pd_if (pdt_cmp (od_in hU) (pd_var (i := 0) rfl (visB_ok rfl) (by decide) (by decide)) (pd_lst (pda_cons (pd_str (s := [123]) (by decide +kernel) ⟨by decide +kernel, by decide +kernel⟩) (pda_cons (pd_str (s := [125]) (by decide +kernel) ⟨by decide +kernel, by decide +kernel⟩) pda_nil rfl) rfl)) rfl) (pds_cons insE (pd_ret (pd_str (s := [98, 114, 97, 99, 101]) (by decide +kernel) ⟨by decide +kernel, by decide +kernel⟩)) pds_nil) pds_nil) (pds_cons insE (pd_if (pdt_cmp od_isNot (pd_call (hy := [false]) (dd := []) (F__law_number_word.mono (by decide)) hr rfl m__law_number_word FD__law_number_word.kp b__law_number_word v__law_number_word .nil tk insE (by decide) (pda_cons (pd_var (i := 0) rfl (visB_ok rfl) (by decide) (by decide)) pda_nil rfl) rfl rfl rfl ((alen_cons alen_nil))) pd_non rfl) (pds_cons insE (pd_ret (pd_str (s := [110, 117, 109, 98, 101, 114]) (by decide +kernel) ⟨by decide +kernel, by decide +kernel⟩)) pds_nil) pds_nil) (pds_cons insE (pd_if (PW.pt (pdw_and (pdt_cmp (od_eq hU) (pd_sl (pd_var (i := 0) rfl (visB_ok rfl) (by decide) (by decide)) pdo_none (pdo_some pd_int)) (pd_str (s := [47]) (by decide +kernel) ⟨by decide +kernel, by decide +kernel⟩) rfl) (pdw_and1 (pdt_val (pd_call (hy := [false]) (dd := []) (F__law_is_name.mono (by decide)) hr rfl m__law_is_name FD__law_is_name.kp b__law_is_name v__law_is_name .nil tk insE (by decide) (pda_cons (pd_sl (pd_var (i := 0) rfl (visB_ok rfl) (by decide) (by decide)) (pdo_some pd_int) pdo_none) pda_nil rfl) rfl rfl rfl ((alen_cons alen_nil))) (fun _ => rfl))))) (pds_cons insE (pd_ret (pd_str (s := [110, 97, 109, 101]) (by decide +kernel) ⟨by decide +kernel, by decide +kernel⟩)) pds_nil) pds_nil) (pds_cons insE (pd_if (PW.pt (pdw_and (pdt_cmp od_gt (pd_callB cd_len rfl m_len (by decide +kernel) (pda_cons (pd_var (i := 0) rfl (visB_ok rfl) (by decide) (by decide)) pda_nil rfl) (by decide) (by decide) rfl rfl) pd_int rfl) (pdw_and (pdt_cmp (od_eq hU) (pd_ix (pd_var (i := 0) rfl (visB_ok rfl) (by decide) (by decide)) pd_int (fun _ _ => rfl)) (pd_str (s := [40]) (by decide +kernel) ⟨by decide +kernel, by decide +kernel⟩) rfl) (pdw_and (pdt_cmp (od_eq hU) (pd_ix (pd_var (i := 0) rfl (visB_ok rfl) (by decide) (by decide)) (pd_op od_sub (pd_callB cd_len rfl m_len (by decide +kernel) (pda_cons (pd_var (i := 0) rfl (visB_ok rfl) (by decide) (by decide)) pda_nil rfl) (by decide) (by decide) rfl rfl) pd_int) (fun _ _ => rfl)) (pd_str (s := [41]) (by decide +kernel) ⟨by decide +kernel, by decide +kernel⟩) rfl) (pdw_and1 (PW.pt (pdw_or (pdt_cmp (od_eq hU) (pd_callB cd_len rfl m_len (by decide +kernel) (pda_cons (pd_var (i := 0) rfl (visB_ok rfl) (by decide) (by decide)) pda_nil rfl) (by decide) (by decide) rfl rfl) pd_int rfl) (pdw_or1 (pdt_val (pd_call (hy := [false]) (dd := []) (F__law_is_low.mono (by decide)) hr rfl m__law_is_low FD__law_is_low.kp b__law_is_low v__law_is_low .nil tk insE (by decide) (pda_cons (pd_sl (pd_var (i := 0) rfl (visB_ok rfl) (by decide) (by decide)) (pdo_some pd_int) (pdo_some (pd_op od_sub (pd_callB cd_len rfl m_len (by decide +kernel) (pda_cons (pd_var (i := 0) rfl (visB_ok rfl) (by decide) (by decide)) pda_nil rfl) (by decide) (by decide) rfl rfl) pd_int))) pda_nil rfl) rfl rfl rfl ((alen_cons alen_nil))) (fun _ => rfl)))))))))) (pds_cons insE (pd_ret (pd_str (s := [108, 101, 116, 116, 101, 114, 115]) (by decide +kernel) ⟨by decide +kernel, by decide +kernel⟩)) pds_nil) pds_nil) (pds_cons insE (pd_ret (pd_ifExp (pdt_val (pd_call (hy := [false]) (dd := []) (F__law_is_name.mono (by decide)) hr rfl m__law_is_name FD__law_is_name.kp b__law_is_name v__law_is_name .nil tk insE (by decide) (pda_cons (pd_var (i := 0) rfl (visB_ok rfl) (by decide) (by decide)) pda_nil rfl) rfl rfl rfl ((alen_cons alen_nil))) (fun _ => rfl)) (pd_str (s := [99, 97, 108, 108]) (by decide +kernel) ⟨by decide +kernel, by decide +kernel⟩) pd_non)) pds_nil)))))
/-! _law_told -/
def tNms : List (List Nat) := [[66, 97, 100, 86, 97, 108, 117, 101], [66, 97, 100, 84, 101, 120, 116], [84, 111, 111, 70, 101, 119], [87, 114, 111, 110, 103, 75, 105, 110, 100], [78, 111, 87, 111, 114, 100], [78, 111, 80, 111, 105, 110, 116], [84, 111, 111, 77, 117, 99, 104]]
theorem tNms_ok : ∀ nm ∈ tNms, okS nm := okSs_of (by decide +kernel)
abbrev NT : Nat := 2
abbrev IT : Nat := 1
theorem S__law_told : FnScope ["deed", "why"] ["deed"] (defScope (top 66)) := ⟨rfl, rfl, rfl, by decide +kernel, rfl, by decide +kernel, by decide +kernel⟩
theorem told_G {X : Cx} {g : Addr} {cdg : Value} {q : PySem.Str} (m_BadValue : X.mg "BadValue" = some (.ref (He.ga X.K "BadValue"))) (m_BadText : X.mg "BadText" = some (.ref (He.ga X.K "BadText"))) (m_TooFew : X.mg "TooFew" = some (.ref (He.ga X.K "TooFew"))) (m_WrongKind : X.mg "WrongKind" = some (.ref (He.ga X.K "WrongKind"))) (m_NoWord : X.mg "NoWord" = some (.ref (He.ga X.K "NoWord"))) (m_NoPoint : X.mg "NoPoint" = some (.ref (He.ga X.K "NoPoint"))) (m_TooMuch : X.mg "TooMuch" = some (.ref (He.ga X.K "TooMuch"))) (c : FX X.K) : LamX.GivesTo X ["deed", "why"] "_law_told" (defScope (top 66)) g cdg (defBody (top 66)) "deed" q (TToldD X.K IT (toldL X.K NT IT xsL tNms)) := by
  exact told_givesD (n := "why") (by decide +kernel) S__law_told.nd rfl rfl (fun _ => rfl) (fun _ => rfl) (fun _ => rfl) (fun s H => (.cons ⟨rfl, by decide, .inl m_BadValue⟩ (fun a oe cls d pn hz hf => pss_len (pss_one (ps_ret (pe_tup (pa_cons (pe_strT (s := [66, 97, 100, 86, 97, 108, 117, 101]) (by decide +kernel)) (pa_cons (pe_fldE (oexB_ok c.oex_BadValue) hz hf (pe_var (i := 1) rfl (visB_ok rfl)) rfl) pa_nil rfl) rfl))))) (.cons ⟨rfl, by decide, .inl m_BadText⟩ (fun a oe cls d pn hz hf => pss_len (pss_one (ps_ret (pe_tup (pa_cons (pe_strT (s := [66, 97, 100, 84, 101, 120, 116]) (by decide +kernel)) (pa_cons (pe_fldE (oexB_ok c.oex_BadText) hz hf (pe_var (i := 1) rfl (visB_ok rfl)) rfl) pa_nil rfl) rfl))))) (.cons ⟨rfl, by decide, .inl m_TooFew⟩ (fun a oe cls d pn hz hf => pss_len (pss_one (ps_ret (pe_tup (pa_cons (pe_strT (s := [84, 111, 111, 70, 101, 119]) (by decide +kernel)) (pa_cons (pe_fldE (oexB_ok c.oex_TooFew) hz hf (pe_var (i := 1) rfl (visB_ok rfl)) rfl) pa_nil rfl) rfl))))) (.cons ⟨rfl, by decide, .inl m_WrongKind⟩ (fun a oe cls d pn hz hf => pss_len (pss_one (ps_ret (pe_tup (pa_cons (pe_strT (s := [87, 114, 111, 110, 103, 75, 105, 110, 100]) (by decide +kernel)) (pa_cons (pe_fldE (oexB_ok c.oex_WrongKind) hz hf (pe_var (i := 1) rfl (visB_ok rfl)) rfl) pa_nil rfl) rfl))))) (.cons ⟨rfl, by decide, .inl m_NoWord⟩ (fun a oe cls d pn hz hf => pss_len (pss_one (ps_ret (pe_tup (pa_cons (pe_strT (s := [78, 111, 87, 111, 114, 100]) (by decide +kernel)) (pa_cons (pe_fldE (oexB_ok c.oex_NoWord) hz hf (pe_var (i := 1) rfl (visB_ok rfl)) rfl) pa_nil rfl) rfl))))) (.cons ⟨rfl, by decide, .inl m_NoPoint⟩ (fun a oe cls d pn hz hf => pss_len (pss_one (ps_ret (pe_tup (pa_cons (pe_strT (s := [78, 111, 80, 111, 105, 110, 116]) (by decide +kernel)) (pa_cons (pe_fldE (oexB_ok c.oex_NoPoint) hz hf (pe_var (i := 1) rfl (visB_ok rfl)) rfl) pa_nil rfl) rfl))))) (.cons ⟨rfl, by decide, .inl m_TooMuch⟩ (fun a oe cls d pn hz hf => pss_len (pss_one (ps_ret (pe_tup (pa_cons (pe_strT (s := [84, 111, 111, 77, 117, 99, 104]) (by decide +kernel)) (pa_cons (pe_fldE (oexB_ok c.oex_TooMuch) hz hf (pe_var (i := 1) rfl (visB_ok rfl)) rfl) pa_nil rfl) rfl))))) .nil))))))))
/-! law -/
def d_law : List Vx → Mo Vx := fun ys => fnM 15 (sCons (sSet (.nm 1) (eCall (fun ys => callM [false] d__law_numbers (ys ++ ([] : List Dt).map Vx.d)) (aCons (eVar 0) aNil))) (sCons (sSet (.nm 2) (eNew (aCons (eC (.int 0)) aNil))) (sCons (sSet (.nm 3) (eLst (aCons (eC (.str [48])) (aCons (eC (.str [49])) (aCons (eC (.str [50])) (aCons (eC (.str [45])) (aCons (eC (.str [47])) (aCons (eC (.str [97])) (aCons (eC (.str [98])) (aCons (eC (.str [40])) (aCons (eC (.str [41])) (aCons (eC (.str [123])) (aCons (eC (.str [125])) (aCons (eC (.str [65])) aNil)))))))))))))) (sCons (sSet (.nm 4) (eCall (fun ys => callM [false, true, false] d__law_take (ys ++ ([] : List Dt).map Vx.d)) (aCons (eVar 1) (aCons (eVar 2) (aCons (eC (.int 40)) aNil))))) (sCons (sSet (.nm 5) (eC (.int 0))) (sCons (sFor (wVal (eVar 3)) (.nm 6) (sCons (sFor (wVal (eBin dAdd (eVar 3) (eLst (aCons (eC (.str [])) aNil)))) (.nm 7) (sCons (sFor (wVal (eBin dAdd (eVar 3) (eLst (aCons (eC (.str [])) aNil)))) (.nm 8) (sCons (sSet (.nm 5) (eBin dAdd (eVar 5) (eC (.int 1)))) (sCons (sIf (tAndD (tTst (eBin dEq (eBin dMod (eCall bInt (aCons (eVar 5) aNil)) (eC (.int 40))) (eVar 4))) (tOrD (tTst (eBin dNe (eVar 7) (eC (.str [])))) (tTst (eBin dEq (eVar 8) (eC (.str [])))))) (sCons (sSet (.nm 9) (eBin dAdd (eBin dAdd (eVar 6) (eVar 7)) (eVar 8))) (sCons (sSet (.nm 10) (eCall (fun ys => callM [false] d__law_kind (ys ++ ([] : List Dt).map Vx.d)) (aCons (eVar 9) aNil))) (sCons (sSet (.nm 11) (eTold tNms (eCall (fun ys => callM [false] d_words (ys ++ ([] : List Dt).map Vx.d)) (aCons (eVar 9) aNil)))) (sCons (sIf (tNotD (tVal (eCall (fun ys => callM [false, false] d__law_same_told (ys ++ ([] : List Dt).map Vx.d)) (aCons (eVar 11) (aCons (eIf (tTst (eBin dIs (eVar 10) (eC .non))) (eTup (aCons (eC (.str [66, 97, 100, 84, 101, 120, 116])) (aCons (eC (.int 0)) aNil))) (eTup (aCons (eC (.str [118, 97, 108, 117, 101])) (aCons (eTup (aCons (eVar 9) aNil)) aNil)))) aNil))))) (sCons (sRet (eC (.bl false))) sNil) sNil) (sCons (sSet (.nm 12) (eCall (fun ys => callM [false] d_value_of (ys ++ ([] : List Dt).map Vx.d)) (aCons (eVar 9) aNil))) (sCons (sIf (tOrD (tTst (eBin dNe (eBin dIsNot (eVar 12) (eC .non)) (eBin dEq (eVar 10) (eC (.str [110, 117, 109, 98, 101, 114]))))) (tAndD (tTst (eBin dIsNot (eVar 12) (eC .non))) (tOrD (tTst (eBin dNe (eCall (fun ys => callM [false] d_word_of (ys ++ ([] : List Dt).map Vx.d)) (aCons (eVar 12) aNil)) (eVar 9))) (tTst (eBin dNe (eVar 12) (eCall (fun ys => callM [false] d__law_number_word (ys ++ ([] : List Dt).map Vx.d)) (aCons (eVar 9) aNil))))))) (sCons (sRet (eC (.bl false))) sNil) sNil) (sCons (sIf (tNotD (tVal (eCall (fun ys => callM [false, false] d__law_same_told (ys ++ ([] : List Dt).map Vx.d)) (aCons (eTold tNms (eCall (fun ys => callM [false] d_joined (ys ++ ([] : List Dt).map Vx.d)) (aCons (eTup (aCons (eVar 9) (aCons (eVar 9) aNil))) aNil))) (aCons (eIf (tTst (eBin dIs (eVar 10) (eC .non))) (eTup (aCons (eC (.str [66, 97, 100, 86, 97, 108, 117, 101])) (aCons (eC (.int 0)) aNil))) (eTup (aCons (eC (.str [118, 97, 108, 117, 101])) (aCons (eBin dAdd (eBin dAdd (eVar 9) (eC (.str [32]))) (eVar 9)) aNil)))) aNil))))) (sCons (sRet (eC (.bl false))) sNil) sNil) (sCons (sIf (tAndD (tTst (eBin dIsNot (eVar 10) (eC .non))) (tTst (eBin dNe (eVar 10) (eC (.str [98, 114, 97, 99, 101]))))) (sCons (sIf (tOrD (tTst (eBin dNe (eCall (fun ys => callM [false] d_read (ys ++ ([] : List Dt).map Vx.d)) (aCons (eBin dAdd (eBin dAdd (eBin dAdd (eVar 9) (eC (.str [10, 123, 32]))) (eVar 9)) (eC (.str [32, 125]))) aNil)) (eTup (aCons (eVar 9) (aCons (eTup (aCons (eVar 9) aNil)) aNil))))) (tTst (eBin dNe (eCall (fun ys => callM [false] d_written (ys ++ ([] : List Dt).map Vx.d)) (aCons (eTup (aCons (eVar 9) (aCons (eTup (aCons (eVar 9) (aCons (eTup aNil) aNil))) aNil))) aNil)) (eBin dAdd (eBin dAdd (eBin dAdd (eVar 9) (eC (.str [32, 123, 32]))) (eVar 9)) (eC (.str [32, 123, 32, 125, 32, 125])))))) (sCons (sRet (eC (.bl false))) sNil) sNil) sNil) (sCons (sIf (tNotD (tVal (eCall (fun ys => callM [false, false] d__law_same_told (ys ++ ([] : List Dt).map Vx.d)) (aCons (eTold tNms (eCall (fun ys => callM [false] d_written (ys ++ ([] : List Dt).map Vx.d)) (aCons (eTup (aCons (eVar 9) aNil)) aNil))) (aCons (eTup (aCons (eC (.str [66, 97, 100, 86, 97, 108, 117, 101])) (aCons (eC (.int 0)) aNil))) aNil))))) (sCons (sRet (eC (.bl false))) sNil) sNil) sNil)) sNil)))))))) sNil) sNil))) sNil)) sNil)) (sCons (sFor (wRng2 (aCons (eUn dNeg (eC (.int 12))) (aCons (eC (.int 13)) aNil))) (.nm 13) (sCons (sFor (wRng2 (aCons (eC (.int 1)) (aCons (eC (.int 13)) aNil))) (.nm 14) (sCons (sSet (.nm 5) (eCall (fun ys => callM [false, false] (d__law_red 24) (ys ++ ([] : List Dt).map Vx.d)) (aCons (eVar 13) (aCons (eVar 14) aNil)))) (sCons (sSet (.nm 9) (eCall (fun ys => callM [false] d_word_of (ys ++ ([] : List Dt).map Vx.d)) (aCons (eVar 5) aNil))) (sCons (sIf (tOrD (tTst (eBin dNe (eVar 9) (eIf (tTst (eBin dEq (eBin dIx (eVar 5) (eC (.int 1))) (eC (.int 1)))) (eCall bStr (aCons (eBin dIx (eVar 5) (eC (.int 0))) aNil)) (eBin dAdd (eBin dAdd (eCall bStr (aCons (eBin dIx (eVar 5) (eC (.int 0))) aNil)) (eC (.str [47]))) (eCall bStr (aCons (eBin dIx (eVar 5) (eC (.int 1))) aNil)))))) (tOrD (tTst (eBin dNe (eCall (fun ys => callM [false] d_value_of (ys ++ ([] : List Dt).map Vx.d)) (aCons (eVar 9) aNil)) (eVar 5))) (tTst (eBin dNe (eCall (fun ys => callM [false] d_words (ys ++ ([] : List Dt).map Vx.d)) (aCons (eVar 9) aNil)) (eTup (aCons (eVar 9) aNil)))))) (sCons (sRet (eC (.bl false))) sNil) sNil) (sCons (sIf (tAndD (tTst (eBin dNe (eVar 5) (eTup (aCons (eVar 13) (aCons (eVar 14) aNil))))) (tTst (eBin dIsNot (eCall (fun ys => callM [false] d_value_of (ys ++ ([] : List Dt).map Vx.d)) (aCons (eBin dAdd (eBin dAdd (eCall bStr (aCons (eVar 13) aNil)) (eC (.str [47]))) (eCall bStr (aCons (eVar 14) aNil))) aNil)) (eC .non)))) (sCons (sRet (eC (.bl false))) sNil) sNil) sNil))))) sNil)) (sCons (sRet (eC (.bl true))) sNil)))))))) ys
theorem S_law : FnScope ["script", "row", "spot", "stock", "part", "number", "x", "y", "sign", "word", "kind", "told", "value", "above", "below"] ["script"] (defScope (top 71)) := ⟨rfl, rfl, rfl, by decide +kernel, rfl, by decide +kernel, by decide +kernel⟩
theorem ok_law {P : Program} {w : World} {K : PySem.W.Frag} {h : Heap} {mg : PySem.Str → Option Value} {base : Heap} (KX : K.In h) (G : h.Ns mainGlobals mg) (c : FX K) (TBs : ∀ p ∈ csL K, LamX.TabB base mg p.1 p.2) : ∃ fd, FunD K "law" "law" (defArgs (top 71)) (defBody (top 71)) (defScope (top 71)) (D_law.dvs K) [] (He.ga K "law") fd ∧ (Binds K fd ["script"] []) ∧ FnOk P w K mg base (L2.CX P w) 32 (He.ga K "law") fd ["script"] (spD K (g0 K) 1 d_law) := by
  obtain ⟨fd, F⟩ := c.defs (d := D_law) (List.mem_of_getElem? (i := 50) rfl)
  have m_int : mg "int" = none := He.free_ok KX G (c.facts (f := .free "int") (List.mem_of_getElem? (i := 6) rfl))
  have m_range : mg "range" = none := He.free_ok KX G (c.facts (f := .free "range") (List.mem_of_getElem? (i := 35) rfl))
  have m_str : mg "str" = none := He.free_ok KX G (c.facts (f := .free "str") (List.mem_of_getElem? (i := 9) rfl))
  have m__law_kind : mg "_law_kind" = some (.ref (He.ga K "_law_kind")) := He.glo_ok KX G (c.facts (f := .glo "_law_kind") (List.mem_of_getElem? (i := 45) rfl))
  obtain ⟨fd__law_kind, FD__law_kind, b__law_kind, F__law_kind⟩ := ok__law_kind (P := P) (w := w) (mg := mg) (base := base) KX G c TBs
  have v__law_kind : Vals [] [] := .nil
  have m__law_number_word : mg "_law_number_word" = some (.ref (He.ga K "_law_number_word")) := He.glo_ok KX G (c.facts (f := .glo "_law_number_word") (List.mem_of_getElem? (i := 44) rfl))
  obtain ⟨fd__law_number_word, FD__law_number_word, b__law_number_word, F__law_number_word⟩ := ok__law_number_word (P := P) (w := w) (mg := mg) (base := base) KX G c TBs
  have v__law_number_word : Vals [] [] := .nil
  have m__law_numbers : mg "_law_numbers" = some (.ref (He.ga K "_law_numbers")) := He.glo_ok KX G (c.facts (f := .glo "_law_numbers") (List.mem_of_getElem? (i := 46) rfl))
  obtain ⟨fd__law_numbers, FD__law_numbers, b__law_numbers, F__law_numbers⟩ := ok__law_numbers (P := P) (w := w) (mg := mg) (base := base) KX G c TBs
  have v__law_numbers : Vals [] [] := .nil
  have m__law_red : mg "_law_red" = some (.ref (He.ga K "_law_red")) := He.glo_ok KX G (c.facts (f := .glo "_law_red") (List.mem_of_getElem? (i := 39) rfl))
  obtain ⟨fd__law_red, FD__law_red, b__law_red, F__law_red⟩ := ok__law_red (P := P) (w := w) (mg := mg) (base := base) KX G c TBs 24
  have v__law_red : Vals [] [] := .nil
  have m__law_same_told : mg "_law_same_told" = some (.ref (He.ga K "_law_same_told")) := He.glo_ok KX G (c.facts (f := .glo "_law_same_told") (List.mem_of_getElem? (i := 47) rfl))
  obtain ⟨fd__law_same_told, FD__law_same_told, b__law_same_told, F__law_same_told⟩ := ok__law_same_told (P := P) (w := w) (mg := mg) (base := base) KX G c TBs
  have v__law_same_told : Vals [] [] := .nil
  have m__law_take : mg "_law_take" = some (.ref (He.ga K "_law_take")) := He.glo_ok KX G (c.facts (f := .glo "_law_take") (List.mem_of_getElem? (i := 48) rfl))
  obtain ⟨fd__law_take, FD__law_take, b__law_take, F__law_take⟩ := ok__law_take (P := P) (w := w) (mg := mg) (base := base) KX G c TBs
  have v__law_take : Vals [] [] := .nil
  have m_joined : mg "joined" = some (.ref (He.ga K "joined")) := He.glo_ok KX G (c.facts (f := .glo "joined") (List.mem_of_getElem? (i := 49) rfl))
  obtain ⟨fd_joined, FD_joined, b_joined, F_joined⟩ := ok_joined (P := P) (w := w) (mg := mg) (base := base) KX G c TBs
  have v_joined : Vals [] [] := .nil
  have m_read : mg "read" = some (.ref (He.ga K "read")) := He.glo_ok KX G (c.facts (f := .glo "read") (List.mem_of_getElem? (i := 50) rfl))
  obtain ⟨fd_read, FD_read, b_read, F_read⟩ := ok_read (P := P) (w := w) (mg := mg) (base := base) KX G c TBs
  have v_read : Vals [] [] := .nil
  have m_value_of : mg "value_of" = some (.ref (He.ga K "value_of")) := He.glo_ok KX G (c.facts (f := .glo "value_of") (List.mem_of_getElem? (i := 51) rfl))
  obtain ⟨fd_value_of, FD_value_of, b_value_of, F_value_of⟩ := ok_value_of (P := P) (w := w) (mg := mg) (base := base) KX G c TBs
  have v_value_of : Vals [] [] := .nil
  have m_word_of : mg "word_of" = some (.ref (He.ga K "word_of")) := He.glo_ok KX G (c.facts (f := .glo "word_of") (List.mem_of_getElem? (i := 52) rfl))
  obtain ⟨fd_word_of, FD_word_of, b_word_of, F_word_of⟩ := ok_word_of (P := P) (w := w) (mg := mg) (base := base) KX G c TBs
  have v_word_of : Vals [] [] := .nil
  have m_words : mg "words" = some (.ref (He.ga K "words")) := He.glo_ok KX G (c.facts (f := .glo "words") (List.mem_of_getElem? (i := 53) rfl))
  obtain ⟨fd_words, FD_words, b_words, F_words⟩ := ok_words (P := P) (w := w) (mg := mg) (base := base) KX G c TBs
  have v_words : Vals [] [] := .nil
  have m_written : mg "written" = some (.ref (He.ga K "written")) := He.glo_ok KX G (c.facts (f := .glo "written") (List.mem_of_getElem? (i := 54) rfl))
  obtain ⟨fd_written, FD_written, b_written, F_written⟩ := ok_written (P := P) (w := w) (mg := mg) (base := base) KX G c TBs
  have v_written : Vals [] [] := .nil
  obtain ⟨fdT, FDT⟩ := c.defs (d := D__law_told) (List.mem_of_getElem? (i := 51) rfl)
  have m__law_told : mg "_law_told" = some (.ref (He.ga K "_law_told")) := He.glo_ok KX G (c.facts (f := .glo "_law_told") (List.mem_of_getElem? (i := 55) rfl))
  have kpT := FDT.kp
  have bT : Binds K fdT ["deed"] [] := FDT.bindsN fun _ _ _ _ _ _ us hl => match us, hl with | [_], _ => rfl
  obtain ⟨ocT, odT, dVT, kVT, docT, pmT, anT, cdvT, ctT, oslT, rfl, lkT, hcT, _, _⟩ := FDT.ex
  have m_BadValue : mg "BadValue" = some (.ref (He.ga K "BadValue")) := He.glo_ok KX G (c.facts (f := .glo "BadValue") (List.mem_of_getElem? (i := 4) rfl))
  have m_BadText : mg "BadText" = some (.ref (He.ga K "BadText")) := He.glo_ok KX G (c.facts (f := .glo "BadText") (List.mem_of_getElem? (i := 23) rfl))
  have m_TooFew : mg "TooFew" = some (.ref (He.ga K "TooFew")) := He.glo_ok KX G (c.facts (f := .glo "TooFew") (List.mem_of_getElem? (i := 56) rfl))
  have m_WrongKind : mg "WrongKind" = some (.ref (He.ga K "WrongKind")) := He.glo_ok KX G (c.facts (f := .glo "WrongKind") (List.mem_of_getElem? (i := 57) rfl))
  have m_NoWord : mg "NoWord" = some (.ref (He.ga K "NoWord")) := He.glo_ok KX G (c.facts (f := .glo "NoWord") (List.mem_of_getElem? (i := 58) rfl))
  have m_NoPoint : mg "NoPoint" = some (.ref (He.ga K "NoPoint")) := He.glo_ok KX G (c.facts (f := .glo "NoPoint") (List.mem_of_getElem? (i := 59) rfl))
  have m_TooMuch : mg "TooMuch" = some (.ref (He.ga K "TooMuch")) := He.glo_ok KX G (c.facts (f := .glo "TooMuch") (List.mem_of_getElem? (i := 60) rfl))
  refine ⟨fd, F, F.bindsN fun _ _ _ _ _ _ us hl => match us, hl with | [_], _ => rfl, fn_okC (pth := ("law", none)) F S_law rfl rfl fun A outer s H E hr tk po => ?_⟩
  have hU := room64 hr
  have hU0 := room0 hr
  have hN := S_law.nd
  exact (pds_cons insE (pd_set (i := 1) hN rfl (locB_ok rfl) (pd_call (hy := [false]) (dd := []) (F__law_numbers.mono (by decide)) hr rfl m__law_numbers FD__law_numbers.kp b__law_numbers v__law_numbers .nil tk insE (by decide) (pda_cons (pd_var (i := 0) rfl (visB_ok rfl) (by decide) (by decide)) pda_nil rfl) rfl rfl rfl ((alen_cons alen_nil))) rfl (by first | exact .inl rfl | exact .inr rfl)) (pds_cons insE (pd_set (i := 2) hN rfl (locB_ok rfl) (pd_new (pda_cons pd_int pda_nil rfl)) rfl (by first | exact .inl rfl | exact .inr rfl)) (pds_cons insE (pd_set (i := 3) hN rfl (locB_ok rfl) (pd_lst (pda_cons (pd_str (s := [48]) (by decide +kernel) ⟨by decide +kernel, by decide +kernel⟩) (pda_cons (pd_str (s := [49]) (by decide +kernel) ⟨by decide +kernel, by decide +kernel⟩) (pda_cons (pd_str (s := [50]) (by decide +kernel) ⟨by decide +kernel, by decide +kernel⟩) (pda_cons (pd_str (s := [45]) (by decide +kernel) ⟨by decide +kernel, by decide +kernel⟩) (pda_cons (pd_str (s := [47]) (by decide +kernel) ⟨by decide +kernel, by decide +kernel⟩) (pda_cons (pd_str (s := [97]) (by decide +kernel) ⟨by decide +kernel, by decide +kernel⟩) (pda_cons (pd_str (s := [98]) (by decide +kernel) ⟨by decide +kernel, by decide +kernel⟩) (pda_cons (pd_str (s := [40]) (by decide +kernel) ⟨by decide +kernel, by decide +kernel⟩) (pda_cons (pd_str (s := [41]) (by decide +kernel) ⟨by decide +kernel, by decide +kernel⟩) (pda_cons (pd_str (s := [123]) (by decide +kernel) ⟨by decide +kernel, by decide +kernel⟩) (pda_cons (pd_str (s := [125]) (by decide +kernel) ⟨by decide +kernel, by decide +kernel⟩) (pda_cons (pd_str (s := [65]) (by decide +kernel) ⟨by decide +kernel, by decide +kernel⟩) pda_nil rfl) rfl) rfl) rfl) rfl) rfl) rfl) rfl) rfl) rfl) rfl) rfl)) rfl (by first | exact .inl rfl | exact .inr rfl)) (pds_cons insE (pd_set (i := 4) hN rfl (locB_ok rfl) (pd_call (hy := [false, true, false]) (dd := []) (F__law_take.mono (by decide)) hr rfl m__law_take FD__law_take.kp b__law_take v__law_take .nil tk insE (by decide) (pda_cons (pd_var (i := 1) rfl (visB_ok rfl) (by decide) (by decide)) (pda_cons (pd_var (i := 2) rfl (visB_ok rfl) (by decide) (by decide)) (pda_cons pd_int pda_nil rfl) rfl) rfl) rfl rfl rfl ((alen_cons (alen_cons (alen_cons alen_nil))))) rfl (by first | exact .inl rfl | exact .inr rfl)) (pds_cons insE (pd_set (i := 5) hN rfl (locB_ok rfl) pd_int rfl (by first | exact .inl rfl | exact .inr rfl)) (pds_cons insE (pd_for insE po rfl (tg_nm 6) (pd_wval (pd_var (i := 3) rfl (visB_ok rfl) (by decide) (by decide))) (pg_name (i := 6) hN rfl (locB_ok rfl) (by first | exact .inl rfl | exact .inr rfl)) (pds_cons insE (pd_for insE po rfl (tg_nm 7) (pd_wval (pd_op od_add (pd_var (i := 3) rfl (visB_ok rfl) (by decide) (by decide)) (pd_lst (pda_cons (pd_str (s := []) (by decide +kernel) ⟨by decide +kernel, by decide +kernel⟩) pda_nil rfl)))) (pg_name (i := 7) hN rfl (locB_ok rfl) (by first | exact .inl rfl | exact .inr rfl)) (pds_cons insE (pd_for insE po rfl (tg_nm 8) (pd_wval (pd_op od_add (pd_var (i := 3) rfl (visB_ok rfl) (by decide) (by decide)) (pd_lst (pda_cons (pd_str (s := []) (by decide +kernel) ⟨by decide +kernel, by decide +kernel⟩) pda_nil rfl)))) (pg_name (i := 8) hN rfl (locB_ok rfl) (by first | exact .inl rfl | exact .inr rfl)) (pds_cons insE (pd_set (i := 5) hN rfl (locB_ok rfl) (pd_op od_add (pd_var (i := 5) rfl (visB_ok rfl) (by decide) (by decide)) pd_int) rfl (by first | exact .inl rfl | exact .inr rfl)) (pds_cons insE (pd_if (PW.pt (pdw_and (pdt_cmp (od_eq hU) (pd_op od_mod (pd_callTy cd_int rfl m_int (by decide +kernel) (pda_cons (pd_var (i := 5) rfl (visB_ok rfl) (by decide) (by decide)) pda_nil rfl) (by decide) (by decide) rfl rfl) pd_int) (pd_var (i := 4) rfl (visB_ok rfl) (by decide) (by decide)) rfl) (pdw_and1 (PW.pt (pdw_or (pdt_cmp (od_ne hU) (pd_var (i := 7) rfl (visB_ok rfl) (by decide) (by decide)) (pd_str (s := []) (by decide +kernel) ⟨by decide +kernel, by decide +kernel⟩) rfl) (pdw_or1 (pdt_cmp (od_eq hU) (pd_var (i := 8) rfl (visB_ok rfl) (by decide) (by decide)) (pd_str (s := []) (by decide +kernel) ⟨by decide +kernel, by decide +kernel⟩) rfl))))))) (pds_cons insE (pd_set (i := 9) hN rfl (locB_ok rfl) (pd_op od_add (pd_op od_add (pd_var (i := 6) rfl (visB_ok rfl) (by decide) (by decide)) (pd_var (i := 7) rfl (visB_ok rfl) (by decide) (by decide))) (pd_var (i := 8) rfl (visB_ok rfl) (by decide) (by decide))) rfl (by first | exact .inl rfl | exact .inr rfl)) (pds_cons insE (pd_set (i := 10) hN rfl (locB_ok rfl) (pd_call (hy := [false]) (dd := []) (F__law_kind.mono (by decide)) hr rfl m__law_kind FD__law_kind.kp b__law_kind v__law_kind .nil tk insE (by decide) (pda_cons (pd_var (i := 9) rfl (visB_ok rfl) (by decide) (by decide)) pda_nil rfl) rfl rfl rfl ((alen_cons alen_nil))) rfl (by first | exact .inl rfl | exact .inr rfl)) (pds_cons insE (pd_set (i := 11) hN rfl (locB_ok rfl) (pd_told (Tl := tabL K) (nms := tNms) (n := NT) (i := IT) (k := 29) (q := "law.<locals>.<lambda>") rfl c.exm (by decide) tNms_ok (by kernel_rfl) rfl m__law_told kpT lkT hcT bT S__law_told rfl (visB_ok rfl) (told_G m_BadValue m_BadText m_TooFew m_WrongKind m_NoWord m_NoPoint m_TooMuch c) (TBs _ (List.mem_of_getElem? (i := 0) rfl)) rfl (List.mem_of_getElem? (i := 0) rfl) (tabL_u0 c) hr (LamX.lamS_by (by kernel_rfl)) rfl (fun _ _ _ _ _ => rfl) (fun A2 outer2 s2 H2 E2 f2 c2 hr2 tk2 => (pd_call (hy := [false]) (dd := []) (F_words.mono (by decide)) hr2 rfl m_words FD_words.kp b_words v_words .nil tk2 insE (by decide) (pda_cons (pd_var (i := 9) rfl (visB_ok rfl) (by decide) (by decide)) pda_nil rfl) rfl rfl rfl ((alen_cons alen_nil)))) (by decide) (by decide) (by decide)) rfl (by first | exact .inl rfl | exact .inr rfl)) (pds_cons insE (pd_if (pdt_not (pdt_val (pd_call (hy := [false, false]) (dd := []) (F__law_same_told.mono (by decide)) hr rfl m__law_same_told FD__law_same_told.kp b__law_same_told v__law_same_told .nil tk insE (by decide) (pda_cons (pd_var (i := 11) rfl (visB_ok rfl) (by decide) (by decide)) (pda_cons (pd_ifExp (pdt_cmp od_is (pd_var (i := 10) rfl (visB_ok rfl) (by decide) (by decide)) pd_non rfl) (pd_tup (pda_cons (pd_str (s := [66, 97, 100, 84, 101, 120, 116]) (by decide +kernel) ⟨by decide +kernel, by decide +kernel⟩) (pda_cons pd_int pda_nil rfl) rfl)) (pd_tup (pda_cons (pd_str (s := [118, 97, 108, 117, 101]) (by decide +kernel) ⟨by decide +kernel, by decide +kernel⟩) (pda_cons (pd_tup (pda_cons (pd_var (i := 9) rfl (visB_ok rfl) (by decide) (by decide)) pda_nil rfl)) pda_nil rfl) rfl))) pda_nil rfl) rfl) rfl rfl rfl ((alen_cons (alen_cons alen_nil)))) (fun _ => rfl))) (pds_cons insE (pd_ret pd_bl) pds_nil) pds_nil) (pds_cons insE (pd_set (i := 12) hN rfl (locB_ok rfl) (pd_call (hy := [false]) (dd := []) (F_value_of.mono (by decide)) hr rfl m_value_of FD_value_of.kp b_value_of v_value_of .nil tk insE (by decide) (pda_cons (pd_var (i := 9) rfl (visB_ok rfl) (by decide) (by decide)) pda_nil rfl) rfl rfl rfl ((alen_cons alen_nil))) rfl (by first | exact .inl rfl | exact .inr rfl)) (pds_cons insE (pd_if (PW.pt (pdw_or (pdt_cmp (od_ne hU) (pd_cmp od_isNot (pd_var (i := 12) rfl (visB_ok rfl) (by decide) (by decide)) pd_non rfl) (pd_cmp (od_eq hU) (pd_var (i := 10) rfl (visB_ok rfl) (by decide) (by decide)) (pd_str (s := [110, 117, 109, 98, 101, 114]) (by decide +kernel) ⟨by decide +kernel, by decide +kernel⟩) rfl) rfl) (pdw_or1 (PW.pt (pdw_and (pdt_cmp od_isNot (pd_var (i := 12) rfl (visB_ok rfl) (by decide) (by decide)) pd_non rfl) (pdw_and1 (PW.pt (pdw_or (pdt_cmp (od_ne hU) (pd_call (hy := [false]) (dd := []) (F_word_of.mono (by decide)) hr rfl m_word_of FD_word_of.kp b_word_of v_word_of .nil tk insE (by decide) (pda_cons (pd_var (i := 12) rfl (visB_ok rfl) (by decide) (by decide)) pda_nil rfl) rfl rfl rfl ((alen_cons alen_nil))) (pd_var (i := 9) rfl (visB_ok rfl) (by decide) (by decide)) rfl) (pdw_or1 (pdt_cmp (od_ne hU) (pd_var (i := 12) rfl (visB_ok rfl) (by decide) (by decide)) (pd_call (hy := [false]) (dd := []) (F__law_number_word.mono (by decide)) hr rfl m__law_number_word FD__law_number_word.kp b__law_number_word v__law_number_word .nil tk insE (by decide) (pda_cons (pd_var (i := 9) rfl (visB_ok rfl) (by decide) (by decide)) pda_nil rfl) rfl rfl rfl ((alen_cons alen_nil))) rfl)))))))))) (pds_cons insE (pd_ret pd_bl) pds_nil) pds_nil) (pds_cons insE (pd_if (pdt_not (pdt_val (pd_call (hy := [false, false]) (dd := []) (F__law_same_told.mono (by decide)) hr rfl m__law_same_told FD__law_same_told.kp b__law_same_told v__law_same_told .nil tk insE (by decide) (pda_cons (pd_told (Tl := tabL K) (nms := tNms) (n := NT) (i := IT) (k := 29) (q := "law.<locals>.<lambda>") rfl c.exm (by decide) tNms_ok (by kernel_rfl) rfl m__law_told kpT lkT hcT bT S__law_told rfl (visB_ok rfl) (told_G m_BadValue m_BadText m_TooFew m_WrongKind m_NoWord m_NoPoint m_TooMuch c) (TBs _ (List.mem_of_getElem? (i := 0) rfl)) rfl (List.mem_of_getElem? (i := 0) rfl) (tabL_u0 c) hr (LamX.lamS_by (by kernel_rfl)) rfl (fun _ _ _ _ _ => rfl) (fun A2 outer2 s2 H2 E2 f2 c2 hr2 tk2 => (pd_call (hy := [false]) (dd := []) (F_joined.mono (by decide)) hr2 rfl m_joined FD_joined.kp b_joined v_joined .nil tk2 insE (by decide) (pda_cons (pd_tup (pda_cons (pd_var (i := 9) rfl (visB_ok rfl) (by decide) (by decide)) (pda_cons (pd_var (i := 9) rfl (visB_ok rfl) (by decide) (by decide)) pda_nil rfl) rfl)) pda_nil rfl) rfl rfl rfl ((alen_cons alen_nil)))) (by decide) (by decide) (by decide)) (pda_cons (pd_ifExp (pdt_cmp od_is (pd_var (i := 10) rfl (visB_ok rfl) (by decide) (by decide)) pd_non rfl) (pd_tup (pda_cons (pd_str (s := [66, 97, 100, 86, 97, 108, 117, 101]) (by decide +kernel) ⟨by decide +kernel, by decide +kernel⟩) (pda_cons pd_int pda_nil rfl) rfl)) (pd_tup (pda_cons (pd_str (s := [118, 97, 108, 117, 101]) (by decide +kernel) ⟨by decide +kernel, by decide +kernel⟩) (pda_cons (pd_op od_add (pd_op od_add (pd_var (i := 9) rfl (visB_ok rfl) (by decide) (by decide)) (pd_str (s := [32]) (by decide +kernel) ⟨by decide +kernel, by decide +kernel⟩)) (pd_var (i := 9) rfl (visB_ok rfl) (by decide) (by decide))) pda_nil rfl) rfl))) pda_nil rfl) rfl) rfl rfl rfl ((alen_cons (alen_cons alen_nil)))) (fun _ => rfl))) (pds_cons insE (pd_ret pd_bl) pds_nil) pds_nil) (pds_cons insE (pd_if (PW.pt (pdw_and (pdt_cmp od_isNot (pd_var (i := 10) rfl (visB_ok rfl) (by decide) (by decide)) pd_non rfl) (pdw_and1 (pdt_cmp (od_ne hU) (pd_var (i := 10) rfl (visB_ok rfl) (by decide) (by decide)) (pd_str (s := [98, 114, 97, 99, 101]) (by decide +kernel) ⟨by decide +kernel, by decide +kernel⟩) rfl)))) (pds_cons insE (pd_if (PW.pt (pdw_or (pdt_cmp (od_ne hU) (pd_call (hy := [false]) (dd := []) (F_read.mono (by decide)) hr rfl m_read FD_read.kp b_read v_read .nil tk insE (by decide) (pda_cons (pd_op od_add (pd_op od_add (pd_op od_add (pd_var (i := 9) rfl (visB_ok rfl) (by decide) (by decide)) (pd_str (s := [10, 123, 32]) (by decide +kernel) ⟨by decide +kernel, by decide +kernel⟩)) (pd_var (i := 9) rfl (visB_ok rfl) (by decide) (by decide))) (pd_str (s := [32, 125]) (by decide +kernel) ⟨by decide +kernel, by decide +kernel⟩)) pda_nil rfl) rfl rfl rfl ((alen_cons alen_nil))) (pd_tup (pda_cons (pd_var (i := 9) rfl (visB_ok rfl) (by decide) (by decide)) (pda_cons (pd_tup (pda_cons (pd_var (i := 9) rfl (visB_ok rfl) (by decide) (by decide)) pda_nil rfl)) pda_nil rfl) rfl)) rfl) (pdw_or1 (pdt_cmp (od_ne hU) (pd_call (hy := [false]) (dd := []) (F_written.mono (by decide)) hr rfl m_written FD_written.kp b_written v_written .nil tk insE (by decide) (pda_cons (pd_tup (pda_cons (pd_var (i := 9) rfl (visB_ok rfl) (by decide) (by decide)) (pda_cons (pd_tup (pda_cons (pd_var (i := 9) rfl (visB_ok rfl) (by decide) (by decide)) (pda_cons (pd_tup pda_nil) pda_nil rfl) rfl)) pda_nil rfl) rfl)) pda_nil rfl) rfl rfl rfl ((alen_cons alen_nil))) (pd_op od_add (pd_op od_add (pd_op od_add (pd_var (i := 9) rfl (visB_ok rfl) (by decide) (by decide)) (pd_str (s := [32, 123, 32]) (by decide +kernel) ⟨by decide +kernel, by decide +kernel⟩)) (pd_var (i := 9) rfl (visB_ok rfl) (by decide) (by decide))) (pd_str (s := [32, 123, 32, 125, 32, 125]) (by decide +kernel) ⟨by decide +kernel, by decide +kernel⟩)) rfl)))) (pds_cons insE (pd_ret pd_bl) pds_nil) pds_nil) pds_nil) (pds_cons insE (pd_if (pdt_not (pdt_val (pd_call (hy := [false, false]) (dd := []) (F__law_same_told.mono (by decide)) hr rfl m__law_same_told FD__law_same_told.kp b__law_same_told v__law_same_told .nil tk insE (by decide) (pda_cons (pd_told (Tl := tabL K) (nms := tNms) (n := NT) (i := IT) (k := 29) (q := "law.<locals>.<lambda>") rfl c.exm (by decide) tNms_ok (by kernel_rfl) rfl m__law_told kpT lkT hcT bT S__law_told rfl (visB_ok rfl) (told_G m_BadValue m_BadText m_TooFew m_WrongKind m_NoWord m_NoPoint m_TooMuch c) (TBs _ (List.mem_of_getElem? (i := 0) rfl)) rfl (List.mem_of_getElem? (i := 0) rfl) (tabL_u0 c) hr (LamX.lamS_by (by kernel_rfl)) rfl (fun _ _ _ _ _ => rfl) (fun A2 outer2 s2 H2 E2 f2 c2 hr2 tk2 => (pd_call (hy := [false]) (dd := []) (F_written.mono (by decide)) hr2 rfl m_written FD_written.kp b_written v_written .nil tk2 insE (by decide) (pda_cons (pd_tup (pda_cons (pd_var (i := 9) rfl (visB_ok rfl) (by decide) (by decide)) pda_nil rfl)) pda_nil rfl) rfl rfl rfl ((alen_cons alen_nil)))) (by decide) (by decide) (by decide)) (pda_cons (pd_tup (pda_cons (pd_str (s := [66, 97, 100, 86, 97, 108, 117, 101]) (by decide +kernel) ⟨by decide +kernel, by decide +kernel⟩) (pda_cons pd_int pda_nil rfl) rfl)) pda_nil rfl) rfl) rfl rfl rfl ((alen_cons (alen_cons alen_nil)))) (fun _ => rfl))) (pds_cons insE (pd_ret pd_bl) pds_nil) pds_nil) pds_nil)) pds_nil)))))))) pds_nil) pds_nil)) (fun _ => rfl)) pds_nil) (fun _ => rfl)) pds_nil) (fun _ => rfl)) (pds_cons insE (pd_for insE po rfl (tg_nm 13) (pd_rng2 rfl m_range (pda_cons (pd_un ud_neg pd_int) (pda_cons pd_int pda_nil rfl) rfl) rfl rfl) (pg_name (i := 13) hN rfl (locB_ok rfl) (by first | exact .inl rfl | exact .inr rfl)) (pds_cons insE (pd_for insE po rfl (tg_nm 14) (pd_rng2 rfl m_range (pda_cons pd_int (pda_cons pd_int pda_nil rfl) rfl) rfl rfl) (pg_name (i := 14) hN rfl (locB_ok rfl) (by first | exact .inl rfl | exact .inr rfl)) (pds_cons insE (pd_set (i := 5) hN rfl (locB_ok rfl) (pd_call (hy := [false, false]) (dd := []) (F__law_red.mono (by decide)) hr rfl m__law_red FD__law_red.kp b__law_red v__law_red .nil tk insE (by decide) (pda_cons (pd_var (i := 13) rfl (visB_ok rfl) (by decide) (by decide)) (pda_cons (pd_var (i := 14) rfl (visB_ok rfl) (by decide) (by decide)) pda_nil rfl) rfl) rfl rfl rfl ((alen_cons (alen_cons alen_nil)))) rfl (by first | exact .inl rfl | exact .inr rfl)) (pds_cons insE (pd_set (i := 9) hN rfl (locB_ok rfl) (pd_call (hy := [false]) (dd := []) (F_word_of.mono (by decide)) hr rfl m_word_of FD_word_of.kp b_word_of v_word_of .nil tk insE (by decide) (pda_cons (pd_var (i := 5) rfl (visB_ok rfl) (by decide) (by decide)) pda_nil rfl) rfl rfl rfl ((alen_cons alen_nil))) rfl (by first | exact .inl rfl | exact .inr rfl)) (pds_cons insE (pd_if (PW.pt (pdw_or (pdt_cmp (od_ne hU) (pd_var (i := 9) rfl (visB_ok rfl) (by decide) (by decide)) (pd_ifExp (pdt_cmp (od_eq hU) (pd_ix (pd_var (i := 5) rfl (visB_ok rfl) (by decide) (by decide)) pd_int (fun _ _ => rfl)) pd_int rfl) (pd_callTy cd_str rfl m_str (by decide +kernel) (pda_cons (pd_ix (pd_var (i := 5) rfl (visB_ok rfl) (by decide) (by decide)) pd_int (fun _ _ => rfl)) pda_nil rfl) (by decide) (by decide) rfl rfl) (pd_op od_add (pd_op od_add (pd_callTy cd_str rfl m_str (by decide +kernel) (pda_cons (pd_ix (pd_var (i := 5) rfl (visB_ok rfl) (by decide) (by decide)) pd_int (fun _ _ => rfl)) pda_nil rfl) (by decide) (by decide) rfl rfl) (pd_str (s := [47]) (by decide +kernel) ⟨by decide +kernel, by decide +kernel⟩)) (pd_callTy cd_str rfl m_str (by decide +kernel) (pda_cons (pd_ix (pd_var (i := 5) rfl (visB_ok rfl) (by decide) (by decide)) pd_int (fun _ _ => rfl)) pda_nil rfl) (by decide) (by decide) rfl rfl))) rfl) (pdw_or (pdt_cmp (od_ne hU) (pd_call (hy := [false]) (dd := []) (F_value_of.mono (by decide)) hr rfl m_value_of FD_value_of.kp b_value_of v_value_of .nil tk insE (by decide) (pda_cons (pd_var (i := 9) rfl (visB_ok rfl) (by decide) (by decide)) pda_nil rfl) rfl rfl rfl ((alen_cons alen_nil))) (pd_var (i := 5) rfl (visB_ok rfl) (by decide) (by decide)) rfl) (pdw_or1 (pdt_cmp (od_ne hU) (pd_call (hy := [false]) (dd := []) (F_words.mono (by decide)) hr rfl m_words FD_words.kp b_words v_words .nil tk insE (by decide) (pda_cons (pd_var (i := 9) rfl (visB_ok rfl) (by decide) (by decide)) pda_nil rfl) rfl rfl rfl ((alen_cons alen_nil))) (pd_tup (pda_cons (pd_var (i := 9) rfl (visB_ok rfl) (by decide) (by decide)) pda_nil rfl)) rfl))))) (pds_cons insE (pd_ret pd_bl) pds_nil) pds_nil) (pds_cons insE (pd_if (PW.pt (pdw_and (pdt_cmp (od_ne hU) (pd_var (i := 5) rfl (visB_ok rfl) (by decide) (by decide)) (pd_tup (pda_cons (pd_var (i := 13) rfl (visB_ok rfl) (by decide) (by decide)) (pda_cons (pd_var (i := 14) rfl (visB_ok rfl) (by decide) (by decide)) pda_nil rfl) rfl)) rfl) (pdw_and1 (pdt_cmp od_isNot (pd_call (hy := [false]) (dd := []) (F_value_of.mono (by decide)) hr rfl m_value_of FD_value_of.kp b_value_of v_value_of .nil tk insE (by decide) (pda_cons (pd_op od_add (pd_op od_add (pd_callTy cd_str rfl m_str (by decide +kernel) (pda_cons (pd_var (i := 13) rfl (visB_ok rfl) (by decide) (by decide)) pda_nil rfl) (by decide) (by decide) rfl rfl) (pd_str (s := [47]) (by decide +kernel) ⟨by decide +kernel, by decide +kernel⟩)) (pd_callTy cd_str rfl m_str (by decide +kernel) (pda_cons (pd_var (i := 14) rfl (visB_ok rfl) (by decide) (by decide)) pda_nil rfl) (by decide) (by decide) rfl rfl)) pda_nil rfl) rfl rfl rfl ((alen_cons alen_nil))) pd_non rfl)))) (pds_cons insE (pd_ret pd_bl) pds_nil) pds_nil) pds_nil)))) (fun _ => rfl)) pds_nil) (fun _ => rfl)) (pds_cons insE (pd_ret pd_bl) pds_nil))))))))
end Dn
end
section
set_option Elab.async false
set_option linter.all false
set_option maxRecDepth 100000
set_option maxHeartbeats 4000000
namespace Dn
open PySem PySem.Spec PyProof.Rows L2
def lU : DEnv → Mo Bool := tTst (eBin dEq (eBin dMod (eCall bInt (aCons (eVar 5) aNil)) (eC (.int 40))) (eVar 4))
def lT : DEnv → Mo Bool := tOrD (tTst (eBin dNe (eVar 7) (eC (.str [])))) (tTst (eBin dEq (eVar 8) (eC (.str []))))
def lB : SF := sCons (sSet (.nm 9) (eBin dAdd (eBin dAdd (eVar 6) (eVar 7)) (eVar 8))) (sCons (sSet (.nm 10) (eCall (fun ys => callM [false] d__law_kind (ys ++ ([] : List Dt).map Vx.d)) (aCons (eVar 9) aNil))) (sCons (sSet (.nm 11) (eTold tNms (eCall (fun ys => callM [false] d_words (ys ++ ([] : List Dt).map Vx.d)) (aCons (eVar 9) aNil)))) (sCons (sIf (tNotD (tVal (eCall (fun ys => callM [false, false] d__law_same_told (ys ++ ([] : List Dt).map Vx.d)) (aCons (eVar 11) (aCons (eIf (tTst (eBin dIs (eVar 10) (eC .non))) (eTup (aCons (eC (.str [66, 97, 100, 84, 101, 120, 116])) (aCons (eC (.int 0)) aNil))) (eTup (aCons (eC (.str [118, 97, 108, 117, 101])) (aCons (eTup (aCons (eVar 9) aNil)) aNil)))) aNil))))) (sCons (sRet (eC (.bl false))) sNil) sNil) (sCons (sSet (.nm 12) (eCall (fun ys => callM [false] d_value_of (ys ++ ([] : List Dt).map Vx.d)) (aCons (eVar 9) aNil))) (sCons (sIf (tOrD (tTst (eBin dNe (eBin dIsNot (eVar 12) (eC .non)) (eBin dEq (eVar 10) (eC (.str [110, 117, 109, 98, 101, 114]))))) (tAndD (tTst (eBin dIsNot (eVar 12) (eC .non))) (tOrD (tTst (eBin dNe (eCall (fun ys => callM [false] d_word_of (ys ++ ([] : List Dt).map Vx.d)) (aCons (eVar 12) aNil)) (eVar 9))) (tTst (eBin dNe (eVar 12) (eCall (fun ys => callM [false] d__law_number_word (ys ++ ([] : List Dt).map Vx.d)) (aCons (eVar 9) aNil))))))) (sCons (sRet (eC (.bl false))) sNil) sNil) (sCons (sIf (tNotD (tVal (eCall (fun ys => callM [false, false] d__law_same_told (ys ++ ([] : List Dt).map Vx.d)) (aCons (eTold tNms (eCall (fun ys => callM [false] d_joined (ys ++ ([] : List Dt).map Vx.d)) (aCons (eTup (aCons (eVar 9) (aCons (eVar 9) aNil))) aNil))) (aCons (eIf (tTst (eBin dIs (eVar 10) (eC .non))) (eTup (aCons (eC (.str [66, 97, 100, 86, 97, 108, 117, 101])) (aCons (eC (.int 0)) aNil))) (eTup (aCons (eC (.str [118, 97, 108, 117, 101])) (aCons (eBin dAdd (eBin dAdd (eVar 9) (eC (.str [32]))) (eVar 9)) aNil)))) aNil))))) (sCons (sRet (eC (.bl false))) sNil) sNil) (sCons (sIf (tAndD (tTst (eBin dIsNot (eVar 10) (eC .non))) (tTst (eBin dNe (eVar 10) (eC (.str [98, 114, 97, 99, 101]))))) (sCons (sIf (tOrD (tTst (eBin dNe (eCall (fun ys => callM [false] d_read (ys ++ ([] : List Dt).map Vx.d)) (aCons (eBin dAdd (eBin dAdd (eBin dAdd (eVar 9) (eC (.str [10, 123, 32]))) (eVar 9)) (eC (.str [32, 125]))) aNil)) (eTup (aCons (eVar 9) (aCons (eTup (aCons (eVar 9) aNil)) aNil))))) (tTst (eBin dNe (eCall (fun ys => callM [false] d_written (ys ++ ([] : List Dt).map Vx.d)) (aCons (eTup (aCons (eVar 9) (aCons (eTup (aCons (eVar 9) (aCons (eTup aNil) aNil))) aNil))) aNil)) (eBin dAdd (eBin dAdd (eBin dAdd (eVar 9) (eC (.str [32, 123, 32]))) (eVar 9)) (eC (.str [32, 123, 32, 125, 32, 125])))))) (sCons (sRet (eC (.bl false))) sNil) sNil) sNil) (sCons (sIf (tNotD (tVal (eCall (fun ys => callM [false, false] d__law_same_told (ys ++ ([] : List Dt).map Vx.d)) (aCons (eTold tNms (eCall (fun ys => callM [false] d_written (ys ++ ([] : List Dt).map Vx.d)) (aCons (eTup (aCons (eVar 9) aNil)) aNil))) (aCons (eTup (aCons (eC (.str [66, 97, 100, 86, 97, 108, 117, 101])) (aCons (eC (.int 0)) aNil))) aNil))))) (sCons (sRet (eC (.bl false))) sNil) sNil) sNil)) sNil)))))))
def lI0 : SF := sSet (.nm 5) (eBin dAdd (eVar 5) (eC (.int 1)))
def lI : SF := sCons lI0 (sCons (sIf (tAndD lU lT) lB sNil) sNil)
def lW : DEnv → Mo Wk := wVal (eBin dAdd (eVar 3) (eLst (aCons (eC (.str [])) aNil)))
def lJ : SF := sFor lW (.nm 8) lI
def lK : SF := sFor lW (.nm 7) (sCons lJ sNil)
def l5 : SF := sFor (wVal (eVar 3)) (.nm 6) (sCons lK sNil)
def lD : SF := sCons (sSet (.nm 5) (eCall (fun ys => callM [false, false] (d__law_red 24) (ys ++ ([] : List Dt).map Vx.d)) (aCons (eVar 13) (aCons (eVar 14) aNil)))) (sCons (sSet (.nm 9) (eCall (fun ys => callM [false] d_word_of (ys ++ ([] : List Dt).map Vx.d)) (aCons (eVar 5) aNil))) (sCons (sIf (tOrD (tTst (eBin dNe (eVar 9) (eIf (tTst (eBin dEq (eBin dIx (eVar 5) (eC (.int 1))) (eC (.int 1)))) (eCall bStr (aCons (eBin dIx (eVar 5) (eC (.int 0))) aNil)) (eBin dAdd (eBin dAdd (eCall bStr (aCons (eBin dIx (eVar 5) (eC (.int 0))) aNil)) (eC (.str [47]))) (eCall bStr (aCons (eBin dIx (eVar 5) (eC (.int 1))) aNil)))))) (tOrD (tTst (eBin dNe (eCall (fun ys => callM [false] d_value_of (ys ++ ([] : List Dt).map Vx.d)) (aCons (eVar 9) aNil)) (eVar 5))) (tTst (eBin dNe (eCall (fun ys => callM [false] d_words (ys ++ ([] : List Dt).map Vx.d)) (aCons (eVar 9) aNil)) (eTup (aCons (eVar 9) aNil)))))) (sCons (sRet (eC (.bl false))) sNil) sNil) (sCons (sIf (tAndD (tTst (eBin dNe (eVar 5) (eTup (aCons (eVar 13) (aCons (eVar 14) aNil))))) (tTst (eBin dIsNot (eCall (fun ys => callM [false] d_value_of (ys ++ ([] : List Dt).map Vx.d)) (aCons (eBin dAdd (eBin dAdd (eCall bStr (aCons (eVar 13) aNil)) (eC (.str [47]))) (eCall bStr (aCons (eVar 14) aNil))) aNil)) (eC .non)))) (sCons (sRet (eC (.bl false))) sNil) sNil) sNil)))
def lG : SF := sFor (wRng2 (aCons (eC (.int 1)) (aCons (eC (.int 13)) aNil))) (.nm 14) lD
def l6 : SF := sFor (wRng2 (aCons (eUn dNeg (eC (.int 12))) (aCons (eC (.int 13)) aNil))) (.nm 13) (sCons lG sNil)
def lEnd : SF := sCons l5 (sCons l6 (sCons (sRet (eC (.bl true))) sNil))
def stL : List Dt := [.str [48], .str [49], .str [50], .str [45], .str [47], .str [97], .str [98], .str [40], .str [41], .str [123], .str [125], .str [65]]
def ysL : List Dt := stL ++ [.str []]
def h1 : DH := [.lst [.d (.int 1)]]
def bS (x y z : Dt) : DEnv := [none, none, none, none, none, none, some (.d x), some (.d y), some (.d z), none, none, none, none, none, none]
def dS (x y : Int) : DEnv := [none, none, none, none, none, none, none, none, none, none, none, none, none, some (.d (.int x)), some (.d (.int y))]
theorem sr_B : SRd [9, 10, 11, 12] [6, 7, 8] [6, 7, 8] (sIf lT lB sNil) := (sr_if (rd_orD (rd_tst (rd_bin (rd_var (by decide)) rd_c)) (rd_tst (rd_bin (rd_var (by decide)) rd_c))) (sr_sub (R1 := [12, 11, 10, 9, 6, 7, 8]) (sr_cons (sr_set (rd_bin (rd_bin (rd_var (by decide)) (rd_var (by decide))) (rd_var (by decide))) (by decide)) (sr_cons (sr_set (rd_call (rd_cons (rd_var (by decide)) rd_nil)) (by decide)) (sr_cons (sr_set (rd_told (rd_call (rd_cons (rd_var (by decide)) rd_nil))) (by decide)) (sr_cons (sr_if (rd_notD (rd_val (rd_call (rd_cons (rd_var (by decide)) (rd_cons (rd_if (rd_tst (rd_bin (rd_var (by decide)) rd_c)) (rd_tup (rd_cons rd_c (rd_cons rd_c rd_nil))) (rd_tup (rd_cons rd_c (rd_cons (rd_tup (rd_cons (rd_var (by decide)) rd_nil)) rd_nil)))) rd_nil))))) (sr_sub (R1 := [11, 10, 9, 6, 7, 8]) (sr_cons (sr_ret rd_c) sr_nil) (by decide)) (sr_sub (R1 := [11, 10, 9, 6, 7, 8]) sr_nil (by decide))) (sr_cons (sr_set (rd_call (rd_cons (rd_var (by decide)) rd_nil)) (by decide)) (sr_cons (sr_if (rd_orD (rd_tst (rd_bin (rd_bin (rd_var (by decide)) rd_c) (rd_bin (rd_var (by decide)) rd_c))) (rd_andD (rd_tst (rd_bin (rd_var (by decide)) rd_c)) (rd_orD (rd_tst (rd_bin (rd_call (rd_cons (rd_var (by decide)) rd_nil)) (rd_var (by decide)))) (rd_tst (rd_bin (rd_var (by decide)) (rd_call (rd_cons (rd_var (by decide)) rd_nil))))))) (sr_sub (R1 := [12, 11, 10, 9, 6, 7, 8]) (sr_cons (sr_ret rd_c) sr_nil) (by decide)) (sr_sub (R1 := [12, 11, 10, 9, 6, 7, 8]) sr_nil (by decide))) (sr_cons (sr_if (rd_notD (rd_val (rd_call (rd_cons (rd_told (rd_call (rd_cons (rd_tup (rd_cons (rd_var (by decide)) (rd_cons (rd_var (by decide)) rd_nil))) rd_nil))) (rd_cons (rd_if (rd_tst (rd_bin (rd_var (by decide)) rd_c)) (rd_tup (rd_cons rd_c (rd_cons rd_c rd_nil))) (rd_tup (rd_cons rd_c (rd_cons (rd_bin (rd_bin (rd_var (by decide)) rd_c) (rd_var (by decide))) rd_nil)))) rd_nil))))) (sr_sub (R1 := [12, 11, 10, 9, 6, 7, 8]) (sr_cons (sr_ret rd_c) sr_nil) (by decide)) (sr_sub (R1 := [12, 11, 10, 9, 6, 7, 8]) sr_nil (by decide))) (sr_cons (sr_if (rd_andD (rd_tst (rd_bin (rd_var (by decide)) rd_c)) (rd_tst (rd_bin (rd_var (by decide)) rd_c))) (sr_sub (R1 := [12, 11, 10, 9, 6, 7, 8]) (sr_cons (sr_if (rd_orD (rd_tst (rd_bin (rd_call (rd_cons (rd_bin (rd_bin (rd_bin (rd_var (by decide)) rd_c) (rd_var (by decide))) rd_c) rd_nil)) (rd_tup (rd_cons (rd_var (by decide)) (rd_cons (rd_tup (rd_cons (rd_var (by decide)) rd_nil)) rd_nil))))) (rd_tst (rd_bin (rd_call (rd_cons (rd_tup (rd_cons (rd_var (by decide)) (rd_cons (rd_tup (rd_cons (rd_var (by decide)) (rd_cons (rd_tup rd_nil) rd_nil))) rd_nil))) rd_nil)) (rd_bin (rd_bin (rd_bin (rd_var (by decide)) rd_c) (rd_var (by decide))) rd_c)))) (sr_sub (R1 := [12, 11, 10, 9, 6, 7, 8]) (sr_cons (sr_ret rd_c) sr_nil) (by decide)) (sr_sub (R1 := [12, 11, 10, 9, 6, 7, 8]) sr_nil (by decide))) sr_nil) (by decide)) (sr_sub (R1 := [12, 11, 10, 9, 6, 7, 8]) (sr_cons (sr_if (rd_notD (rd_val (rd_call (rd_cons (rd_told (rd_call (rd_cons (rd_tup (rd_cons (rd_var (by decide)) rd_nil)) rd_nil))) (rd_cons (rd_tup (rd_cons rd_c (rd_cons rd_c rd_nil))) rd_nil))))) (sr_sub (R1 := [12, 11, 10, 9, 6, 7, 8]) (sr_cons (sr_ret rd_c) sr_nil) (by decide)) (sr_sub (R1 := [12, 11, 10, 9, 6, 7, 8]) sr_nil (by decide))) sr_nil) (by decide))) sr_nil)))))))) (by decide)) (sr_sub (R1 := [6, 7, 8]) sr_nil (by decide)))
theorem sr_D : SRd [5, 9] [13, 14] [9, 5, 13, 14] lD := (sr_cons (sr_set (rd_call (rd_cons (rd_var (by decide)) (rd_cons (rd_var (by decide)) rd_nil))) (by decide)) (sr_cons (sr_set (rd_call (rd_cons (rd_var (by decide)) rd_nil)) (by decide)) (sr_cons (sr_if (rd_orD (rd_tst (rd_bin (rd_var (by decide)) (rd_if (rd_tst (rd_bin (rd_bin (rd_var (by decide)) rd_c) rd_c)) (rd_call (rd_cons (rd_bin (rd_var (by decide)) rd_c) rd_nil)) (rd_bin (rd_bin (rd_call (rd_cons (rd_bin (rd_var (by decide)) rd_c) rd_nil)) rd_c) (rd_call (rd_cons (rd_bin (rd_var (by decide)) rd_c) rd_nil)))))) (rd_orD (rd_tst (rd_bin (rd_call (rd_cons (rd_var (by decide)) rd_nil)) (rd_var (by decide)))) (rd_tst (rd_bin (rd_call (rd_cons (rd_var (by decide)) rd_nil)) (rd_tup (rd_cons (rd_var (by decide)) rd_nil)))))) (sr_sub (R1 := [9, 5, 13, 14]) (sr_cons (sr_ret rd_c) sr_nil) (by decide)) (sr_sub (R1 := [9, 5, 13, 14]) sr_nil (by decide))) (sr_cons (sr_if (rd_andD (rd_tst (rd_bin (rd_var (by decide)) (rd_tup (rd_cons (rd_var (by decide)) (rd_cons (rd_var (by decide)) rd_nil))))) (rd_tst (rd_bin (rd_call (rd_cons (rd_bin (rd_bin (rd_call (rd_cons (rd_var (by decide)) rd_nil)) rd_c) (rd_call (rd_cons (rd_var (by decide)) rd_nil))) rd_nil)) rd_c))) (sr_sub (R1 := [9, 5, 13, 14]) (sr_cons (sr_ret rd_c) sr_nil) (by decide)) (sr_sub (R1 := [9, 5, 13, 14]) sr_nil (by decide))) sr_nil))))
def RD : List Nat := [9, 5, 13, 14]
theorem ckB0 : (ysL.all fun y => ysL.all fun z => plain1 (sIf lT lB sNil (bS (.str [48]) y z) h1)) = true := by decide +kernel
theorem ckB1 : (ysL.all fun y => ysL.all fun z => plain1 (sIf lT lB sNil (bS (.str [49]) y z) h1)) = true := by decide +kernel
theorem ckB2 : (ysL.all fun y => ysL.all fun z => plain1 (sIf lT lB sNil (bS (.str [50]) y z) h1)) = true := by decide +kernel
theorem ckB3 : (ysL.all fun y => ysL.all fun z => plain1 (sIf lT lB sNil (bS (.str [45]) y z) h1)) = true := by decide +kernel
theorem ckB4 : (ysL.all fun y => ysL.all fun z => plain1 (sIf lT lB sNil (bS (.str [47]) y z) h1)) = true := by decide +kernel
theorem ckB5 : (ysL.all fun y => ysL.all fun z => plain1 (sIf lT lB sNil (bS (.str [97]) y z) h1)) = true := by decide +kernel
theorem ckB6 : (ysL.all fun y => ysL.all fun z => plain1 (sIf lT lB sNil (bS (.str [98]) y z) h1)) = true := by decide +kernel
theorem ckB7 : (ysL.all fun y => ysL.all fun z => plain1 (sIf lT lB sNil (bS (.str [40]) y z) h1)) = true := by decide +kernel
theorem ckB8 : (ysL.all fun y => ysL.all fun z => plain1 (sIf lT lB sNil (bS (.str [41]) y z) h1)) = true := by decide +kernel
theorem ckB9 : (ysL.all fun y => ysL.all fun z => plain1 (sIf lT lB sNil (bS (.str [123]) y z) h1)) = true := by decide +kernel
theorem ckB10 : (ysL.all fun y => ysL.all fun z => plain1 (sIf lT lB sNil (bS (.str [125]) y z) h1)) = true := by decide +kernel
theorem ckB11 : (ysL.all fun y => ysL.all fun z => plain1 (sIf lT lB sNil (bS (.str [65]) y z) h1)) = true := by decide +kernel
theorem ckD : ((List.range 25).all fun x => (List.range 12).all fun y => plain1 (lD (dS (-12 + (x : Nat)) (1 + (y : Nat))) h1)) = true := by decide +kernel
end Dn
end
section
set_option Elab.async false
set_option linter.all false
set_option maxRecDepth 100000
set_option maxHeartbeats 4000000
namespace Dn
open PySem PySem.Spec PyProof.Rows L2
def c0 : SF := sSet (.nm 1) (eCall (fun ys => callM [false] d__law_numbers (ys ++ ([] : List Dt).map Vx.d)) (aCons (eVar 0) aNil))
def c1 : SF := sSet (.nm 2) (eNew (aCons (eC (.int 0)) aNil))
def c2 : SF := sSet (.nm 3) (eLst (aCons (eC (.str [48])) (aCons (eC (.str [49])) (aCons (eC (.str [50])) (aCons (eC (.str [45])) (aCons (eC (.str [47])) (aCons (eC (.str [97])) (aCons (eC (.str [98])) (aCons (eC (.str [40])) (aCons (eC (.str [41])) (aCons (eC (.str [123])) (aCons (eC (.str [125])) (aCons (eC (.str [65])) aNil)))))))))))))
def c3 : SF := sSet (.nm 4) (eCall (fun ys => callM [false, true, false] d__law_take (ys ++ ([] : List Dt).map Vx.d)) (aCons (eVar 1) (aCons (eVar 2) (aCons (eC (.int 40)) aNil))))
def c4 : SF := sSet (.nm 5) (eC (.int 0))
theorem law_eq : d_law = fun ys => fnM 15 (sCons c0 (sCons c1 (sCons c2 (sCons c3 (sCons c4 lEnd))))) ys := rfl
theorem numbers_eq : d__law_numbers = numbersM := rfl
theorem take_eq : d__law_take = takeM := rfl
end Dn
end
section
set_option Elab.async false
set_option linter.all false
set_option maxRecDepth 100000
set_option maxHeartbeats 4000000
namespace Dn
open PySem PySem.Spec PyProof.Rows L2
def PI (p : Int) (a : DEnv) : Prop := a.length = 15 ∧ a[3]? = some (some (.d (.lst stL))) ∧ a[4]? = some (some (.d (.int p))) ∧ ∃ n : Int, a[5]? = some (some (.d (.int n)))
theorem ckB_all (x y z : Dt) (hx : x ∈ stL) (hy : y ∈ ysL) (hz : z ∈ ysL) : plain1 (sIf lT lB sNil (bS x y z) h1) = true := by
  have f : ∀ w : Dt, (ysL.all fun y => ysL.all fun z => plain1 (sIf lT lB sNil (bS w y z) h1)) = true → plain1 (sIf lT lB sNil (bS w y z) h1) = true := fun w e => (List.all_eq_true.1 (List.all_eq_true.1 e y hy)) z hz
  unfold stL at hx
  simp only [List.mem_cons, List.not_mem_nil, or_false] at hx
  rcases hx with rfl | rfl | rfl | rfl | rfl | rfl | rfl | rfl | rfl | rfl | rfl | rfl
  · exact f _ ckB0
  · exact f _ ckB1
  · exact f _ ckB2
  · exact f _ ckB3
  · exact f _ ckB4
  · exact f _ ckB5
  · exact f _ ckB6
  · exact f _ ckB7
  · exact f _ ckB8
  · exact f _ ckB9
  · exact f _ ckB10
  · exact f _ ckB11
theorem lI_run {p : Int} {a : DEnv} (P : PI p a) {x y z : Dt} (hx : x ∈ stL) (hy : y ∈ ysL) (hz : z ∈ ysL) (ex : a[6]? = some (some (.d x))) (ey : a[7]? = some (some (.d y))) (ez : a[8]? = some (some (.d z))) :
    ∃ a2, lI a h1 = .ok (.nx, a2) h1 ∧ PI p a2 ∧ a2[6]? = some (some (.d x)) ∧ a2[7]? = some (some (.d y)) := by
  obtain ⟨hl, e3, e4, n, e5⟩ := P
  have e0 : lI0 a h1 = .ok (.nx, a.set 5 (some (.d (.int (n + 1))))) h1 := by
    simp [lI0, sSet, eBin, eVar, e5, bnd, eC, ret, add_i, asg]
  have q5 : (a.set 5 (some (.d (.int (n + 1)))))[5]? = some (some (.d (.int (n + 1)))) := by
    rw [List.getElem?_set_self]; omega
  have qn : ∀ i, 5 ≠ i → (a.set 5 (some (.d (.int (n + 1)))))[i]? = a[i]? := fun i hi => List.getElem?_set_ne hi
  have hl2 : (a.set 5 (some (.d (.int (n + 1))))).length = 15 := by rw [List.length_set]; exact hl
  generalize hb : a.set 5 (some (.d (.int (n + 1)))) = b at e0 q5 qn hl2
  have eu : lU b h1 = .ok (decide ((n + 1) % 40 = p)) h1 := by
    have e4' : b[4]? = some (some (.d (.int p))) := (qn 4 (by decide)).trans e4
    simp [lU, tTst, eBin, eCall, aCons, aNil, eVar, q5, e4', bnd, ret, bInt, eC, mod_c, dEq, asD, dep, isBl, deq]
  have key : ∃ b2, sIf (tAndD lU lT) lB sNil b h1 = .ok (.nx, b2) h1 ∧ b2.length = b.length ∧ ∀ i, i ∉ [9, 10, 11, 12] → b2[i]? = b[i]? := by
    rw [sIf_and eu]
    by_cases hc : (n + 1) % 40 = p
    · rw [if_pos (decide_eq_true hc)]
      obtain ⟨c, ec⟩ := plain1_eq (ckB_all x y z hx hy hz)
      obtain ⟨b2, k1, _, k3, k4⟩ := sr_B.run (a := b) (b := bS x y z) (by
        intro i hi
        simp only [List.mem_cons, List.not_mem_nil, or_false] at hi
        rcases hi with rfl | rfl | rfl
        · rw [qn 6 (by decide), ex]; rfl
        · rw [qn 7 (by decide), ey]; rfl
        · rw [qn 8 (by decide), ez]; rfl) hl2 ec
      exact ⟨b2, k1, k3, k4⟩
    · rw [if_neg (by simpa using hc)]
      exact ⟨b, rfl, rfl, fun _ _ => rfl⟩
  obtain ⟨b2, k1, k2, k3⟩ := key
  refine ⟨b2, ?_, ⟨k2.trans hl2, (k3 3 (by decide)).trans ((qn 3 (by decide)).trans e3), (k3 4 (by decide)).trans ((qn 4 (by decide)).trans e4), _, (k3 5 (by decide)).trans q5⟩, (k3 6 (by decide)).trans ((qn 6 (by decide)).trans ex), (k3 7 (by decide)).trans ((qn 7 (by decide)).trans ey)⟩
  show bnd (lI0 a) _ h1 = _
  rw [bnd_ok e0]
  show bnd (sIf (tAndD lU lT) lB sNil b) _ h1 = _
  rw [bnd_ok k1]
  rfl
theorem lW_run {p : Int} {a : DEnv} (P : PI p a) : lW a h1 = .ok (.s (.ds ysL)) h1 := by
  obtain ⟨hl, e3, e4, n, e5⟩ := P
  unfold lW wVal eBin
  rw [bnd_ok (m := bnd (eVar 3 a) _) (a := .d (.lst ysL)) (h' := h1)]
  · rfl
  · rw [bnd_ok (m := eVar 3 a) (a := .d (.lst stL)) (h' := h1)]
    · rfl
    · unfold eVar; rw [e3]
theorem PI.put {p : Int} {a : DEnv} (P : PI p a) (i : Nat) (hi : 5 < i) (y : Vx) : PI p (a.set i (some y)) := by
  obtain ⟨hl, e3, e4, n, e5⟩ := P
  exact ⟨by rw [List.length_set]; exact hl, by rw [List.getElem?_set_ne (by omega)]; exact e3, by rw [List.getElem?_set_ne (by omega)]; exact e4, n, by rw [List.getElem?_set_ne (by omega)]; exact e5⟩
theorem put_at {a : DEnv} {p : Int} (P : PI p a) (i : Nat) (hi : i < 15) (y : Vx) : (a.set i (some y))[i]? = some (some y) := by
  rw [List.getElem?_set_self]; have := P.1; omega
theorem lJ_run {p : Int} {a : DEnv} (P : PI p a) {x y : Dt} (hx : x ∈ stL) (hy : y ∈ ysL) (ex : a[6]? = some (some (.d x))) (ey : a[7]? = some (some (.d y))) :
    ∃ a2, lJ a h1 = .ok (.nx, a2) h1 ∧ PI p a2 ∧ a2[6]? = some (some (.d x)) := by
  have L := fGo_list (wk := .s (.ds ysL)) (t := .nm 8) (fb := lI) (L := ysL.map Vx.d) (item_ds _)
    (P := fun i ρ h => h = h1 ∧ PI p ρ ∧ ρ[6]? = some (some (.d x)) ∧ ρ[7]? = some (some (.d y))) (B := fun ρ h => False)
    (by
      rintro i w ρ h ew ⟨rfl, Pr, q6, q7⟩
      obtain ⟨z, hz, rfl⟩ := List.mem_map.1 (List.mem_of_getElem? ew)
      obtain ⟨a2, k1, k2, k3, k4⟩ := lI_run (Pr.put 8 (by decide) (.d z)) hx hy hz ((List.getElem?_set_ne (by decide)).trans q6) ((List.getElem?_set_ne (by decide)).trans q7) (put_at Pr 8 (by decide) _)
      exact ⟨_, rfl, _, _, .inl ⟨k1, rfl, k2, k3, k4⟩⟩)
  obtain ⟨ρ2, h2, e, q⟩ := L 14 0 a h1 (by decide) (by decide) ⟨rfl, P, ex, ey⟩
  rcases q with ⟨rfl, q1, q2, q3⟩ | q
  · exact ⟨ρ2, by unfold lJ sFor; rw [bnd_ok (lW_run P)]; exact e, q1, q2⟩
  · exact q.elim
theorem lK_run {p : Int} {a : DEnv} (P : PI p a) {x : Dt} (hx : x ∈ stL) (ex : a[6]? = some (some (.d x))) : ∃ a2, lK a h1 = .ok (.nx, a2) h1 ∧ PI p a2 := by
  have L := fGo_list (wk := .s (.ds ysL)) (t := .nm 7) (fb := sCons lJ sNil) (L := ysL.map Vx.d) (item_ds _)
    (P := fun i ρ h => h = h1 ∧ PI p ρ ∧ ρ[6]? = some (some (.d x))) (B := fun ρ h => False)
    (by
      rintro i w ρ h ew ⟨rfl, Pr, q6⟩
      obtain ⟨z, hz, rfl⟩ := List.mem_map.1 (List.mem_of_getElem? ew)
      obtain ⟨a2, k1, k2, k3⟩ := lJ_run (Pr.put 7 (by decide) (.d z)) hx hz ((List.getElem?_set_ne (by decide)).trans q6) (put_at Pr 7 (by decide) _)
      exact ⟨_, rfl, _, _, .inl ⟨by unfold sCons; rw [bnd_ok k1]; rfl, rfl, k2, k3⟩⟩)
  obtain ⟨ρ2, h2, e, q⟩ := L 14 0 a h1 (by decide) (by decide) ⟨rfl, P, ex⟩
  rcases q with ⟨rfl, q1, q2⟩ | q
  · exact ⟨ρ2, by unfold lK sFor; rw [bnd_ok (lW_run P)]; exact e, q1⟩
  · exact q.elim
theorem l5_run {p : Int} {a : DEnv} (P : PI p a) : ∃ a2, l5 a h1 = .ok (.nx, a2) h1 ∧ PI p a2 := by
  have L := fGo_list (wk := .s (.ds stL)) (t := .nm 6) (fb := sCons lK sNil) (L := stL.map Vx.d) (item_ds _)
    (P := fun i ρ h => h = h1 ∧ PI p ρ) (B := fun ρ h => False)
    (by
      rintro i w ρ h ew ⟨rfl, Pr⟩
      obtain ⟨z, hz, rfl⟩ := List.mem_map.1 (List.mem_of_getElem? ew)
      obtain ⟨a2, k1, k2⟩ := lK_run (Pr.put 6 (by decide) (.d z)) hz (put_at Pr 6 (by decide) _)
      exact ⟨_, rfl, _, _, .inl ⟨by unfold sCons; rw [bnd_ok k1]; rfl, rfl, k2⟩⟩)
  obtain ⟨ρ2, h2, e, q⟩ := L 13 0 a h1 (by decide) (by decide) ⟨rfl, P⟩
  rcases q with ⟨rfl, q1⟩ | q
  · refine ⟨ρ2, ?_, q1⟩
    unfold l5 sFor
    have ew : wVal (eVar 3) a h1 = .ok (.s (.ds stL)) h1 := by
      unfold wVal
      rw [bnd_ok (m := eVar 3 a) (a := .d (.lst stL)) (h' := h1)]
      · rfl
      · unfold eVar; rw [P.2.1]
    rw [bnd_ok ew]; exact e
  · exact q.elim
theorem lD_run {a : DEnv} (hl : a.length = 15) (x y : Nat) (hx : x < 25) (hy : y < 12) (ex : a[13]? = some (some (.d (.int (-12 + (x : Nat)))))) (ey : a[14]? = some (some (.d (.int (1 + (y : Nat)))))) :
    ∃ a2, lD a h1 = .ok (.nx, a2) h1 ∧ a2.length = 15 ∧ a2[13]? = a[13]? := by
  have e := List.all_eq_true.1 (List.all_eq_true.1 ckD x (List.mem_range.2 hx)) y (List.mem_range.2 hy)
  obtain ⟨c, ec⟩ := plain1_eq e
  obtain ⟨b2, k1, _, k3, k4⟩ := sr_D.run (a := a) (b := dS (-12 + (x : Nat)) (1 + (y : Nat))) (by
    intro i hi
    simp only [List.mem_cons, List.not_mem_nil, or_false] at hi
    rcases hi with rfl | rfl
    · rw [ex]; rfl
    · rw [ey]; rfl) hl ec
  exact ⟨b2, k1, k3.trans hl, k4 13 (by decide)⟩
theorem rg_mem {lo : Int} {n i : Nat} {y : Vx} (e : ((List.range n).map fun j => Vx.d (.int (lo + (j : Nat))))[i]? = some y) : ∃ j, j < n ∧ y = .d (.int (lo + (j : Nat))) := by
  obtain ⟨j, hj, rfl⟩ := List.mem_map.1 (List.mem_of_getElem? e)
  exact ⟨j, List.mem_range.1 hj, rfl⟩
theorem lG_run {a : DEnv} (hl : a.length = 15) (x : Nat) (hx : x < 25) (ex : a[13]? = some (some (.d (.int (-12 + (x : Nat)))))) : ∃ a2, lG a h1 = .ok (.nx, a2) h1 ∧ a2.length = 15 := by
  have L := fGo_list (wk := .rg 1 12) (t := .nm 14) (fb := lD) (L := (List.range 12).map fun j => Vx.d (.int (1 + (j : Nat)))) (item_rg 1 12)
    (P := fun i ρ h => h = h1 ∧ ρ.length = 15 ∧ ρ[13]? = some (some (.d (.int (-12 + (x : Nat)))))) (B := fun ρ h => False)
    (by
      rintro i w ρ h ew ⟨rfl, hl, q⟩
      obtain ⟨j, hj, rfl⟩ := rg_mem ew
      obtain ⟨a2, k1, k2, k3⟩ := lD_run (a := ρ.set 14 (some (.d (.int (1 + (j : Nat)))))) (by rw [List.length_set]; exact hl) x j hx hj ((List.getElem?_set_ne (by decide)).trans q) (by rw [List.getElem?_set_self]; omega)
      exact ⟨_, rfl, _, _, .inl ⟨k1, rfl, k2, k3.trans ((List.getElem?_set_ne (by decide)).trans q)⟩⟩)
  obtain ⟨ρ2, h2, e, q⟩ := L 13 0 a h1 (by decide) (by decide) ⟨rfl, hl, ex⟩
  rcases q with ⟨rfl, q1, q2⟩ | q
  · exact ⟨ρ2, e, q1⟩
  · exact q.elim
theorem l6_run {a : DEnv} (hl : a.length = 15) : ∃ a2, l6 a h1 = .ok (.nx, a2) h1 := by
  have L := fGo_list (wk := .rg (-12) 25) (t := .nm 13) (fb := sCons lG sNil) (L := (List.range 25).map fun j => Vx.d (.int (-12 + (j : Nat)))) (item_rg (-12) 25)
    (P := fun i ρ h => h = h1 ∧ ρ.length = 15) (B := fun ρ h => False)
    (by
      rintro i w ρ h ew ⟨rfl, hl⟩
      obtain ⟨j, hj, rfl⟩ := rg_mem ew
      obtain ⟨a2, k1, k2⟩ := lG_run (a := ρ.set 13 (some (.d (.int (-12 + (j : Nat)))))) (by rw [List.length_set]; exact hl) j hj (by rw [List.getElem?_set_self]; omega)
      exact ⟨_, rfl, _, _, .inl ⟨by unfold sCons; rw [bnd_ok k1]; rfl, rfl, k2⟩⟩)
  obtain ⟨ρ2, h2, e, q⟩ := L 26 0 a h1 (by decide) (by decide) ⟨rfl, hl⟩
  rcases q with ⟨rfl, q1⟩ | q
  · exact ⟨ρ2, e⟩
  · exact q.elim
theorem law_plain (ns : List Int) (hl : ns.length ≤ 63) (hb : ∀ z ∈ ns, Builtin.Int.intBits z ≤ 1048576) : ∃ h', d_law [.s ns] [] = .ok (.d (.bl true)) h' := by
  obtain ⟨rs, en, hr, _⟩ := numbers_call ns hl
  obtain ⟨p, ep, _⟩ := take_call rs hr 0 0 40 (by decide) (by decide) [.lst [.d (.int 0)]] rfl
  refine ⟨h1, ?_⟩
  rw [law_eq]
  let a5 : DEnv := [some (.s ns), some (.d (.lst (rs.map Dt.int))), some (.r 0), some (.d (.lst stL)), some (.d (.int p)), some (.d (.int 0)), none, none, none, none, none, none, none, none, none]
  have P : PI p a5 := ⟨rfl, rfl, rfl, 0, rfl⟩
  obtain ⟨a6, k5, P6⟩ := l5_run P
  obtain ⟨a7, k6⟩ := l6_run P6.1
  have eE : lEnd a5 h1 = .ok (.rt (.d (.bl true)), a7) h1 := by
    unfold lEnd sCons
    rw [bnd_ok k5]
    show bnd (l6 a6) _ h1 = _
    rw [bnd_ok k6]
    rfl
  have s1 : c0 (start0 15 [.s ns]) [] = .ok (.nx, [some (.s ns), some (.d (.lst (rs.map Dt.int))), none, none, none, none, none, none, none, none, none, none, none, none, none]) [] := by
    unfold c0
    rw [numbers_eq]
    show bnd (callM [false] numbersM [.s ns]) _ [] = _
    rw [bnd_ok (en [])]
    rfl
  have s4 : c3 [some (.s ns), some (.d (.lst (rs.map Dt.int))), some (.r 0), some (.d (.lst stL)), none, none, none, none, none, none, none, none, none, none, none] [.lst [.d (.int 0)]] = .ok (.nx, [some (.s ns), some (.d (.lst (rs.map Dt.int))), some (.r 0), some (.d (.lst stL)), some (.d (.int p)), none, none, none, none, none, none, none, none, none, none]) h1 := by
    unfold c3
    rw [take_eq]
    show bnd (callM [false, true, false] takeM [.d (.lst (rs.map Dt.int)), .r 0, .d (.int 40)]) _ [.lst [.d (.int 0)]] = _
    rw [bnd_ok ep]
    rfl
  show bnd (sCons c0 (sCons c1 (sCons c2 (sCons c3 (sCons c4 lEnd)))) (start0 15 [.s ns])) bodyEnd [] = _
  rw [bnd_ok (a := (.rt (.d (.bl true)), a7)) (h' := h1)]
  · rfl
  · unfold sCons
    rw [bnd_ok s1]
    show bnd (c3 [some (.s ns), some (.d (.lst (rs.map Dt.int))), some (.r 0), some (.d (.lst stL)), none, none, none, none, none, none, none, none, none, none, none]) _ [.lst [.d (.int 0)]] = _
    rw [bnd_ok s4]
    exact eE
end Dn
end
section
set_option Elab.async false
set_option linter.all false
set_option maxRecDepth 100000
set_option maxHeartbeats 0
namespace Dn
open PySem PySem.Spec PyProof.Rows L2
abbrev R : PySem.W.OpenRow := PySem.W.OpenLaw.row PySem.Challenge.rw_inkwright_k51_all_small_words
def loose0 : List PySem.Str := ["in_tuples", "InkError", "BadValue", "BadText", "TooFew", "WrongKind", "NoWord", "NoPoint", "TooMuch", "MOST_CHARACTERS", "MOST_NUMBER", "demand"]
def loose1 : List PySem.Str := ["is_integer", "is_between", "is_sequence", "is_text", "is_fraction", "LETTERS", "FIGURES", "BRACES", "MOST_FIGURES", "MOST_LETTERS", "GREATEST", "is_letters"]
def loose2 : List PySem.Str := ["is_figures", "is_integer_word", "number_of", "number_word", "is_name", "is_name_word", "is_letter_word", "is_word", "runs_of", "checked_words", "MOST_OF_WORD", "words"]
def loose3 : List PySem.Str := ["joined", "value_of", "word_of", "MOST_LEVELS", "is_tree", "check_braces", "nested", "checked_tree", "words_of", "text_of", "read", "written"]
def loose4 : List PySem.Str := ["_law_so", "_law_numbers", "_law_draw", "_law_take", "_law_gcd", "_law_same_told", "_law_all_digits", "_law_red", "_law_is_name", "_law_told", "_law_whole_word", "_law_number_word"]
def loose5 : List PySem.Str := ["_law_kind", "_law_is_low"]
def loose : List PySem.Str := List.flatten [loose0, loose1, loose2, loose3, loose4, loose5]
def tfL : List He.Defn := [("law", none)]
abbrev hk : PySem.W.Hook := He.hookX 6 fas fns [] tfL exK
def ob (s : PySem.W.SharedT) : He.AlX := He.obsX 6 fas fns [] tfL exK (HandSHeadRun.getT s)
theorem ob_eq (s : PySem.W.SharedT) : ob s = hk.obs s.abs := He.obsX_eq (HandSHeadRun.getT_eq s)
theorem head_run (w : World) : HandSHeadRun.RunEqI R (PySem.W.view R.prog [0, 71]) hk ob 12000 loose w := by
  unfold HandSHeadRun.RunEqI
  kernel_rfl
theorem fx_of {w : World} {h : Heap} {K : PySem.W.Frag} (c : He.SaysX fas fns [] tfL exK w h K) : FX K := fx_mk (fun hd => c.t.d.defs hd) (fun hf => c.t.d.facts hf) c.more
theorem csL_eq (K : PySem.W.Frag) : csL K = tfL.map (He.cT K) := rfl
theorem law_at {w : World} {mg : PySem.Str → Option Value} {fa : Addr} {h : Heap} (Y : hk.says w h) (G : h.Ns mainGlobals mg) (hmg : mg ("law" : PySem.Str) = some (.ref fa)) :
    ∃ K : PySem.W.Frag, K.In h ∧ LamX.LawAtS PySem.Challenge.rw_inkwright_k51_all_small_words w K (L2.CX PySem.Challenge.rw_inkwright_k51_all_small_words.prog w) 32 63 "script" mg fa h := by
  obtain ⟨K, KX, c⟩ := Y
  have C := fx_of c
  have m_law : mg "law" = some (.ref (He.ga K "law")) := He.glo_ok KX G (C.facts (f := .glo "law") (List.mem_of_getElem? (i := lawFa) rfl))
  have e := hmg.symm.trans m_law
  cases e
  obtain ⟨fdL, FL⟩ := C.defs (d := D_law) (List.mem_of_getElem? (i := lawIx) rfl)
  refine ⟨K, KX, fdL, csL K, spD K (g0 K) 1 d_law, fun p hp => ?_, fun p hp => ?_, fun p hp => ?_, fun s u => FL.bindsA (ps := ["script"]) (fun _ _ _ _ _ _ us hl => match us, hl with | [_], _ => rfl) s [u] rfl, fun H a ns hl hbits hH hS => ?_, fun base hB hG TBs => ?_⟩
  · rw [csL_eq] at hp
    obtain ⟨q, hq, rfl⟩ := List.mem_map.mp hp
    exact c.empty q hq
  · rw [csL_eq] at hp
    obtain ⟨q, hq, rfl⟩ := List.mem_map.mp hp
    exact c.out q hq
  · rw [csL_eq] at hp
    obtain ⟨q, hq, rfl⟩ := List.mem_map.mp hp
    exact PySem.W.codeHd_of_K KX (c.hd q hq)
  · exact spD_true (tab_of_cs (tl := tabL K) rfl hH) hS (law_plain ns hl hbits)
  · obtain ⟨fd2, F2, _, ok⟩ := ok_law (P := PySem.Challenge.rw_inkwright_k51_all_small_words.prog) (w := w) (base := base) KX G C TBs
    have e2 : fd2 = fdL := fd_same F2 FL
    rw [e2] at ok
    exact ok
end Dn
open PySem PySem.W PySem.Calls PyProof.Rows
theorem PySem.Challenge.cw_inkwright_k51_all_small_words_holds : PySem.Challenge.rw_inkwright_k51_all_small_words.Holds := by
  w_on; o_law
  refine HandSHeadRun.head_imp (r := OpenLaw.row PySem.Challenge.rw_inkwright_k51_all_small_words) (q := view (OpenLaw.row PySem.Challenge.rw_inkwright_k51_all_small_words).prog [0, 71]) (H := Dn.hk) (ob := Dn.ob) (M := 12000) (loose := Dn.loose) (d := HandSHeadRun.topDef (OpenLaw.row PySem.Challenge.rw_inkwright_k51_all_small_words).prog 71) (kwd := []) Dn.ob_eq
    Dn.head_run (by kernel_rfl) (by kernel_rfl) (by kernel_rfl) (by rfl) (by first | assumption | decide +kernel) (by decide +kernel) ⟨rfl, rfl, rfl, rfl, rfl, by decide +kernel⟩ ?hw ?hc
  case hw => w_witness2
  case hc =>
    refine LamX.walk_ofTsE (l := PySem.Challenge.rw_inkwright_k51_all_small_words) (n := 63) (k := 32) (x := "script") (CX := fun w => L2.CX PySem.Challenge.rw_inkwright_k51_all_small_words.prog w) rfl (by decide) (by kernel_rfl) ⟨rfl, by decide, by decide⟩ ?F (fun w H s e s2 z => Dn.cx_none z)
    intro w mg fa h Y G hmg0
    have hmg : mg ("law" : PySem.Str) = some (.ref fa) := by
      have e : (HandSHeadRun.topDef (OpenLaw.row PySem.Challenge.rw_inkwright_k51_all_small_words).prog 71).name = ("law" : PySem.Str) := by kernel_rfl
      rw [← e]
      exact hmg0
    exact Dn.law_at Y G hmg
end
