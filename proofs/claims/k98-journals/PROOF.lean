import PyProof.Rows.All
import Wide.All
import OpenK.AllK
import Wide.FinOn
import HandS.ForMost
import HandS.Walk
import HandS.Deep
import HandS.Zip
import HandS.Exc
import HandS.WordsExc
import HandS.Defaults
import HandS.More
import HandS.Flow
import HandS.IsInst
import HandS.Text
import HandS.Style
import HandS.TupAny
import HandS.Ends
import HandS.Head0
import HandS.Head1
import HandS.Head2
import HandS.HeadEnd
import HandS.HeadHook1
import HandS.HeadHook2
import HandS.HeadHook3
import HandS.HeadHook4
import PySem.Challenge.RW_nochaingains_k98_journals_written_and_re
set_option Elab.async false
set_option linter.all false
set_option maxRecDepth 100000
set_option maxHeartbeats 4000000
namespace MV
open PySem PySem.Spec PyProof.Rows L2

abbrev St := L2.St
theorem sl1000 {n : Nat} (h : n ≤ 1000) : n ≤ sizeLine := by rw [sizeLine_eq]; omega
/-! ## data -/
inductive Dat where
  | non | bl (b : Bool) | int (i : Int) | str (s : Str)
  | tup (l : List Dat) | lst (l : List Dat) | frl (l : List Dat) | mls (l : List Dat) | obj (c : Nat) (l : List Dat)

/-- frozen at the top -/
def Dat.fz : Dat → Bool
  | .mls _ => false
  | .obj _ _ => false
  | _ => true

abbrev Rho := List (Option Dat)

theorem Same.seqT {K : PySem.W.Frag} {H H' : Hp} {a : Addr} {xs : List V} (e : Same H H') (h : SqT K H a xs) : SqT K H' a xs := by
  rcases h with (h | ⟨o, h⟩) | h
  · exact .inl (.inl (e _ _ h))
  · exact .inl (.inr ⟨o, e _ _ h⟩)
  · exact .inr h

mutual
inductive Rep (K : PySem.W.Frag) (F : Hp) : V → Dat → Prop
  | non : Rep K F .non .non
  | bl (b : Bool) : Rep K F (.bl b) (.bl b)
  | int (i : Int) : Rep K F (.int i) (.int i)
  | str (s : Str) (z : s.length ≤ sizeLine) : Rep K F (.str s) (.str s)
  | tup {a : Addr} {vs : List V} {ds : List Dat} (h : SqT K F a vs) (r : Reps K F vs ds) (z : ds.length ≤ sizeLine) : Rep K F (.ref a) (.tup ds)
  | lst {a : Addr} {vs : List V} {ds : List Dat} (h : F a = some (.lst vs)) (r : Reps K F vs ds) (z : ds.length ≤ sizeLine) : Rep K F (.ref a) (.lst ds)
  | frl {a : Addr} {vs : List V} {ds : List Dat} (h : SqL K F a vs) (r : Reps K F vs ds) (z : ds.length ≤ sizeLine) : Rep K F (.ref a) (.frl ds)
inductive Reps (K : PySem.W.Frag) (F : Hp) : List V → List Dat → Prop
  | nil : Reps K F [] []
  | cons {v : V} {d : Dat} {vs : List V} {ds : List Dat} (h : Rep K F v d) (t : Reps K F vs ds) : Reps K F (v :: vs) (d :: ds)
end

section
variable {K : PySem.W.Frag} {F F' : Hp}
mutual
theorem Rep.mono (e : Same F F') : ∀ (d : Dat) (v : V), Rep K F v d → Rep K F' v d
  | .non, _, h => by cases h; exact .non
  | .bl _, _, h => by cases h; exact .bl _
  | .int _, _, h => by cases h; exact .int _
  | .str _, _, h => by cases h; exact .str _ (by assumption)
  | .tup ds, _, h => by
    cases h with
    | tup h r z => exact .tup (Same.seqT e h) (Reps.mono e ds _ r) z
  | .lst ds, _, h => by
    cases h with
    | lst h r z => exact .lst (e _ _ h) (Reps.mono e ds _ r) z
  | .frl ds, _, h => by
    cases h with
    | frl h r z => exact .frl (e.seq h) (Reps.mono e ds _ r) z
  | .mls _, _, h => by cases h
  | .obj _ _, _, h => by cases h
theorem Reps.mono (e : Same F F') : ∀ (ds : List Dat) (vs : List V), Reps K F vs ds → Reps K F' vs ds
  | [], _, h => by cases h; exact .nil
  | d :: ds, _, h => by
    cases h with
    | cons h t => exact .cons (Rep.mono e d _ h) (Reps.mono e ds _ t)
end
theorem Rep.up (e : Same F F') {d : Dat} {v : V} (h : Rep K F v d) : Rep K F' v d := Rep.mono e d v h
theorem Reps.up (e : Same F F') {ds : List Dat} {vs : List V} (h : Reps K F vs ds) : Reps K F' vs ds := Reps.mono e ds vs h
theorem Reps.length : ∀ {ds : List Dat} {vs : List V}, Reps K F vs ds → vs.length = ds.length
  | [], _, h => by cases h; rfl
  | _ :: _, _, h => by
    cases h with
    | cons h t => simp [Reps.length t]
theorem Reps.get : ∀ {ds : List Dat} {vs : List V} {i : Nat} {d : Dat}, Reps K F vs ds → ds[i]? = some d → ∃ v, vs[i]? = some v ∧ Rep K F v d
  | [], _, i, d, h, e => by simp at e
  | d0 :: ds, _, 0, d, h, e => by
    cases h with
    | cons h t => simp at e; subst e; exact ⟨_, rfl, h⟩
  | d0 :: ds, _, i + 1, d, h, e => by
    cases h with
    | cons h t =>
      obtain ⟨v, q, r⟩ := Reps.get (i := i) t (by simpa using e)
      exact ⟨v, by simpa using q, r⟩
theorem Reps.getV : ∀ {ds : List Dat} {vs : List V} {i : Nat} {v : V}, Reps K F vs ds → vs[i]? = some v → ∃ d, ds[i]? = some d ∧ Rep K F v d
  | [], _, i, v, h, e => by cases h; simp at e
  | d0 :: ds, _, 0, v, h, e => by
    cases h with
    | cons h t => simp at e; subst e; exact ⟨_, rfl, h⟩
  | d0 :: ds, _, i + 1, v, h, e => by
    cases h with
    | cons h t =>
      obtain ⟨d, q, r⟩ := Reps.getV (i := i) t (by simpa using e)
      exact ⟨d, by simpa using q, r⟩
theorem Reps.append : ∀ {ds es : List Dat} {vs ws : List V}, Reps K F vs ds → Reps K F ws es → Reps K F (vs ++ ws) (ds ++ es)
  | [], _, _, _, h, g => by cases h; exact g
  | _ :: _, _, _, _, h, g => by
    cases h with
    | cons h t => exact .cons h (Reps.append t g)
theorem Reps.take : ∀ (n : Nat) {ds : List Dat} {vs : List V}, Reps K F vs ds → Reps K F (vs.take n) (ds.take n)
  | 0, _, _, _ => by simp; exact .nil
  | n + 1, [], _, h => by cases h; exact .nil
  | n + 1, _ :: _, _, h => by
    cases h with
    | cons h t => exact .cons h (Reps.take n t)
theorem Reps.drop : ∀ (n : Nat) {ds : List Dat} {vs : List V}, Reps K F vs ds → Reps K F (vs.drop n) (ds.drop n)
  | 0, _, _, h => by simpa using h
  | n + 1, [], _, h => by cases h; exact .nil
  | n + 1, _ :: _, _, h => by
    cases h with
    | cons h t => exact Reps.drop n t
theorem Reps.snoc {ds : List Dat} {vs : List V} {v : V} {d : Dat} (h : Reps K F vs ds) (g : Rep K F v d) : Reps K F (vs ++ [v]) (ds ++ [d]) := h.append (.cons g .nil)
theorem Reps.reverse : ∀ {ds : List Dat} {vs : List V}, Reps K F vs ds → Reps K F vs.reverse ds.reverse
  | [], _, h => by cases h; exact .nil
  | _ :: _, _, h => by
    cases h with
    | cons h t => simp only [List.reverse_cons]; exact (Reps.reverse t).snoc h
theorem Reps.dropLast {ds : List Dat} {vs : List V} (h : Reps K F vs ds) : Reps K F vs.dropLast ds.dropLast := by
  rw [List.dropLast_eq_take, List.dropLast_eq_take, h.length]
  exact h.take _
theorem Reps.set : ∀ {ds : List Dat} {vs : List V} (i : Nat) {v : V} {d : Dat}, Reps K F vs ds → Rep K F v d → Reps K F (vs.set i v) (ds.set i d)
  | [], _, _, _, _, h, _ => by cases h; exact .nil
  | _ :: _, _, 0, _, _, h, g => by
    cases h with
    | cons h t => exact .cons g t
  | _ :: _, _, i + 1, _, _, h, g => by
    cases h with
    | cons h t => exact .cons h (Reps.set i t g)
theorem Reps.eraseIdx : ∀ {ds : List Dat} {vs : List V} (i : Nat), Reps K F vs ds → Reps K F (vs.eraseIdx i) (ds.eraseIdx i)
  | [], _, _, h => by cases h; exact .nil
  | _ :: _, _, 0, h => by
    cases h with
    | cons h t => exact t
  | _ :: _, _, i + 1, h => by
    cases h with
    | cons h t => exact .cons h (Reps.eraseIdx i t)
theorem Reps.insertIdx {ds : List Dat} {vs : List V} (i : Nat) {v : V} {d : Dat} (h : Reps K F vs ds) (g : Rep K F v d) : Reps K F (vs.take i ++ v :: vs.drop i) (ds.take i ++ d :: ds.drop i) :=
  (Reps.take i h).append (.cons g (Reps.drop i h))
end

/-! ## the frozen part grows -/
structure Ext (H F H' F' : Hp) : Prop where
  hh : Same H H'
  ff : Same F F'
  fh : Same F' H'
  nw : ∀ a u, F' a = some u → F a = some u ∨ H a = none
theorem Ext.refl {H F : Hp} (h : Same F H) : Ext H F H F := ⟨Same.refl _, Same.refl _, h, fun _ _ e => .inl e⟩
theorem Ext.trans {H F H1 F1 H2 F2 : Hp} (a : Ext H F H1 F1) (b : Ext H1 F1 H2 F2) : Ext H F H2 F2 :=
  ⟨a.hh.trans b.hh, a.ff.trans b.ff, b.fh, fun p u e => by
    rcases b.nw p u e with q | q
    · exact a.nw p u q
    · exact .inr (a.hh.free q)⟩
/-- a new object, frozen at once -/
theorem Ext.new {H F : Hp} (h : Same F H) {p : Addr} {u : HO} (hn : H p = none) : Ext H F (upd H p u) (upd F p u) := by
  have hf : F p = none := h.free hn
  refine ⟨fun b o e => ?_, fun b o e => ?_, fun b o e => ?_, fun b o e => ?_⟩
  · rw [upd_ne (ne_of_none e hn)]; exact e
  · rw [upd_ne (ne_of_none e hf)]; exact e
  · by_cases hb : b = p
    · subst hb; rw [upd_same] at e ⊢; exact e
    · rw [upd_ne hb] at e ⊢; exact h b o e
  · by_cases hb : b = p
    · subst hb; exact .inr hn
    · rw [upd_ne hb] at e; exact .inl e
/-- a new object, not frozen -/
theorem Ext.newH {H F : Hp} (h : Same F H) {p : Addr} {u : HO} (hn : H p = none) : Ext H F (upd H p u) F := by
  refine ⟨fun b o e => ?_, Same.refl _, fun b o e => ?_, fun b o e => .inl e⟩
  · rw [upd_ne (ne_of_none e hn)]; exact e
  · rw [upd_ne (ne_of_none (h b o e) hn)]; exact h b o e
/-- freezing what is fresh -/
theorem Ext.freeze {H F H' F' : Hp} (e : Ext H F H' F') {p : Addr} {u : HO} (hn : H p = none) (hp : H' p = some u) (hf : F' p = none) : Ext H F H' (upd F' p u) := by
  refine ⟨e.hh, fun b o q => ?_, fun b o q => ?_, fun b o q => ?_⟩
  · have q' := e.ff b o q
    rw [upd_ne (ne_of_none q' hf)]; exact q'
  · by_cases hb : b = p
    · subst hb; rw [upd_same] at q; cases q; exact hp
    · rw [upd_ne hb] at q; exact e.fh b o q
  · by_cases hb : b = p
    · subst hb; exact .inr hn
    · rw [upd_ne hb] at q; exact e.nw b o q

/-! ## pure expressions -/
def EnvF (K : PySem.W.Frag) (F : Hp) (σ : St) (ρ : Rho) : Prop := σ.length = ρ.length ∧ ∀ (i : Nat) (d : Dat), ρ[i]? = some (some d) → d.fz = true → ∃ v, σ[i]? = some (some v) ∧ Rep K F v d
theorem EnvF.up {K : PySem.W.Frag} {F F' : Hp} {σ : St} {ρ : Rho} (h : EnvF K F σ ρ) (e : Same F F') : EnvF K F' σ ρ := ⟨h.1, fun i d a b =>
  let ⟨v, c, r⟩ := h.2 i d a b
  ⟨v, c, r.up e⟩⟩
/-- what is wanted behind a pure expression -/
abbrev WP (K : PySem.W.Frag) (H F : Hp) (d : Dat) (Q : VK) : Prop := ∀ v H' F', Ext H F H' F' → Rep K F' v d → Q v H'
def PPr (K : PySem.W.Frag) (t : TE) (f : Rho → Option Dat) : Prop := ∀ (σ : St) (H F : Hp) (ρ : Rho) (d : Dat) (Q : VK), Same F H → EnvF K F σ ρ → f ρ = some d → WP K H F d Q → t σ H Q
def PP (X : Cx) (e : Expr) (f : Rho → Option Dat) : Prop := ∃ t, PE X e t ∧ PPr X.K t f
/-- a test -/
def PTr (K : PySem.W.Frag) (t : TT) (f : Rho → Option Bool) : Prop := ∀ (σ : St) (H F : Hp) (ρ : Rho) (b : Bool) (Q : Bool → Hp → Prop), Same F H → EnvF K F σ ρ → f ρ = some b → (∀ H' F', Ext H F H' F' → Q b H') → t σ H Q
def TP' (X : Cx) (e : Expr) (f : Rho → Option Bool) : Prop := ∃ t, PT X e t ∧ PTr X.K t f
/-- a chain of and, or as a test -/
def WP' (X : Cx) (e : Expr) (f : Rho → Option Bool) : Prop := ∃ t, PW X e t ∧ PTr X.K t f
/-- a fresh list of frozen items -/
def PFr (K : PySem.W.Frag) (t : TE) (f : Rho → Option (List Dat)) : Prop := ∀ (σ : St) (H F : Hp) (ρ : Rho) (ds : List Dat) (Q : VK), Same F H → EnvF K F σ ρ → f ρ = some ds →
  (∀ a vs H' F', Ext H F H' F' → H a = none → H' a = some (.lst vs) → F' a = none → Reps K F' vs ds → ds.length ≤ sizeLine → Q (.ref a) H') → t σ H Q
def PF (X : Cx) (e : Expr) (f : Rho → Option (List Dat)) : Prop := ∃ t, PE X e t ∧ PFr X.K t f
/-- arguments -/
def PAr (K : PySem.W.Frag) (t : TA) (f : Rho → Option (List Dat)) : Prop := ∀ (σ : St) (H F : Hp) (ρ : Rho) (ds : List Dat) (Q : List V → Hp → Prop), Same F H → EnvF K F σ ρ → f ρ = some ds →
  (∀ vs H' F', Ext H F H' F' → Reps K F' vs ds → Q vs H') → t σ H Q
def AP' (X : Cx) (es : List Expr) (f : Rho → Option (List Dat)) : Prop := ∃ t, PA X es t ∧ PAr X.K t f

def sVar (i : Nat) : Rho → Option Dat := fun ρ => match ρ[i]? with
  | some (some d) => if d.fz = true then some d else none
  | _ => none
def sC (d : Dat) : Rho → Option Dat := fun _ => some d
def sBin (g : Dat → Dat → Option Dat) (fa fb : Rho → Option Dat) : Rho → Option Dat := fun ρ => (fa ρ).bind fun x => (fb ρ).bind fun y => g x y
def sUn (g : Dat → Option Dat) (fa : Rho → Option Dat) : Rho → Option Dat := fun ρ => (fa ρ).bind g
def sNil : Rho → Option (List Dat) := fun _ => some []
def sCons (fa : Rho → Option Dat) (fr : Rho → Option (List Dat)) : Rho → Option (List Dat) := fun ρ => (fa ρ).bind fun x => (fr ρ).bind fun xs => some (x :: xs)
def sArgs (g : List Dat → Option Dat) (fa : Rho → Option (List Dat)) : Rho → Option Dat := fun ρ => (fa ρ).bind g

section
variable {X : Cx} {e a b c : Expr} {es : List Expr} {pos : Pos} {f fa fb fc : Rho → Option Dat} {fs : Rho → Option (List Dat)}
theorem pp_var (i : Nat) {x : Str} {pos : Pos} (hN : X.N[i]? = some x := by rfl) (hv : Vis X.env.scope x := by first | exact Or.inl rfl | exact Or.inr (Or.inl rfl) | exact Or.inr (Or.inr rfl)) (hd : (x == ("__debug__" : Str)) = false := by decide)
    (hcd : (x == ("__classdict__" : Str)) = false := by decide) : PP X (.Name x pos) (sVar i) := by
  refine ⟨_, pe_var hN hv hd hcd, fun σ H F ρ d Q hs he hf q => ?_⟩
  unfold sVar at hf
  split at hf
  · rename_i d' hd'
    split at hf
    · rename_i hz
      cases hf
      obtain ⟨v, h1, h2⟩ := he.2 i _ hd' hz
      exact ⟨v, h1, q v H F (.refl hs) h2⟩
    · cases hf
  · cases hf
theorem pp_int {i : Int} {j : Nat} {pos : Pos} : PP X (.Constant (.int i) j pos) (sC (.int i)) := ⟨_, pe_int, fun σ H F ρ d Q hs he hf q => by cases hf; exact q _ _ _ (.refl hs) (.int _)⟩
theorem pp_bl {i : Bool} {j : Nat} {pos : Pos} : PP X (.Constant (.bool i) j pos) (sC (.bl i)) := ⟨_, pe_bl, fun σ H F ρ d Q hs he hf q => by cases hf; exact q _ _ _ (.refl hs) (.bl _)⟩
theorem pp_non {j : Nat} {pos : Pos} : PP X (.Constant .none j pos) (sC .non) := ⟨_, pe_non, fun σ H F ρ d Q hs he hf q => by cases hf; exact q _ _ _ (.refl hs) Rep.non⟩
theorem pp_str {x : Str} {j : Nat} {pos : Pos} (hz : decide (x.length ≤ 1000) = true := by decide +kernel) : PP X (.Constant (.str x) j pos) (sC (.str x)) := ⟨_, pe_str, fun σ H F ρ d Q hs he hf q => by cases hf; exact q _ _ _ (.refl hs) (.str _ (sl1000 (of_decide_eq_true hz)))⟩
/-- a module's constant -/
theorem pp_glob {x : Str} {d : Dat} {v : V} {u : Value} {pos : Pos} (hg : Gl X x) (hm : X.mg x = some u) (r : RelV v u) (hr : Rep X.K (fun _ => none) v d) (hd : (x == ("__debug__" : Str)) = false := by decide) : PP X (.Name x pos) (sC d) :=
  ⟨_, pe_glob hg hm r hd, fun σ H F ρ d' Q hs he hf q => by cases hf; exact q _ _ _ (.refl hs) (hr.up (fun _ _ e => by cases e))⟩
theorem pf_pp {f : Rho → Option (List Dat)} (h : PF X e f) : PP X e (fun ρ => (f ρ).map Dat.lst) := by
  obtain ⟨t, h1, h2⟩ := h
  refine ⟨t, h1, fun σ H F ρ d Q hs he hf q => ?_⟩
  obtain ⟨ds, e1, e2⟩ := Option.map_eq_some_iff.mp hf
  subst e2
  refine h2 σ H F ρ ds Q hs he e1 fun a vs H' F' ex hn ha hfa r z => ?_
  have e2 := ex.freeze hn ha hfa
  exact q _ _ _ e2 (.lst upd_same (r.up fun b o z => by rw [upd_ne (ne_of_none z hfa)]; exact z) z)

theorem ap_nil : AP' X [] sNil := ⟨_, pa_nil, fun σ H F ρ ds Q hs he hf q => by cases hf; exact q [] H F (.refl hs) .nil⟩
theorem ap_cons (ha : PP X e fa) (hr : AP' X es fs) (hs : starEach (e :: es) X.env = (false, eval e X.env) :: starEach es X.env := by rfl) : AP' X (e :: es) (sCons fa fs) := by
  obtain ⟨t, h1, h2⟩ := ha
  obtain ⟨u, g1, g2⟩ := hr
  refine ⟨_, pa_cons h1 g1 hs, fun σ H F ρ ds Q hs he hf q => ?_⟩
  obtain ⟨x, e1, hf⟩ := Option.bind_eq_some_iff.mp hf
  obtain ⟨xs, e2, hf⟩ := Option.bind_eq_some_iff.mp hf
  cases hf
  refine h2 σ H F ρ x _ hs he e1 fun v H1 F1 ex1 r1 => ?_
  refine g2 σ H1 F1 ρ xs _ ex1.fh (he.up ex1.ff) e2 fun vs H2 F2 ex2 r2 => ?_
  exact q (v :: vs) H2 F2 (ex1.trans ex2) (.cons (r1.up ex2.ff) r2)

/-! ### operations by values -/
def OpD (X : Cx) (fn : Value → Value → Sem Value) (g : Dat → Dat → Option Dat) : Prop := ∃ r, OpR X fn r ∧ ∀ (H F : Hp) (x y : V) (dx dy d : Dat) (Q : VK), Same F H → Rep X.K F x dx → Rep X.K F y dy → g dx dy = some d → WP X.K H F d Q → r x y H Q
def UnD (X : Cx) (fn : Value → Sem Value) (g : Dat → Option Dat) : Prop := ∃ r, UnR X fn r ∧ ∀ (H F : Hp) (x : V) (dx d : Dat) (Q : VK), Same F H → Rep X.K F x dx → g dx = some d → WP X.K H F d Q → r x H Q
def CallD (X : Cx) (fn : Value) (g : List Dat → Option Dat) : Prop := ∃ r, CallR X fn r ∧ ∀ (H F : Hp) (xs : List V) (dx : List Dat) (d : Dat) (Q : VK), Same F H → Reps X.K F xs dx → g dx = some d → WP X.K H F d Q → r xs H Q
def IxD (X : Cx) (g : Dat → Dat → Option Dat) : Prop := ∃ r, IxR X r ∧ ∀ (H F : Hp) (x y : V) (dx dy d : Dat) (Q : VK), Same F H → Rep X.K F x dx → Rep X.K F y dy → g dx dy = some d → WP X.K H F d Q → r x y H Q
theorem pp_bin {op : Operator} {g : Dat → Dat → Option Dat} (ho : OpD X (binaryOp op) g) (ha : PP X a fa) (hb : PP X b fb) : PP X (.BinOp a op b pos) (sBin g fa fb) := by
  obtain ⟨r, o1, o2⟩ := ho
  obtain ⟨t, h1, h2⟩ := ha
  obtain ⟨u, g1, g2⟩ := hb
  refine ⟨_, pe_op o1 h1 g1, fun σ H F ρ d Q hs he hf q => ?_⟩
  obtain ⟨x, e1, hf⟩ := Option.bind_eq_some_iff.mp hf
  obtain ⟨y, e2, hf⟩ := Option.bind_eq_some_iff.mp hf
  refine h2 σ H F ρ x _ hs he e1 fun v H1 F1 ex1 r1 => ?_
  refine g2 σ H1 F1 ρ y _ ex1.fh (he.up ex1.ff) e2 fun w H2 F2 ex2 r2 => ?_
  exact o2 H2 F2 v w x y d Q ex2.fh (r1.up ex2.ff) r2 hf fun z H' F' ex r => q z H' F' ((ex1.trans ex2).trans ex) r
theorem pp_cmp {op : CmpOp} {g : Dat → Dat → Option Dat} (ho : OpD X (compareOp op) g) (ha : PP X a fa) (hb : PP X b fb) (hm : behindInMarks op b = false) : PP X (.Compare a [op] [b] pos) (sBin g fa fb) := by
  obtain ⟨r, o1, o2⟩ := ho
  obtain ⟨t, h1, h2⟩ := ha
  obtain ⟨u, g1, g2⟩ := hb
  refine ⟨_, pe_cmpR o1 h1 g1 hm, fun σ H F ρ d Q hs he hf q => ?_⟩
  obtain ⟨x, e1, hf⟩ := Option.bind_eq_some_iff.mp hf
  obtain ⟨y, e2, hf⟩ := Option.bind_eq_some_iff.mp hf
  refine h2 σ H F ρ x _ hs he e1 fun v H1 F1 ex1 r1 => ?_
  refine g2 σ H1 F1 ρ y _ ex1.fh (he.up ex1.ff) e2 fun w H2 F2 ex2 r2 => ?_
  exact o2 H2 F2 v w x y d Q ex2.fh (r1.up ex2.ff) r2 hf fun z H' F' ex r => q z H' F' ((ex1.trans ex2).trans ex) r
theorem pp_un {op : UnaryOp} {g : Dat → Option Dat} (ho : UnD X (unaryOp op) g) (ha : PP X a fa) : PP X (.UnaryOp op a pos) (sUn g fa) := by
  obtain ⟨r, o1, o2⟩ := ho
  obtain ⟨t, h1, h2⟩ := ha
  refine ⟨_, pe_un o1 h1, fun σ H F ρ d Q hs he hf q => ?_⟩
  obtain ⟨x, e1, hf⟩ := Option.bind_eq_some_iff.mp hf
  refine h2 σ H F ρ x _ hs he e1 fun v H1 F1 ex1 r1 => ?_
  exact o2 H1 F1 v x d Q ex1.fh r1 hf fun z H' F' ex r => q z H' F' (ex1.trans ex) r
theorem pp_callB {x : Str} {p : Pos} {id : String} {g : List Dat → Option Dat} (hc : CallD X (.builtin id) g) (hg : Gl X x) (hm : X.mg x = none) (hv : bootBuiltins x = some (.builtin id)) (ha : AP' X (e :: es) fs) (hn : x ≠ "__name__" := by decide) (hdb : (x == ("__debug__" : Str)) = false := by decide)
    (he : starEach (e :: es) X.env = (false, eval e X.env) :: starEach es X.env := by rfl) (hpl : (backTo pos (starEach es X.env)).any (·.1) = false := by rfl) : PP X (.Call (.Name x p) (e :: es) [] pos) (sArgs g fs) := by
  obtain ⟨r, o1, o2⟩ := hc
  obtain ⟨t, h1, h2⟩ := ha
  refine ⟨_, pe_callB o1 hg hm hv h1 hn hdb he hpl, fun σ H F ρ d Q hs he hf q => ?_⟩
  obtain ⟨xs, e1, hf⟩ := Option.bind_eq_some_iff.mp hf
  refine h2 σ H F ρ xs _ hs he e1 fun v H1 F1 ex1 r1 => ?_
  exact o2 H1 F1 v xs d Q ex1.fh r1 hf fun z H' F' ex r => q z H' F' (ex1.trans ex) r
theorem pp_callTy {x : Str} {p : Pos} {id : String} {g : List Dat → Option Dat} (hc : CallD X (.type id) g) (hg : Gl X x) (hm : X.mg x = none) (hv : bootBuiltins x = some (.type id)) (ha : AP' X (e :: es) fs) (hn : x ≠ "__name__" := by decide) (hdb : (x == ("__debug__" : Str)) = false := by decide)
    (he : starEach (e :: es) X.env = (false, eval e X.env) :: starEach es X.env := by rfl) (hpl : (backTo pos (starEach es X.env)).any (·.1) = false := by rfl) : PP X (.Call (.Name x p) (e :: es) [] pos) (sArgs g fs) := by
  obtain ⟨r, o1, o2⟩ := hc
  obtain ⟨t, h1, h2⟩ := ha
  refine ⟨_, pe_callTy o1 hg hm hv h1 hn hdb he hpl, fun σ H F ρ d Q hs he hf q => ?_⟩
  obtain ⟨xs, e1, hf⟩ := Option.bind_eq_some_iff.mp hf
  refine h2 σ H F ρ xs _ hs he e1 fun v H1 F1 ex1 r1 => ?_
  exact o2 H1 F1 v xs d Q ex1.fh r1 hf fun z H' F' ex r => q z H' F' (ex1.trans ex) r
theorem pp_ix {g : Dat → Dat → Option Dat} (hi : IxD X g) (ha : PP X a fa) (hb : PP X b fb) (hs : PlainIx b := by exact fun _ _ => rfl) : PP X (.Subscript a b pos) (sBin g fa fb) := by
  obtain ⟨r, o1, o2⟩ := hi
  obtain ⟨t, h1, h2⟩ := ha
  obtain ⟨u, g1, g2⟩ := hb
  refine ⟨_, pe_ix o1 h1 g1 hs, fun σ H F ρ d Q hs he hf q => ?_⟩
  obtain ⟨x, e1, hf⟩ := Option.bind_eq_some_iff.mp hf
  obtain ⟨y, e2, hf⟩ := Option.bind_eq_some_iff.mp hf
  refine h2 σ H F ρ x _ hs he e1 fun v H1 F1 ex1 r1 => ?_
  refine g2 σ H1 F1 ρ y _ ex1.fh (he.up ex1.ff) e2 fun w H2 F2 ex2 r2 => ?_
  exact o2 H2 F2 v w x y d Q ex2.fh (r1.up ex2.ff) r2 hf fun z H' F' ex r => q z H' F' ((ex1.trans ex2).trans ex) r
/-- a written tuple; a written list -/
def sTup (fs : Rho → Option (List Dat)) : Rho → Option Dat := fun ρ => (fs ρ).bind fun ds => if ds.length ≤ 1000 then some (.tup ds) else none
def sLstF (fs : Rho → Option (List Dat)) : Rho → Option (List Dat) := fun ρ => (fs ρ).bind fun ds => if ds.length ≤ 1000 then some ds else none
theorem pp_tup {x1} (h : AP' X es fs) : PP X (.Tuple es x1 pos) (sTup fs) := by
  obtain ⟨t, h1, h2⟩ := h
  refine ⟨_, pe_tup h1, fun σ H F ρ d Q hs he hf q => ?_⟩
  obtain ⟨xs, e1, hf⟩ := Option.bind_eq_some_iff.mp hf
  by_cases hl : xs.length ≤ 1000
  · rw [if_pos hl] at hf
    cases hf
    refine h2 σ H F ρ _ _ hs he e1 fun vs H1 F1 ex1 r1 => ⟨by rw [r1.length]; exact sl1000 hl, fun p hp => ?_⟩
    have ex := Ext.new (u := .tup vs) ex1.fh hp
    exact q _ _ _ (ex1.trans ex) (.tup (SqT.of upd_same) (r1.up ex.ff) (sl1000 hl))
  · rw [if_neg hl] at hf; cases hf
theorem pf_lst (h : AP' X es fs) : PF X (.List es pos) (sLstF fs) := by
  obtain ⟨t, h1, h2⟩ := h
  refine ⟨_, pe_lst h1, fun σ H F ρ d Q hs he hf q => ?_⟩
  obtain ⟨xs, e1, hf⟩ := Option.bind_eq_some_iff.mp hf
  by_cases hl : xs.length ≤ 1000
  · rw [if_pos hl] at hf
    cases hf
    refine h2 σ H F ρ _ _ hs he e1 fun vs H1 F1 ex1 r1 => ⟨by rw [r1.length]; exact sl1000 hl, fun p hp => ?_⟩
    have ex := Ext.newH (u := .lst vs) ex1.fh hp
    exact q _ _ _ _ (ex1.trans ex) (ex1.hh.free hp) upd_same (ex1.fh.free hp) r1 (sl1000 hl)
  · rw [if_neg hl] at hf; cases hf
/-! ### tests -/
def sTruB (f : Rho → Option Dat) : Rho → Option Bool := fun ρ => (f ρ).bind fun d => match d with
  | .bl b => some b
  | _ => none
theorem tp_val (h : PP X e f) (he : ∀ whole, isTrue e X.env whole = (do let v ← whole; standAt e.pos; holding [v] (truthy v)) := by intro _; rfl) : TP' X e (sTruB f) := by
  obtain ⟨t, h1, h2⟩ := h
  refine ⟨_, pt_val h1 he, fun σ H F ρ b Q hs hE hf q => ?_⟩
  obtain ⟨x, e1, hf⟩ := Option.bind_eq_some_iff.mp hf
  refine h2 σ H F ρ x _ hs hE e1 fun v H1 F1 ex1 r1 => ?_
  cases x with
  | bl c => cases hf; cases r1; exact ⟨_, rfl, q _ _ ex1⟩
  | _ => cases hf
theorem tp_cmp {op : CmpOp} {g : Dat → Dat → Option Dat} (ho : OpD X (compareOp op) g) (ha : PP X a fa) (hb : PP X b fb) (hm : behindInMarks op b = false) : TP' X (.Compare a [op] [b] pos) (sTruB (sBin g fa fb)) := by
  obtain ⟨r, o1, o2⟩ := ho
  obtain ⟨t, h1, h2⟩ := ha
  obtain ⟨u, g1, g2⟩ := hb
  refine ⟨_, pt_cmpR o1 h1 g1 hm, fun σ H F ρ d Q hs he hf q => ?_⟩
  obtain ⟨z, e0, hf⟩ := Option.bind_eq_some_iff.mp hf
  obtain ⟨x, e1, e0⟩ := Option.bind_eq_some_iff.mp e0
  obtain ⟨y, e2, e0⟩ := Option.bind_eq_some_iff.mp e0
  refine h2 σ H F ρ x _ hs he e1 fun v H1 F1 ex1 r1 => ?_
  refine g2 σ H1 F1 ρ y _ ex1.fh (he.up ex1.ff) e2 fun w H2 F2 ex2 r2 => ?_
  refine o2 H2 F2 v w x y z _ ex2.fh (r1.up ex2.ff) r2 e0 fun k H' F' ex rk => ?_
  cases z with
  | bl c => cases hf; cases rk; exact ⟨_, rfl, q _ _ ((ex1.trans ex2).trans ex)⟩
  | _ => cases hf
def sAnd (f g : Rho → Option Bool) : Rho → Option Bool := fun ρ => (f ρ).bind fun b => if b = true then g ρ else some false
def sOr (f g : Rho → Option Bool) : Rho → Option Bool := fun ρ => (f ρ).bind fun b => if b = true then some true else g ρ
def sNot (f : Rho → Option Bool) : Rho → Option Bool := fun ρ => (f ρ).map fun b => !b
variable {p q : Rho → Option Bool} {rest : List Expr}
theorem wp_tp (h : WP' X e p) : TP' X e p := let ⟨t, h1, h2⟩ := h; ⟨t, h1.pt, h2⟩
theorem wp_and1 (h : TP' X a p) : WP' X (.BoolOp .And [a] pos) p := let ⟨t, h1, h2⟩ := h; ⟨t, pw_and1 h1, h2⟩
theorem wp_or1 (h : TP' X a p) : WP' X (.BoolOp .Or [a] pos) p := let ⟨t, h1, h2⟩ := h; ⟨t, pw_or1 h1, h2⟩
theorem wp_and (h : TP' X a p) (g : WP' X (.BoolOp .And (b :: rest) pos) q) : WP' X (.BoolOp .And (a :: b :: rest) pos) (sAnd p q) := by
  obtain ⟨t, h1, h2⟩ := h
  obtain ⟨u, g1, g2⟩ := g
  refine ⟨_, pw_and h1 g1, fun σ H F ρ d Q hs he hf k => ?_⟩
  obtain ⟨c, e1, hf⟩ := Option.bind_eq_some_iff.mp hf
  refine h2 σ H F ρ c _ hs he e1 fun H1 F1 ex1 => ?_
  cases c with
  | true => exact iteT (g2 σ H1 F1 ρ d Q ex1.fh (he.up ex1.ff) hf fun H2 F2 ex2 => k _ _ (ex1.trans ex2))
  | false => cases hf; exact iteF (k _ _ ex1)
theorem wp_or (h : TP' X a p) (g : WP' X (.BoolOp .Or (b :: rest) pos) q) : WP' X (.BoolOp .Or (a :: b :: rest) pos) (sOr p q) := by
  obtain ⟨t, h1, h2⟩ := h
  obtain ⟨u, g1, g2⟩ := g
  refine ⟨_, pw_or h1 g1, fun σ H F ρ d Q hs he hf k => ?_⟩
  obtain ⟨c, e1, hf⟩ := Option.bind_eq_some_iff.mp hf
  refine h2 σ H F ρ c _ hs he e1 fun H1 F1 ex1 => ?_
  cases c with
  | false => exact iteF (g2 σ H1 F1 ρ d Q ex1.fh (he.up ex1.ff) hf fun H2 F2 ex2 => k _ _ (ex1.trans ex2))
  | true => cases hf; exact iteT (k _ _ ex1)
theorem tp_not (h : TP' X a p) : TP' X (.UnaryOp .Not a pos) (sNot p) := by
  obtain ⟨t, h1, h2⟩ := h
  refine ⟨_, pt_not h1, fun σ H F ρ d Q hs he hf k => ?_⟩
  obtain ⟨c, e1, hf⟩ := Option.map_eq_some_iff.mp hf
  subst hf
  exact h2 σ H F ρ c _ hs he e1 fun H1 F1 ex1 => k _ _ ex1
/-! ### .. as values (all of them bools) -/
def sAndV (f g : Rho → Option Dat) : Rho → Option Dat := fun ρ => (f ρ).bind fun d => match d with
  | .bl true => g ρ
  | .bl false => some (.bl false)
  | _ => none
def sOrV (f g : Rho → Option Dat) : Rho → Option Dat := fun ρ => (f ρ).bind fun d => match d with
  | .bl false => g ρ
  | .bl true => some (.bl true)
  | _ => none
def sNotV (f : Rho → Option Dat) : Rho → Option Dat := fun ρ => (f ρ).bind fun d => match d with
  | .bl b => some (.bl (!b))
  | _ => none
theorem pp_one {op} (h : PP X a fa) : PP X (.BoolOp op [a] pos) fa := let ⟨t, h1, h2⟩ := h; ⟨t, pe_one h1, h2⟩
theorem pp_and (h : PP X a fa) (g : PP X (.BoolOp .And (b :: rest) pos) fb) : PP X (.BoolOp .And (a :: b :: rest) pos) (sAndV fa fb) := by
  obtain ⟨t, h1, h2⟩ := h
  obtain ⟨u, g1, g2⟩ := g
  refine ⟨_, pe_and h1 g1, fun σ H F ρ d Q hs he hf k => ?_⟩
  obtain ⟨c, e1, hf⟩ := Option.bind_eq_some_iff.mp hf
  refine h2 σ H F ρ c _ hs he e1 fun v H1 F1 ex1 r1 => ?_
  cases c with
  | bl c =>
    cases r1
    refine ⟨_, rfl, ?_⟩
    cases c with
    | true => exact iteT (g2 σ H1 F1 ρ d Q ex1.fh (he.up ex1.ff) hf fun v H2 F2 ex2 r => k _ _ _ (ex1.trans ex2) r)
    | false => cases hf; exact iteF (k _ _ _ ex1 (.bl _))
  | _ => cases hf
theorem pp_or (h : PP X a fa) (g : PP X (.BoolOp .Or (b :: rest) pos) fb) : PP X (.BoolOp .Or (a :: b :: rest) pos) (sOrV fa fb) := by
  obtain ⟨t, h1, h2⟩ := h
  obtain ⟨u, g1, g2⟩ := g
  refine ⟨_, pe_or h1 g1, fun σ H F ρ d Q hs he hf k => ?_⟩
  obtain ⟨c, e1, hf⟩ := Option.bind_eq_some_iff.mp hf
  refine h2 σ H F ρ c _ hs he e1 fun v H1 F1 ex1 r1 => ?_
  cases c with
  | bl c =>
    cases r1
    refine ⟨_, rfl, ?_⟩
    cases c with
    | false => exact iteF (g2 σ H1 F1 ρ d Q ex1.fh (he.up ex1.ff) hf fun v H2 F2 ex2 r => k _ _ _ (ex1.trans ex2) r)
    | true => cases hf; exact iteT (k _ _ _ ex1 (.bl _))
  | _ => cases hf
theorem pp_not (h : PP X a fa) : PP X (.UnaryOp .Not a pos) (sNotV fa) := by
  obtain ⟨t, h1, h2⟩ := h
  refine ⟨_, pe_not h1, fun σ H F ρ d Q hs he hf k => ?_⟩
  obtain ⟨c, e1, hf⟩ := Option.bind_eq_some_iff.mp hf
  refine h2 σ H F ρ c _ hs he e1 fun v H1 F1 ex1 r1 => ?_
  cases c with
  | bl c => cases r1; cases hf; exact ⟨_, rfl, k _ _ _ ex1 (.bl _)⟩
  | _ => cases hf
def sIf (t : Rho → Option Bool) (f g : Rho → Option Dat) : Rho → Option Dat := fun ρ => (t ρ).bind fun b => if b = true then f ρ else g ρ
theorem pp_if (hc : TP' X c p) (ha : PP X a fa) (hb : PP X b fb) : PP X (.IfExp c a b pos) (sIf p fa fb) := by
  obtain ⟨t, h1, h2⟩ := hc
  obtain ⟨u, g1, g2⟩ := ha
  obtain ⟨w, k1, k2⟩ := hb
  refine ⟨_, pe_ifExp h1 g1 k1, fun σ H F ρ d Q hs he hf k => ?_⟩
  obtain ⟨c, e1, hf⟩ := Option.bind_eq_some_iff.mp hf
  refine h2 σ H F ρ c _ hs he e1 fun H1 F1 ex1 => ?_
  cases c with
  | true => exact iteT (g2 σ H1 F1 ρ d Q ex1.fh (he.up ex1.ff) hf fun v H2 F2 ex2 r => k _ _ _ (ex1.trans ex2) r)
  | false => exact iteF (k2 σ H1 F1 ρ d Q ex1.fh (he.up ex1.ff) hf fun v H2 F2 ex2 r => k _ _ _ (ex1.trans ex2) r)
end
end MV

namespace MV
open PySem PySem.Spec PyProof.Rows L2

/-! ## what is walked -/
structure WalkD (K : PySem.W.Frag) (J : It) (F : Hp) (ds : List Dat) : Prop where
  ex : ∃ G Y, L2.Walk J ds.length G Y ∧ (∀ H, Same F H → G H) ∧ ∀ (i : Nat) (H F2 : Hp) (x : V) (H3 : Hp), i < ds.length → Same F F2 → Same F2 H → Y i H x H3 → ∃ F3 d, ds[i]? = some d ∧ Ext H F2 H3 F3 ∧ Rep K F3 x d
  sz : ds.length ≤ sizeLine
def PIr (K : PySem.W.Frag) (wi : TI) (f : Rho → Option (List Dat)) : Prop := ∀ (σ : St) (H F : Hp) (ρ : Rho) (ds : List Dat) (R : It → Hp → Prop), Same F H → EnvF K F σ ρ → f ρ = some ds →
  (∀ J H' F', Ext H F H' F' → WalkD K J F' ds → R J H') → wi σ H R
def ID (X : Cx) (tg e : Expr) (f : Rho → Option (List Dat)) : Prop := ∃ wi, PI X tg e wi ∧ PIr X.K wi f

def seqOf : Dat → Option (List Dat)
  | .tup l => some l
  | .lst l => some l
  | .frl l => some l
  | .str z => some (z.cps.toList.map fun c => .str ⟨#[c]⟩)
  | _ => none
section
variable {K : PySem.W.Frag} {X : Cx} {tg e a b : Expr} {es : List Expr} {pos : Pos} {f fa fb : Rho → Option Dat}
theorem walkD_list {F : Hp} {p : Addr} {vs : List V} {ds : List Dat} (h : SqL K F p vs) (r : Reps K F vs ds) (z : ds.length ≤ sizeLine) : WalkD K (Itl K p) F ds := by
  refine ⟨⟨fun H => SqL K H p vs, YAt vs, by rw [← r.length]; exact walk_list, fun H s => s.seq h, fun i H F2 x H3 hi s1 s2 y => ?_⟩, z⟩
  obtain ⟨rfl, e⟩ := y
  obtain ⟨d, h1, h2⟩ := r.getV e
  exact ⟨F2, d, h1, .refl s2, h2.up s1⟩
theorem walkD_tup {F : Hp} {p : Addr} {vs : List V} {ds : List Dat} (h : SqT K F p vs) (r : Reps K F vs ds) (z : ds.length ≤ sizeLine) : WalkD K (Itt K p) F ds := by
  refine ⟨⟨fun H => SqT K H p vs, YAt vs, by rw [← r.length]; exact walk_tup, fun H s => Same.seqT s h, fun i H F2 x H3 hi s1 s2 y => ?_⟩, z⟩
  obtain ⟨rfl, e⟩ := y
  obtain ⟨d, h1, h2⟩ := r.getV e
  exact ⟨F2, d, h1, .refl s2, h2.up s1⟩
theorem walkD_str {F : Hp} {z : Str} (hz : z.length ≤ sizeLine) : WalkD K (Its z) F (z.cps.toList.map fun c => .str ⟨#[c]⟩) := by
  have e : (z.cps.toList.map fun c => Dat.str ⟨#[c]⟩).length = z.cps.size := by simp
  refine ⟨⟨fun _ => True, _, by rw [e]; exact walk_str, fun _ _ => trivial, fun i H F2 x H3 hi s1 s2 y => ?_⟩, by rw [e]; exact hz⟩
  obtain ⟨rfl, c, h1, rfl⟩ := y
  refine ⟨F2, .str ⟨#[c]⟩, ?_, .refl s2, .str _ (by show 1 ≤ sizeLine; decide)⟩
  rw [List.getElem?_map, Array.getElem?_toList, h1]; rfl
theorem PI.or {tg e : Expr} {w1 w2 : TI} (h : PI X tg e w1) (g : PI X tg e w2) : PI X tg e (fun σ H R => w1 σ H R ∨ w2 σ H R) :=
  ⟨fun pins s σ H R I q => q.elim (h.run pins s σ H R I) (g.run pins s σ H R I)⟩
/-- over a tuple, a list, a text -/
theorem id_seq (h : PP X e f) : ID X tg e (fun ρ => (f ρ).bind seqOf) := by
  obtain ⟨t, h1, h2⟩ := h
  refine ⟨_, PI.or (pi_list h1) (PI.or (pi_tup h1) (pi_str h1)), fun σ H F ρ ds R hs he hf q => ?_⟩
  obtain ⟨d, e1, hf⟩ := Option.bind_eq_some_iff.mp hf
  cases d with
  | lst l =>
    cases hf
    refine .inl (h2 σ H F ρ _ _ hs he e1 fun v H' F' ex r => ?_)
    cases r with
    | lst h r z => exact ⟨_, rfl, ⟨_, SqL.of (ex.fh _ _ h)⟩, q _ _ _ ex (walkD_list (SqL.of h) r z)⟩
  | frl l =>
    cases hf
    refine .inl (h2 σ H F ρ _ _ hs he e1 fun v H' F' ex r => ?_)
    cases r with
    | frl h r z => exact ⟨_, rfl, ⟨_, Same.seq ex.fh h⟩, q _ _ _ ex (walkD_list h r z)⟩
  | tup l =>
    cases hf
    refine .inr (.inl (h2 σ H F ρ _ _ hs he e1 fun v H' F' ex r => ?_))
    cases r with
    | tup h r z => exact ⟨_, rfl, ⟨_, Same.seqT ex.fh h⟩, q _ _ _ ex (walkD_tup h r z)⟩
  | str x =>
    cases hf
    refine .inr (.inr (h2 σ H F ρ _ _ hs he e1 fun v H' F' ex r => ?_))
    cases r with
    | str _ z => exact ⟨_, rfl, q _ _ _ ex (walkD_str z)⟩
  | _ => cases hf
/-- the numbers from lo, n of them -/
def rng (lo : Int) (n : Nat) : List Dat := (List.range n).map fun (i : Nat) => Dat.int (lo + (i : Int))
theorem rng_length {lo : Int} {n : Nat} : (rng lo n).length = n := by simp [rng]
theorem walkD_rng {F : Hp} {lo : Int} {n : Nat} (h : n ≤ sizeLine) : WalkD K (Itr lo n) F (rng lo n) := by
  refine ⟨⟨fun _ => True, _, by rw [rng_length]; exact walk_range, fun _ _ => trivial, fun i H F2 x H3 hi s1 s2 y => ?_⟩, by rw [rng_length]; exact h⟩
  obtain ⟨rfl, rfl⟩ := y
  rw [rng_length] at hi
  exact ⟨F2, .int (lo + i), by simp [rng, hi], .refl s2, .int _⟩
def rng1 : List Dat → Option (List Dat)
  | [.int n] => if n ≤ 1000000 ∧ -1000000 ≤ n then some (rng 0 n.toNat) else none
  | _ => none
def rng2 : List Dat → Option (List Dat)
  | [.int a, .int b] => if (b ≤ 1000000 ∧ -1000000 ≤ b) ∧ (a ≤ 1000000 ∧ -1000000 ≤ a) then some (rng a (b - a).toNat) else none
  | _ => none
def sItA (g : List Dat → Option (List Dat)) (fs : Rho → Option (List Dat)) : Rho → Option (List Dat) := fun ρ => (fs ρ).bind g
theorem id_range1 {fs : Rho → Option (List Dat)} {p : Pos} (hg : Gl X "range") (hm : X.mg "range" = none) (ha : AP' X [a] fs) (hs : starEach [a] X.env = [(false, eval a X.env)] := by rfl) : ID X tg (.Call (.Name "range" p) [a] [] pos) (sItA rng1 fs) := by
  obtain ⟨t, h1, h2⟩ := ha
  refine ⟨_, pi_range1 hg hm h1 hs, fun σ H F ρ ds R hs he hf q => ?_⟩
  obtain ⟨xs, e1, hf⟩ := Option.bind_eq_some_iff.mp hf
  unfold rng1 at hf
  split at hf
  · rename_i n
    split at hf
    · rename_i hn
      cases hf
      refine h2 σ H F ρ _ _ hs he e1 fun vs H' F' ex r => ?_
      cases r with
      | cons h r =>
        cases r; cases h
        exact ⟨n, rfl, by omega, by omega, q _ _ _ ex (walkD_rng (by rw [sizeLine_eq]; omega))⟩
    · cases hf
  · cases hf
theorem id_range2 {fs : Rho → Option (List Dat)} {p : Pos} (hg : Gl X "range") (hm : X.mg "range" = none) (ha : AP' X [a, b] fs) (hs : starEach [a, b] X.env = [(false, eval a X.env), (false, eval b X.env)] := by rfl) (hs2 : starEach [b] X.env = [(false, eval b X.env)] := by rfl) :
    ID X tg (.Call (.Name "range" p) [a, b] [] pos) (sItA rng2 fs) := by
  obtain ⟨t, h1, h2⟩ := ha
  refine ⟨_, pi_range2 hg hm h1 hs hs2, fun σ H F ρ ds R hs he hf q => ?_⟩
  obtain ⟨xs, e1, hf⟩ := Option.bind_eq_some_iff.mp hf
  unfold rng2 at hf
  split at hf
  · rename_i n m
    split at hf
    · rename_i hn
      cases hf
      refine h2 σ H F ρ _ _ hs he e1 fun vs H' F' ex r => ?_
      cases r with
      | cons h r =>
        cases h
        cases r with
        | cons h r =>
          cases h; cases r
          exact ⟨n, m, rfl, ⟨by omega, by omega, by omega, by omega⟩, q _ _ _ ex (walkD_rng (by rw [sizeLine_eq]; omega))⟩
    · cases hf
  · cases hf
/-- enumerate of a list -/
def enumL (l : List Dat) : List Dat := l.zipIdx.map fun p => .tup [.int (p.2 : Nat), p.1]
theorem walkD_pair {J : It} {n : Nat} {G : Hp → Prop} {fx fy : Nat → Option V} {gx gy : Nat → Option Dat} {F : Hp} {ds : List Dat} (w : L2.Walk J n G (YPair fx fy)) (hn : ds.length = n) (hG : ∀ H, Same F H → G H)
    (hx : ∀ i v, fx i = some v → ∃ d, gx i = some d ∧ Rep K F v d) (hy : ∀ i v, fy i = some v → ∃ d, gy i = some d ∧ Rep K F v d) (hd : ∀ i x y, i < n → gx i = some x → gy i = some y → ds[i]? = some (.tup [x, y])) (z : ds.length ≤ sizeLine) : WalkD K J F ds := by
  refine ⟨⟨G, _, by rw [hn]; exact w, hG, fun i H F2 x H3 hi s1 s2 y => ?_⟩, z⟩
  obtain ⟨T, u, v, rfl, hT, rfl, h1, h2⟩ := y
  obtain ⟨dx, g1, r1⟩ := hx i u h1
  obtain ⟨dy, g2, r2⟩ := hy i v h2
  have ex := Ext.new (u := .tup [u, v]) s2 hT
  exact ⟨_, _, hd i dx dy (hn ▸ hi) g1 g2, ex, .tup (SqT.of upd_same) (.cons ((r1.up s1).up ex.ff) (.cons ((r2.up s1).up ex.ff) .nil)) (by show 2 ≤ sizeLine; decide)⟩
theorem walkD_enum {F : Hp} {p : Addr} {vs : List V} {ds : List Dat} (h : SqL K F p vs) (r : Reps K F vs ds) (z : ds.length ≤ sizeLine) : WalkD K (Ite K p) F (enumL ds) := by
  have hl := r.length
  refine walkD_pair (K := K) (gx := fun i => some (.int (i : Nat))) (gy := fun i => ds[i]?) (walk_enum (xs := vs)) (by simp [enumL, hl]) (fun H s => s.seq h) (fun i v e => ?_) (fun i v e => ?_) (fun i x y hi e1 e2 => ?_) (by simpa [enumL] using z)
  · cases e; exact ⟨_, rfl, .int _⟩
  · exact r.getV e
  · cases e1
    simp [enumL, e2]
def enum1 : List Dat → Option (List Dat)
  | [.lst l] => some (enumL l)
  | [.frl l] => some (enumL l)
  | _ => none
theorem id_enumL {fs : Rho → Option (List Dat)} {p tpos : Pos} {elts : List Expr} {kk : Nat} (hg : Gl X "enumerate") (hm : X.mg "enumerate" = none) (ha : AP' X [e] fs) (hs : starEach [e] X.env = [(false, eval e X.env)] := by rfl) :
    ID X (.Tuple elts kk tpos) (.Call (.Name "enumerate" p) [e] [] pos) (sItA enum1 fs) := by
  obtain ⟨t, h1, h2⟩ := ha
  refine ⟨_, pi_enum hg hm h1 hs, fun σ H F ρ ds R hs he hf q => ?_⟩
  obtain ⟨xs, e1, hf⟩ := Option.bind_eq_some_iff.mp hf
  unfold enum1 at hf
  split at hf
  · cases hf
    refine h2 σ H F ρ _ _ hs he e1 fun vs H' F' ex r => ?_
    cases r with
    | cons h r =>
      cases r
      cases h with
      | lst h r z => exact ⟨_, _, rfl, SqL.of (ex.fh _ _ h), q _ _ _ ex (walkD_enum (SqL.of h) r z)⟩
  · cases hf
    refine h2 σ H F ρ _ _ hs he e1 fun vs H' F' ex r => ?_
    cases r with
    | cons h r =>
      cases r
      cases h with
      | frl h r z => exact ⟨_, _, rfl, Same.seq ex.fh h, q _ _ _ ex (walkD_enum h r z)⟩
  · cases hf
end

/-! ## targets: the slots that are set, and the parts of what is given -/
def setS (σ : St) : List Nat → List V → St
  | i :: is, v :: vs => setS (σ.set i (some v)) is vs
  | _, _ => σ
def setR (ρ : Rho) : List Nat → List Dat → Rho
  | i :: is, d :: ds => setR (ρ.set i (some d)) is ds
  | _, _ => ρ
def TGD (X : Cx) (tg : Expr) (is : List Nat) (get : Dat → Option (List Dat)) : Prop := ∃ g, PG X tg g ∧ ∀ (v : V) (d : Dat) (ds : List Dat) (σ : St) (H F : Hp) (Q : St → Hp → Prop), Same F H → Rep X.K F v d → get d = some ds →
  (∀ vs, Reps X.K F vs ds → vs.length = is.length → Q (setS σ is vs) H) → g v σ H Q
def TGDs (X : Cx) (tgs : List Expr) (is : List Nat) (get : List Dat → Option (List Dat)) : Prop := ∃ g, PGs X tgs g ∧ ∀ (xs : List V) (xd : List Dat) (ds : List Dat) (σ : St) (H F : Hp) (Q : St → Hp → Prop), Same F H → Reps X.K F xs xd → get xd = some ds →
  (∀ vs, Reps X.K F vs ds → vs.length = is.length → Q (setS σ is vs) H) → g xs σ H Q
def gNm : Dat → Option (List Dat) := fun d => some [d]
def gTp (n : Nat) (g : List Dat → Option (List Dat)) : Dat → Option (List Dat)
  | .tup l => if l.length = n then g l else none
  | _ => none
def gsNil : List Dat → Option (List Dat)
  | [] => some []
  | _ => none
def gsCons (g : Dat → Option (List Dat)) (gs : List Dat → Option (List Dat)) : List Dat → Option (List Dat)
  | d :: r => (g d).bind fun a => (gs r).bind fun b => some (a ++ b)
  | [] => none
theorem setS_append : ∀ (is js : List Nat) (vs ws : List V) (σ : St), vs.length = is.length → setS σ (is ++ js) (vs ++ ws) = setS (setS σ is vs) js ws
  | [], _, [], _, _, _ => rfl
  | i :: is, js, v :: vs, ws, σ, h => by
    simp only [List.cons_append, setS]
    exact setS_append is js vs ws _ (by simpa using h)
  | [], _, _ :: _, _, _, h => by simp at h
  | _ :: _, _, [], _, _, h => by simp at h
section
variable {X : Cx} {tg : Expr} {tgs : List Expr} {pos : Pos} {is js : List Nat} {get : Dat → Option (List Dat)} {gets : List Dat → Option (List Dat)}
theorem tg_nm (i : Nat) {x : Str} (hN : X.N.Nodup) (hi : X.N[i]? = some x := by rfl) (hx : Loc X.env.scope x := by first | exact Or.inl rfl | exact Or.inr rfl) (hf : X.fn x = true ∨ X.env.scope.names.lookup x = some .local := by first | exact .inl rfl | exact .inr rfl | assumption) : TGD X (.Name x pos) [i] gNm := by
  refine ⟨_, pg_name hN hi hx hf, fun v d ds σ H F Q hs r e q => ?_⟩
  cases e
  exact q [v] (.cons r .nil) rfl
theorem tgs_nil : TGDs X [] [] gsNil := by
  refine ⟨_, pgs_nil, fun xs xd ds σ H F Q hs r e q => ?_⟩
  unfold gsNil at e
  split at e
  · cases e; cases r; exact ⟨rfl, q [] .nil rfl⟩
  · cases e
theorem tgs_cons (h : TGD X tg is get) (g : TGDs X tgs js gets) (hs : (assignEach (tg :: tgs) X.env).map (·.2) = assign tg X.env :: (assignEach tgs X.env).map (·.2) := by rfl) : TGDs X (tg :: tgs) (is ++ js) (gsCons get gets) := by
  obtain ⟨t, h1, h2⟩ := h
  obtain ⟨u, g1, g2⟩ := g
  refine ⟨_, pgs_cons h1 g1 hs, fun xs xd ds σ H F Q hs' r e q => ?_⟩
  unfold gsCons at e
  split at e
  · rename_i d rd
    obtain ⟨a, e1, e⟩ := Option.bind_eq_some_iff.mp e
    obtain ⟨b, e2, e⟩ := Option.bind_eq_some_iff.mp e
    cases e
    cases r with
    | cons r1 r2 =>
      refine ⟨_, _, rfl, h2 _ _ _ σ H F _ hs' r1 e1 fun vs k1 k2 => ?_⟩
      refine g2 _ _ _ _ H F _ hs' r2 e2 fun ws k3 k4 => ?_
      rw [← setS_append _ _ _ _ _ k2]
      exact q _ (k1.append k3) (by simp [k2, k4])
  · cases e
theorem tg_tup {k n : Nat} (hc : X.calm = true) (h : TGDs X tgs is gets) (hn : (assignEach tgs X.env).length = n := by rfl) (hst : (assignEach tgs X.env).findIdx? (·.1) = none := by rfl) : TGD X (.Tuple tgs k pos) is (gTp n gets) := by
  obtain ⟨t, h1, h2⟩ := h
  refine ⟨_, pg_tup hc h1 hn hst, fun v d ds σ H F Q hs r e q => ?_⟩
  unfold gTp at e
  split at e
  · rename_i l
    split at e
    · rename_i hl
      cases r with
      | tup h r z =>
        exact ⟨_, _, rfl, Same.seqT hs h, by rw [r.length]; exact hl, h2 _ _ _ σ H F Q hs r e q⟩
    · cases e
  · cases e
end
theorem setR_length : ∀ (is : List Nat) (ds : List Dat) (ρ : Rho), (setR ρ is ds).length = ρ.length
  | [], _, _ => rfl
  | _ :: _, [], _ => rfl
  | i :: is, d :: ds, ρ => by simp only [setR]; rw [setR_length is ds]; simp
theorem EnvF.set {K : PySem.W.Frag} {F : Hp} {σ : St} {ρ : Rho} (h : EnvF K F σ ρ) {i : Nat} {v : V} {d : Dat} (r : Rep K F v d) : EnvF K F (σ.set i (some v)) (ρ.set i (some d)) := ⟨by simpa using h.1, fun j d' a b => by
  have hl := h.1
  by_cases hj : i = j
  · subst hj
    by_cases hi : i < ρ.length
    · rw [List.getElem?_set_self hi] at a; cases a
      exact ⟨v, by rw [List.getElem?_set_self (by omega)], r⟩
    · rw [List.getElem?_eq_none (by simpa using hi)] at a; cases a
  · rw [List.getElem?_set_ne hj] at a
    obtain ⟨w, c, r'⟩ := h.2 j d' a b
    exact ⟨w, by rw [List.getElem?_set_ne hj]; exact c, r'⟩⟩
theorem EnvF.sets {K : PySem.W.Frag} {F : Hp} : ∀ (is : List Nat) {σ : St} {ρ : Rho} {vs : List V} {ds : List Dat}, EnvF K F σ ρ → Reps K F vs ds → EnvF K F (setS σ is vs) (setR ρ is ds)
  | [], _, _, _, _, h, _ => h
  | i :: is, _, _, _, _, h, .nil => h
  | i :: is, _, _, _, _, h, .cons r t => EnvF.sets is (h.set r) t

/-! ## list comprehensions (pure) -/
def wipeR (ρ : Rho) : List Nat → Rho
  | [] => ρ
  | v :: vs => (wipeR ρ vs).set v none
theorem wipeR_length (ρ : Rho) : ∀ vs : List Nat, (wipeR ρ vs).length = ρ.length
  | [] => rfl
  | v :: vs => by unfold wipeR; rw [List.length_set, wipeR_length ρ vs]
theorem EnvF.wipe {K : PySem.W.Frag} {F : Hp} {σ : St} {ρ : Rho} (h : EnvF K F σ ρ) : ∀ vs : List Nat, EnvF K F (L2.wipe σ vs) (wipeR ρ vs)
  | [] => h
  | v :: vs => ⟨by rw [L2.wipe_length, wipeR_length]; exact h.1, fun j d a b => by
    unfold wipeR at a
    unfold L2.wipe
    by_cases hj : v = j
    · subst hj
      by_cases hi : v < (wipeR ρ vs).length
      · rw [List.getElem?_set_self hi] at a; cases a
      · rw [List.getElem?_eq_none (by simpa using hi)] at a; cases a
    · rw [List.getElem?_set_ne hj] at a ⊢
      exact (EnvF.wipe h vs).2 j d a b⟩
/-- the turns of a comprehension -/
def lcGo (ρ : Rho) (is : List Nat) (get : Dat → Option (List Dat)) (tt : Rho → Option Bool) (te : Rho → Option Dat) : List Dat → Option (List Dat)
  | [] => some []
  | d :: r => (get d).bind fun xs => (tt (setR ρ is xs)).bind fun b => if b = true then (te (setR ρ is xs)).bind fun y => (lcGo ρ is get tt te r).bind fun ys => some (y :: ys) else lcGo ρ is get tt te r
def sLC (own is : List Nat) (fi : Rho → Option (List Dat)) (get : Dat → Option (List Dat)) (tt : Rho → Option Bool) (te : Rho → Option Dat) : Rho → Option (List Dat) := fun ρ => (fi ρ).bind fun ds => lcGo (wipeR ρ own) is get tt te ds
def sYes : Rho → Option Bool := fun _ => some true
def TsD (X : Cx) (ifs : List Expr) (f : Rho → Option Bool) : Prop := ∃ t, PTs X ifs t ∧ PTr X.K t f
theorem ts_nil {X : Cx} : TsD X [] sYes := ⟨_, pts_nil, fun σ H F ρ b Q hs he hf q => by cases hf; exact q H F (.refl hs)⟩
theorem ts_one {X : Cx} {c : Expr} {f : Rho → Option Bool} (h : TP' X c f) : TsD X [c] f := let ⟨t, h1, h2⟩ := h; ⟨_, pts_one h1, h2⟩
theorem wipe_set (σ : St) : ∀ (vs : List Nat) (i : Nat) (x : Option V), i ∈ vs → L2.wipe (σ.set i x) vs = L2.wipe σ vs := by
  intro vs
  induction vs with
  | nil => intro i x h; cases h
  | cons v vs ih =>
    intro i x h
    unfold L2.wipe
    by_cases hm : i ∈ vs
    · rw [ih i x hm]
    · have e : i = v := by
        rcases List.mem_cons.mp h with h | h
        · exact h
        · exact absurd h hm
      subst e
      have aux : ∀ (ws : List Nat), i ∉ ws → L2.wipe (σ.set i x) ws = (L2.wipe σ ws).set i x := by
        intro ws
        induction ws with
        | nil => intro _; rfl
        | cons w ws ih2 =>
          intro hw
          have h1 : i ≠ w := fun e => hw (by simp [e])
          have h2 : i ∉ ws := fun e => hw (List.mem_cons_of_mem _ e)
          unfold L2.wipe
          rw [ih2 h2, List.set_comm _ _ h1]
      rw [aux vs hm, List.set_set]
theorem wipe_setS : ∀ (is : List Nat) (σ : St) (vs : List V) (own : List Nat), (∀ i ∈ is, i ∈ own) → L2.wipe (setS σ is vs) own = L2.wipe σ own
  | [], _, _, _, _ => rfl
  | _ :: _, _, [], _, _ => rfl
  | i :: is, σ, v :: vs, own, h => by
    simp only [setS]
    rw [wipe_setS is _ vs own (fun j hj => h j (List.mem_cons_of_mem _ hj)), wipe_set _ _ _ _ (h i (by simp))]
theorem wipe_wipe (σ : St) (own : List Nat) : L2.wipe (L2.wipe σ own) own = L2.wipe σ own := by
  have aux : ∀ (ws : List Nat), (∀ w ∈ ws, w ∈ own) → L2.wipe (L2.wipe σ ws) own = L2.wipe σ own := by
    intro ws
    induction ws with
    | nil => intro _; rfl
    | cons w ws ih =>
      intro h
      show L2.wipe ((L2.wipe σ ws).set w none) own = _
      rw [wipe_set _ _ _ _ (h w (by simp)), ih (fun v hv => h v (List.mem_cons_of_mem _ hv))]
  exact aux own fun w h => h
/-- the comprehension's reading, from those of its parts (within the block) -/
theorem lc_rd {K : PySem.W.Frag} {J : It} {F H : Hp} {ds ys : List Dat} {D : Addr} {g : TG} {tt : TT} {te : TE} {σ : St} {ρ : Rho} {own is : List Nat} {get : Dat → Option (List Dat)} {ft : Rho → Option Bool} {fe : Rho → Option Dat} {Qd : Hp → Prop}
    (w : WalkD K J F ds)
    (hg : ∀ (v : V) (d : Dat) (ds : List Dat) (σ : St) (H F : Hp) (Q : St → Hp → Prop), Same F H → Rep K F v d → get d = some ds → (∀ vs, Reps K F vs ds → vs.length = is.length → Q (setS σ is vs) H) → g v σ H Q)
    (ht : PTr K tt ft) (he : PPr K te fe) (hi0 : ∀ i ∈ is, i ∈ own) (hs : Same F H) (hE : EnvF K F σ ρ) (hD : H D = none) (hgo : lcGo (wipeR ρ own) is get ft fe ds = some ys)
    (hq : ∀ vs H' F', Ext H F H' F' → H' D = some (.lst vs) → F' D = none → Reps K F' vs ys → ys.length ≤ sizeLine → Qd H') :
    ∃ W : Nat → Nat → Hp → Prop, (∃ m, W 0 m (upd H D (.lst []))) ∧ ∀ i m H, W i m H →
      (J.stop i H ∧ Qd H) ∨ (J.go i H ∧ ∃ Nx : Hp → Prop, (∀ H', Nx H' → ∃ m', m' < m ∧ W (i + 1) m' H') ∧ ∀ x H', J.yld i H x H' → g x (L2.wipe σ own) H' fun σ2 H2 => L2.wipe σ2 own = L2.wipe σ own ∧ tt σ2 H2 fun b H3 =>
        if b = true then te σ2 H3 fun y H4 => ∃ acc, H4 D = some (.lst acc) ∧ acc.length < sizeLine ∧ Nx (upd H4 D (.lst (acc ++ [y]))) else Nx H3) := by
  obtain ⟨⟨G, Y, wk, hG, hY⟩, hz⟩ := w
  have hFD : F D = none := hs.free hD
  -- the state: what is done, what is left; all but D as before
  let Pv : Nat → Hp → Prop := fun i Hc => ∃ acc as bs F2, Hc D = some (.lst acc) ∧ F2 D = none ∧ Reps K F2 acc as ∧ as.length ≤ i ∧ lcGo (wipeR ρ own) is get ft fe (ds.drop i) = some bs ∧ ys = as ++ bs ∧ Same F F2 ∧ Same F2 Hc ∧ Same H Hc ∧ (∀ a u, F2 a = some u → F a = some u ∨ H a = none)
  refine lc_it wk Pv ⟨[], [], ys, F, upd_same, hFD, .nil, Nat.zero_le _, by simpa using hgo, rfl, Same.refl _, fun b o e => ?_, fun b o e => ?_, fun a u e => .inl e⟩ (fun i Hc hi p => ?_) (fun i x Hc H' hi p y => ?_) (fun Hc p => ?_)
  · rw [upd_ne (ne_of_none (hs b o e) hD)]; exact hs b o e
  · rw [upd_ne (ne_of_none e hD)]; exact e
  · obtain ⟨acc, as, bs, F2, h1, h2, h3, h4, h5, h6, h7, h8, h9, h10⟩ := p
    exact hG Hc (h7.trans h8)
  · obtain ⟨acc, as, bs, F2, h1, h2, h3, h4, h5, h6, h7, h8, h9, h10⟩ := p
    obtain ⟨F3, d, e1, ex, r⟩ := hY i Hc F2 x H' hi h7 h8 y
    have hdrop : ds.drop i = d :: ds.drop (i + 1) := by
      obtain ⟨hi', e⟩ := List.getElem?_eq_some_iff.mp e1
      rw [List.drop_eq_getElem_cons hi', e]
    rw [hdrop] at h5
    simp only [lcGo] at h5
    obtain ⟨xs, k1, h5⟩ := Option.bind_eq_some_iff.mp h5
    obtain ⟨c, k2, h5⟩ := Option.bind_eq_some_iff.mp h5
    have hF3D : F3 D = none := by
      cases q : F3 D with
      | none => rfl
      | some u =>
        rcases ex.nw D u q with z | z
        · rw [h2] at z; cases z
        · rw [h1] at z; cases z
    refine hg x d xs _ H' F3 _ ex.fh r k1 fun vs r2 l2 => ⟨by rw [wipe_setS _ _ _ _ hi0, wipe_wipe], ?_⟩
    have hE2 : EnvF K F3 (setS (L2.wipe σ own) is vs) (setR (wipeR ρ own) is xs) := EnvF.sets is (((hE.up h7).up ex.ff).wipe own) r2
    refine ht _ H' F3 _ c _ ex.fh hE2 k2 fun H4 F4 ex2 => ?_
    have keepD : ∀ {Hx Fx Hy Fy : Hp}, Ext Hx Fx Hy Fy → Hx D = some (.lst acc) → Fx D = none → Hy D = some (.lst acc) ∧ Fy D = none := fun {Hx Fx Hy Fy} z a b => ⟨z.hh _ _ a, by
      cases q : Fy D with
      | none => rfl
      | some u =>
        rcases z.nw D u q with y | y
        · rw [b] at y; cases y
        · rw [a] at y; cases y⟩
    obtain ⟨d1, d2⟩ := keepD ex h1 h2
    obtain ⟨d3, d4⟩ := keepD ex2 d1 d2
    cases c with
    | false =>
      refine iteF ?_
      rw [if_neg Bool.false_ne_true] at h5
      exact ⟨acc, as, bs, F4, d3, d4, (h3.up ex.ff).up ex2.ff, Nat.le_succ_of_le h4, h5, h6, (h7.trans ex.ff).trans ex2.ff, ex2.fh, (h9.trans ex.hh).trans ex2.hh, fun a u q => by
        rcases ex2.nw a u q with z | z
        · rcases ex.nw a u z with z | z
          · exact h10 a u z
          · exact .inr (h9.free z)
        · exact .inr (h9.free (ex.hh.free z))⟩
    | true =>
      refine iteT ?_
      rw [if_pos rfl] at h5
      obtain ⟨yd, k3, h5⟩ := Option.bind_eq_some_iff.mp h5
      obtain ⟨bs', k4, h5⟩ := Option.bind_eq_some_iff.mp h5
      cases h5
      refine he _ H4 F4 _ yd _ ex2.fh (hE2.up ex2.ff) k3 fun yv H5 F5 ex3 r3 => ?_
      obtain ⟨d5, d6⟩ := keepD ex3 d3 d4
      have hlen : acc.length < sizeLine := by rw [h3.length]; omega
      refine ⟨acc, d5, hlen, acc ++ [yv], as ++ [yd], bs', F5, upd_same, d6, (((h3.up ex.ff).up ex2.ff).up ex3.ff).snoc r3, by simp; omega, k4, by simp [h6], ((h7.trans ex.ff).trans ex2.ff).trans ex3.ff, fun b o q => ?_, fun b o q => ?_, fun a u q => ?_⟩
      · rw [upd_ne (fun z => by rw [z, d6] at q; cases q)]; exact ex3.fh b o q
      · rw [upd_ne (fun z => by rw [z, hD] at q; cases q)]; exact ((h9.trans ex.hh).trans ex2.hh).trans ex3.hh b o q
      · rcases ex3.nw a u q with z | z
        · rcases ex2.nw a u z with z | z
          · rcases ex.nw a u z with z | z
            · exact h10 a u z
            · exact .inr (h9.free z)
          · exact .inr (h9.free (ex.hh.free z))
        · exact .inr (h9.free (ex.hh.free (ex2.hh.free z)))
  · obtain ⟨acc, as, bs, F2, h1, h2, h3, h4, h5, h6, h7, h8, h9, h10⟩ := p
    rw [List.drop_length] at h5
    cases h5
    rw [List.append_nil] at h6
    subst h6
    exact hq acc Hc F2 ⟨h9, h7, h8, h10⟩ h1 h2 h3 (by omega)
end MV

namespace MV
open PySem PySem.Spec PyProof.Rows L2

/-! ## the readings by the functions alone -/
def tD (K : PySem.W.Frag) (f : Rho → Option Dat) : TE := fun σ H Q => ∃ F ρ d, Same F H ∧ EnvF K F σ ρ ∧ f ρ = some d ∧ WP K H F d Q
theorem tD_rd {K : PySem.W.Frag} {f : Rho → Option Dat} : PPr K (tD K f) f := fun σ H F ρ d Q hs he hf q => ⟨F, ρ, d, hs, he, hf, q⟩
theorem PP.pe {X : Cx} {e : Expr} {f : Rho → Option Dat} (h : PP X e f) : PE X e (tD X.K f) := by
  obtain ⟨t, h1, h2⟩ := h
  refine ⟨fun pins s σ H Q I q => ?_⟩
  obtain ⟨F, ρ, d, hs, he, hf, q⟩ := q
  exact h1.run pins s σ H Q I (h2 σ H F ρ d Q hs he hf q)
def tDT (K : PySem.W.Frag) (f : Rho → Option Bool) : TT := fun σ H Q => ∃ F ρ b, Same F H ∧ EnvF K F σ ρ ∧ f ρ = some b ∧ ∀ H' F', Ext H F H' F' → Q b H'
theorem tDT_rd {K : PySem.W.Frag} {f : Rho → Option Bool} : PTr K (tDT K f) f := fun σ H F ρ d Q hs he hf q => ⟨F, ρ, d, hs, he, hf, q⟩
theorem TsD.pts {X : Cx} {ifs : List Expr} {f : Rho → Option Bool} (h : TsD X ifs f) : PTs X ifs (tDT X.K f) := by
  obtain ⟨t, h1, h2⟩ := h
  refine ⟨fun pins s σ H Q I q => ?_⟩
  obtain ⟨F, ρ, d, hs, he, hf, q⟩ := q
  exact h1.run pins s σ H Q I (h2 σ H F ρ d Q hs he hf q)
def gD (K : PySem.W.Frag) (is : List Nat) (get : Dat → Option (List Dat)) : TG := fun v σ H Q => ∃ F d ds, Same F H ∧ Rep K F v d ∧ get d = some ds ∧ ∀ vs, Reps K F vs ds → vs.length = is.length → Q (setS σ is vs) H
theorem TGD.pg {X : Cx} {tg : Expr} {is : List Nat} {get : Dat → Option (List Dat)} (h : TGD X tg is get) : PG X tg (gD X.K is get) := by
  obtain ⟨t, h1, h2⟩ := h
  refine ⟨fun pins s σ H v u Q I r q => ?_⟩
  obtain ⟨F, d, ds, hs, hr, hg, q⟩ := q
  exact h1.run pins s σ H v u Q I r (h2 v d ds σ H F Q hs hr hg q)
theorem gD_rd {K : PySem.W.Frag} {is : List Nat} {get : Dat → Option (List Dat)} (v : V) (d : Dat) (ds : List Dat) (σ : St) (H F : Hp) (Q : St → Hp → Prop) (hs : Same F H) (hr : Rep K F v d) (hg : get d = some ds)
    (q : ∀ vs, Reps K F vs ds → vs.length = is.length → Q (setS σ is vs) H) : gD K is get v σ H Q := ⟨F, d, ds, hs, hr, hg, q⟩
abbrev Cx.bk (X : Cx) (scope : Scope) (s : Shared) (H : Hp) (C : Addr) (cl : List (Str × Addr)) (fp : List Addr) : Cx := X.blk s H scope (compEnvC scope cl C X.env) fp

section
variable {X : Cx} {tg e iter elt : Expr} {ifs : List Expr} {pos : Pos} {scope : Scope} {own : List (Str × Nat)} {is : List Nat} {fi : Rho → Option (List Dat)} {get : Dat → Option (List Dat)} {ft : Rho → Option Bool} {fe : Rho → Option Dat}
theorem PE.imp {t t' : TE} (h : PE X e t) (i : ∀ σ H Q, t' σ H Q → t σ H Q) : PE X e t' := ⟨fun pins s σ H Q I q => h.run pins s σ H Q I (i σ H Q q)⟩
/-- [elt for tg in iter if ..] -/
theorem pf_lc (hc : X.calm = true) (hN : X.N.Nodup) (hi : ID X tg iter fi) (ok : BlkOk X.N X.env.scope scope own)
    (hg : ∀ (s : Shared) (H : Hp) (C : Addr) (cl : List (Str × Addr)) (fp : List Addr), TGD (Cx.bk X scope s H C cl fp) tg is get) (ht : ∀ (s : Shared) (H : Hp) (C : Addr) (cl : List (Str × Addr)) (fp : List Addr), TsD (Cx.bk X scope s H C cl fp) ifs ft)
    (he : ∀ (s : Shared) (H : Hp) (C : Addr) (cl : List (Str × Addr)) (fp : List Addr), PP (Cx.bk X scope s H C cl fp) elt fe) (his : (is.all fun i => (own.map (·.2)).contains i) = true := by decide) (hs : ∀ x, foldedSetIterable iter X.env x = pure x := by intro _; rfl) :
    PF X (.ListComp elt [⟨tg, iter, ifs, 0⟩] scope pos) (sLC (own.map (·.2)) is fi get ft fe) := by
  obtain ⟨wi, h1, h2⟩ := hi
  have q := pe_lc (pos := pos) (g := gD X.K is get) (tt := tDT X.K ft) (te := tD X.K fe) hc hN h1 ok (fun s H C cl fp => (hg s H C cl fp).pg) (fun s H C cl fp => (ht s H C cl fp).pts) (fun s H C cl fp => (he s H C cl fp).pe) hs
  have his' : ∀ i ∈ is, i ∈ own.map (·.2) := fun i hm => by
    have := List.all_eq_true.mp his i hm
    simpa using this
  refine ⟨_, q, fun σ H F ρ ys Q hs hE hf hq => ?_⟩
  obtain ⟨ds, e1, hf⟩ := Option.bind_eq_some_iff.mp hf
  refine h2 σ H F ρ ds _ hs hE e1 fun J H1 F1 ex w => fun D hD => ?_
  exact lc_rd (g := gD X.K is get) (tt := tDT X.K ft) (te := tD X.K fe) (Qd := fun H => Q (.ref D) H) w gD_rd tDT_rd tD_rd his' ex.fh (hE.up ex.ff) hD hf
    fun vs H' F' ex2 hD' hF' r z => hq D vs H' F' (ex.trans ex2) (ex.hh.free hD) hD' hF' r z
end
end MV

namespace MV
open PySem PySem.Spec PyProof.Rows L2

/-! ## owned data: lists and objects that one slot alone holds -/
/-- whose: a slot's, or what is held meanwhile (0: a result) -/
abbrev Root := Nat ⊕ Nat
abbrev Lab := Root × List Nat
abbrev Ow := Addr → Option Lab
/-- classes by number: the class's address, its fields in order -/
abbrev CT := Nat → Addr × List Str
mutual
def Own (K : PySem.W.Frag) (T : CT) (F H : Hp) (o : Ow) (r : Root) : List Nat → Dat → V → Prop
  | p, .mls ds, v => ∃ a vs, v = .ref a ∧ o a = some (r, p) ∧ H a = some (.lst vs) ∧ ds.length ≤ sizeLine ∧ Owns K T F H o r p 0 ds vs
  | p, .obj c ds, v => ∃ a dx vs, v = .ref a ∧ o a = some (r, p) ∧ H a = some (.ins (T c).1 dx ((T c).2.zip vs)) ∧ vs.length ≤ (T c).2.length ∧ Owns K T F H o r p 0 ds vs
  | _, .non, v => Rep K F v .non
  | _, .bl b, v => Rep K F v (.bl b)
  | _, .int i, v => Rep K F v (.int i)
  | _, .str s, v => Rep K F v (.str s)
  | _, .tup l, v => Rep K F v (.tup l)
  | _, .lst l, v => Rep K F v (.lst l)
  | _, .frl l, v => Rep K F v (.frl l)
def Owns (K : PySem.W.Frag) (T : CT) (F H : Hp) (o : Ow) (r : Root) : List Nat → Nat → List Dat → List V → Prop
  | _, _, [], vs => vs = []
  | p, i, d :: ds, vs => ∃ v vs', vs = v :: vs' ∧ Own K T F H o r (i :: p) d v ∧ Owns K T F H o r p (i + 1) ds vs'
end
section
variable {K : PySem.W.Frag} {T : CT} {F H F' H' : Hp} {o o' : Ow} {r : Root}
theorem own_fz : ∀ {d : Dat} {p : List Nat} {v : V}, d.fz = true → (Own K T F H o r p d v ↔ Rep K F v d)
  | .mls _, _, _, h => by cases h
  | .obj _ _, _, _, h => by cases h
  | .non, _, _, _ => by unfold Own; exact Iff.rfl
  | .bl _, _, _, _ => by unfold Own; exact Iff.rfl
  | .int _, _, _, _ => by unfold Own; exact Iff.rfl
  | .str _, _, _, _ => by unfold Own; exact Iff.rfl
  | .tup _, _, _, _ => by unfold Own; exact Iff.rfl
  | .lst _, _, _, _ => by unfold Own; exact Iff.rfl
  | .frl _, _, _, _ => by unfold Own; exact Iff.rfl
theorem Rep.fz {v : V} {d : Dat} (h : Rep K F v d) : d.fz = true := by cases h <;> rfl
theorem Rep.own {v : V} {d : Dat} {p : List Nat} (h : Rep K F v d) : Own K T F H o r p d v := (own_fz h.fz).mpr h
theorem Reps.owns : ∀ {ds : List Dat} {vs : List V} {p : List Nat} {i : Nat}, Reps K F vs ds → Owns K T F H o r p i ds vs
  | [], _, _, _, h => by cases h; unfold Owns; rfl
  | d :: ds, _, _, _, h => by
    cases h with
    | cons h t => unfold Owns; exact ⟨_, _, rfl, h.own, Reps.owns t⟩
theorem owns_reps : ∀ {ds : List Dat} {vs : List V} {p : List Nat} {i : Nat}, ds.all Dat.fz = true → Owns K T F H o r p i ds vs → Reps K F vs ds
  | [], _, _, _, _, h => by unfold Owns at h; subst h; exact .nil
  | d :: ds, _, _, _, hz, h => by
    unfold Owns at h
    obtain ⟨v, vs', rfl, h1, h2⟩ := h
    rw [List.all_cons, Bool.and_eq_true] at hz
    exact .cons ((own_fz hz.1).mp h1) (owns_reps hz.2 h2)
mutual
theorem Own.keep {r' : Root} (hF : Same F F') : ∀ (d : Dat) (p p' : List Nat) (v : V), (∀ a q, o a = some (r, q ++ p) → o' a = some (r', q ++ p') ∧ H' a = H a) → Own K T F H o r p d v → Own K T F' H' o' r' p' d v
  | .mls ds, p, p', v, hk, h => by
    unfold Own at h ⊢
    obtain ⟨a, vs, e, h1, h2, hz, h3⟩ := h
    obtain ⟨k1, k2⟩ := hk a [] h1
    exact ⟨a, vs, e, k1, k2.trans h2, hz, Owns.keep hF ds p p' 0 vs hk h3⟩
  | .obj c ds, p, p', v, hk, h => by
    unfold Own at h ⊢
    obtain ⟨a, dx, vs, e, h1, h2, hz, h3⟩ := h
    obtain ⟨k1, k2⟩ := hk a [] h1
    exact ⟨a, dx, vs, e, k1, k2.trans h2, hz, Owns.keep hF ds p p' 0 vs hk h3⟩
  | .non, _, _, _, _, h => by unfold Own at h ⊢; exact h.up hF
  | .bl _, _, _, _, _, h => by unfold Own at h ⊢; exact h.up hF
  | .int _, _, _, _, _, h => by unfold Own at h ⊢; exact h.up hF
  | .str _, _, _, _, _, h => by unfold Own at h ⊢; exact h.up hF
  | .tup _, _, _, _, _, h => by unfold Own at h ⊢; exact h.up hF
  | .lst _, _, _, _, _, h => by unfold Own at h ⊢; exact h.up hF
  | .frl _, _, _, _, _, h => by unfold Own at h ⊢; exact h.up hF
theorem Owns.keep {r' : Root} (hF : Same F F') : ∀ (ds : List Dat) (p p' : List Nat) (i : Nat) (vs : List V), (∀ a q, o a = some (r, q ++ p) → o' a = some (r', q ++ p') ∧ H' a = H a) → Owns K T F H o r p i ds vs → Owns K T F' H' o' r' p' i ds vs
  | [], _, _, _, _, _, h => by unfold Owns at h ⊢; exact h
  | d :: ds, p, p', i, vs, hk, h => by
    unfold Owns at h ⊢
    obtain ⟨v, vs', e, h1, h2⟩ := h
    refine ⟨v, vs', e, Own.keep hF d (i :: p) (i :: p') v (fun a q e => ?_) h1, Owns.keep hF ds p p' (i + 1) vs' hk h2⟩
    have e1 : ∀ p : List Nat, q ++ i :: p = (q ++ [i]) ++ p := fun p => by simp
    rw [e1] at e ⊢
    exact hk a _ e
end
end

/-! ## the state within a def -/
structure Bs where
  H : Hp
  F : Hp
  o : Ow
  s : St
  hd : List (Nat × V × Dat) := []
structure Jc where
  T : CT
  pn : List Nat
  E : XK
/-- what an owned address holds -/
def ObjO : Option HO → Prop
  | some (.lst _) => True
  | some (.ins _ _ _) => True
  | _ => False
structure Wd (K : PySem.W.Frag) (J : Jc) (B : Bs) (H F : Hp) (o : Ow) (σ : St) (ρ : Rho) : Prop where
  fh : Same F H
  fo : ∀ a u, F a = some u → o a = none
  oh : ∀ a q, o a = some q → ObjO (H a)
  len : σ.length = ρ.length
  sl : ∀ (i : Nat) (d : Dat), ρ[i]? = some (some d) → ∃ v, σ[i]? = some (some v) ∧ Own K J.T F H o (.inl i) [] d v
  pr : ∀ i ∈ J.pn, σ[i]? = B.s[i]?
  bk : ∀ a u, B.H a = some u → B.o a = none → H a = some u
  bf : Same B.F F
  bo : ∀ a q, o a = some q → B.o a ≠ none ∨ B.H a = none
  bn : ∀ a u, F a = some u → B.F a = some u ∨ B.o a ≠ none ∨ B.H a = none
  hl : ∀ x ∈ B.hd, Own K J.T F H o (.inr (x.1 + 1)) [] x.2.2 x.2.1
section
variable {K : PySem.W.Frag} {J : Jc} {B : Bs} {H F H' F' : Hp} {o o' : Ow} {σ σ' : St} {ρ ρ' : Rho}
theorem Wd.ex (w : Wd K J B H F o σ ρ) {a : Addr} {q : Lab} (h : o a = some q) : ∃ u, H a = some u := by
  have := w.oh a q h
  cases e : H a with
  | none => rw [e] at this; exact this.elim
  | some u => exact ⟨u, rfl⟩
theorem Wd.on (w : Wd K J B H F o σ ρ) {a : Addr} (h : H a = none) : o a = none := by
  cases e : o a with
  | none => rfl
  | some q => obtain ⟨u, z⟩ := w.ex e; rw [h] at z; cases z
theorem Wd.bh (w : Wd K J B H F o σ ρ) {a : Addr} (h : H a = none) : B.o a ≠ none ∨ B.H a = none := by
  by_cases e : B.o a = none
  · refine .inr ?_
    cases q : B.H a with
    | none => rfl
    | some u => rw [w.bk a u q e] at h; cases h
  · exact .inl e
theorem Wd.envF (w : Wd K J B H F o σ ρ) : EnvF K F σ ρ := ⟨w.len, fun i d e z => by
  obtain ⟨v, h1, h2⟩ := w.sl i d e
  exact ⟨v, h1, (own_fz z).mp h2⟩⟩
/-- the frozen part and the heap grow -/
theorem Wd.ext (w : Wd K J B H F o σ ρ) (e : Ext H F H' F') : Wd K J B H' F' o σ ρ where
  fh := e.fh
  fo := fun a u q => by
    rcases e.nw a u q with z | z
    · exact w.fo a u z
    · exact w.on z
  oh := fun a q h => by
    have := w.oh a q h
    obtain ⟨u, z⟩ := w.ex h
    rw [e.hh a u z]; rw [z] at this; exact this
  len := w.len
  sl := fun i d q => by
    obtain ⟨v, h1, h2⟩ := w.sl i d q
    refine ⟨v, h1, Own.keep e.ff d [] [] v (fun a p h => ⟨h, ?_⟩) h2⟩
    obtain ⟨u, z⟩ := w.ex h
    rw [e.hh a u z, z]
  pr := w.pr
  bk := fun a u h z => e.hh a u (w.bk a u h z)
  bf := w.bf.trans e.ff
  bo := w.bo
  bn := fun a u h => by
    rcases e.nw a u h with z | z
    · exact w.bn a u z
    · exact .inr (w.bh z)
  hl := fun x hx => by
    refine Own.keep e.ff x.2.2 [] [] x.2.1 (fun a p h => ⟨h, ?_⟩) (w.hl x hx)
    obtain ⟨u, z⟩ := w.ex h
    rw [e.hh a u z, z]
/-- a frozen value into a slot -/
theorem Wd.set (w : Wd K J B H F o σ ρ) {i : Nat} (hi : i ∉ J.pn) {v : V} {d : Dat} (r : Rep K F v d) : Wd K J B H F o (σ.set i (some v)) (ρ.set i (some d)) where
  fh := w.fh
  fo := w.fo
  oh := w.oh
  len := by simpa using w.len
  sl := fun j d' q => by
    by_cases hj : i = j
    · subst hj
      by_cases hl : i < ρ.length
      · rw [List.getElem?_set_self hl] at q; cases q
        exact ⟨v, by rw [List.getElem?_set_self (by rw [w.len]; exact hl)], r.own⟩
      · rw [List.getElem?_eq_none (by simpa using hl)] at q; cases q
    · rw [List.getElem?_set_ne hj] at q
      obtain ⟨v', h1, h2⟩ := w.sl j d' q
      exact ⟨v', by rw [List.getElem?_set_ne hj]; exact h1, h2⟩
  pr := fun j hj => by
    rw [List.getElem?_set_ne (show i ≠ j from fun e => hi (by rw [e]; exact hj))]; exact w.pr j hj
  bk := w.bk
  bf := w.bf
  bo := w.bo
  bn := w.bn
  hl := w.hl
/-- forgetting slots -/
theorem Wd.weak (w : Wd K J B H F o σ ρ) (hl : ρ'.length = ρ.length) (h : ∀ (i : Nat) (d : Dat), ρ'[i]? = some (some d) → ρ[i]? = some (some d)) : Wd K J B H F o σ ρ' :=
  ⟨w.fh, w.fo, w.oh, by rw [hl]; exact w.len, fun i d q => w.sl i d (h i d q), w.pr, w.bk, w.bf, w.bo, w.bn, w.hl⟩
/-- a fresh list into a slot, owned -/
theorem Wd.setO (w : Wd K J B H F o σ ρ) {i : Nat} (hi : i ∉ J.pn) {a : Addr} {vs : List V} {ds : List Dat} (ha : H a = some (.lst vs)) (hf : F a = none) (ho : o a = none) (hb : B.o a ≠ none ∨ B.H a = none) (r : Reps K F vs ds) (hz : ds.length ≤ sizeLine) :
    Wd K J B H F (fun b => if b = a then some (.inl i, []) else o b) (σ.set i (some (.ref a))) (ρ.set i (some (.mls ds))) where
  fh := w.fh
  fo := fun b u q => by
    by_cases h : b = a
    · subst h; rw [hf] at q; cases q
    · rw [if_neg h]; exact w.fo b u q
  oh := fun b q h => by
    by_cases e : b = a
    · subst e; rw [ha]; trivial
    · rw [if_neg e] at h; exact w.oh b q h
  len := by simpa using w.len
  sl := fun j d' q => by
    by_cases hj : i = j
    · subst hj
      by_cases hl : i < ρ.length
      · rw [List.getElem?_set_self hl] at q; cases q
        refine ⟨.ref a, by rw [List.getElem?_set_self (by rw [w.len]; exact hl)], ?_⟩
        unfold Own
        exact ⟨a, vs, rfl, if_pos rfl, ha, hz, r.owns⟩
      · rw [List.getElem?_eq_none (by simpa using hl)] at q; cases q
    · rw [List.getElem?_set_ne hj] at q
      obtain ⟨v', h1, h2⟩ := w.sl j d' q
      refine ⟨v', by rw [List.getElem?_set_ne hj]; exact h1, Own.keep (Same.refl _) d' [] [] v' (fun b p h => ⟨?_, rfl⟩) h2⟩
      rw [if_neg (fun e => by rw [e, ho] at h; cases h)]; exact h
  pr := fun j hj => by
    rw [List.getElem?_set_ne (show i ≠ j from fun e => hi (by rw [e]; exact hj))]; exact w.pr j hj
  bk := w.bk
  bf := w.bf
  bo := fun b q h => by
    by_cases e : b = a
    · subst e; exact hb
    · rw [if_neg e] at h; exact w.bo b q h
  bn := w.bn
  hl := fun x hx => Own.keep (Same.refl _) x.2.2 [] [] x.2.1 (fun b p h => ⟨by rw [if_neg (fun e => by rw [e, ho] at h; cases h)]; exact h, rfl⟩) (w.hl x hx)
/-- the list that a slot owns is changed (its items frozen) -/
theorem Wd.upd (w : Wd K J B H F o σ ρ) {i : Nat} {a : Addr} {vs vs' : List V} {ds ds' : List Dat} (hρ : ρ[i]? = some (some (.mls ds))) (hσ : σ[i]? = some (some (.ref a))) (ho : o a = some (.inl i, [])) (ha : H a = some (.lst vs)) (r : Reps K F vs' ds') (hz : ds'.length ≤ sizeLine) :
    Wd K J B (upd H a (.lst vs')) F o σ (ρ.set i (some (.mls ds'))) where
  fh := fun b u q => by
    rw [upd_ne (fun e => by have := w.fo b u q; rw [e, ho] at this; cases this)]; exact w.fh b u q
  fo := w.fo
  oh := fun b q h => by
    by_cases e : b = a
    · subst e; rw [upd_same]; trivial
    · rw [upd_ne e]; exact w.oh b q h
  len := by simpa using w.len
  sl := fun j d' q => by
    by_cases hj : i = j
    · subst hj
      have hl : i < ρ.length := (List.getElem?_eq_some_iff.mp hρ).1
      rw [List.getElem?_set_self hl] at q; cases q
      refine ⟨.ref a, hσ, ?_⟩
      unfold Own
      exact ⟨a, vs', rfl, ho, upd_same, hz, r.owns⟩
    · rw [List.getElem?_set_ne hj] at q
      obtain ⟨v', h1, h2⟩ := w.sl j d' q
      refine ⟨v', h1, Own.keep (Same.refl _) d' [] [] v' (fun b p h => ⟨h, ?_⟩) h2⟩
      rw [upd_ne (fun e => by rw [e, ho] at h; exact hj (Sum.inl.inj (congrArg Prod.fst (Option.some.inj h))))]
  pr := w.pr
  bk := fun b u h z => by
    rw [upd_ne (fun e => ?_)]
    · exact w.bk b u h z
    · rcases w.bo a _ ho with q | q
      · exact q (e ▸ z)
      · rw [e, q] at h; cases h
  bf := w.bf
  bo := w.bo
  bn := w.bn
  hl := fun x hx => by
    refine Own.keep (Same.refl _) x.2.2 [] [] x.2.1 (fun b p h => ⟨h, ?_⟩) (w.hl x hx)
    rw [upd_ne (fun e => by rw [e, ho] at h; exact nomatch (congrArg Prod.fst (Option.some.inj h)))]
theorem Wd.mls (w : Wd K J B H F o σ ρ) {i : Nat} {ds : List Dat} (hρ : ρ[i]? = some (some (.mls ds))) : ∃ a vs, σ[i]? = some (some (.ref a)) ∧ o a = some (.inl i, []) ∧ H a = some (.lst vs) ∧ ds.length ≤ sizeLine ∧ Owns K J.T F H o (.inl i) [] 0 ds vs := by
  obtain ⟨v, h1, h2⟩ := w.sl i _ hρ
  unfold Own at h2
  obtain ⟨a, vs, rfl, h3, h4, h5, h6⟩ := h2
  exact ⟨a, vs, h1, h3, h4, h5, h6⟩
end

/-! ## freezing for a while: owned lists are read as frozen ones -/
mutual
/-- no object stands in it -/
def Dat.cln : Dat → Bool
  | .mls l => Dat.clns l
  | .obj _ _ => false
  | _ => true
def Dat.clns : List Dat → Bool
  | [] => true
  | d :: ds => Dat.cln d && Dat.clns ds
end
mutual
def Dat.frz : Dat → Dat
  | .mls l => if Dat.clns l = true then .lst (Dat.frzs l) else .mls l
  | d => d
def Dat.frzs : List Dat → List Dat
  | [] => []
  | d :: ds => Dat.frz d :: Dat.frzs ds
end
mutual
/-- no list stands in it -/
def Dat.nol : Dat → Bool
  | .tup l => Dat.nols l
  | .lst _ => false
  | .mls _ => false
  | .frl _ => false
  | .obj _ _ => false
  | _ => true
def Dat.nols : List Dat → Bool
  | [] => true
  | d :: ds => Dat.nol d && Dat.nols ds
end
def frzR (ρ : Rho) : Rho := ρ.map fun x => x.map Dat.frz
open Classical in
/-- the frozen part with all that is owned -/
noncomputable def plus (F H : Hp) (o : Ow) : Hp := fun a => if o a = none then F a else H a
open Classical in
/-- .. and without it again -/
noncomputable def minus (F : Hp) (o : Ow) : Hp := fun a => if o a = none then F a else none
section
variable {K : PySem.W.Frag} {T : CT} {F H F' H' : Hp} {o o' : Ow} {r : Root}
theorem frz_fz : ∀ {d : Dat}, d.fz = true → d.frz = d
  | .mls _, h => by cases h
  | .obj _ _, h => by cases h
  | .non, _ => by unfold Dat.frz; rfl
  | .bl _, _ => by unfold Dat.frz; rfl
  | .int _, _ => by unfold Dat.frz; rfl
  | .str _, _ => by unfold Dat.frz; rfl
  | .tup _, _ => by unfold Dat.frz; rfl
  | .lst _, _ => by unfold Dat.frz; rfl
  | .frl _, _ => by unfold Dat.frz; rfl
theorem frzs_length : ∀ (l : List Dat), (Dat.frzs l).length = l.length
  | [] => by unfold Dat.frzs; rfl
  | d :: ds => by unfold Dat.frzs; simp [frzs_length ds]
theorem frzs_fz : ∀ {l : List Dat}, l.all Dat.fz = true → Dat.frzs l = l
  | [], _ => by unfold Dat.frzs; rfl
  | d :: ds, h => by
    rw [List.all_cons, Bool.and_eq_true] at h
    unfold Dat.frzs; rw [frz_fz h.1, frzs_fz h.2]
theorem clns_fz : ∀ {l : List Dat}, l.all Dat.fz = true → Dat.clns l = true
  | [], _ => by unfold Dat.clns; rfl
  | d :: ds, h => by
    rw [List.all_cons, Bool.and_eq_true] at h
    unfold Dat.clns
    rw [clns_fz h.2, Bool.and_true]
    cases d with
    | mls _ => cases h.1
    | obj _ _ => cases h.1
    | _ => unfold Dat.cln; rfl
theorem frz_mls {l : List Dat} (h : l.all Dat.fz = true) : Dat.frz (.mls l) = .lst l := by unfold Dat.frz; rw [if_pos (clns_fz h), frzs_fz h]
mutual
theorem own_plus {G : Hp} (hF : Same F G) (hG : ∀ a q, o a = some q → G a = H a) : ∀ (d : Dat) (p : List Nat) (v : V), d.cln = true → Own K T F H o r p d v → Rep K G v d.frz
  | .mls ds, p, v, hc, h => by
    unfold Dat.cln at hc
    unfold Own at h
    unfold Dat.frz
    rw [if_pos hc]
    obtain ⟨a, vs, rfl, h1, h2, hz, h3⟩ := h
    exact .lst ((hG a _ h1).trans h2) (owns_plus hF hG ds p 0 vs hc h3) (by rw [frzs_length]; exact hz)
  | .obj _ _, _, _, hc, _ => by unfold Dat.cln at hc; cases hc
  | .non, _, _, _, h => by unfold Own at h; unfold Dat.frz; exact h.up hF
  | .bl _, _, _, _, h => by unfold Own at h; unfold Dat.frz; exact h.up hF
  | .int _, _, _, _, h => by unfold Own at h; unfold Dat.frz; exact h.up hF
  | .str _, _, _, _, h => by unfold Own at h; unfold Dat.frz; exact h.up hF
  | .tup _, _, _, _, h => by unfold Own at h; unfold Dat.frz; exact h.up hF
  | .lst _, _, _, _, h => by unfold Own at h; unfold Dat.frz; exact h.up hF
  | .frl _, _, _, _, h => by unfold Own at h; unfold Dat.frz; exact h.up hF
theorem owns_plus {G : Hp} (hF : Same F G) (hG : ∀ a q, o a = some q → G a = H a) : ∀ (ds : List Dat) (p : List Nat) (i : Nat) (vs : List V), Dat.clns ds = true → Owns K T F H o r p i ds vs → Reps K G vs (Dat.frzs ds)
  | [], _, _, _, _, h => by unfold Owns at h; subst h; unfold Dat.frzs; exact .nil
  | d :: ds, p, i, vs, hc, h => by
    unfold Dat.clns at hc
    rw [Bool.and_eq_true] at hc
    unfold Owns at h
    obtain ⟨v, vs', rfl, h1, h2⟩ := h
    unfold Dat.frzs
    exact .cons (own_plus hF hG d (i :: p) v hc.1 h1) (owns_plus hF hG ds p (i + 1) vs' hc.2 h2)
end
theorem frz_cln : ∀ {d : Dat}, d.frz.fz = true → d.cln = true
  | .mls l, h => by
    unfold Dat.frz at h
    split at h
    · unfold Dat.cln; assumption
    · cases h
  | .obj _ _, h => by unfold Dat.frz at h; cases h
  | .non, _ => by unfold Dat.cln; rfl
  | .bl _, _ => by unfold Dat.cln; rfl
  | .int _, _ => by unfold Dat.cln; rfl
  | .str _, _ => by unfold Dat.cln; rfl
  | .tup _, _ => by unfold Dat.cln; rfl
  | .lst _, _ => by unfold Dat.cln; rfl
  | .frl _, _ => by unfold Dat.cln; rfl
mutual
/-- without lists a datum stands on tuples alone -/
theorem rep_tups {G : Hp} (hG : ∀ a u, F a = some u → (∃ xs, u = .tup xs) ∨ (∃ ob xs, u = .frz ob (.tup xs)) → G a = some u) : ∀ (d : Dat) (v : V), d.nol = true → Rep K F v d → (∀ l, d ≠ .frl l) → Rep K G v d
  | .non, _, _, h, _ => by cases h; exact .non
  | .bl _, _, _, h, _ => by cases h; exact .bl _
  | .int _, _, _, h, _ => by cases h; exact .int _
  | .str _, _, _, h, _ => by cases h; exact .str _ (by assumption)
  | .tup ds, _, hn, h, _ => by
    unfold Dat.nol at hn
    cases h with
    | tup h r z =>
      refine .tup ?_ (reps_tups hG ds _ hn r) z
      rcases h with (h | ⟨ob, h⟩) | h
      · exact .inl (.inl (hG _ _ h (.inl ⟨_, rfl⟩)))
      · exact .inl (.inr ⟨ob, hG _ _ h (.inr ⟨_, _, rfl⟩)⟩)
      · exact .inr h
  | .lst _, _, hn, _, _ => by unfold Dat.nol at hn; cases hn
  | .frl l, _, _, _, hq => absurd rfl (hq l)
  | .mls _, _, _, h, _ => by cases h
  | .obj _ _, _, _, h, _ => by cases h
theorem reps_tups {G : Hp} (hG : ∀ a u, F a = some u → (∃ xs, u = .tup xs) ∨ (∃ ob xs, u = .frz ob (.tup xs)) → G a = some u) : ∀ (ds : List Dat) (vs : List V), Dat.nols ds = true → Reps K F vs ds → Reps K G vs ds
  | [], _, _, h => by cases h; exact .nil
  | d :: ds, _, hn, h => by
    unfold Dat.nols at hn
    rw [Bool.and_eq_true] at hn
    cases h with
    | cons h t => exact .cons (rep_tups hG d _ hn.1 h (fun l e => by subst e; cases hn.1)) (reps_tups hG ds _ hn.2 t)
end
end
end MV

namespace MV
open PySem PySem.Spec PyProof.Rows L2

section
variable {K : PySem.W.Frag} {J : Jc} {B : Bs} {H F H' F' : Hp} {o o' : Ow} {σ σ' : St} {ρ ρ' : Rho}
theorem Wd.plusF (w : Wd K J B H F o σ ρ) : Same F (plus F H o) := fun a u h => by
  unfold plus; rw [if_pos (w.fo a u h)]; exact h
theorem Wd.plusH (w : Wd K J B H F o σ ρ) : Same (plus F H o) H := fun a u h => by
  unfold plus at h
  split at h
  · exact w.fh a u h
  · exact h
theorem Wd.envZ (w : Wd K J B H F o σ ρ) : EnvF K (plus F H o) σ (frzR ρ) := ⟨by unfold frzR; rw [List.length_map]; exact w.len, fun i d e z => by
  unfold frzR at e
  rw [List.getElem?_map] at e
  obtain ⟨x, h1, h2⟩ := Option.map_eq_some_iff.mp e
  obtain ⟨d0, h3, h4⟩ := Option.map_eq_some_iff.mp h2
  subst h3 h4
  obtain ⟨v, k1, k2⟩ := w.sl i d0 h1
  exact ⟨v, k1, own_plus w.plusF (fun a q h => by unfold plus; rw [if_neg (by rw [h]; exact fun z => nomatch z)]) d0 [] v (frz_cln z) k2⟩⟩
theorem Wd.back (w : Wd K J B H F o σ ρ) {G' : Hp} (e : Ext H (plus F H o) H' G') : Ext H F H' (minus G' o) ∧ ∀ a u, G' a = some u → (∃ xs, u = .tup xs) ∨ (∃ ob xs, u = .frz ob (.tup xs)) → minus G' o a = some u := by
  refine ⟨⟨e.hh, fun a u h => ?_, fun a u h => ?_, fun a u h => ?_⟩, fun a u h k => ?_⟩
  · unfold minus; rw [if_pos (w.fo a u h)]; exact e.ff a u (w.plusF a u h)
  · unfold minus at h
    split at h
    · exact e.fh a u h
    · cases h
  · unfold minus at h
    split at h
    · rename_i ho
      rcases e.nw a u h with z | z
      · unfold plus at z; rw [if_pos ho] at z; exact .inl z
      · exact .inr z
    · cases h
  · unfold minus
    split
    · exact h
    · rename_i ho
      cases q : o a with
      | none => exact absurd q ho
      | some l =>
        exfalso
        have hb := w.oh a l q
        obtain ⟨w', hw⟩ := w.ex q
        have h1 : plus F H o a = some w' := by unfold plus; rw [if_neg ho]; exact hw
        have h2 := e.ff a w' h1
        rw [h] at h2
        cases h2
        rw [hw] at hb
        rcases k with ⟨xs, rfl⟩ | ⟨ob, xs, rfl⟩ <;> exact hb
/-- a pure expression that reads owned lists as frozen ones -/
theorem Wd.useZ (w : Wd K J B H F o σ ρ) {t : TE} {f : Rho → Option Dat} {d : Dat} {Q : VK} (h : PPr K t f) (hf : f (frzR ρ) = some d) (hn : d.nol = true) (q : WP K H F d Q) : t σ H Q := by
  refine h σ H (plus F H o) (frzR ρ) d Q w.plusH w.envZ hf fun v H' G' ex r => ?_
  obtain ⟨e1, e2⟩ := w.back ex
  exact q v H' _ e1 (rep_tups e2 d v hn r (fun l e => by subst e; cases hn))
theorem Wd.useZT (w : Wd K J B H F o σ ρ) {t : TT} {f : Rho → Option Bool} {b : Bool} {Q : Bool → Hp → Prop} (h : PTr K t f) (hf : f (frzR ρ) = some b) (q : ∀ H' F', Ext H F H' F' → Q b H') : t σ H Q := by
  refine h σ H (plus F H o) (frzR ρ) b Q w.plusH w.envZ hf fun H' G' ex => ?_
  exact q H' _ (w.back ex).1
theorem Wd.useZF (w : Wd K J B H F o σ ρ) {t : TE} {f : Rho → Option (List Dat)} {ds : List Dat} {Q : VK} (h : PFr K t f) (hf : f (frzR ρ) = some ds) (hn : Dat.nols ds = true)
    (q : ∀ a vs H' F', Ext H F H' F' → H a = none → H' a = some (.lst vs) → F' a = none → Reps K F' vs ds → ds.length ≤ sizeLine → Q (.ref a) H') : t σ H Q := by
  refine h σ H (plus F H o) (frzR ρ) ds Q w.plusH w.envZ hf fun a vs H' G' ex h1 h2 h3 r z => ?_
  obtain ⟨e1, e2⟩ := w.back ex
  exact q a vs H' _ e1 h1 h2 (by unfold minus; rw [h3]; split <;> rfl) (reps_tups e2 ds vs hn r) z
end

/-! ## expressions that change owned data -/
/-- an error: its class by number, its arguments -/
structure Er where
  c : Nat
  args : List Dat
inductive Rs (α : Type) where
  | ok (a : α) (ρ : Rho) | er (e : Er) (ρ : Rho) | no
def Rs.bind {α β : Type} (x : Rs α) (f : α → Rho → Rs β) : Rs β := match x with
  | .ok a ρ => f a ρ
  | .er e ρ => .er e ρ
  | .no => .no
def Rs.of {α : Type} (x : Option α) (ρ : Rho) : Rs α := match x with
  | some a => .ok a ρ
  | none => .no
def PostM (K : PySem.W.Frag) (J : Jc) (er : Er → XK) (B : Bs) (F : Hp) (σ : St) (Q : VK) : Rs Dat → Prop
  | .ok d ρ => ∀ v H F1 o, Wd K J B H F1 o σ ρ → Same F F1 → Rep K F1 v d → Q v H
  | .er e ρ => ∀ c dd H F1 o, Wd K J B H F1 o σ ρ → er e c dd H → J.E c dd H
  | .no => False
def PostT (K : PySem.W.Frag) (J : Jc) (er : Er → XK) (B : Bs) (F : Hp) (σ : St) (Q : Bool → Hp → Prop) : Rs Bool → Prop
  | .ok b ρ => ∀ H F1 o, Wd K J B H F1 o σ ρ → Same F F1 → Q b H
  | .er e ρ => ∀ c dd H F1 o, Wd K J B H F1 o σ ρ → er e c dd H → J.E c dd H
  | .no => False
def PostA (K : PySem.W.Frag) (J : Jc) (er : Er → XK) (B : Bs) (F : Hp) (σ : St) (Q : List V → Hp → Prop) : Rs (List Dat) → Prop
  | .ok ds ρ => ∀ vs H F1 o, Wd K J B H F1 o σ ρ → Same F F1 → Reps K F1 vs ds → Q vs H
  | .er e ρ => ∀ c dd H F1 o, Wd K J B H F1 o σ ρ → er e c dd H → J.E c dd H
  | .no => False
def PostF (K : PySem.W.Frag) (J : Jc) (er : Er → XK) (B : Bs) (F : Hp) (σ : St) (Q : VK) : Rs (List Dat) → Prop
  | .ok ds ρ => ∀ a vs H F1 o, Wd K J B H F1 o σ ρ → Same F F1 → H a = some (.lst vs) → F1 a = none → o a = none → (B.o a ≠ none ∨ B.H a = none) → Reps K F1 vs ds → ds.length ≤ sizeLine → Q (.ref a) H
  | .er e ρ => ∀ c dd H F1 o, Wd K J B H F1 o σ ρ → er e c dd H → J.E c dd H
  | .no => False
/-- the errors' table: what an error is, behind -/
abbrev ET := Er → XK
def tM (K : PySem.W.Frag) (J : Jc) (er : ET) (f : Rho → Rs Dat) : TE := fun σ H Q => ∃ B F o ρ, Wd K J B H F o σ ρ ∧ PostM K J er B F σ Q (f ρ)
def tMT (K : PySem.W.Frag) (J : Jc) (er : ET) (f : Rho → Rs Bool) : TT := fun σ H Q => ∃ B F o ρ, Wd K J B H F o σ ρ ∧ PostT K J er B F σ Q (f ρ)
def tMA (K : PySem.W.Frag) (J : Jc) (er : ET) (f : Rho → Rs (List Dat)) : TA := fun σ H Q => ∃ B F o ρ, Wd K J B H F o σ ρ ∧ PostA K J er B F σ Q (f ρ)
def tMF (K : PySem.W.Frag) (J : Jc) (er : ET) (f : Rho → Rs (List Dat)) : TE := fun σ H Q => ∃ B F o ρ, Wd K J B H F o σ ρ ∧ PostF K J er B F σ Q (f ρ)
/-- an expression, a test, arguments, a fresh list -/
def PM (X : Cx) (J : Jc) (er : ET) (e : Expr) (f : Rho → Rs Dat) : Prop := PE X e (tM X.K J er f)
def TM (X : Cx) (J : Jc) (er : ET) (e : Expr) (f : Rho → Rs Bool) : Prop := PT X e (tMT X.K J er f)
def AM (X : Cx) (J : Jc) (er : ET) (es : List Expr) (f : Rho → Rs (List Dat)) : Prop := PA X es (tMA X.K J er f)
def FM (X : Cx) (J : Jc) (er : ET) (e : Expr) (f : Rho → Rs (List Dat)) : Prop := PE X e (tMF X.K J er f)
def mP {α : Type} (f : Rho → Option α) : Rho → Rs α := fun ρ => Rs.of (f ρ) ρ
def mZ (f : Rho → Option Dat) : Rho → Rs Dat := fun ρ => match f (frzR ρ) with
  | some d => if d.nol = true then .ok d ρ else .no
  | none => .no
def mZF (f : Rho → Option (List Dat)) : Rho → Rs (List Dat) := fun ρ => match f (frzR ρ) with
  | some ds => if Dat.nols ds = true then .ok ds ρ else .no
  | none => .no
def mZT (f : Rho → Option Bool) : Rho → Rs Bool := fun ρ => Rs.of (f (frzR ρ)) ρ
theorem PT.imp {X : Cx} {e : Expr} {t t' : TT} (h : PT X e t) (i : ∀ σ H Q, t' σ H Q → t σ H Q) : PT X e t' := ⟨fun pins s σ H Q I q => h.run pins s σ H Q I (i σ H Q q)⟩
theorem PA.imp {X : Cx} {e : List Expr} {t t' : TA} (h : PA X e t) (i : ∀ σ H Q, t' σ H Q → t σ H Q) : PA X e t' := ⟨fun pos pins s σ H Q I q => h.run pos pins s σ H Q I (i σ H Q q)⟩
section
variable {X : Cx} {J : Jc} {er : ET} {e a b c : Expr} {es : List Expr} {pos : Pos} {f fa fb fc : Rho → Option Dat}
theorem pm_p (h : PP X e f) : PM X J er e (mP f) := by
  obtain ⟨t, h1, h2⟩ := h
  refine PE.imp h1 fun σ H Q ⟨B, F, o, ρ, w, q⟩ => ?_
  unfold mP at q
  cases e : f ρ with
  | none => rw [e] at q; exact q.elim
  | some d =>
    rw [e] at q
    exact h2 σ H F ρ d Q w.fh w.envF e fun v H' F' ex r => q v H' F' o (w.ext ex) ex.ff r
theorem pm_z (h : PP X e f) : PM X J er e (mZ f) := by
  obtain ⟨t, h1, h2⟩ := h
  refine PE.imp h1 fun σ H Q ⟨B, F, o, ρ, w, q⟩ => ?_
  unfold mZ at q
  cases e : f (frzR ρ) with
  | none => rw [e] at q; exact q.elim
  | some d =>
    rw [e] at q
    by_cases hn : d.nol = true
    · simp only [hn, if_true] at q
      exact w.useZ h2 e hn fun v H' F' ex r => q v H' F' o (w.ext ex) ex.ff r
    · simp only [hn] at q; exact q.elim
theorem fm_p {f : Rho → Option (List Dat)} (h : PF X e f) : FM X J er e (mP f) := by
  obtain ⟨t, h1, h2⟩ := h
  refine PE.imp h1 fun σ H Q ⟨B, F, o, ρ, w, q⟩ => ?_
  unfold mP at q
  cases e : f ρ with
  | none => rw [e] at q; exact q.elim
  | some ds =>
    rw [e] at q
    exact h2 σ H F ρ ds Q w.fh w.envF e fun a vs H' F' ex k1 k2 k3 r z => q a vs H' F' o (w.ext ex) ex.ff k2 k3 (w.on k1) (w.bh k1) r z
theorem fm_z {f : Rho → Option (List Dat)} (h : PF X e f) : FM X J er e (mZF f) := by
  obtain ⟨t, h1, h2⟩ := h
  refine PE.imp h1 fun σ H Q ⟨B, F, o, ρ, w, q⟩ => ?_
  unfold mZF at q
  cases e : f (frzR ρ) with
  | none => rw [e] at q; exact q.elim
  | some ds =>
    rw [e] at q
    by_cases hn : Dat.nols ds = true
    · simp only [hn, if_true] at q
      exact w.useZF h2 e hn fun a vs H' F' ex k1 k2 k3 r z => q a vs H' F' o (w.ext ex) ex.ff k2 k3 (w.on k1) (w.bh k1) r z
    · simp only [hn] at q; exact q.elim
theorem tm_p {f : Rho → Option Bool} (h : TP' X e f) : TM X J er e (mP f) := by
  obtain ⟨t, h1, h2⟩ := h
  refine PT.imp h1 fun σ H Q ⟨B, F, o, ρ, w, q⟩ => ?_
  unfold mP at q
  cases e : f ρ with
  | none => rw [e] at q; exact q.elim
  | some d =>
    rw [e] at q
    exact h2 σ H F ρ d Q w.fh w.envF e fun H' F' ex => q H' F' o (w.ext ex) ex.ff
theorem tm_z {f : Rho → Option Bool} (h : TP' X e f) : TM X J er e (mZT f) := by
  obtain ⟨t, h1, h2⟩ := h
  refine PT.imp h1 fun σ H Q ⟨B, F, o, ρ, w, q⟩ => ?_
  unfold mZT at q
  cases e : f (frzR ρ) with
  | none => rw [e] at q; exact q.elim
  | some d =>
    rw [e] at q
    exact w.useZT h2 e fun H' F' ex => q H' F' o (w.ext ex) ex.ff
theorem PostM.mono {K : PySem.W.Frag} {B : Bs} {F F0 : Hp} {σ : St} {Q : VK} {x : Rs Dat} (h : PostM K J er B F0 σ Q x) (hs : Same F0 F) : PostM K J er B F σ Q x := by
  cases x with
  | ok d ρ => exact fun v H F1 o w s r => h v H F1 o w (hs.trans s) r
  | er e ρ => exact h
  | no => exact h
theorem PostA.mono {K : PySem.W.Frag} {B : Bs} {F F0 : Hp} {σ : St} {Q : List V → Hp → Prop} {x : Rs (List Dat)} (h : PostA K J er B F0 σ Q x) (hs : Same F0 F) : PostA K J er B F σ Q x := by
  cases x with
  | ok d ρ => exact fun v H F1 o w s r => h v H F1 o w (hs.trans s) r
  | er e ρ => exact h
  | no => exact h
theorem PostT.mono {K : PySem.W.Frag} {B : Bs} {F F0 : Hp} {σ : St} {Q : Bool → Hp → Prop} {x : Rs Bool} (h : PostT K J er B F0 σ Q x) (hs : Same F0 F) : PostT K J er B F σ Q x := by
  cases x with
  | ok d ρ => exact fun H F1 o w s => h H F1 o w (hs.trans s)
  | er e ρ => exact h
  | no => exact h
/-- one expression, then something over its value -/
theorem tM_bind {K : PySem.W.Frag} {g : Rho → Rs Dat} {h : Dat → Rho → Rs Dat} {σ : St} {H : Hp} {Q : VK} {B : Bs} {F : Hp} {o : Ow} {ρ : Rho} (w : Wd K J B H F o σ ρ) (q : PostM K J er B F σ Q ((g ρ).bind h))
    {R : VK} (k : ∀ d ρ1 v H1 F1 o1, Wd K J B H1 F1 o1 σ ρ1 → Same F F1 → Rep K F1 v d → PostM K J er B F1 σ Q (h d ρ1) → R v H1) : tM K J er g σ H R := by
  refine ⟨B, F, o, ρ, w, ?_⟩
  cases e : g ρ with
  | ok d ρ1 =>
    rw [e] at q
    exact fun v H1 F1 o1 w1 s r => k d ρ1 v H1 F1 o1 w1 s r (PostM.mono q s)
  | er e' ρ1 => rw [e] at q; exact q
  | no => rw [e] at q; exact q.elim
def mBin (g : Dat → Dat → Option Dat) (fa fb : Rho → Rs Dat) : Rho → Rs Dat := fun ρ => (fa ρ).bind fun x ρ1 => (fb ρ1).bind fun y ρ2 => Rs.of (g x y) ρ2
def mUn (g : Dat → Option Dat) (fa : Rho → Rs Dat) : Rho → Rs Dat := fun ρ => (fa ρ).bind fun x ρ1 => Rs.of (g x) ρ1
def mNil : Rho → Rs (List Dat) := fun ρ => .ok [] ρ
def mCons (fa : Rho → Rs Dat) (fr : Rho → Rs (List Dat)) : Rho → Rs (List Dat) := fun ρ => (fa ρ).bind fun x ρ1 => (fr ρ1).bind fun xs ρ2 => .ok (x :: xs) ρ2
def mArgs (g : List Dat → Option Dat) (fs : Rho → Rs (List Dat)) : Rho → Rs Dat := fun ρ => (fs ρ).bind fun xs ρ1 => Rs.of (g xs) ρ1
/-- the last step: an operation by values -/
theorem last_op {K : PySem.W.Frag} {B : Bs} {F H : Hp} {o : Ow} {σ : St} {ρ : Rho} {Q : VK} {x : Option Dat} (w : Wd K J B H F o σ ρ) (q : PostM K J er B F σ Q (Rs.of x ρ)) : ∃ d, x = some d ∧ WP K H F d Q := by
  cases x with
  | none => exact q.elim
  | some d => exact ⟨d, rfl, fun v H' F' ex r => q v H' F' o (w.ext ex) ex.ff r⟩
variable {ga gb gc : Rho → Rs Dat} {gs : Rho → Rs (List Dat)}
theorem pm_bin {op : Operator} {g : Dat → Dat → Option Dat} (ho : OpD X (binaryOp op) g) (ha : PM X J er a ga) (hb : PM X J er b gb) : PM X J er (.BinOp a op b pos) (mBin g ga gb) := by
  obtain ⟨r, o1, o2⟩ := ho
  refine PE.imp (pe_op o1 ha hb) fun σ H Q ⟨B, F, o, ρ, w, q⟩ => ?_
  refine tM_bind w q fun d ρ1 v H1 F1 o1 w1 s1 r1 q1 => ?_
  refine tM_bind w1 q1 fun d2 ρ2 v2 H2 F2 o2' w2 s2 r2 q2 => ?_
  obtain ⟨z, e, k⟩ := last_op w2 q2
  exact o2 H2 F2 v v2 d d2 z Q w2.fh (r1.up s2) r2 e k
theorem pm_cmp {op : CmpOp} {g : Dat → Dat → Option Dat} (ho : OpD X (compareOp op) g) (ha : PM X J er a ga) (hb : PM X J er b gb) (hm : behindInMarks op b = false) : PM X J er (.Compare a [op] [b] pos) (mBin g ga gb) := by
  obtain ⟨r, o1, o2⟩ := ho
  refine PE.imp (pe_cmpR o1 ha hb hm) fun σ H Q ⟨B, F, o, ρ, w, q⟩ => ?_
  refine tM_bind w q fun d ρ1 v H1 F1 o1 w1 s1 r1 q1 => ?_
  refine tM_bind w1 q1 fun d2 ρ2 v2 H2 F2 o2' w2 s2 r2 q2 => ?_
  obtain ⟨z, e, k⟩ := last_op w2 q2
  exact o2 H2 F2 v v2 d d2 z Q w2.fh (r1.up s2) r2 e k
theorem pm_ix {g : Dat → Dat → Option Dat} (ho : IxD X g) (ha : PM X J er a ga) (hb : PM X J er b gb) (hs : PlainIx b := by exact fun _ _ => rfl) : PM X J er (.Subscript a b pos) (mBin g ga gb) := by
  obtain ⟨r, o1, o2⟩ := ho
  refine PE.imp (pe_ix o1 ha hb hs) fun σ H Q ⟨B, F, o, ρ, w, q⟩ => ?_
  refine tM_bind w q fun d ρ1 v H1 F1 o1 w1 s1 r1 q1 => ?_
  refine tM_bind w1 q1 fun d2 ρ2 v2 H2 F2 o2' w2 s2 r2 q2 => ?_
  obtain ⟨z, e, k⟩ := last_op w2 q2
  exact o2 H2 F2 v v2 d d2 z Q w2.fh (r1.up s2) r2 e k
theorem pm_un {op : UnaryOp} {g : Dat → Option Dat} (ho : UnD X (unaryOp op) g) (ha : PM X J er a ga) : PM X J er (.UnaryOp op a pos) (mUn g ga) := by
  obtain ⟨r, o1, o2⟩ := ho
  refine PE.imp (pe_un o1 ha) fun σ H Q ⟨B, F, o, ρ, w, q⟩ => ?_
  refine tM_bind w q fun d ρ1 v H1 F1 o1 w1 s1 r1 q1 => ?_
  obtain ⟨z, e, k⟩ := last_op w1 q1
  exact o2 H1 F1 v d z Q w1.fh r1 e k
theorem am_nil : AM X J er [] mNil := PA.imp pa_nil fun σ H Q ⟨B, F, o, ρ, w, q⟩ => q [] H F o w (Same.refl _) .nil
theorem am_cons (ha : PM X J er e ga) (hr : AM X J er es gs) (hs : starEach (e :: es) X.env = (false, eval e X.env) :: starEach es X.env := by rfl) : AM X J er (e :: es) (mCons ga gs) := by
  refine PA.imp (pa_cons ha hr hs) fun σ H Q ⟨B, F, o, ρ, w, q⟩ => ?_
  show tM X.K J er ga σ H _
  unfold mCons at q
  refine ⟨B, F, o, ρ, w, ?_⟩
  cases e1 : ga ρ with
  | er e' ρ1 => rw [e1] at q; exact q
  | no => rw [e1] at q; exact q.elim
  | ok d ρ1 =>
    rw [e1] at q
    refine fun v H1 F1 o1 w1 s1 r1 => ⟨B, F1, o1, ρ1, w1, ?_⟩
    show PostA X.K J er B F1 σ _ (gs ρ1)
    have q' : PostA X.K J er B F σ Q ((gs ρ1).bind fun xs ρ2 => .ok (d :: xs) ρ2) := q
    cases e2 : gs ρ1 with
    | er e' ρ2 => rw [e2] at q'; exact q'
    | no => rw [e2] at q'; exact q'.elim
    | ok ds ρ2 =>
      rw [e2] at q'
      exact fun vs H2 F2 o2 w2 s2 r2 => q' (v :: vs) H2 F2 o2 w2 (s1.trans s2) (.cons (r1.up s2) r2)
/-- arguments, then something over them -/
theorem tMA_bind {K : PySem.W.Frag} {g : Rho → Rs (List Dat)} {h : List Dat → Rho → Rs Dat} {σ : St} {H : Hp} {Q : VK} {B : Bs} {F : Hp} {o : Ow} {ρ : Rho} (w : Wd K J B H F o σ ρ) (q : PostM K J er B F σ Q ((g ρ).bind h))
    {R : List V → Hp → Prop} (k : ∀ d ρ1 v H1 F1 o1, Wd K J B H1 F1 o1 σ ρ1 → Same F F1 → Reps K F1 v d → PostM K J er B F1 σ Q (h d ρ1) → R v H1) : tMA K J er g σ H R := by
  refine ⟨B, F, o, ρ, w, ?_⟩
  cases e : g ρ with
  | ok d ρ1 =>
    rw [e] at q
    exact fun v H1 F1 o1 w1 s r => k d ρ1 v H1 F1 o1 w1 s r (PostM.mono q s)
  | er e' ρ1 => rw [e] at q; exact q
  | no => rw [e] at q; exact q.elim
theorem pm_callB {x : Str} {p : Pos} {id : String} {g : List Dat → Option Dat} (hc : CallD X (.builtin id) g) (hg : Gl X x) (hm : X.mg x = none) (hv : bootBuiltins x = some (.builtin id)) (ha : AM X J er (e :: es) gs) (hn : x ≠ "__name__" := by decide) (hdb : (x == ("__debug__" : Str)) = false := by decide)
    (he : starEach (e :: es) X.env = (false, eval e X.env) :: starEach es X.env := by rfl) (hpl : (backTo pos (starEach es X.env)).any (·.1) = false := by rfl) : PM X J er (.Call (.Name x p) (e :: es) [] pos) (mArgs g gs) := by
  obtain ⟨r, o1, o2⟩ := hc
  refine PE.imp (pe_callB o1 hg hm hv ha hn hdb he hpl) fun σ H Q ⟨B, F, o, ρ, w, q⟩ => ?_
  refine tMA_bind w q fun d ρ1 v H1 F1 o1 w1 s1 r1 q1 => ?_
  obtain ⟨z, e, k⟩ := last_op w1 q1
  exact o2 H1 F1 v d z Q w1.fh r1 e k
theorem pm_callTy {x : Str} {p : Pos} {id : String} {g : List Dat → Option Dat} (hc : CallD X (.type id) g) (hg : Gl X x) (hm : X.mg x = none) (hv : bootBuiltins x = some (.type id)) (ha : AM X J er (e :: es) gs) (hn : x ≠ "__name__" := by decide) (hdb : (x == ("__debug__" : Str)) = false := by decide)
    (he : starEach (e :: es) X.env = (false, eval e X.env) :: starEach es X.env := by rfl) (hpl : (backTo pos (starEach es X.env)).any (·.1) = false := by rfl) : PM X J er (.Call (.Name x p) (e :: es) [] pos) (mArgs g gs) := by
  obtain ⟨r, o1, o2⟩ := hc
  refine PE.imp (pe_callTy o1 hg hm hv ha hn hdb he hpl) fun σ H Q ⟨B, F, o, ρ, w, q⟩ => ?_
  refine tMA_bind w q fun d ρ1 v H1 F1 o1 w1 s1 r1 q1 => ?_
  obtain ⟨z, e, k⟩ := last_op w1 q1
  exact o2 H1 F1 v d z Q w1.fh r1 e k
def dTup (ds : List Dat) : Option Dat := if ds.length ≤ 1000 then some (.tup ds) else none
theorem pm_tup {x1} (h : AM X J er es gs) : PM X J er (.Tuple es x1 pos) (mArgs dTup gs) := by
  refine PE.imp (pe_tup h) fun σ H Q ⟨B, F, o, ρ, w, q⟩ => ?_
  refine tMA_bind w q fun ds ρ1 vs H1 F1 o1 w1 s1 r1 q1 => ?_
  obtain ⟨z, e, k⟩ := last_op w1 q1
  unfold dTup at e
  split at e
  · rename_i hl
    cases e
    refine ⟨by rw [r1.length]; exact sl1000 hl, fun p hp => ?_⟩
    have ex := Ext.new (u := .tup vs) w1.fh hp
    exact k _ _ _ ex (.tup (SqT.of upd_same) (r1.up ex.ff) (sl1000 hl))
  · cases e
def mLstF (gs : Rho → Rs (List Dat)) : Rho → Rs (List Dat) := fun ρ => (gs ρ).bind fun ds ρ1 => if ds.length ≤ 1000 then .ok ds ρ1 else .no
theorem fm_lst (h : AM X J er es gs) : FM X J er (.List es pos) (mLstF gs) := by
  refine PE.imp (pe_lst h) fun σ H Q ⟨B, F, o, ρ, w, q⟩ => ?_
  unfold mLstF at q
  refine ⟨B, F, o, ρ, w, ?_⟩
  cases e : gs ρ with
  | er e' ρ1 => rw [e] at q; exact q
  | no => rw [e] at q; exact q.elim
  | ok ds ρ1 =>
    rw [e] at q
    have q' : PostF X.K J er B F σ Q (if ds.length ≤ 1000 then .ok ds ρ1 else .no) := q
    by_cases hl : ds.length ≤ 1000
    · rw [if_pos hl] at q'
      refine fun vs H1 F1 o1 w1 s1 r1 => ⟨by rw [r1.length]; exact sl1000 hl, fun p hp => ?_⟩
      have ex := Ext.newH (u := .lst vs) w1.fh hp
      exact q' p vs _ _ _ (w1.ext ex) s1 upd_same (w1.fh.free hp) (w1.on hp) (w1.bh hp) r1 (sl1000 hl)
    · rw [if_neg hl] at q'; exact q'.elim
/-- a fresh list frozen -/
def mFz (g : Rho → Rs (List Dat)) : Rho → Rs Dat := fun ρ => (g ρ).bind fun ds ρ1 => .ok (.lst ds) ρ1
theorem fm_pm (h : FM X J er e gs) : PM X J er e (mFz gs) := by
  refine PE.imp h fun σ H Q ⟨B, F, o, ρ, w, q⟩ => ⟨B, F, o, ρ, w, ?_⟩
  unfold mFz at q
  cases e : gs ρ with
  | er e' ρ1 => rw [e] at q; exact q
  | no => rw [e] at q; exact q.elim
  | ok ds ρ1 =>
    rw [e] at q
    have q' : PostM X.K J er B F σ Q (.ok (.lst ds) ρ1) := q
    refine fun a vs H1 F1 o1 w1 s1 h1 h2 h3 h4 r z => ?_
    have w2 : Wd X.K J B H1 (upd F1 a (.lst vs)) o1 σ ρ1 := by
      refine ⟨fun b u k => ?_, fun b u k => ?_, w1.oh, w1.len, fun i d k => ?_, w1.pr, w1.bk, fun b u k => ?_, w1.bo, fun b u k => ?_, fun x hx => Own.keep (fun b u k => by rw [upd_ne (fun e => by rw [e, h2] at k; cases k)]; exact k) x.2.2 [] [] x.2.1 (fun b p k => ⟨k, rfl⟩) (w1.hl x hx)⟩
      · by_cases hb : b = a
        · subst hb; rw [upd_same] at k; cases k; exact h1
        · rw [upd_ne hb] at k; exact w1.fh b u k
      · by_cases hb : b = a
        · subst hb; exact h3
        · rw [upd_ne hb] at k; exact w1.fo b u k
      · obtain ⟨v, k1, k2⟩ := w1.sl i d k
        exact ⟨v, k1, Own.keep (fun b u k => by rw [upd_ne (fun e => by rw [e, h2] at k; cases k)]; exact k) d [] [] v (fun b p k => ⟨k, rfl⟩) k2⟩
      · have k' := w1.bf b u k
        rw [upd_ne (fun e => by rw [e, h2] at k'; cases k')]; exact k'
      · by_cases hb : b = a
        · subst hb; exact .inr h4
        · rw [upd_ne hb] at k; exact w1.bn b u k
    have hs : Same F1 (upd F1 a (.lst vs)) := fun b u k => by rw [upd_ne (fun e => by rw [e, h2] at k; cases k)]; exact k
    exact q' (.ref a) H1 _ o1 w2 (s1.trans hs) (.lst upd_same (r.up hs) z)
/-- a conditional expression -/
def mIf (t : Rho → Rs Bool) (f g : Rho → Rs Dat) : Rho → Rs Dat := fun ρ => (t ρ).bind fun b ρ1 => if b = true then f ρ1 else g ρ1
theorem pm_if {tc : Rho → Rs Bool} (hc : TM X J er c tc) (ha : PM X J er a ga) (hb : PM X J er b gb) : PM X J er (.IfExp c a b pos) (mIf tc ga gb) := by
  refine PE.imp (pe_ifExp hc ha hb) fun σ H Q ⟨B, F, o, ρ, w, q⟩ => ⟨B, F, o, ρ, w, ?_⟩
  unfold mIf at q
  cases e : tc ρ with
  | er e' ρ1 => rw [e] at q; exact q
  | no => rw [e] at q; exact q.elim
  | ok k ρ1 =>
    rw [e] at q
    intro H1 F1 o1 w1 s1
    cases k with
    | true => exact iteT ⟨B, F1, o1, ρ1, w1, PostM.mono q s1⟩
    | false => exact iteF ⟨B, F1, o1, ρ1, w1, PostM.mono q s1⟩
/-- a value that is a bool, as a test -/
def mTru (f : Rho → Rs Dat) : Rho → Rs Bool := fun ρ => (f ρ).bind fun d ρ1 => match d with
  | .bl b => .ok b ρ1
  | _ => .no
theorem tm_val (h : PM X J er e ga) (he : ∀ whole, isTrue e X.env whole = (do let v ← whole; standAt e.pos; holding [v] (truthy v)) := by intro _; rfl) : TM X J er e (mTru ga) := by
  refine PT.imp (pt_val h he) fun σ H Q ⟨B, F, o, ρ, w, q⟩ => ⟨B, F, o, ρ, w, ?_⟩
  unfold mTru at q
  cases e : ga ρ with
  | er e' ρ1 => rw [e] at q; exact q
  | no => rw [e] at q; exact q.elim
  | ok d ρ1 =>
    rw [e] at q
    intro v H1 F1 o1 w1 s1 r1
    cases d with
    | bl b => cases r1; exact ⟨_, rfl, q H1 F1 o1 w1 s1⟩
    | _ => exact q.elim
theorem tm_cmp {op : CmpOp} {g : Dat → Dat → Option Dat} (ho : OpD X (compareOp op) g) (ha : PM X J er a ga) (hb : PM X J er b gb) (hm : behindInMarks op b = false) : TM X J er (.Compare a [op] [b] pos) (mTru (mBin g ga gb)) := by
  obtain ⟨r, o1, o2⟩ := ho
  refine PT.imp (pt_cmpR o1 ha hb hm) fun σ H Q ⟨B, F, o, ρ, w, q⟩ => ?_
  -- the value, then its truth
  have q2 : PostM X.K J er B F σ (fun x H' => ∃ k, x = .bl k ∧ Q k H') (mBin g ga gb ρ) := by
    unfold mTru at q
    cases e : mBin g ga gb ρ with
    | er e' ρ1 => rw [e] at q; exact q
    | no => rw [e] at q; exact q.elim
    | ok d ρ1 =>
      rw [e] at q
      intro v H1 F1 o1 w1 s1 r1
      cases d with
      | bl b => cases r1; exact ⟨_, rfl, q H1 F1 o1 w1 s1⟩
      | _ => exact q.elim
  refine tM_bind w q2 fun d ρ1 v H1 F1 o1 w1 s1 r1 q1 => ?_
  refine tM_bind w1 q1 fun d2 ρ2 v2 H2 F2 o2' w2 s2 r2 q2 => ?_
  obtain ⟨z, e, k⟩ := last_op w2 q2
  exact o2 H2 F2 v v2 d d2 z _ w2.fh (r1.up s2) r2 e k
end
end MV

namespace MV
open PySem PySem.Spec PyProof.Rows L2

/-! ## owned results -/
def PostO (K : PySem.W.Frag) (J : Jc) (er : ET) (B : Bs) (F : Hp) (σ : St) (Q : VK) : Rs Dat → Prop
  | .ok d ρ => ∀ v H F1 o, Wd K J B H F1 o σ ρ → Same F F1 → Own K J.T F1 H o (.inr 0) [] d v → Q v H
  | .er e ρ => ∀ c dd H F1 o, Wd K J B H F1 o σ ρ → er e c dd H → J.E c dd H
  | .no => False
def tO (K : PySem.W.Frag) (J : Jc) (er : ET) (f : Rho → Rs Dat) : TE := fun σ H Q => ∃ B F o ρ, Wd K J B H F o σ ρ ∧ PostO K J er B F σ Q (f ρ)
def OM (X : Cx) (J : Jc) (er : ET) (e : Expr) (f : Rho → Rs Dat) : Prop := PE X e (tO X.K J er f)
/-- relabel: what root r had, root r' has -/
def relab (o : Ow) (r r' : Root) : Ow := fun a => match o a with
  | some (q, p) => if q = r then some (r', p) else some (q, p)
  | none => none
theorem relab_none {o : Ow} {r r' : Root} {a : Addr} : relab o r r' a = none ↔ o a = none := by
  unfold relab
  cases h : o a with
  | none => simp
  | some q => simp; split <;> simp
theorem relab_some {o : Ow} {r r' : Root} {a : Addr} {q : Lab} (h : relab o r r' a = some q) : ∃ q', o a = some q' := by
  cases e : o a with
  | none => rw [relab_none.mpr e] at h; cases h
  | some q' => exact ⟨q', rfl⟩
theorem relab_at {o : Ow} {r r' : Root} {a : Addr} {p : List Nat} (h : o a = some (r, p)) : relab o r r' a = some (r', p) := by unfold relab; rw [h]; simp
theorem relab_ne {o : Ow} {r r' q : Root} {a : Addr} {p : List Nat} (h : o a = some (q, p)) (hn : q ≠ r) : relab o r r' a = some (q, p) := by unfold relab; rw [h]; simp [hn]
section
variable {K : PySem.W.Frag} {J : Jc} {B : Bs} {H F H' F' : Hp} {o o' : Ow} {σ σ' : St} {ρ ρ' : Rho}
/-- a result goes into a slot -/
theorem Wd.put (w : Wd K J B H F o σ ρ) {i : Nat} (hi : i ∉ J.pn) {v : V} {d : Dat} (h : Own K J.T F H o (.inr 0) [] d v) : Wd K J B H F (relab o (.inr 0) (.inl i)) (σ.set i (some v)) (ρ.set i (some d)) where
  fh := w.fh
  fo := fun b u q => relab_none.mpr (w.fo b u q)
  oh := fun b q h => let ⟨q', e⟩ := relab_some h; w.oh b q' e
  len := by simpa using w.len
  sl := fun j d' q => by
    by_cases hj : i = j
    · subst hj
      by_cases hl : i < ρ.length
      · rw [List.getElem?_set_self hl] at q; cases q
        exact ⟨v, by rw [List.getElem?_set_self (by rw [w.len]; exact hl)], Own.keep (Same.refl _) d [] [] v (fun b p h => ⟨relab_at h, rfl⟩) h⟩
      · rw [List.getElem?_eq_none (by simpa using hl)] at q; cases q
    · rw [List.getElem?_set_ne hj] at q
      obtain ⟨v', h1, h2⟩ := w.sl j d' q
      exact ⟨v', by rw [List.getElem?_set_ne hj]; exact h1, Own.keep (Same.refl _) d' [] [] v' (fun b p h => ⟨relab_ne h (by intro e; cases e), rfl⟩) h2⟩
  pr := fun j hj => by
    rw [List.getElem?_set_ne (show i ≠ j from fun e => hi (by rw [e]; exact hj))]; exact w.pr j hj
  bk := w.bk
  bf := w.bf
  bo := fun b q h => let ⟨q', e⟩ := relab_some h; w.bo b q' e
  bn := w.bn
  hl := fun x hx => Own.keep (Same.refl _) x.2.2 [] [] x.2.1 (fun b p h => ⟨relab_ne h (by intro e; cases e), rfl⟩) (w.hl x hx)
/-- a slot's content goes out as a result -/
theorem Wd.out (w : Wd K J B H F o σ ρ) {i : Nat} {d : Dat} (h : ρ[i]? = some (some d)) : ∃ v, σ[i]? = some (some v) ∧ Own K J.T F H (relab o (.inl i) (.inr 0)) (.inr 0) [] d v ∧ Wd K J B H F (relab o (.inl i) (.inr 0)) σ (ρ.set i none) := by
  obtain ⟨v, h1, h2⟩ := w.sl i d h
  refine ⟨v, h1, Own.keep (Same.refl _) d [] [] v (fun b p h => ⟨relab_at h, rfl⟩) h2, ?_⟩
  refine ⟨w.fh, fun b u q => relab_none.mpr (w.fo b u q), fun b q h => let ⟨q', e⟩ := relab_some h; w.oh b q' e, by simpa using w.len, fun j d' q => ?_, w.pr, w.bk, w.bf, fun b q h => let ⟨q', e⟩ := relab_some h; w.bo b q' e, w.bn,
    fun x hx => Own.keep (Same.refl _) x.2.2 [] [] x.2.1 (fun b p h => ⟨relab_ne h (by intro e; cases e), rfl⟩) (w.hl x hx)⟩
  by_cases hj : i = j
  · subst hj
    by_cases hl : i < ρ.length
    · rw [List.getElem?_set_self hl] at q; cases q
    · rw [List.getElem?_eq_none (by simpa using hl)] at q; cases q
  · rw [List.getElem?_set_ne hj] at q
    obtain ⟨v', h1, h2⟩ := w.sl j d' q
    exact ⟨v', h1, Own.keep (Same.refl _) d' [] [] v' (fun b p h => ⟨relab_ne h (by intro e; cases e; exact hj rfl), rfl⟩) h2⟩
open Classical in
/-- a slot's content frozen where it stands -/
theorem Wd.freeze (w : Wd K J B H F o σ ρ) {i : Nat} {d : Dat} (h : ρ[i]? = some (some d)) (hc : d.cln = true) : ∃ v F' o', σ[i]? = some (some v) ∧ Same F F' ∧ Rep K F' v d.frz ∧ Wd K J B H F' o' σ (ρ.set i (some d.frz)) := by
  obtain ⟨v, h1, h2⟩ := w.sl i d h
  let G : Hp := fun a => if ∃ p, o a = some (.inl i, p) then H a else F a
  let o' : Ow := fun a => if ∃ p, o a = some (.inl i, p) then none else o a
  have hG : Same F G := fun a u q => by
    show (if ∃ p, o a = some (.inl i, p) then H a else F a) = some u
    rw [if_neg (fun ⟨p, e⟩ => by rw [w.fo a u q] at e; cases e)]; exact q
  have hr : Rep K G v d.frz := by
    -- only root i's addresses are read
    have aux : ∀ (o2 : Ow), (∀ a q, o2 a = some (.inl i, q) ↔ o a = some (.inl i, q)) → (∀ a q, o2 a = some q → q.1 = .inl i) → Rep K G v d.frz := by
      intro o2 e1 e2
      refine own_plus (o := o2) (H := H) (r := .inl i) (T := J.T) hG (fun a q e => ?_) d [] v hc (Own.keep (Same.refl _) d [] [] v (fun a q e => ⟨(e1 a _).mpr e, rfl⟩) h2)
      obtain ⟨q1, q2⟩ := q
      have := e2 a _ e
      simp only at this
      subst this
      show (if ∃ p, o a = some (.inl i, p) then H a else F a) = H a
      rw [if_pos ⟨q2, (e1 a q2).mp e⟩]
    refine aux (fun a => match o a with | some (.inl j, p) => if j = i then some (.inl i, p) else none | _ => none) (fun a q => ?_) (fun a q e => ?_)
    · cases e : o a with
      | none => simp
      | some l =>
        obtain ⟨l1, l2⟩ := l
        cases l1 with
        | inl j =>
          by_cases hj : j = i
          · subst hj; simp
          · simp [hj]
        | inr j => simp
    · cases e' : o a with
      | none => rw [e'] at e; cases e
      | some l =>
        rw [e'] at e
        obtain ⟨l1, l2⟩ := l
        cases l1 with
        | inl j =>
          by_cases hj : j = i
          · simp only [hj, if_true] at e; cases e; rfl
          · simp only [hj, if_false] at e; cases e
        | inr j => cases e
  have ho' : ∀ a q, o' a = some q → o a = some q ∧ ∀ p, o a ≠ some (.inl i, p) := fun a q e => by
    have e : (if ∃ p, o a = some (.inl i, p) then none else o a) = some q := e
    split at e
    · cases e
    · rename_i hn; exact ⟨e, fun p z => hn ⟨p, z⟩⟩
  have hk : ∀ a q, o a = some q → q.1 ≠ .inl i → o' a = some q := fun a q e hn => by
    show (if ∃ p, o a = some (.inl i, p) then none else o a) = some q
    rw [if_neg (fun ⟨p, z⟩ => by rw [e] at z; cases z; exact hn rfl)]; exact e
  refine ⟨v, G, o', h1, hG, hr, ⟨fun a u e => ?_, fun a u e => ?_, fun a q e => w.oh a q (ho' a q e).1, by simpa using w.len, fun j d' q => ?_, w.pr, w.bk, w.bf.trans hG, fun a q e => w.bo a q (ho' a q e).1, fun a u e => ?_, fun x hx => ?_⟩⟩
  · have e : (if ∃ p, o a = some (.inl i, p) then H a else F a) = some u := e
    split at e
    · exact e
    · exact w.fh a u e
  · have e : (if ∃ p, o a = some (.inl i, p) then H a else F a) = some u := e
    show (if ∃ p, o a = some (.inl i, p) then none else o a) = none
    split at e
    · rename_i hx; rw [if_pos hx]
    · rename_i hx; rw [if_neg hx]; exact w.fo a u e
  · by_cases hj : i = j
    · subst hj
      by_cases hl : i < ρ.length
      · rw [List.getElem?_set_self hl] at q; cases q
        exact ⟨v, h1, hr.own⟩
      · rw [List.getElem?_eq_none (by simpa using hl)] at q; cases q
    · rw [List.getElem?_set_ne hj] at q
      obtain ⟨v', k1, k2⟩ := w.sl j d' q
      exact ⟨v', k1, Own.keep hG d' [] [] v' (fun b p e => ⟨hk b _ e (fun z => by cases z; exact hj rfl), rfl⟩) k2⟩
  · have e : (if ∃ p, o a = some (.inl i, p) then H a else F a) = some u := e
    split at e
    · rename_i hx
      obtain ⟨p, z⟩ := hx
      exact .inr (w.bo a _ z)
    · exact w.bn a u e
  · exact Own.keep hG x.2.2 [] [] x.2.1 (fun b p e => ⟨hk b _ e (fun z => by cases z), rfl⟩) (w.hl x hx)
end
section
variable {X : Cx} {J : Jc} {er : ET} {e : Expr} {pos : Pos} {g : Rho → Rs Dat} {gs : Rho → Rs (List Dat)}
theorem om_m (h : PM X J er e g) : OM X J er e g := PE.imp h fun σ H Q ⟨B, F, o, ρ, w, q⟩ => ⟨B, F, o, ρ, w, by
  cases e : g ρ with
  | ok d ρ1 => rw [e] at q; exact fun v H1 F1 o1 w1 s1 r1 => q v H1 F1 o1 w1 s1 r1.own
  | er e' ρ1 => rw [e] at q; exact q
  | no => rw [e] at q; exact q⟩
/-- a fresh list, owned -/
def mOw (g : Rho → Rs (List Dat)) : Rho → Rs Dat := fun ρ => (g ρ).bind fun ds ρ1 => .ok (.mls ds) ρ1
theorem om_f (h : FM X J er e gs) : OM X J er e (mOw gs) := PE.imp h fun σ H Q ⟨B, F, o, ρ, w, q⟩ => ⟨B, F, o, ρ, w, by
  unfold mOw at q
  cases e : gs ρ with
  | er e' ρ1 => rw [e] at q; exact q
  | no => rw [e] at q; exact q
  | ok ds ρ1 =>
    rw [e] at q
    have q' : PostO X.K J er B F σ Q (.ok (.mls ds) ρ1) := q
    refine fun a vs H1 F1 o1 w1 s1 h1 h2 h3 h4 r z => ?_
    have hk : ∀ b p, o1 b = some p → b ≠ a := fun b p e z => by rw [z, h3] at e; cases e
    refine q' (.ref a) H1 F1 (fun b => if b = a then some (.inr 0, []) else o1 b) ⟨w1.fh, fun b u k => ?_, fun b p k => ?_, w1.len, fun i d k => ?_, w1.pr, w1.bk, w1.bf, fun b p k => ?_, w1.bn, fun x hx => ?_⟩ s1 ?_
    · by_cases hb : b = a
      · subst hb; rw [h2] at k; cases k
      · rw [if_neg hb]; exact w1.fo b u k
    · by_cases hb : b = a
      · subst hb; rw [h1]; trivial
      · rw [if_neg hb] at k; exact w1.oh b p k
    · obtain ⟨v, k1, k2⟩ := w1.sl i d k
      exact ⟨v, k1, Own.keep (Same.refl _) d [] [] v (fun b p e => ⟨by rw [if_neg (hk b _ e)]; exact e, rfl⟩) k2⟩
    · by_cases hb : b = a
      · subst hb; exact h4
      · rw [if_neg hb] at k; exact w1.bo b p k
    · exact Own.keep (Same.refl _) x.2.2 [] [] x.2.1 (fun b p e => ⟨by rw [if_neg (hk b _ e)]; exact e, rfl⟩) (w1.hl x hx)
    · unfold Own
      exact ⟨a, vs, rfl, if_pos rfl, h1, z, r.owns⟩⟩
/-- a slot read, frozen from now on -/
def mVz (i : Nat) : Rho → Rs Dat := fun ρ => match ρ[i]? with
  | some (some d) => if d.cln = true then .ok d.frz (ρ.set i (some d.frz)) else .no
  | _ => .no
theorem pm_vz (i : Nat) {x : Str} {pos : Pos} (hN : X.N[i]? = some x := by rfl) (hv : Vis X.env.scope x := by first | exact Or.inl rfl | exact Or.inr (Or.inl rfl) | exact Or.inr (Or.inr rfl)) (hd : (x == ("__debug__" : Str)) = false := by decide)
    (hcd : (x == ("__classdict__" : Str)) = false := by decide) : PM X J er (.Name x pos) (mVz i) := PE.imp (pe_var hN hv hd hcd) fun σ H Q ⟨B, F, o, ρ, w, q⟩ => by
  unfold mVz at q
  split at q
  · rename_i d hd'
    by_cases hc : d.cln = true
    · rw [if_pos hc] at q
      obtain ⟨v, F', o', h1, h2, h3, h4⟩ := w.freeze hd' hc
      exact ⟨v, h1, q v H F' o' h4 h2 h3⟩
    · rw [if_neg hc] at q; exact q.elim
  · exact q.elim
/-- a slot's content moves out -/
def mMv (i : Nat) : Rho → Rs Dat := fun ρ => match ρ[i]? with
  | some (some d) => .ok d (ρ.set i none)
  | _ => .no
theorem om_mv (i : Nat) {x : Str} {pos : Pos} (hN : X.N[i]? = some x := by rfl) (hv : Vis X.env.scope x := by first | exact Or.inl rfl | exact Or.inr (Or.inl rfl) | exact Or.inr (Or.inr rfl)) (hd : (x == ("__debug__" : Str)) = false := by decide)
    (hcd : (x == ("__classdict__" : Str)) = false := by decide) : OM X J er (.Name x pos) (mMv i) := PE.imp (pe_var hN hv hd hcd) fun σ H Q ⟨B, F, o, ρ, w, q⟩ => by
  unfold mMv at q
  split at q
  · rename_i d hd'
    obtain ⟨v, h1, h2, h3⟩ := w.out hd'
    exact ⟨v, h1, q v H F _ h3 (Same.refl _) h2⟩
  · exact q.elim
end

/-! ## statements -/
inductive Out where
  | nx (ρ : Rho) | rt (d : Dat) (ρ : Rho) | bk (ρ : Rho) | ct (ρ : Rho) | er (e : Er) (ρ : Rho) | no
def PostS (K : PySem.W.Frag) (J : Jc) (er : ET) (B : Bs) (D : Ends) : Out → Prop
  | .nx ρ => ∀ σ H F o, Wd K J B H F o σ ρ → D.nx σ H
  | .rt d ρ => ∀ v σ H F o, Wd K J B H F o σ ρ → Own K J.T F H o (.inr 0) [] d v → D.rt v H
  | .bk ρ => ∀ σ H F o, Wd K J B H F o σ ρ → D.bk σ H
  | .ct ρ => ∀ σ H F o, Wd K J B H F o σ ρ → D.ct σ H
  | .er e ρ => ∀ c dd σ H F o, Wd K J B H F o σ ρ → er e c dd H → J.E c dd H
  | .no => False
def tS (K : PySem.W.Frag) (J : Jc) (er : ET) (g : Rho → Out) : TS := fun D σ H => ∃ B F o ρ, Wd K J B H F o σ ρ ∧ PostS K J er B D (g ρ)
def SM (X : Cx) (J : Jc) (er : ET) (st : Stmt) (g : Rho → Out) : Prop := PS X st (tS X.K J er g)
def SsM (X : Cx) (J : Jc) (er : ET) (st : List Stmt) (g : Rho → Out) : Prop := PSs X st (tS X.K J er g)
theorem PS.imp {X : Cx} {e : Stmt} {t t' : TS} (h : PS X e t) (i : ∀ D σ H, t' D σ H → t D σ H) : PS X e t' := ⟨fun pins s σ H D I q => h.run pins s σ H D I (i D σ H q)⟩
theorem PSs.imp {X : Cx} {e : List Stmt} {t t' : TS} (h : PSs X e t) (i : ∀ D σ H, t' D σ H → t D σ H) : PSs X e t' := ⟨fun pins s σ H D I q => h.run pins s σ H D I (i D σ H q)⟩
def Out.then (x : Out) (f : Rho → Out) : Out := match x with
  | .nx ρ => f ρ
  | y => y
def Rs.out {α : Type} (x : Rs α) (f : α → Rho → Out) : Out := match x with
  | .ok a ρ => f a ρ
  | .er e ρ => .er e ρ
  | .no => .no
def oNil : Rho → Out := fun ρ => .nx ρ
def oSeq (g h : Rho → Out) : Rho → Out := fun ρ => (g ρ).then h
def oSet (i : Nat) (f : Rho → Rs Dat) : Rho → Out := fun ρ => (f ρ).out fun d ρ1 => .nx (ρ1.set i (some d))
def oAsg (is : List Nat) (get : Dat → Option (List Dat)) (f : Rho → Rs Dat) : Rho → Out := fun ρ => (f ρ).out fun d ρ1 => match get d with
  | some ds => .nx (setR ρ1 is ds)
  | none => .no
def oDrop (f : Rho → Rs Dat) : Rho → Out := fun ρ => (f ρ).out fun _ ρ1 => .nx ρ1
def oRet (f : Rho → Rs Dat) : Rho → Out := fun ρ => (f ρ).out fun d ρ1 => .rt d ρ1
def oRetN : Rho → Out := fun ρ => .rt .non ρ
def oIf (t : Rho → Rs Bool) (g h : Rho → Out) : Rho → Out := fun ρ => (t ρ).out fun b ρ1 => if b = true then g ρ1 else h ρ1
def oBk : Rho → Out := fun ρ => .bk ρ
def oCt : Rho → Out := fun ρ => .ct ρ
def oNever : Rho → Out := fun _ => .no
section
variable {X : Cx} {J : Jc} {er : ET} {e c : Expr} {st : Stmt} {rest : List Stmt} {pos : Pos} {f : Rho → Rs Dat} {g h : Rho → Out}
theorem ss_nil : SsM X J er [] oNil := PSs.imp pss_nil fun D σ H ⟨B, F, o, ρ, w, q⟩ => q σ H F o w
theorem ss_cons (h1 : SM X J er st g) (h2 : SsM X J er rest h) : SsM X J er (st :: rest) (oSeq g h) := by
  refine PSs.imp (pss_cons h1 h2) fun D σ H ⟨B, F, o, ρ, w, q⟩ => ⟨B, F, o, ρ, w, ?_⟩
  unfold oSeq at q
  cases e : g ρ with
  | nx ρ1 => rw [e] at q; exact fun σ1 H1 F1 o1 w1 => ⟨B, F1, o1, ρ1, w1, q⟩
  | rt d ρ1 => rw [e] at q; exact q
  | bk ρ1 => rw [e] at q; exact q
  | ct ρ1 => rw [e] at q; exact q
  | er e' ρ1 => rw [e] at q; exact q
  | no => rw [e] at q; exact q
theorem ss_one (h1 : SM X J er st g) : SsM X J er [st] g := pss_one h1
theorem sm_pass : SM X J er (.Pass pos) oNil := PS.imp ps_pass fun D σ H ⟨B, F, o, ρ, w, q⟩ => q σ H F o w
theorem sm_break : SM X J er (.Break pos) oBk := PS.imp ps_break fun D σ H ⟨B, F, o, ρ, w, q⟩ => q σ H F o w
theorem sm_continue : SM X J er (.Continue pos) oCt := PS.imp ps_continue fun D σ H ⟨B, F, o, ρ, w, q⟩ => q σ H F o w
theorem sm_never : SM X J er st oNever := PS.imp ps_never fun D σ H ⟨B, F, o, ρ, w, q⟩ => q
theorem ss_never {sts : List Stmt} : SsM X J er sts oNever := PSs.imp pss_never fun D σ H ⟨B, F, o, ρ, w, q⟩ => q
/-- an expression's end, then a statement's -/
theorem outO {K : PySem.W.Frag} {B : Bs} {D : Ends} {F : Hp} {σ : St} {x : Rs Dat} {k : Dat → Rho → Out} {R : VK} (q : PostS K J er B D (x.out k))
    (hk : ∀ d ρ1, x = .ok d ρ1 → PostS K J er B D (k d ρ1) → ∀ v H F1 o, Wd K J B H F1 o σ ρ1 → Same F F1 → Own K J.T F1 H o (.inr 0) [] d v → R v H) : PostO K J er B F σ R x := by
  cases x with
  | ok d ρ1 => exact hk d ρ1 rfl q
  | er e ρ1 => exact fun c dd H F1 o w he => q c dd σ H F1 o w he
  | no => exact q
theorem sm_set (i : Nat) {x : Str} {pos' : Pos} (hp : J.pn.contains i = false) (hN : X.N.Nodup) (he : OM X J er e f) (hi : X.N[i]? = some x := by rfl) (hx : Loc X.env.scope x := by first | exact Or.inl rfl | exact Or.inr rfl) (hs : swapsWith e (some (.Name x pos')) pos.line X.env = pure false := by rfl)
    (hf : X.fn x = true ∨ X.env.scope.names.lookup x = some .local := by first | exact .inl rfl | exact .inr rfl | assumption) : SM X J er (.Assign [.Name x pos'] e pos) (oSet i f) := by
  have hp' : i ∉ J.pn := fun z => by rw [List.contains_iff_mem.mpr z] at hp; cases hp
  refine PS.imp (ps_set hN hi hx he hs hf) fun D σ H ⟨B, F, o, ρ, w, q⟩ => ⟨B, F, o, ρ, w, ?_⟩
  exact outO q fun d ρ1 _ q1 v H1 F1 o1 w1 s1 h1 => q1 _ _ _ _ (w1.put hp' h1)
theorem sm_expr (he : OM X J er e f) (hs : swapsWith e none pos.line X.env = pure false := by rfl) : SM X J er (.Expr e pos) (oDrop f) := by
  refine PS.imp (ps_expr he hs) fun D σ H ⟨B, F, o, ρ, w, q⟩ => ⟨B, F, o, ρ, w, ?_⟩
  exact outO q fun d ρ1 _ q1 v H1 F1 o1 w1 s1 h1 => q1 _ _ _ _ w1
theorem sm_ret (he : OM X J er e f) : SM X J er (.Return (some e) pos) (oRet f) := by
  refine PS.imp (ps_ret he) fun D σ H ⟨B, F, o, ρ, w, q⟩ => ⟨B, F, o, ρ, w, ?_⟩
  exact outO q fun d ρ1 _ q1 v H1 F1 o1 w1 s1 h1 => q1 _ _ _ _ _ w1 h1
theorem sm_retN : SM X J er (.Return none pos) oRetN := PS.imp ps_retN fun D σ H ⟨B, F, o, ρ, w, q⟩ => q .non σ H F o w Rep.non.own
theorem sm_if {a b : List Stmt} {tc : Rho → Rs Bool} (hc : TM X J er c tc) (ha : SsM X J er a g) (hb : SsM X J er b h) : SM X J er (.If c a b pos) (oIf tc g h) := by
  refine PS.imp (ps_if hc ha hb) fun D σ H ⟨B, F, o, ρ, w, q⟩ => ⟨B, F, o, ρ, w, ?_⟩
  unfold oIf at q
  cases e : tc ρ with
  | er e' ρ1 => rw [e] at q; exact fun c dd H F1 o w he => q c dd σ H F1 o w he
  | no => rw [e] at q; exact q
  | ok k ρ1 =>
    rw [e] at q
    intro H1 F1 o1 w1 s1
    cases k with
    | true => exact iteT ⟨B, F1, o1, ρ1, w1, q⟩
    | false => exact iteF ⟨B, F1, o1, ρ1, w1, q⟩
theorem Wd.sets {K : PySem.W.Frag} {B : Bs} {H F : Hp} {o : Ow} : ∀ (is : List Nat) {σ : St} {ρ : Rho} {vs : List V} {ds : List Dat}, (∀ i ∈ is, i ∉ J.pn) → Wd K J B H F o σ ρ → Reps K F vs ds → Wd K J B H F o (setS σ is vs) (setR ρ is ds)
  | [], _, _, _, _, _, h, _ => h
  | i :: is, _, _, _, _, _, h, .nil => h
  | i :: is, _, _, _, _, hp, h, .cons r t => Wd.sets is (fun j hj => hp j (List.mem_cons_of_mem _ hj)) (h.set (hp i (by simp)) r) t
theorem pn_ok {is : List Nat} (h : (is.all fun i => !J.pn.contains i) = true) : ∀ i ∈ is, i ∉ J.pn := fun i hi z => by
  have := List.all_eq_true.mp h i hi
  rw [List.contains_iff_mem.mpr z] at this; cases this
theorem sm_asg {tg : Expr} {is : List Nat} {get : Dat → Option (List Dat)} (hp : (is.all fun i => !J.pn.contains i) = true) (he : PM X J er e f) (hg : TGD X tg is get) (hs : swapsWithSole [tg] e pos.line X.env = pure false := by rfl) (hw : swappedStores [tg] e X.env = pure none := by rfl)
    (h1 : (assignEach [tg] X.env).map (·.2) = [assign tg X.env] := by rfl) : SM X J er (.Assign [tg] e pos) (oAsg is get f) := by
  refine PS.imp (ps_asg he hg.pg hs hw h1) fun D σ H ⟨B, F, o, ρ, w, q⟩ => ⟨B, F, o, ρ, w, ?_⟩
  unfold oAsg at q
  cases e : f ρ with
  | er e' ρ1 => rw [e] at q; exact fun c dd H F1 o w he => q c dd σ H F1 o w he
  | no => rw [e] at q; exact q
  | ok d ρ1 =>
    rw [e] at q
    intro v H1 F1 o1 w1 s1 r1
    have q' : PostS X.K J er B D (match get d with | some ds => .nx (setR ρ1 is ds) | none => .no) := q
    cases e2 : get d with
    | none => rw [e2] at q'; exact q'.elim
    | some ds =>
      rw [e2] at q'
      exact ⟨F1, d, ds, w1.fh, r1, e2, fun vs r l => q' _ _ _ _ (Wd.sets is (pn_ok hp) w1 r)⟩
end

/-! ## loops -/
def PostI (K : PySem.W.Frag) (J : Jc) (er : ET) (B : Bs) (F : Hp) (σ : St) (R : It → Hp → Prop) : Rs (List Dat) → Prop
  | .ok ds ρ => ∀ I H F1 o, Wd K J B H F1 o σ ρ → Same F F1 → WalkD K I F1 ds → R I H
  | .er e ρ => ∀ c dd H F1 o, Wd K J B H F1 o σ ρ → er e c dd H → J.E c dd H
  | .no => False
def tI (K : PySem.W.Frag) (J : Jc) (er : ET) (f : Rho → Rs (List Dat)) : TI := fun σ H R => ∃ B F o ρ, Wd K J B H F o σ ρ ∧ PostI K J er B F σ R (f ρ)
def IM (X : Cx) (J : Jc) (er : ET) (tg e : Expr) (f : Rho → Rs (List Dat)) : Prop := PI X tg e (tI X.K J er f)
theorem PI.imp {X : Cx} {tg e : Expr} {t t' : TI} (h : PI X tg e t) (i : ∀ σ H Q, t' σ H Q → t σ H Q) : PI X tg e t' := ⟨fun pins s σ H Q I q => h.run pins s σ H Q I (i σ H Q q)⟩
def mSeqOf (g : Rho → Rs Dat) : Rho → Rs (List Dat) := fun ρ => (g ρ).bind fun d ρ1 => Rs.of (seqOf d) ρ1
def mItA (k : List Dat → Option (List Dat)) (g : Rho → Rs (List Dat)) : Rho → Rs (List Dat) := fun ρ => (g ρ).bind fun d ρ1 => Rs.of (k d) ρ1
section
variable {X : Cx} {J : Jc} {er : ET} {tg e a b : Expr} {es : List Expr} {pos : Pos} {g : Rho → Rs Dat} {gs : Rho → Rs (List Dat)}
theorem im_seq (h : PM X J er e g) : IM X J er tg e (mSeqOf g) := by
  refine PI.imp (PI.or (pi_list h) (PI.or (pi_tup h) (pi_str h))) fun σ H R ⟨B, F, o, ρ, w, q⟩ => ?_
  unfold mSeqOf at q
  cases e : g ρ with
  | er e' ρ1 => rw [e] at q; exact .inl ⟨B, F, o, ρ, w, by rw [e]; exact q⟩
  | no => rw [e] at q; exact q.elim
  | ok d ρ1 =>
    rw [e] at q
    have q' : PostI X.K J er B F σ R (Rs.of (seqOf d) ρ1) := q
    cases d with
    | lst l => exact .inl ⟨B, F, o, ρ, w, by
        rw [e]; intro v H1 F1 o1 w1 s1 r
        cases r with
        | lst h r z => exact ⟨_, rfl, ⟨_, SqL.of (w1.fh _ _ h)⟩, q' _ H1 F1 o1 w1 s1 (walkD_list (SqL.of h) r z)⟩⟩
    | frl l => exact .inl ⟨B, F, o, ρ, w, by
        rw [e]; intro v H1 F1 o1 w1 s1 r
        cases r with
        | frl h r z => exact ⟨_, rfl, ⟨_, Same.seq w1.fh h⟩, q' _ H1 F1 o1 w1 s1 (walkD_list h r z)⟩⟩
    | tup l => exact .inr (.inl ⟨B, F, o, ρ, w, by
        rw [e]; intro v H1 F1 o1 w1 s1 r
        cases r with
        | tup h r z => exact ⟨_, rfl, ⟨_, Same.seqT w1.fh h⟩, q' _ H1 F1 o1 w1 s1 (walkD_tup h r z)⟩⟩)
    | str x => exact .inr (.inr ⟨B, F, o, ρ, w, by
        rw [e]; intro v H1 F1 o1 w1 s1 r
        cases r with
        | str _ z => exact ⟨_, rfl, q' _ H1 F1 o1 w1 s1 (walkD_str z)⟩⟩)
    | _ => exact q'.elim
/-- arguments, then what is walked -/
theorem tMA_it {K : PySem.W.Frag} {k : List Dat → Option (List Dat)} {σ : St} {H : Hp} {R : It → Hp → Prop} {B : Bs} {F : Hp} {o : Ow} {ρ : Rho} (w : Wd K J B H F o σ ρ) (q : PostI K J er B F σ R (mItA k gs ρ))
    {Q : List V → Hp → Prop} (hk : ∀ d ds ρ1 vs H1 F1 o1, Wd K J B H1 F1 o1 σ ρ1 → Reps K F1 vs d → k d = some ds → (∀ I, WalkD K I F1 ds → R I H1) → Q vs H1) : tMA K J er gs σ H Q := by
  refine ⟨B, F, o, ρ, w, ?_⟩
  unfold mItA at q
  cases e : gs ρ with
  | er e' ρ1 => rw [e] at q; exact q
  | no => rw [e] at q; exact q.elim
  | ok d ρ1 =>
    rw [e] at q
    intro vs H1 F1 o1 w1 s1 r1
    have q' : PostI K J er B F σ R (Rs.of (k d) ρ1) := q
    cases e2 : k d with
    | none => rw [e2] at q'; exact q'.elim
    | some ds => rw [e2] at q'; exact hk d ds ρ1 vs H1 F1 o1 w1 r1 e2 fun I wd => q' I H1 F1 o1 w1 s1 wd
theorem im_range1 {p : Pos} (hg : Gl X "range") (hm : X.mg "range" = none) (ha : AM X J er [a] gs) (hs : starEach [a] X.env = [(false, eval a X.env)] := by rfl) : IM X J er tg (.Call (.Name "range" p) [a] [] pos) (mItA rng1 gs) := by
  refine PI.imp (pi_range1 hg hm ha hs) fun σ H R ⟨B, F, o, ρ, w, q⟩ => ?_
  refine tMA_it w q fun d ds ρ1 vs H1 F1 o1 w1 r1 hk hr => ?_
  unfold rng1 at hk
  split at hk
  · rename_i n
    split at hk
    · rename_i hn
      cases hk
      cases r1 with
      | cons h r =>
        cases r; cases h
        exact ⟨n, rfl, by omega, by omega, hr _ (walkD_rng (by rw [sizeLine_eq]; omega))⟩
    · cases hk
  · cases hk
theorem im_range2 {p : Pos} (hg : Gl X "range") (hm : X.mg "range" = none) (ha : AM X J er [a, b] gs) (hs : starEach [a, b] X.env = [(false, eval a X.env), (false, eval b X.env)] := by rfl) (hs2 : starEach [b] X.env = [(false, eval b X.env)] := by rfl) :
    IM X J er tg (.Call (.Name "range" p) [a, b] [] pos) (mItA rng2 gs) := by
  refine PI.imp (pi_range2 hg hm ha hs hs2) fun σ H R ⟨B, F, o, ρ, w, q⟩ => ?_
  refine tMA_it w q fun d ds ρ1 vs H1 F1 o1 w1 r1 hk hr => ?_
  unfold rng2 at hk
  split at hk
  · rename_i n m
    split at hk
    · rename_i hn
      cases hk
      cases r1 with
      | cons h r =>
        cases h
        cases r with
        | cons h r =>
          cases h; cases r
          exact ⟨n, m, rfl, ⟨by omega, by omega, by omega, by omega⟩, hr _ (walkD_rng (by rw [sizeLine_eq]; omega))⟩
    · cases hk
  · cases hk
theorem im_enumL {p tpos : Pos} {elts : List Expr} {kk : Nat} (hg : Gl X "enumerate") (hm : X.mg "enumerate" = none) (ha : AM X J er [e] gs) (hs : starEach [e] X.env = [(false, eval e X.env)] := by rfl) :
    IM X J er (.Tuple elts kk tpos) (.Call (.Name "enumerate" p) [e] [] pos) (mItA enum1 gs) := by
  refine PI.imp (pi_enum hg hm ha hs) fun σ H R ⟨B, F, o, ρ, w, q⟩ => ?_
  refine tMA_it w q fun d ds ρ1 vs H1 F1 o1 w1 r1 hk hr => ?_
  unfold enum1 at hk
  split at hk
  · cases hk
    cases r1 with
    | cons h r =>
      cases r
      cases h with
      | lst h r z => exact ⟨_, _, rfl, SqL.of (w1.fh _ _ h), hr _ (walkD_enum (SqL.of h) r z)⟩
  · cases hk
    cases r1 with
    | cons h r =>
      cases r
      cases h with
      | frl h r z => exact ⟨_, _, rfl, Same.seq w1.fh h, hr _ (walkD_enum h r z)⟩
  · cases hk
end
def oForL (is : List Nat) (get : Dat → Option (List Dat)) (body : Rho → Out) : List Dat → Rho → Out
  | [], ρ => .nx ρ
  | d :: r, ρ => match get d with
    | none => .no
    | some xs => match body (setR ρ is xs) with
      | .nx ρ1 => oForL is get body r ρ1
      | .ct ρ1 => oForL is get body r ρ1
      | .bk ρ1 => .nx ρ1
      | .rt d ρ1 => .rt d ρ1
      | .er e ρ1 => .er e ρ1
      | .no => .no
def oFor (is : List Nat) (fi : Rho → Rs (List Dat)) (get : Dat → Option (List Dat)) (body : Rho → Out) : Rho → Out := fun ρ => (fi ρ).out fun ds ρ1 => oForL is get body ds ρ1
def whF (t : Rho → Rs Bool) (b : Rho → Out) : Nat → Rho → Out
  | 0, _ => .no
  | n + 1, ρ => match t ρ with
    | .ok true ρ1 => (match b ρ1 with
      | .nx ρ2 => whF t b n ρ2
      | .ct ρ2 => whF t b n ρ2
      | .bk ρ2 => .nx ρ2
      | .rt d ρ2 => .rt d ρ2
      | .er e ρ2 => .er e ρ2
      | .no => .no)
    | .ok false ρ1 => .nx ρ1
    | .er e ρ1 => .er e ρ1
    | .no => .no
open Classical in
noncomputable def oWhile (t : Rho → Rs Bool) (b : Rho → Out) : Rho → Out := fun ρ => if h : ∃ n, whF t b n ρ ≠ .no then whF t b (Classical.choose h) ρ else .no
/-- a base that knows more of the frozen part -/
theorem Wd.here {K : PySem.W.Frag} {J : Jc} {B : Bs} {H F : Hp} {o : Ow} {σ : St} {ρ : Rho} (w : Wd K J B H F o σ ρ) : Wd K J { B with F := F } H F o σ ρ :=
  ⟨w.fh, w.fo, w.oh, w.len, w.sl, w.pr, w.bk, Same.refl _, w.bo, fun a u h => .inl h, w.hl⟩
theorem Wd.up {K : PySem.W.Frag} {J : Jc} {B : Bs} {H F H1 F1 : Hp} {o o1 : Ow} {σ σ1 : St} {ρ ρ1 : Rho} (w1 : Wd K J B H1 F1 o1 σ1 ρ1) (w : Wd K J { B with F := F1 } H F o σ ρ) : Wd K J B H F o σ ρ :=
  ⟨w.fh, w.fo, w.oh, w.len, w.sl, w.pr, w.bk, w1.bf.trans w.bf, w.bo, fun a u h => by
    rcases w.bn a u h with z | z
    · exact w1.bn a u z
    · exact .inr z, w.hl⟩
section
variable {X : Cx} {J : Jc} {er : ET} {tg e c : Expr} {body : List Stmt} {pos : Pos} {fi : Rho → Rs (List Dat)} {get : Dat → Option (List Dat)} {is : List Nat} {gb : Rho → Out} {tc : Rho → Rs Bool}
theorem sm_for (hp : PassesOwn (model X.prog X.w) X.A X.env X.xe) (hpn : (is.all fun i => !J.pn.contains i) = true) (hc : X.calm = true) (hi : IM X J er tg e fi) (hg : TGD X tg is get) (hb : SsM X J er body gb)
    (hs : ∀ x, foldedSetIterable e X.env x = pure x := by intro _; rfl) : SM X J er (.For tg e body [] pos) (oFor is fi get gb) := by
  refine PS.imp (ps_for hp hc hi hg.pg hb hs) fun D σ H ⟨B, F, o, ρ, w, q⟩ => ⟨B, F, o, ρ, w, ?_⟩
  unfold oFor at q
  cases e : fi ρ with
  | er e' ρ1 => rw [e] at q; exact fun c dd H F1 o w he => q c dd σ H F1 o w he
  | no => rw [e] at q; exact q
  | ok ds ρ1 =>
    rw [e] at q
    intro I H1 F1 o1 w1 s1 wd
    have q1 : PostS X.K J er B D (oForL is get gb ds ρ1) := q
    obtain ⟨⟨G, Y, wk, hG, hY⟩, hz⟩ := wd
    refine for_it wk (fun i σ2 H2 => ∃ F2 o2 ρ2, Wd X.K J { B with F := F1 } H2 F2 o2 σ2 ρ2 ∧ PostS X.K J er B D (oForL is get gb (ds.drop i) ρ2)) ⟨F1, o1, ρ1, w1.here, by simpa using q1⟩ (fun i σ2 H2 hi ⟨F2, o2, ρ2, w2, _⟩ => hG H2 (w2.bf.trans w2.fh)) (fun i x σ2 H2 H3 hi ⟨F2, o2, ρ2, w2, q2⟩ y => ?_) (fun σ2 H2 ⟨F2, o2, ρ2, w2, q2⟩ => ?_)
    · obtain ⟨F3, d, e1, ex, r⟩ := hY i H2 F2 x H3 hi w2.bf w2.fh y
      have hdrop : ds.drop i = d :: ds.drop (i + 1) := by
        obtain ⟨hi', e⟩ := List.getElem?_eq_some_iff.mp e1
        rw [List.drop_eq_getElem_cons hi', e]
      rw [hdrop] at q2
      unfold oForL at q2
      cases e2 : get d with
      | none => rw [e2] at q2; exact q2.elim
      | some xs =>
        rw [e2] at q2
        simp only at q2
        have w3 := w2.ext ex
        refine ⟨F3, d, xs, w3.fh, r, e2, fun vs rv lv => ?_⟩
        refine ⟨{ B with F := F1 }, F3, o2, _, Wd.sets is (pn_ok hpn) w3 rv, ?_⟩
        cases e3 : gb (setR ρ2 is xs) with
        | nx ρ3 => rw [e3] at q2; exact fun σ4 H4 F4 o4 w4 => ⟨F4, o4, ρ3, w4, q2⟩
        | ct ρ3 => rw [e3] at q2; exact fun σ4 H4 F4 o4 w4 => ⟨F4, o4, ρ3, w4, q2⟩
        | bk ρ3 => rw [e3] at q2; exact fun σ4 H4 F4 o4 w4 => q2 σ4 H4 F4 o4 (w1.up w4)
        | rt d ρ3 => rw [e3] at q2; exact fun v σ4 H4 F4 o4 w4 h4 => q2 v σ4 H4 F4 o4 (w1.up w4) h4
        | er e ρ3 => rw [e3] at q2; exact fun c dd σ4 H4 F4 o4 w4 h4 => q2 c dd σ4 H4 F4 o4 (w1.up w4) h4
        | no => rw [e3] at q2; exact q2
    · rw [List.drop_length] at q2
      exact q2 σ2 H2 F2 o2 (w1.up w2)
theorem sm_while (hp : PassesOwn (model X.prog X.w) X.A X.env X.xe) (hc : TM X J er c tc) (hb : SsM X J er body gb) : SM X J er (.While c body [] pos) (oWhile tc gb) := by
  refine PS.imp (ps_while hp hc hb) fun D σ H ⟨B, F, o, ρ, w, q⟩ => ?_
  unfold oWhile at q
  split at q
  · rename_i hx
    refine ⟨fun m σ2 H2 => ∃ F2 o2 ρ2, Wd X.K J B H2 F2 o2 σ2 ρ2 ∧ PostS X.K J er B D (whF tc gb m ρ2), ⟨_, F, o, ρ, w, q⟩, fun m σ2 H2 ⟨F2, o2, ρ2, w2, q2⟩ => ⟨B, F2, o2, ρ2, w2, ?_⟩⟩
    cases m with
    | zero => exact q2.elim
    | succ n =>
      unfold whF at q2
      cases e : tc ρ2 with
      | er e' ρ3 => rw [e] at q2; exact fun c dd H F1 o w he => q2 c dd σ2 H F1 o w he
      | no => rw [e] at q2; exact q2
      | ok k ρ3 =>
        rw [e] at q2
        intro H3 F3 o3 w3 s3
        cases k with
        | false => exact iteF (q2 σ2 H3 F3 o3 w3)
        | true =>
          refine iteT ⟨fun σ4 H4 => ∃ F4 o4 ρ4, Wd X.K J B H4 F4 o4 σ4 ρ4 ∧ PostS X.K J er B D (whF tc gb n ρ4), fun σ4 H4 h4 => ⟨n, Nat.lt_succ_self n, h4⟩, B, F3, o3, ρ3, w3, ?_⟩
          simp only at q2
          cases e3 : gb ρ3 with
          | nx ρ4 => rw [e3] at q2; exact fun σ4 H4 F4 o4 w4 => ⟨F4, o4, ρ4, w4, q2⟩
          | ct ρ4 => rw [e3] at q2; exact fun σ4 H4 F4 o4 w4 => ⟨F4, o4, ρ4, w4, q2⟩
          | bk ρ4 => rw [e3] at q2; exact q2
          | rt d ρ4 => rw [e3] at q2; exact q2
          | er e ρ4 => rw [e3] at q2; exact q2
          | no => rw [e3] at q2; exact q2
  · exact q.elim
theorem whF_mono {t : Rho → Rs Bool} {b : Rho → Out} : ∀ (n m : Nat) (ρ : Rho), n ≤ m → whF t b n ρ ≠ .no → whF t b m ρ = whF t b n ρ
  | 0, _, _, _, h => absurd rfl h
  | n + 1, 0, _, h, _ => by omega
  | n + 1, m + 1, ρ, h, hn => by
    unfold whF at hn ⊢
    cases e : t ρ with
    | er e' ρ1 => rfl
    | no => rfl
    | ok k ρ1 =>
      rw [e] at hn
      cases k with
      | false => rfl
      | true =>
        simp only at hn ⊢
        cases e3 : b ρ1 with
        | nx ρ4 => rw [e3] at hn; exact whF_mono n m ρ4 (by omega) hn
        | ct ρ4 => rw [e3] at hn; exact whF_mono n m ρ4 (by omega) hn
        | _ => rfl
theorem oWhile_eq {t : Rho → Rs Bool} {b : Rho → Out} {ρ : Rho} (n : Nat) (h : whF t b n ρ ≠ .no) : oWhile t b ρ = whF t b n ρ := by
  have hx : ∃ n, whF t b n ρ ≠ .no := ⟨n, h⟩
  unfold oWhile
  rw [dif_pos hx]
  rcases Nat.le_total n (Classical.choose hx) with k | k
  · exact whF_mono _ _ _ k h
  · exact (whF_mono _ _ _ k (Classical.choose_spec hx)).symm
end
end MV

namespace MV
open PySem PySem.Spec PyProof.Rows L2

/-! ## what a def promises -/
structure Ent (K : PySem.W.Frag) (T : CT) (H F : Hp) (o : Ow) (vs : List V) (ds : List Dat) : Prop where
  fh : Same F H
  fo : ∀ a u, F a = some u → o a = none
  oh : ∀ a q, o a = some q → ObjO (H a)
  len : vs.length = ds.length
  ow : ∀ (i : Nat) (d : Dat), ds[i]? = some d → ∃ v, vs[i]? = some v ∧ Own K T F H o (.inl i) [] d v
/-- outs: what the owned parameters pn hold at the end -/
structure Exi (K : PySem.W.Frag) (T : CT) (pn : List Nat) (H F : Hp) (o : Ow) (H' F' : Hp) (o' : Ow) (vs : List V) (outs : Rho) : Prop where
  fh : Same F' H'
  fo : ∀ a u, F' a = some u → o' a = none
  oh : ∀ a q, o' a = some q → ObjO (H' a)
  bk : ∀ a u, H a = some u → o a = none → H' a = some u
  bf : Same F F'
  bo : ∀ a q, o' a = some q → o a ≠ none ∨ H a = none
  bn : ∀ a u, F' a = some u → F a = some u ∨ o a ≠ none ∨ H a = none
  ow : ∀ (j i : Nat) (d : Dat), pn[j]? = some i → outs[j]? = some (some d) → ∃ v, vs[i]? = some v ∧ Own K T F' H' o' (.inl i) [] d v
def PostFn (K : PySem.W.Frag) (T : CT) (er : ET) (pn : List Nat) (H F : Hp) (o : Ow) (vs : List V) (Q : VK) (E : XK) : Rs Dat → Prop
  | .ok d outs => ∀ v H' F' o', Exi K T pn H F o H' F' o' vs outs → Own K T F' H' o' (.inr 0) [] d v → Q v H'
  | .er e outs => ∀ c dd H' F' o', Exi K T pn H F o H' F' o' vs outs → er e c dd H' → E c dd H'
  | .no => False
def spD (K : PySem.W.Frag) (T : CT) (er : ET) (pn : List Nat) (n : Nat) (fn : List Dat → Rs Dat) : Sp := fun vs H Q E => vs.length = n ∧ ∃ F o ds, Ent K T H F o vs ds ∧ PostFn K T er pn H F o vs Q E (fn ds)
def oget (ρ : Rho) (i : Nat) : Option Dat := match ρ[i]? with
  | some x => x
  | none => none
/-- a def's function, from its body's -/
def fnOf (np n : Nat) (pn : List Nat) (body : Rho → Out) : List Dat → Rs Dat := fun ds => if ds.length = np then (match body (ds.map some ++ List.replicate (n - np) none) with
    | .rt d ρ => .ok d (pn.map (oget ρ))
    | .nx ρ => .ok .non (pn.map (oget ρ))
    | .er e ρ => .er e (pn.map (oget ρ))
    | _ => .no) else .no
/-- a def that the module's name x holds keeps the promise -/
structure FnM (P : Program) (w : World) (K : PySem.W.Frag) (mg : Str → Option Value) (base : Heap) (T : CT) (er : ET) (lv : Nat) (x : Str) (n : Nat) (pn : List Nat) (fn : List Dat → Rs Dat) : Prop where
  ex : ∃ f fd ps, FnOk P w K mg base (L2.CX P w) lv f fd ps (spD K T er pn n fn) ∧ mg x = some (.ref f) ∧ PySem.W.keepIn K (.ref f) = true ∧ Binds K fd ps []
theorem FnM.mono {P : Program} {w : World} {K : PySem.W.Frag} {mg : Str → Option Value} {base : Heap} {T : CT} {er : ET} {lv lv' : Nat} {x : Str} {n : Nat} {pn : List Nat} {fn : List Dat → Rs Dat} (h : FnM P w K mg base T er lv x n pn fn) (hl : lv ≤ lv') : FnM P w K mg base T er lv' x n pn fn :=
  let ⟨f, fd, ps, a, b, c, d⟩ := h.ex
  ⟨f, fd, ps, a.mono hl, b, c, d⟩
/-- .. one that agrees where it is told -/
def Rs.le (x y : Rs Dat) : Prop := x = .no ∨ x = y
theorem FnM.sub {P : Program} {w : World} {K : PySem.W.Frag} {mg : Str → Option Value} {base : Heap} {T : CT} {er : ET} {lv : Nat} {x : Str} {n : Nat} {pn : List Nat} {fn fn' : List Dat → Rs Dat} (h : FnM P w K mg base T er lv x n pn fn) (hs : ∀ ds, Rs.le (fn' ds) (fn ds)) : FnM P w K mg base T er lv x n pn fn' := by
  obtain ⟨f, fd, ps, a, b, c, d⟩ := h.ex
  refine ⟨f, fd, ps, a.imp fun vs H Q E ⟨l, F, o, ds, en, q⟩ => ⟨l, F, o, ds, en, ?_⟩, b, c, d⟩
  rcases hs ds with e | e
  · rw [e] at q; exact q.elim
  · rw [← e]; exact q
section
variable {P : Program} {w : World} {K : PySem.W.Frag} {mg : Str → Option Value} {base : Heap} {T : CT} {er : ET}
theorem start_get {N : List Str} {vs : List V} {i : Nat} {v : V} (h : vs[i]? = some v) : (L2.start N vs)[i]? = some (some v) := by
  unfold L2.start
  rw [List.getElem?_append_left (by simpa using (List.getElem?_eq_some_iff.mp h).1), List.getElem?_map, h]; rfl
/-- the body's end is the def's -/
theorem ends_of {J : Jc} {H F : Hp} {o : Ow} {vs : List V} {ds : List Dat} {N : List Str} {np : Nat} {Q : VK} {E : XK} {x : Out} (hJT : J.T = T) (hJE : J.E = E) (hlen : vs.length = np) (hpn : ∀ i ∈ J.pn, i < np)
    (q : PostFn K T er J.pn H F o vs Q E (match x with
    | .rt d ρ => .ok d (J.pn.map (oget ρ))
    | .nx ρ => .ok .non (J.pn.map (oget ρ))
    | .er e ρ => .er e (J.pn.map (oget ρ))
    | _ => .no)) : PostS K J er ⟨H, F, o, L2.start N vs, []⟩ { nx := fun _ H' => Q .non H', rt := Q } x := by
  subst hJT hJE
  have exi : ∀ {σ : St} {H' F' : Hp} {o' : Ow} {ρ : Rho}, Wd K J ⟨H, F, o, L2.start N vs, []⟩ H' F' o' σ ρ → Exi K J.T J.pn H F o H' F' o' vs (J.pn.map (oget ρ)) := fun {σ H' F' o' ρ} w => by
    refine ⟨w.fh, w.fo, w.oh, w.bk, w.bf, w.bo, w.bn, fun j i d h1 h2 => ?_⟩
    rw [List.getElem?_map, h1] at h2
    have h2 : oget ρ i = some d := by simpa using h2
    have h3 : ρ[i]? = some (some d) := by
      unfold oget at h2
      split at h2
      · rename_i y hy; rw [hy, h2]
      · cases h2
    obtain ⟨v, k1, k2⟩ := w.sl i d h3
    have hi : i ∈ J.pn := List.mem_of_getElem? h1
    have e := w.pr i hi
    rw [k1] at e
    have hlt : i < vs.length := by rw [hlen]; exact hpn i hi
    have e2 : (L2.start N vs)[i]? = some (some vs[i]) := start_get (List.getElem?_eq_getElem hlt)
    have e3 : some (some v) = some (some vs[i]) := e.trans e2
    injection e3 with e3
    injection e3 with e3
    exact ⟨v, by rw [e3]; exact List.getElem?_eq_getElem hlt, k2⟩
  cases x with
  | nx ρ => exact fun σ H' F' o' w => q .non H' F' o' (exi w) Rep.non.own
  | rt d ρ => exact fun v σ H' F' o' w h => q v H' F' o' (exi w) h
  | er e ρ => exact fun c dd σ H' F' o' w h => q c dd H' F' o' (exi w) h
  | bk ρ => exact q.elim
  | ct ρ => exact q.elim
  | no => exact q.elim
theorem wd_start {J : Jc} {H F : Hp} {o : Ow} {vs : List V} {ds : List Dat} {N : List Str} {np : Nat} (hJT : J.T = T) (en : Ent K T H F o vs ds) (hn : np ≤ N.length) (hd : ds.length = np) : Wd K J ⟨H, F, o, L2.start N vs, []⟩ H F o (L2.start N vs) (ds.map some ++ List.replicate (N.length - np) none) := by
  subst hJT
  have hl : vs.length = np := en.len.trans hd
  refine ⟨en.fh, en.fo, en.oh, by unfold L2.start; simp [hl, hd], fun i d h => ?_, fun i _ => rfl, fun a u h _ => h, Same.refl _, fun a q h => .inl (show o a ≠ none from by rw [h]; exact fun z => nomatch z), fun a u h => .inl h, fun x hx => nomatch hx⟩
  have h' : ds[i]? = some d := by
    by_cases hi : i < ds.length
    · rw [List.getElem?_append_left (by simpa using hi), List.getElem?_map] at h
      cases e : ds[i]? with
      | none => rw [e] at h; cases h
      | some y => rw [e] at h; simpa using h
    · rw [List.getElem?_append_right (by simpa using hi)] at h
      have := List.mem_of_getElem? h
      have := List.eq_of_mem_replicate this
      cases this
  obtain ⟨v, k1, k2⟩ := en.ow i d h'
  exact ⟨v, start_get k1, k2⟩
/-- THE RULE: a def of the text, that lets nothing out -/
theorem fn_mk {x : Str} {params : Arguments} {body : List Stmt} {scope : Scope} {f : Addr} {fd : FuncData} {N ps : List Str} {k np : Nat} {pn : List Nat} {gb : Rho → Out} (Fd : FunD K x x params body scope [] [] f fd) (hm : mg x = some (.ref f)) (S : FnScope N ps scope) (hps : ps.length = np) (hN : np ≤ N.length) (hpn : (pn.all fun i => decide (i < np)) = true)
    (hb : ∀ (kV doc pm : Value) (an : Option Addr) (cdv ct : Value) (us : List Value), us.length = ps.length → bindArgs (PySem.W.fnOf x x params body scope .none kV doc pm an cdv ct) ⟨us, []⟩ = pure (ps.zip us))
    (hbody : ∀ (cdv : Value) (A : Around) (outer : List Env) (s : Shared) (H : Hp) (E : XK), Room k (A.deeper (envOfC x scope s.heap.objs.size f cdv)) → SsM (cxOf (L2.CX P w) P w K mg base N x scope f cdv A outer s H E).nox ⟨T, pn, fun _ _ _ => False⟩ er body gb) :
    FnM P w K mg base T er (k + 1) x np pn (fun ds => match fnOf np N.length pn gb ds with | .ok d o => .ok d o | _ => .no) := by
  refine ⟨f, fd, ps, Fd.ok S (fun vs H Q E h => h.1.trans hps.symm) (fun cdv A outer s H vs Q E hr h => ?_), hm, Fd.kp, Fd.bindsN hb⟩
  obtain ⟨hl, F, o, ds, en, q⟩ := h
  refine ⟨_, PSs.nox (hbody cdv A outer s H E hr), ?_⟩
  have hd : ds.length = np := en.len.symm.trans hl
  refine ⟨_, F, o, _, wd_start (J := ⟨T, pn, fun _ _ _ => False⟩) rfl en hN hd, ?_⟩
  refine ends_of (E := fun _ _ _ => False) (vs := vs) (ds := ds) (np := np) rfl rfl hl (fun i hi => of_decide_eq_true (List.all_eq_true.mp hpn i hi)) ?_
  simp only [fnOf, hd, if_true] at q
  have q' : PostFn K T er pn H F o vs Q E _ := q
  show PostFn K T er pn H F o vs Q (fun _ _ _ => False) _
  cases e : gb (ds.map some ++ List.replicate (N.length - np) none) with
  | nx ρ => rw [e] at q'; exact q'
  | rt d ρ => rw [e] at q'; exact q'
  | er _ ρ => rw [e] at q'; exact q'.elim
  | bk ρ => rw [e] at q'; exact q'.elim
  | ct ρ => rw [e] at q'; exact q'.elim
  | no => rw [e] at q'; exact q'.elim
/-- .. one that may raise -/
theorem fn_mkX {x : Str} {params : Arguments} {body : List Stmt} {scope : Scope} {f : Addr} {fd : FuncData} {N ps : List Str} {k np : Nat} {pn : List Nat} {gb : Rho → Out} (Fd : FunD K x x params body scope [] [] f fd) (hm : mg x = some (.ref f)) (S : FnScope N ps scope) (hps : ps.length = np) (hN : np ≤ N.length) (hpn : (pn.all fun i => decide (i < np)) = true)
    (hb : ∀ (kV doc pm : Value) (an : Option Addr) (cdv ct : Value) (us : List Value), us.length = ps.length → bindArgs (PySem.W.fnOf x x params body scope .none kV doc pm an cdv ct) ⟨us, []⟩ = pure (ps.zip us))
    (hbody : ∀ (cdv : Value) (A : Around) (outer : List Env) (s : Shared) (H : Hp) (E : XK), Room k (A.deeper (envOfC x scope s.heap.objs.size f cdv)) → SsM (cxOf (L2.CX P w) P w K mg base N x scope f cdv A outer s H E) ⟨T, pn, E⟩ er body gb) :
    FnM P w K mg base T er (k + 1) x np pn (fnOf np N.length pn gb) := by
  refine ⟨f, fd, ps, Fd.ok S (fun vs H Q E h => h.1.trans hps.symm) (fun cdv A outer s H vs Q E hr h => ?_), hm, Fd.kp, Fd.bindsN hb⟩
  obtain ⟨hl, F, o, ds, en, q⟩ := h
  refine ⟨_, hbody cdv A outer s H E hr, ?_⟩
  have hd : ds.length = np := en.len.symm.trans hl
  refine ⟨_, F, o, _, wd_start (J := ⟨T, pn, E⟩) rfl en hN hd, ?_⟩
  refine ends_of (E := E) (vs := vs) (ds := ds) (np := np) rfl rfl hl (fun i hi => of_decide_eq_true (List.all_eq_true.mp hpn i hi)) ?_
  simp only [fnOf, hd, if_true] at q
  exact q
end

/-! ## calls -/
/-- an argument: frozen data, or a slot whose content is lent -/
inductive Ag where
  | fr (d : Dat) | sl (i : Nat)
def AgR (K : PySem.W.Frag) (F : Hp) (σ : St) : V → Ag → Prop
  | v, .fr d => Rep K F v d
  | v, .sl i => σ[i]? = some (some v)
inductive AgRs (K : PySem.W.Frag) (F : Hp) (σ : St) : List V → List Ag → Prop
  | nil : AgRs K F σ [] []
  | cons {v : V} {a : Ag} {vs : List V} {as : List Ag} (h : AgR K F σ v a) (t : AgRs K F σ vs as) : AgRs K F σ (v :: vs) (a :: as)
theorem AgR.up {K : PySem.W.Frag} {F F' : Hp} {σ : St} (e : Same F F') : ∀ {v : V} {a : Ag}, AgR K F σ v a → AgR K F' σ v a
  | _, .fr _, h => Rep.up e h
  | _, .sl _, h => h
theorem AgRs.up {K : PySem.W.Frag} {F F' : Hp} {σ : St} (e : Same F F') : ∀ {vs : List V} {as : List Ag}, AgRs K F σ vs as → AgRs K F' σ vs as
  | _, _, .nil => .nil
  | _, _, .cons h t => .cons (h.up e) (AgRs.up e t)
def PostG (K : PySem.W.Frag) (J : Jc) (er : ET) (B : Bs) (F : Hp) (σ : St) (Q : List V → Hp → Prop) : Rs (List Ag) → Prop
  | .ok ds ρ => ∀ vs H F1 o, Wd K J B H F1 o σ ρ → Same F F1 → AgRs K F1 σ vs ds → Q vs H
  | .er e ρ => ∀ c dd H F1 o, Wd K J B H F1 o σ ρ → er e c dd H → J.E c dd H
  | .no => False
def tG (K : PySem.W.Frag) (J : Jc) (er : ET) (f : Rho → Rs (List Ag)) : TA := fun σ H Q => ∃ B F o ρ, Wd K J B H F o σ ρ ∧ PostG K J er B F σ Q (f ρ)
def GM (X : Cx) (J : Jc) (er : ET) (es : List Expr) (f : Rho → Rs (List Ag)) : Prop := PA X es (tG X.K J er f)
def agNil : Rho → Rs (List Ag) := fun ρ => .ok [] ρ
def agFr (g : Rho → Rs Dat) (h : Rho → Rs (List Ag)) : Rho → Rs (List Ag) := fun ρ => (g ρ).bind fun d ρ1 => (h ρ1).bind fun as ρ2 => .ok (.fr d :: as) ρ2
def agSl (i : Nat) (h : Rho → Rs (List Ag)) : Rho → Rs (List Ag) := fun ρ => match ρ[i]? with
  | some (some _) => (h ρ).bind fun as ρ2 => .ok (.sl i :: as) ρ2
  | _ => .no
section
variable {X : Cx} {J : Jc} {er : ET} {e : Expr} {es : List Expr} {pos : Pos} {g : Rho → Rs Dat} {h : Rho → Rs (List Ag)}
theorem gm_nil : GM X J er [] agNil := PA.imp pa_nil fun σ H Q ⟨B, F, o, ρ, w, q⟩ => q [] H F o w (Same.refl _) .nil
theorem gm_fr (ha : PM X J er e g) (hr : GM X J er es h) (hs : starEach (e :: es) X.env = (false, eval e X.env) :: starEach es X.env := by rfl) : GM X J er (e :: es) (agFr g h) := by
  refine PA.imp (pa_cons ha hr hs) fun σ H Q ⟨B, F, o, ρ, w, q⟩ => ?_
  show tM X.K J er g σ H _
  unfold agFr at q
  refine ⟨B, F, o, ρ, w, ?_⟩
  cases e1 : g ρ with
  | er e' ρ1 => rw [e1] at q; exact q
  | no => rw [e1] at q; exact q.elim
  | ok d ρ1 =>
    rw [e1] at q
    refine fun v H1 F1 o1 w1 s1 r1 => ⟨B, F1, o1, ρ1, w1, ?_⟩
    show PostG X.K J er B F1 σ _ (h ρ1)
    have q' : PostG X.K J er B F σ Q ((h ρ1).bind fun xs ρ2 => .ok (.fr d :: xs) ρ2) := q
    cases e2 : h ρ1 with
    | er e' ρ2 => rw [e2] at q'; exact q'
    | no => rw [e2] at q'; exact q'.elim
    | ok ds ρ2 =>
      rw [e2] at q'
      exact fun vs H2 F2 o2 w2 s2 r2 => q' (v :: vs) H2 F2 o2 w2 (s1.trans s2) (.cons (Rep.up s2 r1) r2)
theorem gm_sl (i : Nat) {x : Str} {pos : Pos} (hr : GM X J er es h) (hN : X.N[i]? = some x := by rfl) (hv : Vis X.env.scope x := by first | exact Or.inl rfl | exact Or.inr (Or.inl rfl) | exact Or.inr (Or.inr rfl)) (hd : (x == ("__debug__" : Str)) = false := by decide)
    (hcd : (x == ("__classdict__" : Str)) = false := by decide) (hs : starEach (.Name x pos :: es) X.env = (false, eval (.Name x pos) X.env) :: starEach es X.env := by rfl) : GM X J er (.Name x pos :: es) (agSl i h) := by
  refine PA.imp (pa_cons (pe_var hN hv hd hcd) hr hs) fun σ H Q ⟨B, F, o, ρ, w, q⟩ => ?_
  unfold agSl at q
  split at q
  · rename_i d hd'
    obtain ⟨v, k1, k2⟩ := w.sl i d hd'
    refine ⟨v, k1, B, F, o, ρ, w, ?_⟩
    cases e2 : h ρ with
    | er e' ρ2 => rw [e2] at q; exact q
    | no => rw [e2] at q; exact q.elim
    | ok ds ρ2 =>
      rw [e2] at q
      exact fun vs H2 F2 o2 w2 s2 r2 => q (v :: vs) H2 F2 o2 w2 s2 (.cons k1 r2)
  · exact q.elim
/-- the slots that are lent -/
def slsOf : List Ag → List Nat
  | [] => []
  | .fr _ :: r => slsOf r
  | .sl i :: r => i :: slsOf r
def ndB : List Nat → Bool
  | [] => true
  | i :: r => !r.contains i && ndB r
/-- what the callee is handed -/
def conts (ρ : Rho) : List Ag → Option (List Dat)
  | [] => some []
  | .fr d :: r => (conts ρ r).bind fun ds => some (d :: ds)
  | .sl i :: r => match ρ[i]? with
    | some (some d) => (conts ρ r).bind fun ds => some (d :: ds)
    | _ => none
def outAt (pn : List Nat) (outs : Rho) (j : Nat) : Option Dat := match (pn.zip outs).lookup j with
  | some x => x
  | none => none
/-- the lent slots behind the call -/
def putO (pn : List Nat) (outs : Rho) : Nat → List Ag → Rho → Rho
  | _, [], ρ => ρ
  | j, .fr _ :: r, ρ => putO pn outs (j + 1) r ρ
  | j, .sl i :: r, ρ => putO pn outs (j + 1) r (ρ.set i (outAt pn outs j))
def mFn (pn : List Nat) (n : Nat) (fn : List Dat → Rs Dat) (ga : Rho → Rs (List Ag)) : Rho → Rs Dat := fun ρ => (ga ρ).bind fun as ρ1 => if as.length = n ∧ ndB (slsOf as) = true then (match conts ρ1 as with
    | some ds => (match fn ds with
      | .ok d outs => .ok d (putO pn outs 0 as ρ1)
      | .er e outs => .er e (putO pn outs 0 as ρ1)
      | .no => .no)
    | none => .no) else .no
/-- where slot i stands among the arguments -/
def posA (i : Nat) : Nat → List Ag → Option Nat
  | _, [] => none
  | j, .fr _ :: r => posA i (j + 1) r
  | j, .sl k :: r => if k = i then some j else posA i (j + 1) r
theorem posA_some {i : Nat} : ∀ {as : List Ag} {j k : Nat}, posA i j as = some k → ∃ m, k = j + m ∧ as[m]? = some (.sl i)
  | [], _, _, h => by cases h
  | .fr _ :: r, j, k, h => by
    obtain ⟨m, e, h⟩ := posA_some (as := r) (show posA i (j + 1) r = some k from h)
    exact ⟨m + 1, by omega, by simpa using h⟩
  | .sl x :: r, j, k, h => by
    unfold posA at h
    split at h
    · rename_i e; subst e; cases h; exact ⟨0, rfl, rfl⟩
    · obtain ⟨m, e, h⟩ := posA_some (as := r) h
      exact ⟨m + 1, by omega, by simpa using h⟩
theorem mem_sls {i : Nat} : ∀ {as : List Ag} {m : Nat}, as[m]? = some (.sl i) → i ∈ slsOf as
  | [], _, h => by simp at h
  | .fr _ :: r, 0, h => by simp at h
  | .fr _ :: r, m + 1, h => mem_sls (as := r) (m := m) (by simpa using h)
  | .sl x :: r, 0, h => by simp at h; subst h; simp [slsOf]
  | .sl x :: r, m + 1, h => by simp only [slsOf, List.mem_cons]; exact .inr (mem_sls (as := r) (m := m) (by simpa using h))
theorem posA_at {i : Nat} : ∀ {as : List Ag} {m j : Nat}, ndB (slsOf as) = true → as[m]? = some (.sl i) → posA i j as = some (j + m)
  | [], _, _, _, h => by simp at h
  | .fr _ :: r, 0, _, _, h => by simp at h
  | .fr _ :: r, m + 1, j, hn, h => by
    have := posA_at (as := r) (m := m) (j := j + 1) hn (by simpa using h)
    show posA i (j + 1) r = _
    rw [this]; congr 1; omega
  | .sl x :: r, 0, j, _, h => by simp at h; subst h; simp [posA]
  | .sl x :: r, m + 1, j, hn, h => by
    simp only [slsOf, ndB, Bool.and_eq_true] at hn
    have hm := mem_sls (as := r) (m := m) (by simpa using h)
    have hx : x ≠ i := fun e => by
      subst e
      have h1 := hn.1
      rw [List.contains_iff_mem.mpr hm] at h1; cases h1
    have := posA_at (as := r) (m := m) (j := j + 1) hn.2 (by simpa using h)
    unfold posA
    rw [if_neg hx, this]; congr 1; omega
theorem posA_none {i : Nat} : ∀ {as : List Ag} {j : Nat}, posA i j as = none → i ∉ slsOf as
  | [], _, _ => by simp [slsOf]
  | .fr _ :: r, j, h => posA_none (as := r) (show posA i (j + 1) r = none from h)
  | .sl x :: r, j, h => by
    unfold posA at h
    split at h
    · cases h
    · rename_i e
      simp only [slsOf, List.mem_cons, not_or]
      exact ⟨fun z => e z.symm, posA_none (as := r) h⟩
theorem conts_len {ρ : Rho} : ∀ {as : List Ag} {ds : List Dat}, conts ρ as = some ds → ds.length = as.length
  | [], _, h => by cases h; rfl
  | .fr d :: r, ds, h => by
    obtain ⟨x, e, h⟩ := Option.bind_eq_some_iff.mp h
    cases h; simp [conts_len e]
  | .sl i :: r, ds, h => by
    unfold conts at h
    split at h
    · obtain ⟨x, e, h⟩ := Option.bind_eq_some_iff.mp h
      cases h; simp [conts_len e]
    · cases h
theorem AgRs.len {K : PySem.W.Frag} {F : Hp} {σ : St} : ∀ {vs : List V} {as : List Ag}, AgRs K F σ vs as → vs.length = as.length
  | _, _, .nil => rfl
  | _, _, .cons _ t => by simp [AgRs.len t]
theorem conts_get {K : PySem.W.Frag} {F : Hp} {σ : St} {ρ : Rho} : ∀ {vs : List V} {as : List Ag} {ds : List Dat} {m : Nat} {d : Dat}, AgRs K F σ vs as → conts ρ as = some ds → ds[m]? = some d →
    ∃ v, vs[m]? = some v ∧ ((as[m]? = some (.fr d) ∧ Rep K F v d) ∨ ∃ i, as[m]? = some (.sl i) ∧ σ[i]? = some (some v) ∧ ρ[i]? = some (some d))
  | _, _, ds, m, d, .nil, h, e => by cases h; simp at e
  | _, .fr x :: as, ds, m, d, .cons r t, h, e => by
    obtain ⟨y, e1, h⟩ := Option.bind_eq_some_iff.mp h
    cases h
    cases m with
    | zero => simp at e; subst e; exact ⟨_, rfl, .inl ⟨rfl, r⟩⟩
    | succ m => obtain ⟨v, k1, k2⟩ := conts_get (m := m) t e1 (by simpa using e); exact ⟨v, by simpa using k1, by simpa using k2⟩
  | _, .sl x :: as, ds, m, d, .cons r t, h, e => by
    unfold conts at h
    split at h
    · rename_i d0 hd0
      obtain ⟨y, e1, h⟩ := Option.bind_eq_some_iff.mp h
      cases h
      cases m with
      | zero => simp at e; subst e; exact ⟨_, rfl, .inr ⟨x, rfl, r, hd0⟩⟩
      | succ m => obtain ⟨v, k1, k2⟩ := conts_get (m := m) t e1 (by simpa using e); exact ⟨v, by simpa using k1, by simpa using k2⟩
    · cases h
theorem putO_len {pn : List Nat} {outs : Rho} : ∀ (as : List Ag) (j : Nat) (ρ : Rho), (putO pn outs j as ρ).length = ρ.length
  | [], _, _ => rfl
  | .fr _ :: r, j, ρ => putO_len r (j + 1) ρ
  | .sl i :: r, j, ρ => by show (putO pn outs (j + 1) r (ρ.set i _)).length = _; rw [putO_len r]; simp
theorem putO_out {pn : List Nat} {outs : Rho} {i : Nat} : ∀ (as : List Ag) (j : Nat) (ρ : Rho), i ∉ slsOf as → (putO pn outs j as ρ)[i]? = ρ[i]?
  | [], _, _, _ => rfl
  | .fr _ :: r, j, ρ, h => putO_out r (j + 1) ρ h
  | .sl k :: r, j, ρ, h => by
    simp only [slsOf, List.mem_cons, not_or] at h
    show (putO pn outs (j + 1) r (ρ.set k _))[i]? = _
    rw [putO_out r _ _ h.2, List.getElem?_set_ne (Ne.symm h.1)]
theorem putO_in {pn : List Nat} {outs : Rho} {i : Nat} : ∀ (as : List Ag) (m j : Nat) (ρ : Rho), ndB (slsOf as) = true → as[m]? = some (.sl i) → i < ρ.length → (putO pn outs j as ρ)[i]? = some (outAt pn outs (j + m))
  | [], _, _, _, _, h, _ => by simp at h
  | .fr _ :: r, 0, _, _, _, h, _ => by simp at h
  | .fr _ :: r, m + 1, j, ρ, hn, h, hl => by
    show (putO pn outs (j + 1) r ρ)[i]? = _
    rw [putO_in r m (j + 1) ρ hn (by simpa using h) hl]; congr 2; omega
  | .sl k :: r, 0, j, ρ, hn, h, hl => by
    simp at h; subst h
    simp only [slsOf, ndB, Bool.and_eq_true] at hn
    have hk : k ∉ slsOf r := fun z => by
      have h1 := hn.1
      rw [List.contains_iff_mem.mpr z] at h1; cases h1
    show (putO pn outs (j + 1) r (ρ.set k _))[k]? = _
    rw [putO_out r _ _ hk, List.getElem?_set_self hl]; rfl
  | .sl k :: r, m + 1, j, ρ, hn, h, hl => by
    simp only [slsOf, ndB, Bool.and_eq_true] at hn
    show (putO pn outs (j + 1) r (ρ.set k _))[i]? = _
    rw [putO_in r m (j + 1) _ hn.2 (by simpa using h) (by simpa using hl)]; congr 2; omega
theorem outAt_some {pn : List Nat} {outs : Rho} {j : Nat} {d : Dat} (h : outAt pn outs j = some d) : ∃ k : Nat, pn[k]? = some j ∧ outs[k]? = some (some d) := by
  unfold outAt at h
  split at h
  · rename_i x hx
    subst h
    have : ∀ (l : List Nat) (m : Rho), (l.zip m).lookup j = some (some d) → ∃ k : Nat, l[k]? = some j ∧ m[k]? = some (some d) := by
      intro l
      induction l with
      | nil => intro m h; simp at h
      | cons a l ih =>
        intro m h
        cases m with
        | nil => simp at h
        | cons b m =>
          simp only [List.zip_cons_cons, List.lookup_cons] at h
          split at h
          · rename_i e
            have e : j = a := by simpa using e
            cases h
            exact ⟨0, by simp [e], rfl⟩
          · obtain ⟨k, h1, h2⟩ := ih m h
            exact ⟨k + 1, by simpa using h1, by simpa using h2⟩
    exact this pn outs hx
  · cases h
/-- the caller's state behind a call -/
theorem Wd.called {K : PySem.W.Frag} {B : Bs} {H F H' F' : Hp} {o oc' : Ow} {σ : St} {ρ : Rho} {as : List Ag} {vs : List V} {ds : List Dat} {pn : List Nat} {outs : Rho} (w : Wd K J B H F o σ ρ) (hn : ndB (slsOf as) = true) (ha : AgRs K F σ vs as) (hc : conts ρ as = some ds) :
    let oc : Ow := fun a => match o a with
      | some (.inl i, p) => (posA i 0 as).map fun j => (.inl j, p)
      | _ => none
    Ent K J.T H F oc vs ds ∧ (Exi K J.T pn H F oc H' F' oc' vs outs → ∃ o', Wd K J B H' F' o' σ (putO pn outs 0 as ρ) ∧ Same F F' ∧ ∀ d v, Own K J.T F' H' oc' (.inr 0) [] d v → Own K J.T F' H' o' (.inr 0) [] d v) := by
  intro oc
  have hoc : ∀ {a : Addr} {q : Lab}, oc a = some q → ∃ i j p, o a = some (.inl i, p) ∧ posA i 0 as = some j ∧ q = (.inl j, p) := fun {a q} h => by
    have h : (match o a with
      | some (.inl i, p) => (posA i 0 as).map fun j => ((.inl j, p) : Lab)
      | _ => none) = some q := h
    split at h
    · rename_i i p e
      obtain ⟨j, h1, h2⟩ := Option.map_eq_some_iff.mp h
      exact ⟨i, j, p, e, h1, h2.symm⟩
    · cases h
  have hoc2 : ∀ {a : Addr} {i j : Nat} {p : List Nat}, o a = some (.inl i, p) → posA i 0 as = some j → oc a = some (.inl j, p) := fun {a i j p} h1 h2 => by
    show (match o a with
      | some (.inl i, p) => (posA i 0 as).map fun j => ((.inl j, p) : Lab)
      | _ => none) = _
    rw [h1]; simp [h2]
  have hoc3 : ∀ {a : Addr} {q : Root} {p : List Nat}, o a = some (q, p) → (∀ i j, q = .inl i → posA i 0 as ≠ some j) → oc a = none := fun {a q p} h1 h2 => by
    cases e : oc a with
    | none => rfl
    | some q' =>
      obtain ⟨i, j, p', k1, k2, _⟩ := hoc e
      rw [h1] at k1; cases k1
      exact absurd k2 (h2 i j rfl)
  refine ⟨⟨w.fh, fun a u e => ?_, fun a q e => ?_, ha.len.trans (conts_len hc).symm, fun m d e => ?_⟩, fun x => ?_⟩
  · cases q : oc a with
    | none => rfl
    | some q' => obtain ⟨i, j, p, k1, _⟩ := hoc q; rw [w.fo a u e] at k1; cases k1
  · obtain ⟨i, j, p, k1, _⟩ := hoc e
    exact w.oh a _ k1
  · obtain ⟨v, k1, k2⟩ := conts_get ha hc e
    refine ⟨v, k1, ?_⟩
    rcases k2 with ⟨_, r⟩ | ⟨i, e1, e2, e3⟩
    · exact r.own
    · obtain ⟨v', f1, f2⟩ := w.sl i d e3
      rw [e2] at f1; cases f1
      have hp := posA_at (j := 0) hn e1
      exact Own.keep (Same.refl _) d [] [] v (fun a p h => ⟨hoc2 h (by rw [hp]; simp), rfl⟩) f2
  · -- behind
    let o' : Ow := fun a => match oc' a with
      | some (.inr _, p) => some (.inr 0, p)
      | some (.inl j, p) => (match as[j]? with
        | some (.sl i) => some (.inl i, p)
        | _ => some (.inr 0, 0 :: p))
      | none => (match oc a with
        | some _ => none
        | none => o a)
    have hN : ∀ {a : Addr}, oc' a = none → oc a = none → o' a = o a := fun {a} h1 h2 => by
      show (match oc' a with | some (.inr _, p) => _ | some (.inl j, p) => _ | none => _) = _
      rw [h1]; simp only; rw [h2]
    have hS : ∀ {a : Addr} {q : Lab}, oc' a = some q → o' a ≠ none := fun {a q} h1 => by
      show (match oc' a with | some (.inr _, p) => _ | some (.inl j, p) => _ | none => _) ≠ none
      rw [h1]
      obtain ⟨q1, q2⟩ := q
      cases q1 with
      | inr k => simp
      | inl j => simp only; split <;> simp
    have hI : ∀ {a : Addr} {i j : Nat} {p : List Nat}, oc' a = some (.inl j, p) → as[j]? = some (.sl i) → o' a = some (.inl i, p) := fun {a i j p} h1 h2 => by
      show (match oc' a with | some (.inr _, p) => _ | some (.inl j, p) => _ | none => _) = _
      rw [h1]; simp only; rw [h2]
    have hR : ∀ {a : Addr} {p : List Nat}, oc' a = some (.inr 0, p) → o' a = some (.inr 0, p) := fun {a p} h1 => by
      show (match oc' a with | some (.inr _, p) => _ | some (.inl j, p) => _ | none => _) = _
      rw [h1]
    -- an address that o' knows: oc' knows it, or nobody of the callee did
    have hO : ∀ {a : Addr} {q : Lab}, o' a = some q → (∃ q', oc' a = some q') ∨ (oc' a = none ∧ oc a = none ∧ o a = some q) := fun {a q} h1 => by
      cases e : oc' a with
      | some q' => exact .inl ⟨q', rfl⟩
      | none =>
        cases e2 : oc a with
        | none => rw [hN e e2] at h1; exact .inr ⟨rfl, rfl, h1⟩
        | some q' =>
          exfalso
          have : (match oc' a with | some (.inr _, p) => some (.inr 0, p) | some (.inl j, p) => (match as[j]? with | some (.sl i) => some ((.inl i, p) : Lab) | _ => some (.inr 0, 0 :: p)) | none => (match oc a with | some _ => none | none => o a)) = some q := h1
          rw [e] at this; simp only at this; rw [e2] at this; cases this
    -- what is not lent is as it was
    have keepA : ∀ {a : Addr} {q : Root} {p : List Nat}, o a = some (q, p) → (∀ i j, q = .inl i → posA i 0 as ≠ some j) → o' a = some (q, p) ∧ H' a = H a := fun {a q p} h1 h2 => by
      have n1 := hoc3 h1 h2
      have n2 : oc' a = none := by
        cases e : oc' a with
        | none => rfl
        | some q' =>
          rcases x.bo a q' e with z | z
          · exact absurd n1 z
          · rw [w.on z] at h1; cases h1
      obtain ⟨u, hu⟩ := w.ex h1
      exact ⟨by rw [hN n2 n1]; exact h1, by rw [x.bk a u hu n1, hu]⟩
    have ocn : ∀ {a : Addr}, oc a ≠ none → o a ≠ none := fun {a} h1 h2 => by
      cases e : oc a with
      | none => exact h1 e
      | some q' => obtain ⟨i, j, p, k1, _⟩ := hoc e; rw [h2] at k1; cases k1
    have hOB : ∀ {a : Addr}, (oc a ≠ none ∨ H a = none) → B.o a ≠ none ∨ B.H a = none := fun {a} h => by
      rcases h with z | z
      · cases e : o a with
        | none => exact absurd e (ocn z)
        | some q => exact w.bo a q e
      · exact w.bh z
    refine ⟨o', ⟨x.fh, fun a u e => ?_, fun a q e => ?_, by rw [putO_len]; exact w.len, fun i d e => ?_, w.pr, fun a u e1 e2 => ?_, w.bf.trans x.bf, fun a q e => ?_, fun a u e => ?_, fun y hy => ?_⟩, x.bf, fun d v h => Own.keep (Same.refl _) d [] [] v (fun a p e => ⟨hR e, rfl⟩) h⟩
    · cases q : o' a with
      | none => rfl
      | some q' =>
        rcases hO q with ⟨q2, z⟩ | ⟨z1, z2, z3⟩
        · rw [x.fo a u e] at z; cases z
        · rcases x.bn a u e with y | y | y
          · rw [w.fo a u y] at z3; cases z3
          · exact absurd z2 y
          · rw [w.on y] at z3; cases z3
    · rcases hO e with ⟨q2, z⟩ | ⟨z1, z2, z3⟩
      · exact x.oh a q2 z
      · obtain ⟨u, hu⟩ := w.ex z3
        have := w.oh a q z3
        rw [x.bk a u hu z2]; rw [hu] at this; exact this
    · by_cases hi : i ∈ slsOf as
      · cases hp : posA i 0 as with
        | none => exact absurd hi (posA_none hp)
        | some j =>
          obtain ⟨m, e1, e2⟩ := posA_some hp
          have e1 : j = m := by omega
          subst e1
          have hlt : i < ρ.length := by
            have := (List.getElem?_eq_some_iff.mp e).1
            rwa [putO_len] at this
          rw [putO_in as j 0 ρ hn e2 hlt] at e
          have e : outAt pn outs (0 + j) = some d := by injection e
          rw [Nat.zero_add] at e
          obtain ⟨k, f1, f2⟩ := outAt_some e
          obtain ⟨v, g1, g2⟩ := x.ow k j d f1 f2
          -- the lent value is the slot's
          have hv : σ[i]? = some (some v) := by
            have hd : ∃ d0, ds[j]? = some d0 := by
              have hl := conts_len hc
              have : j < as.length := (List.getElem?_eq_some_iff.mp e2).1
              exact ⟨_, List.getElem?_eq_getElem (by omega)⟩
            obtain ⟨d0, hd0⟩ := hd
            obtain ⟨v0, k1, k2⟩ := conts_get ha hc hd0
            rw [g1] at k1; cases k1
            rcases k2 with ⟨z, _⟩ | ⟨i', z1, z2, _⟩
            · rw [e2] at z; cases z
            · rw [e2] at z1; cases z1; exact z2
          exact ⟨v, hv, Own.keep (Same.refl _) d [] [] v (fun a p h => ⟨hI h e2, rfl⟩) g2⟩
      · rw [putO_out as 0 ρ hi] at e
        obtain ⟨v, k1, k2⟩ := w.sl i d e
        refine ⟨v, k1, Own.keep x.bf d [] [] v (fun a p h => keepA h fun i' j z => ?_) k2⟩
        cases z
        intro z2
        obtain ⟨m, _, z3⟩ := posA_some z2
        exact hi (mem_sls z3)
    · have z := w.bk a u e1 e2
      refine x.bk a u z ?_
      cases q : oc a with
      | none => rfl
      | some q' =>
        obtain ⟨i, j, p, k1, _⟩ := hoc q
        rcases w.bo a _ k1 with y | y
        · exact absurd e2 y
        · rw [e1] at y; cases y
    · rcases hO e with ⟨q2, z⟩ | ⟨z1, z2, z3⟩
      · exact hOB (x.bo a q2 z)
      · exact w.bo a q z3
    · rcases x.bn a u e with z | z
      · exact w.bn a u z
      · exact .inr (hOB z)
    · exact Own.keep x.bf y.2.2 [] [] y.2.1 (fun a p h => keepA h fun i j z => nomatch z) (w.hl y hy)
/-- a call f(e, ..), f a def that lets nothing out (or whose errors pass) -/
theorem om_fn {x : Str} {p : Pos} {pn : List Nat} {n lv : Nat} {fn : List Dat → Rs Dat} {ga : Rho → Rs (List Ag)} (F : FnM X.prog X.w X.K X.mg X.base J.T er lv x n pn fn) (hr : Room lv X.A) (hg : Gl X x) (hx : Passes (L2.CX X.prog X.w) X J.E) (ha : GM X J er (e :: es) ga) (hdb : (x == ("__debug__" : Str)) = false := by decide)
    (he : starEach (e :: es) X.env = (false, eval e X.env) :: starEach es X.env := by rfl) (hpl : (backTo pos (starEach es X.env)).any (·.1) = false := by rfl) : OM X J er (.Call (.Name x p) (e :: es) [] pos) (mFn pn n fn ga) := by
  obtain ⟨f, fd, ps, a, b, c, d⟩ := F.ex
  refine PE.imp (pe_call a hr hg b c d .nil hx ha hdb he hpl) fun σ H Q ⟨B, F, o, ρ, w, q⟩ => ⟨B, F, o, ρ, w, ?_⟩
  unfold mFn at q
  cases e1 : ga ρ with
  | er e' ρ1 => rw [e1] at q; exact q
  | no => rw [e1] at q; exact q.elim
  | ok as ρ1 =>
    rw [e1] at q
    intro vs H1 F1 o1 w1 s1 r1
    have q1 : PostO X.K J er B F σ Q (if as.length = n ∧ ndB (slsOf as) = true then (match conts ρ1 as with
      | some ds => (match fn ds with
        | .ok d outs => .ok d (putO pn outs 0 as ρ1)
        | .er e outs => .er e (putO pn outs 0 as ρ1)
        | .no => .no)
      | none => .no) else .no) := q
    by_cases hnd' : as.length = n ∧ ndB (slsOf as) = true
    · rw [if_pos hnd'] at q1
      have hnd := hnd'.2
      cases hc : conts ρ1 as with
      | none => rw [hc] at q1; exact q1.elim
      | some ds =>
        rw [hc] at q1
        simp only at q1
        rw [List.append_nil]
        have hlen : vs.length = n := r1.len.trans hnd'.1
        refine ⟨hlen, F1, _, ds, (Wd.called (H' := H1) (F' := F1) (oc' := o1) (pn := pn) (outs := []) w1 hnd r1 hc).1, ?_⟩
        cases e2 : fn ds with
        | no => rw [e2] at q1; exact q1.elim
        | ok d outs =>
          rw [e2] at q1
          intro v H2 F2 oc2 x
          obtain ⟨o2, w2, s2, k⟩ := (Wd.called w1 hnd r1 hc).2 x
          exact fun h => q1 v H2 F2 o2 w2 (s1.trans s2) (k d v h)
        | er e' outs =>
          rw [e2] at q1
          intro c dd H2 F2 oc2 x h
          obtain ⟨o2, w2, s2, k⟩ := (Wd.called w1 hnd r1 hc).2 x
          exact q1 c dd H2 F2 o2 w2 h
    · rw [if_neg hnd'] at q1; exact q1.elim
end
end MV

namespace MV
open PySem PySem.Spec PyProof.Rows L2

/-! ## pure calls -/
def pfn (fn : List Dat → Rs Dat) : List Dat → Option Dat := fun ds => match fn ds with
  | .ok d _ => if d.fz = true then some d else none
  | _ => none
def sFn (n : Nat) (fn : List Dat → Rs Dat) (fs : Rho → Option (List Dat)) : Rho → Option Dat := fun ρ => (fs ρ).bind fun ds => if ds.length = n then pfn fn ds else none
theorem pp_fn {X : Cx} {T : CT} {er : ET} {e : Expr} {es : List Expr} {pos : Pos} {x : Str} {p : Pos} {pn : List Nat} {n lv : Nat} {fn : List Dat → Rs Dat} {fs : Rho → Option (List Dat)} (F : FnM X.prog X.w X.K X.mg X.base T er lv x n pn fn) (hr : Room lv X.A) (hg : Gl X x) (ha : AP' X (e :: es) fs) (hdb : (x == ("__debug__" : Str)) = false := by decide)
    (he : starEach (e :: es) X.env = (false, eval e X.env) :: starEach es X.env := by rfl) (hpl : (backTo pos (starEach es X.env)).any (·.1) = false := by rfl) : PP X (.Call (.Name x p) (e :: es) [] pos) (sFn n fn fs) := by
  obtain ⟨f, fd, ps, a, b, c, d⟩ := F.ex
  obtain ⟨t, h1, h2⟩ := ha
  refine ⟨_, pe_call a hr hg b c d .nil passL h1 hdb he hpl, fun σ H F ρ d Q hs hE hf q => ?_⟩
  obtain ⟨ds, e1, hf⟩ := Option.bind_eq_some_iff.mp hf
  split at hf
  · rename_i hn
    refine h2 σ H F ρ ds _ hs hE e1 fun vs H1 F1 ex1 r1 => ?_
    rw [List.append_nil]
    refine ⟨r1.length.trans hn, F1, fun _ => none, ds, ⟨ex1.fh, fun _ _ _ => rfl, fun a q h => (nomatch h), r1.length, fun i d e => ?_⟩, ?_⟩
    · obtain ⟨v, k1, k2⟩ := r1.get e
      exact ⟨v, k1, k2.own⟩
    · unfold pfn at hf
      cases e2 : fn ds with
      | no => rw [e2] at hf; cases hf
      | er e' outs => rw [e2] at hf; cases hf
      | ok d2 outs =>
        rw [e2] at hf
        simp only at hf
        split at hf
        · rename_i hz
          cases hf
          intro v H2 F2 o2 x hv
          exact q v H2 F2 (ex1.trans ⟨fun b u k => x.bk b u k rfl, x.bf, x.fh, fun b u k => by
            rcases x.bn b u k with z | z | z
            · exact .inl z
            · exact absurd rfl z
            · exact .inr z⟩) ((own_fz hz).mp hv)
        · cases hf
  · cases hf

/-! ## pure expressions within a state -/
def UD (X : Cx) (J : Jc) (e : Expr) (f : Rho → Option Dat) : Prop := ∃ t, PE X e t ∧ ∀ (B : Bs) (σ : St) (H F : Hp) (o : Ow) (ρ : Rho) (d : Dat) (Q : VK), Wd X.K J B H F o σ ρ → f ρ = some d → WP X.K H F d Q → t σ H Q
def uZ (f : Rho → Option Dat) : Rho → Option Dat := fun ρ => match f (frzR ρ) with
  | some d => if d.nol = true then some d else none
  | none => none
section
variable {X : Cx} {J : Jc} {er : ET} {e : Expr} {f : Rho → Option Dat}
theorem ud_p (h : PP X e f) : UD X J e f := let ⟨t, h1, h2⟩ := h; ⟨t, h1, fun B σ H F o ρ d Q w hf q => h2 σ H F ρ d Q w.fh w.envF hf q⟩
theorem ud_z (h : PP X e f) : UD X J e (uZ f) := by
  obtain ⟨t, h1, h2⟩ := h
  refine ⟨t, h1, fun B σ H F o ρ d Q w hf q => ?_⟩
  unfold uZ at hf
  cases e : f (frzR ρ) with
  | none => rw [e] at hf; cases hf
  | some d' =>
    rw [e] at hf
    simp only at hf
    split at hf
    · rename_i hn; cases hf; exact w.useZ h2 e hn q
    · cases hf
end

theorem set_self {α : Type} : ∀ {l : List α} {k : Nat} {x : α}, l[k]? = some x → l.set k x = l
  | [], _, _, h => by simp at h
  | y :: l, 0, x, h => by simp at h; subst h; rfl
  | y :: l, k + 1, x, h => by simp only [List.set_cons_succ]; rw [set_self (by simpa using h)]
/-! ## places: a slot, and a way into its content -/
def Dat.at : Dat → List Nat → Option Dat
  | d, [] => some d
  | .mls l, k :: r => (l[k]?).bind fun d => Dat.at d r
  | .obj _ l, k :: r => (l[k]?).bind fun d => Dat.at d r
  | _, _ => none
def Dat.put : Dat → List Nat → Dat → Dat
  | _, [], d' => d'
  | .mls l, k :: r, d' => match l[k]? with
    | some d => .mls (l.set k (Dat.put d r d'))
    | none => .mls l
  | .obj c l, k :: r, d' => match l[k]? with
    | some d => .obj c (l.set k (Dat.put d r d'))
    | none => .obj c l
  | d, _, _ => d
theorem Dat.at_snoc : ∀ (path : List Nat) (root d : Dat) (k : Nat), Dat.at root path = some d → Dat.at root (path ++ [k]) = Dat.at d [k]
  | [], root, d, k, h => by simp only [Dat.at, Option.some.injEq] at h; subst h; rfl
  | j :: r, .mls l, d, k, h => by
    simp only [Dat.at] at h
    obtain ⟨x, e, h⟩ := Option.bind_eq_some_iff.mp h
    simp only [List.cons_append, Dat.at, e, Option.bind_some]
    exact Dat.at_snoc r x d k h
  | j :: r, .obj c l, d, k, h => by
    simp only [Dat.at] at h
    obtain ⟨x, e, h⟩ := Option.bind_eq_some_iff.mp h
    simp only [List.cons_append, Dat.at, e, Option.bind_some]
    exact Dat.at_snoc r x d k h
  | _ :: _, .non, _, _, h => by simp [Dat.at] at h
  | _ :: _, .bl _, _, _, h => by simp [Dat.at] at h
  | _ :: _, .int _, _, _, h => by simp [Dat.at] at h
  | _ :: _, .str _, _, _, h => by simp [Dat.at] at h
  | _ :: _, .tup _, _, _, h => by simp [Dat.at] at h
  | _ :: _, .lst _, _, _, h => by simp [Dat.at] at h
  | _ :: _, .frl _, _, _, h => by simp [Dat.at] at h
theorem Dat.put_snoc : ∀ (path : List Nat) (root d : Dat) (k : Nat) (d' : Dat), Dat.at root path = some d → Dat.put root (path ++ [k]) d' = Dat.put root path (Dat.put d [k] d')
  | [], root, d, k, d', h => by simp only [Dat.at, Option.some.injEq] at h; subst h; rfl
  | j :: r, .mls l, d, k, d', h => by
    simp only [Dat.at] at h
    obtain ⟨x, e, h⟩ := Option.bind_eq_some_iff.mp h
    simp only [List.cons_append, Dat.put, e]
    rw [Dat.put_snoc r x d k d' h]
  | j :: r, .obj c l, d, k, d', h => by
    simp only [Dat.at] at h
    obtain ⟨x, e, h⟩ := Option.bind_eq_some_iff.mp h
    simp only [List.cons_append, Dat.put, e]
    rw [Dat.put_snoc r x d k d' h]
  | _ :: _, .non, _, _, _, h => by simp [Dat.at] at h
  | _ :: _, .bl _, _, _, _, h => by simp [Dat.at] at h
  | _ :: _, .int _, _, _, _, h => by simp [Dat.at] at h
  | _ :: _, .str _, _, _, _, h => by simp [Dat.at] at h
  | _ :: _, .tup _, _, _, _, h => by simp [Dat.at] at h
  | _ :: _, .lst _, _, _, _, h => by simp [Dat.at] at h
  | _ :: _, .frl _, _, _, _, h => by simp [Dat.at] at h
section
variable {K : PySem.W.Frag} {T : CT} {F H F' H' : Hp} {o o' : Ow} {r : Root}
/-- one child, and how the whole is made again -/
theorem Owns.setk : ∀ (ds : List Dat) (p : List Nat) (i0 k : Nat) (vs : List V) (dk : Dat), Owns K T F H o r p i0 ds vs → ds[k]? = some dk →
    ∃ vk, vs[k]? = some vk ∧ Own K T F H o r ((i0 + k) :: p) dk vk ∧ ∀ (F' H' : Hp) (o' : Ow) (dk' : Dat) (vk' : V), Same F F' → (∀ a q j, j ≠ i0 + k → o a = some (r, q ++ (j :: p)) → o' a = some (r, q ++ (j :: p)) ∧ H' a = H a) →
      Own K T F' H' o' r ((i0 + k) :: p) dk' vk' → Owns K T F' H' o' r p i0 (ds.set k dk') (vs.set k vk')
  | [], _, _, _, _, _, _, e => by simp at e
  | d :: ds, p, i0, 0, vs, dk, h, e => by
    unfold Owns at h
    obtain ⟨v, vs', rfl, h1, h2⟩ := h
    simp at e; subst e
    refine ⟨v, rfl, h1, fun F' H' o' dk' vk' hF hk h => ?_⟩
    simp only [List.set_cons_zero]
    unfold Owns
    refine ⟨vk', vs', rfl, h, ?_⟩
    have aux : ∀ (ds : List Dat) (i : Nat) (vs : List V), i0 < i → Owns K T F H o r p i ds vs → Owns K T F' H' o' r p i ds vs := by
      intro ds
      induction ds with
      | nil => intro i vs _ h; unfold Owns at h ⊢; exact h
      | cons d ds ih =>
        intro i vs hi h
        unfold Owns at h ⊢
        obtain ⟨v, vs', e, h1, h2⟩ := h
        exact ⟨v, vs', e, Own.keep hF d (i :: p) (i :: p) v (fun a q e => hk a q i (by omega) e) h1, ih (i + 1) vs' (by omega) h2⟩
    exact aux ds (i0 + 1) vs' (by omega) h2
  | d :: ds, p, i0, k + 1, vs, dk, h, e => by
    unfold Owns at h
    obtain ⟨v, vs', rfl, h1, h2⟩ := h
    obtain ⟨vk, e1, h3, h4⟩ := Owns.setk ds p (i0 + 1) k vs' dk h2 (by simpa using e)
    have ei : i0 + 1 + k = i0 + (k + 1) := by omega
    refine ⟨vk, by simpa using e1, by rw [← ei]; exact h3, fun F' H' o' dk' vk' hF hk h => ?_⟩
    simp only [List.set_cons_succ]
    unfold Owns
    refine ⟨v, vs'.set k vk', rfl, Own.keep hF d (i0 :: p) (i0 :: p) v (fun a q e => hk a q i0 (by omega) e) h1, h4 F' H' o' dk' vk' hF (fun a q j hj e => hk a q j (by omega) e) (by rw [ei]; exact h)⟩
theorem Owns.snoc : ∀ (ds : List Dat) (p : List Nat) (i0 : Nat) (vs : List V) (d : Dat) (v : V), Owns K T F H o r p i0 ds vs → Own K T F H o r ((i0 + ds.length) :: p) d v → Owns K T F H o r p i0 (ds ++ [d]) (vs ++ [v])
  | [], p, i0, vs, d, v, h, g => by
    unfold Owns at h; subst h
    show Owns K T F H o r p i0 [d] [v]
    unfold Owns
    exact ⟨v, [], rfl, g, by unfold Owns; rfl⟩
  | x :: ds, p, i0, vs, d, v, h, g => by
    unfold Owns at h
    obtain ⟨y, vs', rfl, h1, h2⟩ := h
    show Owns K T F H o r p i0 (x :: (ds ++ [d])) (y :: (vs' ++ [v]))
    unfold Owns
    refine ⟨y, vs' ++ [v], rfl, h1, Owns.snoc ds p (i0 + 1) vs' d v h2 ?_⟩
    have e : i0 + 1 + ds.length = i0 + (x :: ds).length := by simp; omega
    rw [e]; exact g
theorem Owns.len : ∀ {ds : List Dat} {p : List Nat} {i : Nat} {vs : List V}, Owns K T F H o r p i ds vs → vs.length = ds.length
  | [], _, _, _, h => by unfold Owns at h; subst h; rfl
  | d :: ds, _, _, _, h => by
    unfold Owns at h
    obtain ⟨v, vs', rfl, h1, h2⟩ := h
    simp [Owns.len h2]
end
/-- the value at a place -/
structure PlV (K : PySem.W.Frag) (J : Jc) (F H : Hp) (o : Ow) (σ : St) (ρ : Rho) (i : Nat) (path : List Nat) (d : Dat) (v : V) : Prop where
  ex : ∃ root v0, ρ[i]? = some (some root) ∧ σ[i]? = some (some v0) ∧ Dat.at root path = some d ∧ Own K J.T F H o (.inl i) path.reverse d v ∧
    ∀ (F' H' : Hp) (o' : Ow) (d' : Dat), Same F F' → (∀ a q, o a = some (.inl i, q) → (∀ q', q ≠ q' ++ path.reverse) → o' a = some (.inl i, q) ∧ H' a = H a) → Own K J.T F' H' o' (.inl i) path.reverse d' v → Own K J.T F' H' o' (.inl i) [] (Dat.put root path d') v0
section
variable {K : PySem.W.Frag} {J : Jc} {B : Bs} {F H F' H' : Hp} {o o' : Ow} {σ : St} {ρ ρ' : Rho} {i : Nat} {path : List Nat} {d : Dat} {v : V}
theorem PlV.root (w : Wd K J B H F o σ ρ) (h : ρ[i]? = some (some d)) : ∃ v, σ[i]? = some (some v) ∧ PlV K J F H o σ ρ i [] d v := by
  obtain ⟨v, k1, k2⟩ := w.sl i d h
  exact ⟨v, k1, d, v, h, k1, rfl, k2, fun F' H' o' d' hF hk h' => h'⟩
theorem PlV.ext (w : Wd K J B H F o σ ρ) (ex : Ext H F H' F') (P : PlV K J F H o σ ρ i path d v) : PlV K J F' H' o σ ρ i path d v := by
  obtain ⟨root, v0, h1, h2, h3, h4, h5⟩ := P
  have hk : ∀ a q, o a = some q → H' a = H a := fun a q h => by
    obtain ⟨u, hu⟩ := w.ex h
    rw [ex.hh a u hu, hu]
  refine ⟨root, v0, h1, h2, h3, Own.keep ex.ff d _ _ v (fun a q h => ⟨h, hk a _ h⟩) h4, fun F2 H2 o2 d' hF hq h => h5 F2 H2 o2 d' (ex.ff.trans hF) (fun a q e1 e2 => ?_) h⟩
  obtain ⟨z1, z2⟩ := hq a q e1 e2
  exact ⟨z1, z2.trans (hk a _ e1)⟩
/-- one step down a list -/
theorem PlV.step {ds : List Dat} {k : Nat} {dk : Dat} (P : PlV K J F H o σ ρ i path (.mls ds) v) (h : ds[k]? = some dk) : ∃ a vs vk, v = .ref a ∧ H a = some (.lst vs) ∧ vs[k]? = some vk ∧ PlV K J F H o σ ρ i (path ++ [k]) dk vk := by
  obtain ⟨root, v0, h1, h2, h3, h4, h5⟩ := P
  unfold Own at h4
  obtain ⟨a, vs, rfl, e1, e2, hz, h6⟩ := h4
  obtain ⟨vk, k1, k2, k3⟩ := Owns.setk ds _ 0 k vs dk h6 h
  simp only [Nat.zero_add] at k2 k3
  have hr : (path ++ [k]).reverse = k :: path.reverse := by simp
  refine ⟨a, vs, vk, rfl, e2, k1, root, v0, h1, h2, ?_, by rw [hr]; exact k2, fun F' H' o' d' hF hk h' => ?_⟩
  · rw [Dat.at_snoc _ _ _ _ h3]; simp [Dat.at, h]
  · rw [Dat.put_snoc _ _ _ _ _ h3]
    rw [hr] at hk h'
    have hka : o' a = some (.inl i, path.reverse) ∧ H' a = H a := hk a _ e1 fun q' z => by
      have := congrArg List.length z; simp at this; omega
    have he : Dat.put (.mls ds) [k] d' = .mls (ds.set k d') := by simp [Dat.put, h]
    refine h5 F' H' o' _ hF (fun b q e3 e4 => hk b q e3 fun q' z => e4 (q' ++ [k]) (by rw [z]; simp)) ?_
    rw [he]
    unfold Own
    refine ⟨a, vs, rfl, hka.1, hka.2.trans e2, by simpa using hz, ?_⟩
    have := k3 F' H' o' d' vk hF (fun b q j hj e3 => hk b _ e3 fun q' z => ?_) h'
    · rwa [set_self k1] at this
    · have z2 : q ++ (j :: path.reverse) = q' ++ (k :: path.reverse) := z
      have := (List.append_inj' z2 (by simp)).2
      exact hj (List.cons.inj this).1
/-- a list at a place gets other items -/
theorem Wd.plUpd (w : Wd K J B H F o σ ρ) {ds ds' : List Dat} {a : Addr} {vs vs' : List V} (P : PlV K J F H o σ ρ i path (.mls ds) (.ref a)) (ha : H a = some (.lst vs)) (hz : ds'.length ≤ sizeLine)
    (hsame : ∀ b q, o b = some q → q.1 ≠ .inr 0 → o' b = some q) (hnew : ∀ b q, o' b = some q → ∃ q', o b = some q') (hown : o' a = o a)
    (hn : Owns K J.T F (L2.upd H a (.lst vs')) o' (.inl i) path.reverse 0 ds' vs') : ∃ root, ρ[i]? = some (some root) ∧ Wd K J B (L2.upd H a (.lst vs')) F o' σ (ρ.set i (some (Dat.put root path (.mls ds')))) := by
  obtain ⟨root, v0, h1, h2, h3, h4, h5⟩ := P
  unfold Own at h4
  obtain ⟨a', vs0, e0, e1, e2, hz0, h6⟩ := h4
  cases e0
  have hne : ∀ b q, o b = some q → q ≠ (.inl i, path.reverse) → b ≠ a := fun b q e n z => by rw [z, e1] at e; cases e; exact n rfl
  refine ⟨root, h1, fun b u q => ?_, fun b u q => ?_, fun b q h => ?_, by simpa using w.len, fun j d' q => ?_, w.pr, fun b u h z => ?_, w.bf, fun b q h => ?_, w.bn, fun x hx => ?_⟩
  · rw [upd_ne (fun e => by have := w.fo b u q; rw [e, e1] at this; cases this)]; exact w.fh b u q
  · cases e : o' b with
    | none => rfl
    | some q' => obtain ⟨q2, z⟩ := hnew b q' e; rw [w.fo b u q] at z; cases z
  · by_cases e : b = a
    · subst e; rw [upd_same]; trivial
    · rw [upd_ne e]; obtain ⟨q2, z⟩ := hnew b q h; exact w.oh b q2 z
  · by_cases hj : i = j
    · subst hj
      have hl : i < ρ.length := (List.getElem?_eq_some_iff.mp h1).1
      rw [List.getElem?_set_self hl] at q; cases q
      refine ⟨v0, h2, h5 F _ o' _ (Same.refl _) (fun b q e3 e4 => ⟨hsame b _ e3 (fun z => nomatch z), ?_⟩) ?_⟩
      · rw [upd_ne (hne b _ e3 fun z => e4 [] (by injection z))]
      · unfold Own
        exact ⟨a, vs', rfl, by rw [hown]; exact e1, upd_same, hz, hn⟩
    · rw [List.getElem?_set_ne hj] at q
      obtain ⟨v', k1, k2⟩ := w.sl j d' q
      refine ⟨v', k1, Own.keep (Same.refl _) d' [] [] v' (fun b p h => ⟨hsame b _ h (fun z => nomatch z), ?_⟩) k2⟩
      rw [upd_ne (hne b _ h fun z => by injection z with z _; injection z with z; exact hj z.symm)]
  · rw [upd_ne (fun e => ?_)]
    · exact w.bk b u h z
    · rcases w.bo a _ e1 with q | q
      · exact q (e ▸ z)
      · rw [e, q] at h; cases h
  · obtain ⟨q2, z⟩ := hnew b q h; exact w.bo b q2 z
  · refine Own.keep (Same.refl _) x.2.2 [] [] x.2.1 (fun b p h => ⟨hsame b _ h (fun z => by injection z with z; omega), ?_⟩) (w.hl x hx)
    rw [upd_ne (hne b _ h fun z => nomatch (congrArg Prod.fst z))]
end
/-- a place's evaluation -/
def PostL (K : PySem.W.Frag) (J : Jc) (er : ET) (B : Bs) (F : Hp) (σ : St) (Q : VK) : Rs (Nat × List Nat) → Prop
  | .ok pl ρ => ∀ d v H F1 o, Wd K J B H F1 o σ ρ → Same F F1 → PlV K J F1 H o σ ρ pl.1 pl.2 d v → Q v H
  | .er e ρ => ∀ c dd H F1 o, Wd K J B H F1 o σ ρ → er e c dd H → J.E c dd H
  | .no => False
def tL (K : PySem.W.Frag) (J : Jc) (er : ET) (f : Rho → Rs (Nat × List Nat)) : TE := fun σ H Q => ∃ B F o ρ, Wd K J B H F o σ ρ ∧ PostL K J er B F σ Q (f ρ)
def LM (X : Cx) (J : Jc) (er : ET) (e : Expr) (f : Rho → Rs (Nat × List Nat)) : Prop := PE X e (tL X.K J er f)
/-- what stands at a place -/
def plGet (ρ : Rho) (pl : Nat × List Nat) : Option Dat := match ρ[pl.1]? with
  | some (some root) => Dat.at root pl.2
  | _ => none
theorem PlV.get {K : PySem.W.Frag} {J : Jc} {F H : Hp} {o : Ow} {σ : St} {ρ : Rho} {pl : Nat × List Nat} {d : Dat} {v : V} (P : PlV K J F H o σ ρ pl.1 pl.2 d v) : plGet ρ pl = some d := by
  obtain ⟨root, v0, h1, h2, h3, _⟩ := P
  unfold plGet; rw [h1]; exact h3
def plVar (i : Nat) : Rho → Rs (Nat × List Nat) := fun ρ => match ρ[i]? with
  | some (some _) => .ok (i, []) ρ
  | _ => .no
/-- an index of a list, by its place -/
def ixOf (d : Dat) (l : List Dat) : Option Nat := match d with
  | .int n => (ixN l.length n).bind fun k => if k < l.length then some k else none
  | _ => none
def plIx (g : Rho → Rs (Nat × List Nat)) (f : Rho → Option Dat) : Rho → Rs (Nat × List Nat) := fun ρ => (g ρ).bind fun pl ρ1 => match plGet ρ1 pl, f ρ1 with
  | some (.mls l), some d => (match ixOf d l with
    | some k => .ok (pl.1, pl.2 ++ [k]) ρ1
    | none => .no)
  | _, _ => .no
def plIxM (i : Nat) (f : Rho → Rs Dat) : Rho → Rs (Nat × List Nat) := fun ρ => match ρ[i]? with
  | some (some _) => (f ρ).bind fun d ρ1 => (match plGet ρ1 (i, []) with
    | some (.mls l) => (match ixOf d l with
      | some k => .ok (i, [k]) ρ1
      | none => .no)
    | _ => .no)
  | _ => .no
theorem ixOf_at {d : Dat} {l : List Dat} {k : Nat} (h : ixOf d l = some k) {xs : List V} (hl : xs.length = l.length) : ∃ n, d = .int n ∧ k < l.length ∧ L2.atI xs n = xs[k]? := by
  unfold ixOf at h
  split at h
  · rename_i n
    obtain ⟨j, e, h⟩ := Option.bind_eq_some_iff.mp h
    split at h
    · rename_i hj; cases h
      refine ⟨n, rfl, hj, ?_⟩
      unfold L2.atI; rw [hl, e]; rfl
    · cases h
  · cases h
section
variable {X : Cx} {J : Jc} {er : ET} {e a b : Expr} {pos : Pos} {g : Rho → Rs (Nat × List Nat)} {f : Rho → Option Dat} {fm : Rho → Rs Dat}
theorem lm_var (i : Nat) {x : Str} {pos : Pos} (hN : X.N[i]? = some x := by rfl) (hv : Vis X.env.scope x := by first | exact Or.inl rfl | exact Or.inr (Or.inl rfl) | exact Or.inr (Or.inr rfl)) (hd : (x == ("__debug__" : Str)) = false := by decide)
    (hcd : (x == ("__classdict__" : Str)) = false := by decide) : LM X J er (.Name x pos) (plVar i) := PE.imp (pe_var hN hv hd hcd) fun σ H Q ⟨B, F, o, ρ, w, q⟩ => by
  unfold plVar at q
  split at q
  · rename_i d hd'
    obtain ⟨v, h1, P⟩ := PlV.root w hd'
    exact ⟨v, h1, q d v H F o w (Same.refl _) P⟩
  · exact q.elim
theorem lm_ix (ha : LM X J er a g) (hb : UD X J b f) (hs : PlainIx b := by exact fun _ _ => rfl) : LM X J er (.Subscript a b pos) (plIx g f) := by
  obtain ⟨t, h1, h2⟩ := hb
  refine PE.imp (pe_ix ix_list ha h1 hs) fun σ H Q ⟨B, F, o, ρ, w, q⟩ => ⟨B, F, o, ρ, w, ?_⟩
  unfold plIx at q
  cases e1 : g ρ with
  | er e' ρ1 => rw [e1] at q; exact q
  | no => rw [e1] at q; exact q.elim
  | ok pl ρ1 =>
    rw [e1] at q
    intro d v H1 F1 o1 w1 s1 P
    have q1 : PostL X.K J er B F σ Q (match plGet ρ1 pl, f ρ1 with
      | some (.mls l), some d => (match ixOf d l with
        | some k => .ok (pl.1, pl.2 ++ [k]) ρ1
        | none => .no)
      | _, _ => .no) := q
    rw [P.get] at q1
    cases e2 : f ρ1 with
    | none => rw [e2] at q1; cases d <;> exact q1.elim
    | some dk =>
      rw [e2] at q1
      cases d with
      | mls l =>
        simp only at q1
        cases e3 : ixOf dk l with
        | none => rw [e3] at q1; exact q1.elim
        | some k =>
          rw [e3] at q1
          refine h2 B σ H1 F1 o1 ρ1 dk _ w1 e2 fun u H2 F2 ex r => ?_
          have P2 := P.ext w1 ex
          have hk : k < l.length := by
            have := ixOf_at e3 (xs := List.replicate l.length V.non) (by simp)
            obtain ⟨_, _, z, _⟩ := this; exact z
          obtain ⟨p, vs, vk, rfl, k1, k2, P3⟩ := P2.step (List.getElem?_eq_getElem hk)
          have hl : vs.length = l.length := by
            obtain ⟨_, _, _, _, _, h4, _⟩ := P2
            unfold Own at h4
            obtain ⟨p', vs', z1, z2, z3, _, z4⟩ := h4
            cases z1; rw [k1] at z3; cases z3
            exact z4.len
          obtain ⟨n, rfl, _, z⟩ := ixOf_at e3 hl
          cases r
          exact ⟨p, vs, n, vk, rfl, rfl, SqL.of k1, by rw [z]; exact k2, q1 _ vk H2 F2 o1 (w1.ext ex) (s1.trans ex.ff) P3⟩
      | _ => exact q1.elim
theorem lm_ixM (i : Nat) {x : Str} {px : Pos} (hb : PM X J er b fm) (hN : X.N[i]? = some x := by rfl) (hv : Vis X.env.scope x := by first | exact Or.inl rfl | exact Or.inr (Or.inl rfl) | exact Or.inr (Or.inr rfl)) (hd : (x == ("__debug__" : Str)) = false := by decide)
    (hcd : (x == ("__classdict__" : Str)) = false := by decide) (hs : PlainIx b := by exact fun _ _ => rfl) : LM X J er (.Subscript (.Name x px) b pos) (plIxM i fm) := by
  refine PE.imp (pe_ix ix_list (pe_var hN hv hd hcd) hb hs) fun σ H Q ⟨B, F, o, ρ, w, q⟩ => ?_
  unfold plIxM at q
  split at q
  · rename_i d0 hd0
    obtain ⟨v, h1, _⟩ := w.sl i d0 hd0
    refine ⟨v, h1, B, F, o, ρ, w, ?_⟩
    cases e1 : fm ρ with
    | er e' ρ1 => rw [e1] at q; exact q
    | no => rw [e1] at q; exact q.elim
    | ok dk ρ1 =>
      rw [e1] at q
      intro u H1 F1 o1 w1 s1 r1
      have q1 : PostL X.K J er B F σ Q (match plGet ρ1 (i, []) with
        | some (.mls l) => (match ixOf dk l with
          | some k => .ok (i, [k]) ρ1
          | none => .no)
        | _ => .no) := q
      unfold plGet at q1
      cases e2 : ρ1[i]? with
      | none => rw [show ρ1[(i, ([] : List Nat)).1]? = none from e2] at q1; exact q1.elim
      | some x =>
        rw [show ρ1[(i, ([] : List Nat)).1]? = some x from e2] at q1
        cases x with
        | none => exact q1.elim
        | some d1 =>
          simp only [Dat.at] at q1
          obtain ⟨v', k1, P⟩ := PlV.root w1 e2
          rw [h1] at k1; cases k1
          cases d1 with
          | mls l =>
            simp only at q1
            cases e3 : ixOf dk l with
            | none => rw [e3] at q1; exact q1.elim
            | some k =>
              rw [e3] at q1
              have hk : k < l.length := by
                have := ixOf_at e3 (xs := List.replicate l.length V.non) (by simp)
                obtain ⟨_, _, z, _⟩ := this; exact z
              have hl0 := P
              obtain ⟨p, vs, vk, rfl, k1, k2, P3⟩ := P.step (List.getElem?_eq_getElem hk)
              have hl : vs.length = l.length := by
                obtain ⟨_, _, _, _, _, h4, _⟩ := hl0
                unfold Own at h4
                obtain ⟨p', vs', z1, z2, z3, _, z4⟩ := h4
                cases z1; rw [k1] at z3; cases z3
                exact z4.len
              obtain ⟨n, rfl, _, z⟩ := ixOf_at e3 hl
              cases r1
              exact ⟨p, vs, n, vk, rfl, rfl, SqL.of k1, by rw [z]; exact k2, q1 _ vk H1 F1 o1 w1 s1 P3⟩
          | _ => exact q1.elim
  · exact q.elim
end
end MV

namespace MV
open PySem PySem.Spec PyProof.Rows L2

/-! ## lists that change -/
def plPut (ρ : Rho) (pl : Nat × List Nat) (d : Dat) : Rho := match ρ[pl.1]? with
  | some (some root) => ρ.set pl.1 (some (Dat.put root pl.2 d))
  | _ => ρ
section
variable {K : PySem.W.Frag} {J : Jc} {B : Bs} {F H F' H' : Hp} {o o' : Ow} {σ : St} {ρ ρ' : Rho} {pl : Nat × List Nat} {d : Dat} {v : V}
theorem PlV.lst {ds : List Dat} (P : PlV K J F H o σ ρ pl.1 pl.2 (.mls ds) v) : ∃ a vs, v = .ref a ∧ H a = some (.lst vs) ∧ o a = some (.inl pl.1, pl.2.reverse) ∧ ds.length ≤ sizeLine ∧ Owns K J.T F H o (.inl pl.1) pl.2.reverse 0 ds vs := by
  obtain ⟨root, v0, h1, h2, h3, h4, h5⟩ := P
  unfold Own at h4
  obtain ⟨a, vs, rfl, e1, e2, hz, h6⟩ := h4
  exact ⟨a, vs, rfl, e2, e1, hz, h6⟩
/-- the children are untouched by a store to their list -/
theorem Owns.store {a : Addr} {i : Nat} {p : List Nat} {u : HO} (h : o a = some (.inl i, p)) : ∀ (ds : List Dat) (k : Nat) (vs : List V), Owns K J.T F H o (.inl i) p k ds vs → Owns K J.T F (L2.upd H a u) o (.inl i) p k ds vs
  | [], k, vs, g => by unfold Owns at g ⊢; exact g
  | d :: ds, k, vs, g => by
    unfold Owns at g ⊢
    obtain ⟨v, vs', e, h1, h2⟩ := g
    refine ⟨v, vs', e, Own.keep (Same.refl _) d _ _ v (fun b q e => ⟨e, upd_ne (fun z => ?_)⟩) h1, Owns.store h ds (k + 1) vs' h2⟩
    rw [z, h] at e
    have := congrArg (fun x : Option Lab => x.map fun y => y.2.length) e
    simp at this; omega
/-- other items, all frozen -/
theorem Wd.plSet (w : Wd K J B H F o σ ρ) {ds ds' : List Dat} {a : Addr} {vs vs' : List V} (P : PlV K J F H o σ ρ pl.1 pl.2 (.mls ds) (.ref a)) (ha : H a = some (.lst vs)) (hz : ds'.length ≤ sizeLine) (hn : Owns K J.T F (L2.upd H a (.lst vs')) o (.inl pl.1) pl.2.reverse 0 ds' vs') :
    Wd K J B (L2.upd H a (.lst vs')) F o σ (plPut ρ pl (.mls ds')) := by
  obtain ⟨root, h1, h2⟩ := w.plUpd (o' := o) P ha hz (fun b q e _ => e) (fun b q e => ⟨q, e⟩) rfl hn
  unfold plPut; rw [h1]; exact h2
end

/-- a place, by pure indexes -/
def UL (X : Cx) (J : Jc) (e : Expr) (f : Rho → Option (Nat × List Nat)) : Prop := ∃ t, PE X e t ∧ ∀ (B : Bs) (σ : St) (H F : Hp) (o : Ow) (ρ : Rho) (pl : Nat × List Nat) (Q : VK), Wd X.K J B H F o σ ρ → f ρ = some pl →
  (∀ d v H' F', Ext H F H' F' → PlV X.K J F' H' o σ ρ pl.1 pl.2 d v → Q v H') → t σ H Q
def uVar (i : Nat) : Rho → Option (Nat × List Nat) := fun ρ => match ρ[i]? with
  | some (some _) => some (i, [])
  | _ => none
def uIx (g : Rho → Option (Nat × List Nat)) (f : Rho → Option Dat) : Rho → Option (Nat × List Nat) := fun ρ => (g ρ).bind fun pl => match plGet ρ pl, f ρ with
  | some (.mls l), some d => (match ixOf d l with
    | some k => some (pl.1, pl.2 ++ [k])
    | none => none)
  | _, _ => none
section
variable {X : Cx} {J : Jc} {er : ET} {e a b : Expr} {pos : Pos} {g : Rho → Option (Nat × List Nat)} {gl : Rho → Rs (Nat × List Nat)} {f : Rho → Option Dat} {fm : Rho → Rs Dat}
theorem ul_var (i : Nat) {x : Str} {pos : Pos} (hN : X.N[i]? = some x := by rfl) (hv : Vis X.env.scope x := by first | exact Or.inl rfl | exact Or.inr (Or.inl rfl) | exact Or.inr (Or.inr rfl)) (hd : (x == ("__debug__" : Str)) = false := by decide)
    (hcd : (x == ("__classdict__" : Str)) = false := by decide) : UL X J (.Name x pos) (uVar i) := ⟨_, pe_var hN hv hd hcd, fun B σ H F o ρ pl Q w hf q => by
  unfold uVar at hf
  split at hf
  · rename_i d hd'
    cases hf
    obtain ⟨v, h1, P⟩ := PlV.root w hd'
    exact ⟨v, h1, q d v H F (.refl w.fh) P⟩
  · cases hf⟩
theorem ul_ix (ha : UL X J a g) (hb : UD X J b f) (hs : PlainIx b := by exact fun _ _ => rfl) : UL X J (.Subscript a b pos) (uIx g f) := by
  obtain ⟨t, h1, h2⟩ := ha
  obtain ⟨u, g1, g2⟩ := hb
  refine ⟨_, pe_ix ix_list h1 g1 hs, fun B σ H F o ρ pl Q w hf q => ?_⟩
  obtain ⟨pl0, e1, hf⟩ := Option.bind_eq_some_iff.mp hf
  split at hf
  · rename_i l d k1 k2
    split at hf
    · rename_i k e3
      cases hf
      refine h2 B σ H F o ρ pl0 _ w e1 fun d0 v H1 F1 ex1 P => ?_
      have z := P.get; rw [k1] at z; cases z
      have w1 := w.ext ex1
      refine g2 B σ H1 F1 o ρ d _ w1 k2 fun u H2 F2 ex2 r => ?_
      have P2 := P.ext w1 ex2
      obtain ⟨p, vs, rfl, k3, _, _, k4⟩ := P2.lst (pl := pl0)
      have hk : k < l.length := by
        have := ixOf_at e3 (xs := List.replicate l.length V.non) (by simp)
        obtain ⟨_, _, z, _⟩ := this; exact z
      obtain ⟨p', vs', vk, z1, k5, k6, P3⟩ := P2.step (List.getElem?_eq_getElem hk)
      cases z1; rw [k3] at k5; cases k5
      obtain ⟨n, rfl, _, z⟩ := ixOf_at e3 k4.len
      cases r
      exact ⟨p, vs, n, vk, rfl, rfl, SqL.of k3, by rw [z]; exact k6, q _ vk H2 F2 (ex1.trans ex2) P3⟩
    · cases hf
  · cases hf
theorem lm_u (h : UL X J e g) : LM X J er e (fun ρ => Rs.of (g ρ) ρ) := by
  obtain ⟨t, h1, h2⟩ := h
  refine PE.imp h1 fun σ H Q ⟨B, F, o, ρ, w, q⟩ => ?_
  have q : PostL X.K J er B F σ Q (Rs.of (g ρ) ρ) := q
  cases e : g ρ with
  | none => rw [e] at q; exact q.elim
  | some pl => rw [e] at q; exact h2 B σ H F o ρ pl Q w e fun d v H1 F1 ex P => q d v H1 F1 o (w.ext ex) ex.ff P


/-- a place, then something pure over it -/
theorem outL {K : PySem.W.Frag} {B : Bs} {D : Ends} {F : Hp} {σ : St} {x : Rs (Nat × List Nat)} {k : (Nat × List Nat) → Rho → Out} {R : VK} (q : PostS K J er B D (x.out k))
    (hk : ∀ pl ρ1, PostS K J er B D (k pl ρ1) → ∀ d v H F1 o, Wd K J B H F1 o σ ρ1 → Same F F1 → PlV K J F1 H o σ ρ1 pl.1 pl.2 d v → R v H) : PostL K J er B F σ R x := by
  cases x with
  | ok pl ρ1 => exact fun d v H F1 o w s P => hk pl ρ1 q d v H F1 o w s P
  | er e ρ1 => exact fun c dd H F1 o w he => q c dd σ H F1 o w he
  | no => exact q
def dApp (l : List Dat) (d : Dat) : Option Dat := if l.length < 1000000 then some (.mls (l ++ [d])) else none
def oApp (g : Rho → Rs (Nat × List Nat)) (f : Rho → Option Dat) : Rho → Out := fun ρ => (g ρ).out fun pl ρ1 => match plGet ρ1 pl, f ρ1 with
  | some (.mls l), some d => (match dApp l d with
    | some d' => .nx (plPut ρ1 pl d')
    | none => .no)
  | _, _ => .no
/-- place.append(e) -/
theorem sm_app {apos cpos spos : Pos} (ha : LM X J er a gl) (hb : UD X J b f) (hbase : attributeBase a "append" X.env (eval a X.env) = eval a X.env := by rfl)
    (hfew : ((backTo cpos (starEach [b] X.env)).all (fun x => !x.1) && (backToKw cpos (keywordEach [] X.env)).all (fun x => x.1.isSome)
      && decide ([b].length + ([] : List Keyword).length + (if ([] : List Keyword).isEmpty then 0 else 1) < 30)) = true := by rfl)
    (hline : (apos.endLine == cpos.line) = true := by rfl) (hs : starEach [b] X.env = (false, eval b X.env) :: starEach [] X.env := by rfl) (hplain : (backTo cpos (starEach [] X.env)).any (·.1) = false := by rfl)
    (hsw : swapsWith (.Call (.Attribute a "append" apos) [b] [] cpos) none spos.line X.env = pure false := by rfl) : SM X J er (.Expr (.Call (.Attribute a "append" apos) [b] [] cpos) spos) (oApp gl f) := by
  obtain ⟨t, h1, h2⟩ := hb
  refine PS.imp (ps_expr (pe_bm PySem.F.plainAttrs_list PySem.F.slot_list_append PySem.F.type_list_append mt_append ha (pa_cons h1 pa_nil hs) hbase hfew hline hs hplain) hsw) fun D σ H ⟨B, F, o, ρ, w, q⟩ => ⟨B, F, o, ρ, w, ?_⟩
  refine outL q fun pl ρ1 q1 d v H1 F1 o1 w1 s1 P => ?_
  rw [P.get] at q1
  cases e2 : f ρ1 with
  | none => rw [e2] at q1; cases d <;> exact q1.elim
  | some dy =>
    rw [e2] at q1
    cases d with
    | mls l =>
      simp only [dApp] at q1
      by_cases hl : l.length < 1000000
      · rw [if_pos hl] at q1
        obtain ⟨p, vs, rfl, k3, _, _, k4⟩ := P.lst
        refine ⟨.inl ⟨rfl, _, SqL.of k3⟩, h2 B σ H1 F1 o1 ρ1 dy _ w1 e2 fun y H2 F2 ex r => ?_⟩
        have P2 := P.ext w1 ex
        obtain ⟨p', vs', z1, k5, k6, _, k7⟩ := P2.lst
        cases z1
        have hlen := k7.len
        refine ⟨p, vs', y, rfl, rfl, k5, by rw [hlen, sizeLine_eq]; omega, ?_⟩
        have hown : Own X.K J.T F2 (L2.upd H2 p (.lst (vs' ++ [y]))) o1 (.inl pl.1) ((0 + l.length) :: pl.2.reverse) dy y := r.own
        exact q1 _ _ _ _ ((w1.ext ex).plSet P2 k5 (by simp; rw [sizeLine_eq]; omega) (Owns.snoc l _ 0 vs' dy y (Owns.store k6 l 0 vs' k7) hown))
      · rw [if_neg hl] at q1; exact q1.elim
    | _ => exact q1.elim
def oAppM (i : Nat) (f : Rho → Rs Dat) : Rho → Out := fun ρ => match ρ[i]? with
  | some (some (.mls _)) => (f ρ).out fun d ρ1 => (match plGet ρ1 (i, []) with
    | some (.mls l) => (match dApp l d with
      | some d' => .nx (plPut ρ1 (i, []) d')
      | none => .no)
    | _ => .no)
  | _ => .no
/-- x.append(e), e any expression, its value owned perhaps -/
theorem sm_appM (i : Nat) {x : Str} {px apos cpos spos : Pos} (hb : OM X J er b fm) (hN : X.N[i]? = some x := by rfl) (hv : Vis X.env.scope x := by first | exact Or.inl rfl | exact Or.inr (Or.inl rfl) | exact Or.inr (Or.inr rfl)) (hd : (x == ("__debug__" : Str)) = false := by decide)
    (hcd : (x == ("__classdict__" : Str)) = false := by decide) (hbase : attributeBase (.Name x px) "append" X.env (eval (.Name x px) X.env) = eval (.Name x px) X.env := by rfl)
    (hfew : ((backTo cpos (starEach [b] X.env)).all (fun x => !x.1) && (backToKw cpos (keywordEach [] X.env)).all (fun x => x.1.isSome)
      && decide ([b].length + ([] : List Keyword).length + (if ([] : List Keyword).isEmpty then 0 else 1) < 30)) = true := by rfl)
    (hline : (apos.endLine == cpos.line) = true := by rfl) (hs : starEach [b] X.env = (false, eval b X.env) :: starEach [] X.env := by rfl) (hplain : (backTo cpos (starEach [] X.env)).any (·.1) = false := by rfl)
    (hsw : swapsWith (.Call (.Attribute (.Name x px) "append" apos) [b] [] cpos) none spos.line X.env = pure false := by rfl) : SM X J er (.Expr (.Call (.Attribute (.Name x px) "append" apos) [b] [] cpos) spos) (oAppM i fm) := by
  refine PS.imp (ps_expr (pe_bm PySem.F.plainAttrs_list PySem.F.slot_list_append PySem.F.type_list_append mt_append (pe_var hN hv hd hcd) (pa_cons hb pa_nil hs) hbase hfew hline hs hplain) hsw) fun D σ H ⟨B, F, o, ρ, w, q⟩ => ?_
  unfold oAppM at q
  split at q
  · rename_i l0 hd0
    obtain ⟨v, h1, h2⟩ := w.sl i (.mls l0) hd0
    · have h2' := h2
      unfold Own at h2'
      obtain ⟨p, vs0, rfl, k1, k2, _, _⟩ := h2'
      refine ⟨.ref p, h1, .inl ⟨rfl, _, SqL.of k2⟩, B, F, o, ρ, w, ?_⟩
      refine outO q fun dy ρ1 _ q1 y H1 F1 o1 w1 s1 hy => ?_
      unfold plGet at q1
      cases e2 : ρ1[i]? with
      | none => rw [show ρ1[(i, ([] : List Nat)).1]? = none from e2] at q1; exact q1.elim
      | some x =>
        rw [show ρ1[(i, ([] : List Nat)).1]? = some x from e2] at q1
        cases x with
        | none => exact q1.elim
        | some d1 =>
          simp only [Dat.at] at q1
          obtain ⟨v', j1, P⟩ := PlV.root w1 e2
          rw [h1] at j1; cases j1
          cases d1 with
          | mls l =>
            simp only [dApp] at q1
            by_cases hl : l.length < 1000000
            · rw [if_pos hl] at q1
              obtain ⟨p', vs', z1, k5, k6, _, k7⟩ := P.lst (pl := (i, []))
              cases z1
              have hlen := k7.len
              refine ⟨p, vs', y, rfl, rfl, k5, by rw [hlen, sizeLine_eq]; omega, ?_⟩
              -- the new item's own addresses come under the list
              let o2 : Ow := fun b => match o1 b with
                | some (.inr 0, q) => some (.inl i, q ++ [l.length])
                | z => z
              have ho2 : ∀ b q, o1 b = some q → q.1 ≠ .inr 0 → o2 b = some q := fun b q e n => by
                show (match o1 b with | some (.inr 0, q) => some ((.inl i, q ++ [l.length]) : Lab) | z => z) = some q
                rw [e]
                obtain ⟨q1, q2⟩ := q
                cases q1 with
                | inl k => rfl
                | inr k => cases k with
                  | zero => exact absurd rfl n
                  | succ k => rfl
              have ho3 : ∀ b q, o2 b = some q → ∃ q', o1 b = some q' := fun b q e => by
                have e : (match o1 b with | some (.inr 0, q) => some ((.inl i, q ++ [l.length]) : Lab) | z => z) = some q := e
                cases e' : o1 b with
                | none => rw [e'] at e; cases e
                | some q' => exact ⟨q', rfl⟩
              have hyo : Own X.K J.T F1 (L2.upd H1 p (.lst (vs' ++ [y]))) o2 (.inl i) ((0 + l.length) :: []) dy y := by
                refine Own.keep (Same.refl _) dy [] _ y (fun b q e => ⟨?_, upd_ne (fun z => by rw [z, k6] at e; cases e)⟩) hy
                show (match o1 b with | some (.inr 0, q) => some ((.inl i, q ++ [l.length]) : Lab) | z => z) = _
                rw [e]; simp
              have hold : Owns X.K J.T F1 (L2.upd H1 p (.lst (vs' ++ [y]))) o2 (.inl i) [] 0 l vs' :=
                Owns.keep (H := L2.upd H1 p (.lst (vs' ++ [y]))) (Same.refl _) l [] [] 0 vs' (fun b q e => ⟨ho2 b _ e (fun z => nomatch z), rfl⟩) (Owns.store k6 l 0 vs' k7)
              obtain ⟨root, r1, r2⟩ := w1.plUpd (o' := o2) (ds' := l ++ [dy]) (vs' := vs' ++ [y]) P k5 (by simp; rw [sizeLine_eq]; omega) ho2 ho3 (by rw [ho2 p _ k6 (fun z => nomatch z)]; exact k6.symm) (Owns.snoc l [] 0 vs' dy y hold hyo)
              rw [e2] at r1; cases r1
              have q1' := q1
              unfold plPut at q1'
              rw [show ρ1[(i, ([] : List Nat)).1]? = _ from e2] at q1'
              exact q1' _ _ _ _ r2
            · rw [if_neg hl] at q1; exact q1.elim
          | _ => exact q1.elim
  · exact q.elim
/-- place.pop() -/
def mPop (g : Rho → Rs (Nat × List Nat)) : Rho → Rs Dat := fun ρ => (g ρ).bind fun pl ρ1 => match plGet ρ1 pl with
  | some (.mls l) => if l.all Dat.fz = true then (match l.getLast? with
    | some d => .ok d (plPut ρ1 pl (.mls l.dropLast))
    | none => .no) else .no
  | _ => .no
theorem pm_pop {apos cpos : Pos} (ha : LM X J er a gl) (hbase : attributeBase a "pop" X.env (eval a X.env) = eval a X.env := by rfl) (hline : (apos.endLine == cpos.line) = true := by rfl) : PM X J er (.Call (.Attribute a "pop" apos) [] [] cpos) (mPop gl) := by
  refine PE.imp (pe_bm0 PySem.F.plainAttrs_list PySem.F.slot_list_pop PySem.F.type_list_pop mt_pop ha hbase hline) fun σ H Q ⟨B, F, o, ρ, w, q⟩ => ⟨B, F, o, ρ, w, ?_⟩
  unfold mPop at q
  cases e1 : gl ρ with
  | er e' ρ1 => rw [e1] at q; exact q
  | no => rw [e1] at q; exact q.elim
  | ok pl ρ1 =>
    rw [e1] at q
    intro d v H1 F1 o1 w1 s1 P
    have q1 : PostM X.K J er B F σ Q (match plGet ρ1 pl with
      | some (.mls l) => if l.all Dat.fz = true then (match l.getLast? with
        | some d => .ok d (plPut ρ1 pl (.mls l.dropLast))
        | none => .no) else .no
      | _ => .no) := q
    rw [P.get] at q1
    cases d with
    | mls l =>
      simp only at q1
      by_cases hz : l.all Dat.fz = true
      · rw [if_pos hz] at q1
        obtain ⟨p, vs, rfl, k3, k6, kz, k4⟩ := P.lst
        have r := owns_reps hz k4
        cases e2 : l.getLast? with
        | none => rw [e2] at q1; exact q1.elim
        | some dy =>
          rw [e2] at q1
          have hly : l[l.length - 1]? = some dy := by rw [← List.getLast?_eq_getElem?]; exact e2
          obtain ⟨y, k7, k8⟩ := r.get hly
          rw [← r.length] at k7
          exact ⟨.inl ⟨rfl, _, SqL.of k3⟩, p, vs, y, rfl, rfl, k3, k7, q1 y _ F1 o1 (w1.plSet P k3 (by simp; omega) r.dropLast.owns) s1 k8⟩
      · rw [if_neg hz] at q1; exact q1.elim
    | _ => exact q1.elim
/-- place.reverse() -/
def oRev (g : Rho → Rs (Nat × List Nat)) : Rho → Out := fun ρ => (g ρ).out fun pl ρ1 => match plGet ρ1 pl with
  | some (.mls l) => if l.all Dat.fz = true then .nx (plPut ρ1 pl (.mls l.reverse)) else .no
  | _ => .no
theorem sm_rev {apos cpos spos : Pos} (ha : LM X J er a gl) (hbase : attributeBase a "reverse" X.env (eval a X.env) = eval a X.env := by rfl) (hline : (apos.endLine == cpos.line) = true := by rfl)
    (hsw : swapsWith (.Call (.Attribute a "reverse" apos) [] [] cpos) none spos.line X.env = pure false := by rfl) : SM X J er (.Expr (.Call (.Attribute a "reverse" apos) [] [] cpos) spos) (oRev gl) := by
  refine PS.imp (ps_expr (pe_bm0 PySem.F.plainAttrs_list PySem.F.slot_list_reverse PySem.F.type_list_reverse mt_reverse ha hbase hline) hsw) fun D σ H ⟨B, F, o, ρ, w, q⟩ => ⟨B, F, o, ρ, w, ?_⟩
  refine outL q fun pl ρ1 q1 d v H1 F1 o1 w1 s1 P => ?_
  rw [P.get] at q1
  cases d with
  | mls l =>
    simp only at q1
    by_cases hz : l.all Dat.fz = true
    · rw [if_pos hz] at q1
      obtain ⟨p, vs, rfl, k3, k6, kz, k4⟩ := P.lst
      have r := owns_reps hz k4
      exact ⟨.inl ⟨rfl, _, SqL.of k3⟩, p, vs, rfl, rfl, k3, q1 _ _ _ _ (w1.plSet P k3 (by simpa using kz) r.reverse.owns)⟩
    · rw [if_neg hz] at q1; exact q1.elim
  | _ => exact q1.elim
/-- place[k] = e, e frozen -/
def oSetAt (g : Rho → Option (Nat × List Nat)) (f : Rho → Option Dat) (fm : Rho → Rs Dat) : Rho → Out := fun ρ => (fm ρ).out fun d ρ1 => match g ρ1 with
  | some pl => (match plGet ρ1 pl, f ρ1 with
    | some (.mls l), some dk => (match ixOf dk l with
      | some k => .nx (plPut ρ1 pl (.mls (l.set k d)))
      | none => .no)
    | _, _ => .no)
  | none => .no
theorem sm_setAt {tpos spos : Pos} (he : PM X J er e fm) (ha : UL X J a g) (hb : UD X J b f)
    (hass : ∀ v, assign (.Subscript a b tpos) X.env v = (do
      let ov ← holding [v] (eval a X.env)
      let iv ← holding [v, ov] (eval b X.env)
      standAt tpos
      holding [v, ov, iv] (setItem ov iv v)
      release [v, ov, iv] []) := by intro _; rfl) (hs : swapsWithSole [.Subscript a b tpos] e spos.line X.env = pure false := by rfl) (hw : swappedStores [.Subscript a b tpos] e X.env = pure none := by rfl)
    (h1 : (assignEach [.Subscript a b tpos] X.env).map (·.2) = [assign (.Subscript a b tpos) X.env] := by rfl) : SM X J er (.Assign [.Subscript a b tpos] e spos) (oSetAt g f fm) := by
  obtain ⟨t, t1, t2⟩ := ha
  obtain ⟨u, u1, u2⟩ := hb
  refine PS.imp (ps_asg he (pg_sub t1 u1 set_list hass) hs hw h1) fun D σ H ⟨B, F, o, ρ, w, q⟩ => ⟨B, F, o, ρ, w, ?_⟩
  unfold oSetAt at q
  cases e1 : fm ρ with
  | er e' ρ1 => rw [e1] at q; exact fun c dd H F1 o w he => q c dd σ H F1 o w he
  | no => rw [e1] at q; exact q
  | ok d ρ1 =>
    rw [e1] at q
    intro v H1 F1 o1 w1 s1 r1
    have q1 : PostS X.K J er B D (match g ρ1 with
      | some pl => (match plGet ρ1 pl, f ρ1 with
        | some (.mls l), some dk => (match ixOf dk l with
          | some k => .nx (plPut ρ1 pl (.mls (l.set k d)))
          | none => .no)
        | _, _ => .no)
      | none => .no) := q
    cases e2 : g ρ1 with
    | none => rw [e2] at q1; exact q1.elim
    | some pl =>
      rw [e2] at q1
      simp only at q1
      refine t2 B σ H1 F1 o1 ρ1 pl _ w1 e2 fun d0 v0 H2 F2 ex2 P => ?_
      have w2 := w1.ext ex2
      rw [P.get] at q1
      cases e3 : f ρ1 with
      | none => rw [e3] at q1; cases d0 <;> exact q1.elim
      | some dk =>
        rw [e3] at q1
        cases d0 with
        | mls l =>
          simp only at q1
          cases e4 : ixOf dk l with
          | none => rw [e4] at q1; exact q1.elim
          | some k =>
            rw [e4] at q1
            refine u2 B σ H2 F2 o1 ρ1 dk _ w2 e3 fun iv H3 F3 ex3 r3 => ?_
            have P3 := P.ext w2 ex3
            have w3 := w2.ext ex3
            obtain ⟨p, vs, rfl, k3, k6, kz, k4⟩ := P3.lst
            have hlen := k4.len
            obtain ⟨n, rfl, hk, z⟩ := ixOf_at e4 hlen
            cases r3
            have hix : ixN vs.length n = some k := by
              unfold ixOf at e4
              obtain ⟨j, z1, z2⟩ := Option.bind_eq_some_iff.mp e4
              split at z2
              · cases z2; rw [hlen]; exact z1
              · cases z2
            refine ⟨p, vs, n, k, rfl, rfl, k3, hix, ?_⟩
            obtain ⟨vk, _, _, j3⟩ := Owns.setk l _ 0 k vs _ (Owns.store (u := .lst (vs.set k v)) k6 l 0 vs k4) (List.getElem?_eq_getElem hk)
            exact q1 _ _ _ _ (w3.plSet P3 k3 (by simpa using kz) (j3 F3 _ o1 d v (Same.refl _) (fun a q j _ e => ⟨e, rfl⟩) ((r1.up ex2.ff).up ex3.ff).own))
        | _ => exact q1.elim
end
end MV

namespace MV
open PySem PySem.Spec PyProof.Rows L2

/-! ## data as the library's -/
mutual
def Dat.py : Dat → PyData
  | .non => .none
  | .bl b => .bool b
  | .int i => .int i
  | .str s => .str s
  | .tup l => .tuple (Dat.pys l)
  | .lst l => .list (Dat.pys l)
  | .frl l => .list (Dat.pys l)
  | .mls l => .list (Dat.pys l)
  | .obj _ _ => .none
def Dat.pys : List Dat → List PyData
  | [] => []
  | d :: ds => Dat.py d :: Dat.pys ds
end
/-- what may be compared deeply -/
def Dat.good (d : Dat) : Bool := SeqAt.shaped d.py
mutual
theorem Rep.dp {K : PySem.W.Frag} {F H : Hp} (hs : Same F H) : ∀ (d : Dat) (v : V), Rep K F v d → Dp K H v d.py
  | .non, _, h => by cases h; unfold Dat.py; exact .non
  | .bl _, _, h => by cases h; unfold Dat.py; exact .bl _
  | .int _, _, h => by cases h; unfold Dat.py; exact .int _
  | .str _, _, h => by cases h; unfold Dat.py; exact .str _
  | .tup ds, _, h => by
    cases h with
    | tup h r z => unfold Dat.py; exact .tup (Same.seqT hs h) (Reps.dp hs ds _ r)
  | .lst ds, _, h => by
    cases h with
    | lst h r z => unfold Dat.py; exact .lst (SqL.of (hs _ _ h)) (Reps.dp hs ds _ r)
  | .frl ds, _, h => by
    cases h with
    | frl h r z => unfold Dat.py; exact .lst (Same.seq hs h) (Reps.dp hs ds _ r)
  | .mls _, _, h => by cases h
  | .obj _ _, _, h => by cases h
theorem Reps.dp {K : PySem.W.Frag} {F H : Hp} (hs : Same F H) : ∀ (ds : List Dat) (vs : List V), Reps K F vs ds → DpAll K H vs (Dat.pys ds)
  | [], _, h => by cases h; unfold Dat.pys; exact .nil
  | d :: ds, _, h => by
    cases h with
    | cons h t => unfold Dat.pys; exact .cons (Rep.dp hs d _ h) (Reps.dp hs ds _ t)
end

section
variable {X : Cx}
/-! ### numbers -/
def dI2 (C : Int → Int → Prop) [∀ i j, Decidable (C i j)] (g : Int → Int → Dat) : Dat → Dat → Option Dat
  | .int i, .int j => if C i j then some (g i j) else none
  | _, _ => none
theorem od_I {f : Value → Value → Sem Value} {C C' : Int → Int → Prop} [∀ i j, Decidable (C i j)] {g : Int → Int → V} {g' : Int → Int → Dat} (h : OpR X f (rI C' g)) (hC : ∀ i j, C i j → C' i j) (hg : ∀ i j F, Rep X.K F (g i j) (g' i j)) : OpD X f (dI2 C g') := by
  refine ⟨_, h, fun H F x y dx dy d Q hs rx ry e q => ?_⟩
  unfold dI2 at e
  split at e
  · rename_i i j
    split at e
    · rename_i hc
      cases e; cases rx; cases ry
      exact ⟨i, j, rfl, rfl, hC _ _ hc, q _ _ _ (.refl hs) (hg _ _ _)⟩
    · cases e
  · cases e
def dI0 (g : Int → Int → Dat) : Dat → Dat → Option Dat
  | .int i, .int j => some (g i j)
  | _, _ => none
theorem od_I0 {f : Value → Value → Sem Value} {g : Int → Int → V} {g' : Int → Int → Dat} (h : OpR X f (rI0 g)) (hg : ∀ i j F, Rep X.K F (g i j) (g' i j)) : OpD X f (dI0 g') := by
  refine ⟨_, h, fun H F x y dx dy d Q hs rx ry e q => ?_⟩
  unfold dI0 at e
  split at e
  · rename_i i j
    cases e; cases rx; cases ry
    exact ⟨i, j, rfl, rfl, q _ _ _ (.refl hs) (hg _ _ _)⟩
  · cases e
abbrev dSub : Dat → Dat → Option Dat := dI0 fun i j => .int (i - j)
theorem od_sub : OpD X (binaryOp .Sub) dSub := od_I0 op_sub fun _ _ _ => .int _
abbrev dLt : Dat → Dat → Option Dat := dI0 fun i j => .bl (decide (i < j))
abbrev dLe : Dat → Dat → Option Dat := dI0 fun i j => .bl (decide (i ≤ j))
abbrev dGt : Dat → Dat → Option Dat := dI0 fun i j => .bl (decide (j < i))
abbrev dGe : Dat → Dat → Option Dat := dI0 fun i j => .bl (decide (j ≤ i))
theorem od_lt : OpD X (compareOp .Lt) dLt := od_I0 op_lt fun _ _ _ => .bl _
theorem od_le : OpD X (compareOp .LtE) dLe := od_I0 op_le fun _ _ _ => .bl _
theorem od_gt : OpD X (compareOp .Gt) dGt := od_I0 op_gt fun _ _ _ => .bl _
theorem od_ge : OpD X (compareOp .GtE) dGe := od_I0 op_ge fun _ _ _ => .bl _
def cMul (i j : Int) : Prop := (-(2 ^ 64) < i ∧ i < 2 ^ 64) ∨ (-(2 ^ 64) < j ∧ j < 2 ^ 64)
instance (i j : Int) : Decidable (cMul i j) := by unfold cMul; exact inferInstance
abbrev dMul : Dat → Dat → Option Dat := dI2 cMul fun i j => .int (i * j)
theorem od_mul : OpD X (binaryOp .Mult) dMul := od_I op_mul (fun _ _ h => h) fun _ _ _ => .int _
def cDiv (i j : Int) : Prop := 0 < j ∧ j < 1073741824
instance (i j : Int) : Decidable (cDiv i j) := by unfold cDiv; exact inferInstance
abbrev dDiv : Dat → Dat → Option Dat := dI2 cDiv fun i j => .int (i / j)
theorem od_div : OpD X (binaryOp .FloorDiv) dDiv := od_I op_fdiv (fun _ _ h => h) fun _ _ _ => .int _
abbrev dMod : Dat → Dat → Option Dat := dI2 (fun _ j => 0 < j) fun i j => .int (i % j)
theorem od_mod : OpD X (binaryOp .Mod) dMod := od_I op_mod (fun _ _ h => h) fun _ _ _ => .int _
def cPow (i j : Int) : Prop := 0 ≤ j ∧ j ≤ 1000000 ∧ i.natAbs < 2 ^ 64
instance (i j : Int) : Decidable (cPow i j) := by unfold cPow; exact inferInstance
abbrev dPow : Dat → Dat → Option Dat := dI2 cPow fun i j => .int (i ^ j.toNat)
theorem od_pow : OpD X (binaryOp .Pow) dPow := od_I op_pow (fun _ _ h => h) fun _ _ _ => .int _
def dNeg : Dat → Option Dat
  | .int i => some (.int (-i))
  | _ => none
theorem ud_neg : UnD X (unaryOp .USub) dNeg := by
  refine ⟨_, un_neg, fun H F x dx d Q hs rx e q => ?_⟩
  unfold dNeg at e
  split at e
  · cases e; cases rx; exact ⟨_, rfl, q _ _ _ (.refl hs) (.int _)⟩
  · cases e

/-! ### + -/
theorem op_catT0 : OpR X (binaryOp .Add) (fun x y H Q => ∃ a b ys, x = .ref a ∧ y = .ref b ∧ SqT X.K H a [] ∧ SqT X.K H b ys ∧ Q (.ref b) H) := by
  intro pins s σ H x y v u Q I rx ry h
  obtain ⟨a, b, ys, rfl, rfl, ha, hb, q⟩ := h
  cases rx
  cases ry
  obtain ⟨its, r1, p1, _⟩ := I.tuple ha
  obtain ⟨its2, r2, p2, _⟩ := I.tuple hb
  cases r1
  obtain ⟨⟨cls, dd, data, sl⟩, ho, hc, n, hd⟩ := id p1
  obtain ⟨⟨cls2, dd2, data2, sl2⟩, ho2, hc2, n2, hd2⟩ := id p2
  simp only at hc hd hc2 hd2
  subst hc hd hc2 hd2
  exact concat_meets ⟨_, ho, rfl⟩ ⟨_, ho2, rfl⟩ noFill_tuple_add seq_tuple_add PySem.F.slot_tuple_add PySem.F.entry_tuple_add (PySem.F.args_tuple_add_2 _ _)
      (tuple_addW0 a b _ its2.toArray n n2 dd dd2 sl sl2 rfl) ⟨ho, ho2, ⟨.ref b, H, I, rfl, q⟩⟩
def dAdd : Dat → Dat → Option Dat
  | .int i, .int j => some (.int (i + j))
  | .str x, .str y => if x.length + y.length ≤ 1000000 then some (.str (x ++ y)) else none
  | .tup a, .tup b => if a.length + b.length ≤ 1000000 then some (.tup (a ++ b)) else none
  | _, _ => none
theorem sl1M {n : Nat} (h : n ≤ 1000000) : n ≤ sizeLine := by rw [sizeLine_eq]; omega
theorem od_add : OpD X (binaryOp .Add) dAdd := by
  refine ⟨_, OpR.or op_add (OpR.or op_add_str (OpR.or op_catT0 op_catT)), fun H F x y dx dy d Q hs rx ry e q => ?_⟩
  unfold dAdd at e
  split at e
  · rename_i i j
    cases e; cases rx; cases ry
    exact .inl ⟨i, j, rfl, rfl, q _ _ _ (.refl hs) (.int _)⟩
  · rename_i i j
    split at e
    · rename_i hl
      cases e; cases rx; cases ry
      exact .inr (.inl ⟨i, j, rfl, rfl, sl1M hl, q _ _ _ (.refl hs) (.str _ (by rw [Str.length_append]; exact sl1M hl))⟩)
    · cases e
  · rename_i a b
    split at e
    · rename_i hl
      cases e
      cases rx with
      | tup h1 r1 z1 =>
        rename_i p1 vs1
        cases ry with
        | tup h2 r2 z2 =>
          rename_i p2 vs2
          cases a with
          | nil =>
            cases r1
            exact .inr (.inr (.inl ⟨p1, p2, vs2, rfl, rfl, Same.seqT hs h1, Same.seqT hs h2, q _ _ _ (.refl hs) (.tup h2 r2 z2)⟩))
          | cons a0 as =>
            have n1 : vs1 ≠ [] := fun z => by subst z; cases r1
            refine .inr (.inr (.inr ⟨p1, p2, vs1, vs2, rfl, rfl, Same.seqT hs h1, Same.seqT hs h2, n1, by rw [r1.length, r2.length]; exact sl1M hl, fun z => ?_, fun _ p hp => ?_⟩))
            · subst z
              cases r2
              rw [List.append_nil] at q
              exact q _ _ _ (.refl hs) (.tup h1 r1 z1)
            · have ex := Ext.new (u := .tup (vs1 ++ vs2)) hs hp
              exact q _ _ _ ex (.tup (SqT.of upd_same) ((r1.append r2).up ex.ff) (by rw [List.length_append]; exact sl1M hl))
    · cases e
  · cases e
/-- list + list -/
def sCat (fa fb : Rho → Option Dat) : Rho → Option (List Dat) := fun ρ => (fa ρ).bind fun x => (fb ρ).bind fun y => match x, y with
  | .lst a, .lst b => if a.length + b.length ≤ 1000000 then some (a ++ b) else none
  | _, _ => none
theorem pf_cat {a b : Expr} {pos : Pos} {fa fb : Rho → Option Dat} (ha : PP X a fa) (hb : PP X b fb) : PF X (.BinOp a .Add b pos) (sCat fa fb) := by
  obtain ⟨t, h1, h2⟩ := ha
  obtain ⟨u, g1, g2⟩ := hb
  refine ⟨_, pe_op op_cat h1 g1, fun σ H F ρ ds Q hs he hf q => ?_⟩
  obtain ⟨x, e1, hf⟩ := Option.bind_eq_some_iff.mp hf
  obtain ⟨y, e2, hf⟩ := Option.bind_eq_some_iff.mp hf
  refine h2 σ H F ρ x _ hs he e1 fun v H1 F1 ex1 r1 => ?_
  refine g2 σ H1 F1 ρ y _ ex1.fh (he.up ex1.ff) e2 fun w H2 F2 ex2 r2 => ?_
  split at hf
  · split at hf
    · rename_i hl
      cases hf
      cases r1 with
      | lst k1 r1 z1 =>
        rename_i p1 vs1
        cases r2 with
        | lst k2 r2 z2 =>
          rename_i p2 vs2
          refine ⟨_, _, _, _, rfl, rfl, ex2.fh _ _ (ex2.ff _ _ k1), ex2.fh _ _ k2, by rw [r1.length, r2.length]; exact sl1M hl, fun p hp => ?_⟩
          have ex := Ext.newH (u := .lst (vs1 ++ vs2)) ex2.fh hp
          exact q _ _ _ _ ((ex1.trans ex2).trans ex) (ex1.hh.free (ex2.hh.free hp)) upd_same (ex2.fh.free hp) ((r1.up ex2.ff).append r2) (by rw [List.length_append]; exact sl1M hl)
    · cases hf
  · cases hf
/-- list * n -/
def sRep (fa fb : Rho → Option Dat) : Rho → Option (List Dat) := fun ρ => (fa ρ).bind fun x => (fb ρ).bind fun y => match x, y with
  | .lst a, .int k => if 0 ≤ k ∧ k ≤ 1000 ∧ a.length * k.toNat ≤ 1000000 then some (List.replicate k.toNat a).flatten else none
  | _, _ => none
theorem Reps.rep {K : PySem.W.Frag} {F : Hp} {vs : List V} {ds : List Dat} (r : Reps K F vs ds) : ∀ n : Nat, Reps K F (List.replicate n vs).flatten (List.replicate n ds).flatten
  | 0 => .nil
  | n + 1 => by
    simp only [List.replicate_succ, List.flatten_cons]
    exact r.append (Reps.rep r n)
theorem pf_rep {a b : Expr} {pos : Pos} {fa fb : Rho → Option Dat} (ha : PP X a fa) (hb : PP X b fb) : PF X (.BinOp a .Mult b pos) (sRep fa fb) := by
  obtain ⟨t, h1, h2⟩ := ha
  obtain ⟨u, g1, g2⟩ := hb
  refine ⟨_, pe_op op_rep h1 g1, fun σ H F ρ ds Q hs he hf q => ?_⟩
  obtain ⟨x, e1, hf⟩ := Option.bind_eq_some_iff.mp hf
  obtain ⟨y, e2, hf⟩ := Option.bind_eq_some_iff.mp hf
  refine h2 σ H F ρ x _ hs he e1 fun v H1 F1 ex1 r1 => ?_
  refine g2 σ H1 F1 ρ y _ ex1.fh (he.up ex1.ff) e2 fun w H2 F2 ex2 r2 => ?_
  split at hf
  · split at hf
    · rename_i l k hf0 hl
      cases hf
      cases r2
      cases r1 with
      | lst k1 r1 z1 =>
        rename_i p1 vs1
        have hlen : ∀ {α : Type} (l : List α) (n : Nat), (List.replicate n l).flatten.length = l.length * n := fun l n => by
          induction n with
          | zero => simp
          | succ n ih => simp only [List.replicate_succ, List.flatten_cons, List.length_append, ih, Nat.mul_succ]; omega
        refine ⟨_, k, _, rfl, rfl, ex2.fh _ _ (ex2.ff _ _ k1), by omega, by omega, by rw [r1.length]; exact sl1M hl.2.2, fun p hp => ?_⟩
        have ex := Ext.newH (u := .lst (List.replicate k.toNat vs1).flatten) ex2.fh hp
        exact q _ _ _ _ ((ex1.trans ex2).trans ex) (ex1.hh.free (ex2.hh.free hp)) upd_same (ex2.fh.free hp) ((r1.up ex2.ff).rep _) (by rw [hlen]; exact sl1M hl.2.2)
    · cases hf
  · cases hf

/-! ### ==, !=, is, in -/
def dEq : Dat → Dat → Option Dat
  | .int i, .int j => some (.bl (i == j))
  | .str i, .str j => some (.bl (i == j))
  | x, y => if x.good = true ∧ y.good = true then some (.bl (PyData.eqv x.py y.py)) else none
def dNe : Dat → Dat → Option Dat
  | .int i, .int j => some (.bl (!(i == j)))
  | .str i, .str j => some (.bl (!(i == j)))
  | x, y => if x.good = true ∧ y.good = true then some (.bl (!PyData.eqv x.py y.py)) else none
theorem od_eq (hu : X.A.units + 64 < cLine) : OpD X (compareOp .Eq) dEq := by
  refine ⟨_, OpR.or op_eq (op_eqD hu), fun H F x y dx dy d Q hs rx ry e q => ?_⟩
  unfold dEq at e
  split at e
  · cases e; cases rx; cases ry
    exact .inl ⟨rfl, by rw [dec_int]; exact q _ _ _ (.refl hs) (.bl _)⟩
  · cases e; cases rx; cases ry
    exact .inl ⟨rfl, by rw [dec_str]; exact q _ _ _ (.refl hs) (.bl _)⟩
  · split at e
    · rename_i hg
      cases e
      exact .inr ⟨_, _, rx.dp hs, ry.dp hs, hg.1, hg.2, q _ _ _ (.refl hs) (.bl _)⟩
    · cases e
theorem od_ne (hu : X.A.units + 64 < cLine) : OpD X (compareOp .NotEq) dNe := by
  refine ⟨_, OpR.or op_ne (op_neD hu), fun H F x y dx dy d Q hs rx ry e q => ?_⟩
  unfold dNe at e
  split at e
  · cases e; cases rx; cases ry
    exact .inl ⟨rfl, by rw [dec_int]; exact q _ _ _ (.refl hs) (.bl _)⟩
  · cases e; cases rx; cases ry
    exact .inl ⟨rfl, by rw [dec_str]; exact q _ _ _ (.refl hs) (.bl _)⟩
  · split at e
    · rename_i hg
      cases e
      exact .inr ⟨_, _, rx.dp hs, ry.dp hs, hg.1, hg.2, q _ _ _ (.refl hs) (.bl _)⟩
    · cases e
def Dat.isN : Dat → Bool
  | .non => true
  | _ => false
theorem rep_isN {K : PySem.W.Frag} {F : Hp} {v : V} {d : Dat} (r : Rep K F v d) : decide (v = .non) = d.isN := by cases r <;> first | rfl | exact decide_eq_false (fun z => nomatch z)
def dIs : Dat → Dat → Option Dat
  | x, .non => some (.bl x.isN)
  | _, _ => none
def dIsNot : Dat → Dat → Option Dat
  | x, .non => some (.bl (!x.isN))
  | _, _ => none
theorem od_is : OpD X (compareOp .Is) dIs := by
  refine ⟨_, op_isN, fun H F x y dx dy d Q hs rx ry e q => ?_⟩
  unfold dIs at e
  split at e
  · cases e; cases ry; exact ⟨rfl, by rw [rep_isN rx]; exact q _ _ _ (.refl hs) (.bl _)⟩
  · cases e
theorem od_isNot : OpD X (compareOp .IsNot) dIsNot := by
  refine ⟨_, op_notN, fun H F x y dx dy d Q hs rx ry e q => ?_⟩
  unfold dIsNot at e
  split at e
  · cases e; cases ry; exact ⟨rfl, by rw [rep_isN rx]; exact q _ _ _ (.refl hs) (.bl _)⟩
  · cases e
/-- flat data -/
def Dat.flat : Dat → Bool
  | .non => true
  | .bl _ => true
  | .int _ => true
  | .str _ => true
  | _ => false
def Dat.eqf : Dat → Dat → Bool
  | .int i, .int j => i == j
  | .str i, .str j => i == j
  | x, y => PyData.eqv x.py y.py
theorem rep_flat {K : PySem.W.Frag} {F : Hp} {v : V} {d : Dat} (r : Rep K F v d) (h : d.flat = true) : flatV v = true := by cases r <;> first | rfl | cases h
theorem rep_eqV {K : PySem.W.Frag} {F : Hp} {v w : V} {d e : Dat} (r : Rep K F v d) (q : Rep K F w e) (hd : d.flat = true) (he : e.flat = true) : eqV v w = Dat.eqf d e := by
  cases r with
  | tup _ _ _ => cases hd
  | lst _ _ _ => cases hd
  | frl _ _ _ => cases hd
  | _ =>
    cases q with
    | tup _ _ _ => cases he
    | lst _ _ _ => cases he
    | frl _ _ _ => cases he
    | _ => first | rfl | simp [eqV, Dat.eqf, Dat.py, PyData.eqv]
theorem reps_flat {K : PySem.W.Frag} {F : Hp} : ∀ {vs : List V} {ds : List Dat}, Reps K F vs ds → ds.all Dat.flat = true → vs.all flatV = true
  | _, _, .nil, _ => rfl
  | _, _, .cons h t, z => by
    rw [List.all_cons, Bool.and_eq_true] at z
    rw [List.all_cons, rep_flat h z.1, reps_flat t z.2]; rfl
theorem reps_inV {K : PySem.W.Frag} {F : Hp} {v : V} {d : Dat} (r : Rep K F v d) (hd : d.flat = true) : ∀ {vs : List V} {ds : List Dat}, Reps K F vs ds → ds.all Dat.flat = true → inV v vs = ds.any fun z => Dat.eqf z d
  | _, _, .nil, _ => rfl
  | _, _, .cons h t, z => by
    rw [List.all_cons, Bool.and_eq_true] at z
    unfold inV
    rw [List.any_cons, List.any_cons, rep_eqV h r z.1 hd]
    congr 1
    exact reps_inV r hd t z.2
def dIn (neg : Bool) : Dat → Dat → Option Dat
  | x, .tup l => if x.flat = true ∧ l.all Dat.flat = true then some (.bl (if neg = true then !(l.any fun z => Dat.eqf z x) else l.any fun z => Dat.eqf z x)) else none
  | x, .lst l => if x.flat = true ∧ l.all Dat.flat = true then some (.bl (if neg = true then !(l.any fun z => Dat.eqf z x) else l.any fun z => Dat.eqf z x)) else
    (if x.good = true ∧ (Dat.lst l).good = true then some (.bl (if neg = true then !((Dat.pys l).any fun z => PyData.eqv z x.py) else (Dat.pys l).any fun z => PyData.eqv z x.py)) else none)
  | .str z, .str y => match z.cps.toList with
    | [c] => some (.bl (if neg = true then !(decide (c ∈ y.cps.toList)) else decide (c ∈ y.cps.toList)))
    | _ => none
  | _, _ => none
theorem str_of_one {z : Str} {c : Nat} (h : z.cps.toList = [c]) : z = ⟨#[c]⟩ := by
  cases z with
  | mk a => have : a = #[c] := by rw [← Array.toArray_toList (xs := a), h]
            rw [this]
theorem od_in (hu : X.A.units + 65 < cLine) : OpD X (compareOp .In) (dIn false) := by
  refine ⟨_, OpR.or op_in_seq (OpR.or (op_inD hu) op_in_sign), fun H F x y dx dy d Q hs rx ry e q => ?_⟩
  unfold dIn at e
  split at e
  · split at e
    · rename_i hf
      cases e
      cases ry with
      | tup h r z => exact .inl ⟨_, _, rfl, .inr (Same.seqT hs h), rep_flat rx hf.1, reps_flat r hf.2, by rw [reps_inV rx hf.1 r hf.2]; exact q _ _ _ (.refl hs) (.bl _)⟩
    · cases e
  · split at e
    · rename_i hf
      cases e
      cases ry with
      | lst h r z => exact .inl ⟨_, _, rfl, .inl (SqL.of (hs _ _ h)), rep_flat rx hf.1, reps_flat r hf.2, by rw [reps_inV rx hf.1 r hf.2]; exact q _ _ _ (.refl hs) (.bl _)⟩
    · split at e
      · rename_i hg
        cases e
        have hd := Rep.dp hs _ _ ry
        unfold Dat.py at hd
        have h2 := hg.2
        unfold Dat.good Dat.py at h2
        exact .inr (.inl ⟨_, _, rx.dp hs, hd, hg.1, h2, q _ _ _ (.refl hs) (.bl _)⟩)
      · cases e
  · split at e
    · rename_i hz
      cases e; cases rx; cases ry
      rw [str_of_one hz]
      exact .inr (.inr ⟨_, _, rfl, rfl, q _ _ _ (.refl hs) (.bl _)⟩)
    · cases e
  · cases e
theorem od_notIn (hu : X.A.units + 65 < cLine) : OpD X (compareOp .NotIn) (dIn true) := by
  refine ⟨_, OpR.or op_notIn_seq (OpR.or (op_notInD hu) op_notIn_sign), fun H F x y dx dy d Q hs rx ry e q => ?_⟩
  unfold dIn at e
  split at e
  · split at e
    · rename_i hf
      cases e
      cases ry with
      | tup h r z => exact .inl ⟨_, _, rfl, .inr (Same.seqT hs h), rep_flat rx hf.1, reps_flat r hf.2, by rw [reps_inV rx hf.1 r hf.2]; exact q _ _ _ (.refl hs) (.bl _)⟩
    · cases e
  · split at e
    · rename_i hf
      cases e
      cases ry with
      | lst h r z => exact .inl ⟨_, _, rfl, .inl (SqL.of (hs _ _ h)), rep_flat rx hf.1, reps_flat r hf.2, by rw [reps_inV rx hf.1 r hf.2]; exact q _ _ _ (.refl hs) (.bl _)⟩
    · split at e
      · rename_i hg
        cases e
        have hd := Rep.dp hs _ _ ry
        unfold Dat.py at hd
        have h2 := hg.2
        unfold Dat.good Dat.py at h2
        exact .inr (.inl ⟨_, _, rx.dp hs, hd, hg.1, h2, q _ _ _ (.refl hs) (.bl _)⟩)
      · cases e
  · split at e
    · rename_i hz
      cases e; cases rx; cases ry
      rw [str_of_one hz]
      exact .inr (.inr ⟨_, _, rfl, rfl, q _ _ _ (.refl hs) (.bl _)⟩)
    · cases e
  · cases e

/-! ### indexes and slices -/
def dIx : Dat → Dat → Option Dat
  | .tup l, .int i => L2.atI l i
  | .lst l, .int i => L2.atI l i
  | .frl l, .int i => L2.atI l i
  | .str z, .int i => (L2.atI z.cps.toList i).map fun c => .str ⟨#[c]⟩
  | _, _ => none
theorem reps_atI {K : PySem.W.Frag} {F : Hp} {vs : List V} {ds : List Dat} {i : Int} {d : Dat} (r : Reps K F vs ds) (h : L2.atI ds i = some d) : ∃ v, L2.atI vs i = some v ∧ Rep K F v d := by
  unfold L2.atI at h ⊢
  obtain ⟨j, e1, e2⟩ := Option.bind_eq_some_iff.mp h
  obtain ⟨v, e3, e4⟩ := r.get e2
  exact ⟨v, by rw [r.length, e1]; exact e3, e4⟩
theorem id_ix : IxD X dIx := by
  refine ⟨_, ix_seq, fun H F x y dx dy d Q hs rx ry e q => ?_⟩
  unfold dIx at e
  split at e
  · cases ry
    cases rx with
    | tup h r z => obtain ⟨v, e1, e2⟩ := reps_atI r e; exact .inr (.inl ⟨_, _, _, v, rfl, rfl, Same.seqT hs h, e1, q _ _ _ (.refl hs) e2⟩)
  · cases ry
    cases rx with
    | lst h r z => obtain ⟨v, e1, e2⟩ := reps_atI r e; exact .inl ⟨_, _, _, v, rfl, rfl, SqL.of (hs _ _ h), e1, q _ _ _ (.refl hs) e2⟩
  · cases ry
    cases rx with
    | frl h r z => obtain ⟨v, e1, e2⟩ := reps_atI r e; exact .inl ⟨_, _, _, v, rfl, rfl, Same.seq hs h, e1, q _ _ _ (.refl hs) e2⟩
  · cases ry
    cases rx with
    | str _ z =>
      obtain ⟨c, e1, e2⟩ := Option.map_eq_some_iff.mp e
      subst e2
      exact .inr (.inr ⟨_, _, c, rfl, rfl, z, e1, q _ _ _ (.refl hs) (.str _ (by show 1 ≤ sizeLine; decide))⟩)
  · cases e
/-- a slice's part -/
def OD (X : Cx) (e : Option Expr) (f : Rho → Option (Option Int)) : Prop := ∃ t, L2.PO X e t ∧ ∀ (σ : St) (H F : Hp) (ρ : Rho) (i : Option Int) (Q : Option Int → Hp → Prop), Same F H → EnvF X.K F σ ρ → f ρ = some i → (∀ H' F', Ext H F H' F' → Q i H') → t σ H Q
def sNoP : Rho → Option (Option Int) := fun _ => some none
def sPart (f : Rho → Option Dat) : Rho → Option (Option Int) := fun ρ => (f ρ).bind fun d => match d with
  | .int i => some (some i)
  | _ => none
theorem od_none : OD X none sNoP := ⟨_, po_none, fun σ H F ρ i Q hs he hf q => by cases hf; exact q H F (.refl hs)⟩
theorem od_some {e : Expr} {f : Rho → Option Dat} (h : PP X e f) : OD X (some e) (sPart f) := by
  obtain ⟨t, h1, h2⟩ := h
  refine ⟨_, po_some h1, fun σ H F ρ i Q hs he hf q => ?_⟩
  obtain ⟨d, e1, hf⟩ := Option.bind_eq_some_iff.mp hf
  refine h2 σ H F ρ d _ hs he e1 fun v H1 F1 ex r => ?_
  cases d with
  | int n => cases hf; cases r; exact ⟨n, rfl, q _ _ ex⟩
  | _ => cases hf
def cutD {α : Type} (l : List α) (lo hi : Option Int) : List α := (l.drop (HT.sIx l.length 0 lo)).take (HT.sIx l.length l.length hi - HT.sIx l.length 0 lo)
theorem cutD_length {α : Type} (l : List α) (lo hi : Option Int) : (cutD l lo hi).length ≤ l.length := by unfold cutD; rw [List.length_take, List.length_drop]; omega
theorem Reps.cut {K : PySem.W.Frag} {F : Hp} {vs : List V} {ds : List Dat} (r : Reps K F vs ds) (lo hi : Option Int) : Reps K F (cutV vs lo hi) (cutD ds lo hi) := by
  unfold cutV cutD; rw [r.length]; exact (r.drop _).take _
/-- a slice of a list -/
def sSlL (f : Rho → Option Dat) (lo hi : Rho → Option (Option Int)) : Rho → Option (List Dat) := fun ρ => (f ρ).bind fun d => (lo ρ).bind fun l => (hi ρ).bind fun h => match d with
  | .lst xs => some (cutD xs l h)
  | _ => none
variable {e : Expr} {lo hi : Option Expr} {pos p2 : Pos} {f : Rho → Option Dat} {fl fh : Rho → Option (Option Int)}
theorem pf_sl (he : PP X e f) (hl : OD X lo fl) (hh : OD X hi fh) : PF X (.Subscript e (.Slice lo hi none p2) pos) (sSlL f fl fh) := by
  obtain ⟨t, h1, h2⟩ := he
  obtain ⟨u, g1, g2⟩ := hl
  obtain ⟨w, k1, k2⟩ := hh
  refine ⟨_, pe_slice sl_list h1 g1 k1, fun σ H F ρ ds Q hs hE hf q => ?_⟩
  obtain ⟨d, e1, hf⟩ := Option.bind_eq_some_iff.mp hf
  obtain ⟨l, e2, hf⟩ := Option.bind_eq_some_iff.mp hf
  obtain ⟨h, e3, hf⟩ := Option.bind_eq_some_iff.mp hf
  refine h2 σ H F ρ d _ hs hE e1 fun v H1 F1 ex1 r1 => ?_
  refine g2 σ H1 F1 ρ l _ ex1.fh (hE.up ex1.ff) e2 fun H2 F2 ex2 => ?_
  refine k2 σ H2 F2 ρ h _ ex2.fh ((hE.up ex1.ff).up ex2.ff) e3 fun H3 F3 ex3 => ?_
  cases d with
  | lst xs =>
    cases hf
    cases r1 with
    | lst k r z =>
      rename_i p1 vs1
      refine ⟨_, _, rfl, SqL.of (ex3.fh _ _ (ex3.ff _ _ (ex2.ff _ _ k))), fun p hp => ?_⟩
      have ex := Ext.newH (u := .lst (cutV vs1 l h)) ex3.fh hp
      exact q _ _ _ _ (((ex1.trans ex2).trans ex3).trans ex) (ex1.hh.free (ex2.hh.free (ex3.hh.free hp))) upd_same (ex3.fh.free hp) (((r.up ex2.ff).up ex3.ff).cut l h) (Nat.le_trans (cutD_length _ _ _) z)
  | _ => cases hf
/-- a slice of a text or a tuple -/
def sSl (f : Rho → Option Dat) (lo hi : Rho → Option (Option Int)) : Rho → Option Dat := fun ρ => (f ρ).bind fun d => (lo ρ).bind fun l => (hi ρ).bind fun h => match d with
  | .str z => some (.str ⟨(cutD z.cps.toList l h).toArray⟩)
  | .tup xs => some (.tup (cutD xs l h))
  | _ => none
/-- t[lo:hi], the whole of it: the tuple itself -/
theorem pp_sl {r : V → Option Int → Option Int → Hp → VK → Prop} (hr : SlR X r) (hr2 : ∀ x l h H Q, (rSlS x l h H Q ∨ rSlT X.K x l h H Q ∨ (∃ a xs, x = .ref a ∧ SqT X.K H a xs ∧ (HT.sIx xs.length 0 l = 0 ∧ HT.sIx xs.length xs.length h = xs.length) ∧ Q (.ref a) H)) → r x l h H Q)
    (he : PP X e f) (hl : OD X lo fl) (hh : OD X hi fh) : PP X (.Subscript e (.Slice lo hi none p2) pos) (sSl f fl fh) := by
  obtain ⟨t, h1, h2⟩ := he
  obtain ⟨u, g1, g2⟩ := hl
  obtain ⟨w, k1, k2⟩ := hh
  refine ⟨_, pe_slice hr h1 g1 k1, fun σ H F ρ ds Q hs hE hf q => ?_⟩
  obtain ⟨d, e1, hf⟩ := Option.bind_eq_some_iff.mp hf
  obtain ⟨l, e2, hf⟩ := Option.bind_eq_some_iff.mp hf
  obtain ⟨h, e3, hf⟩ := Option.bind_eq_some_iff.mp hf
  refine h2 σ H F ρ d _ hs hE e1 fun v H1 F1 ex1 r1 => ?_
  refine g2 σ H1 F1 ρ l _ ex1.fh (hE.up ex1.ff) e2 fun H2 F2 ex2 => ?_
  refine k2 σ H2 F2 ρ h _ ex2.fh ((hE.up ex1.ff).up ex2.ff) e3 fun H3 F3 ex3 => hr2 _ _ _ _ _ ?_
  cases d with
  | str z =>
    cases hf
    cases r1 with
    | str _ hz =>
      refine .inl ⟨z, rfl, hz, q _ _ _ ((ex1.trans ex2).trans ex3) ?_⟩
      have e : cutS z l h = ⟨(cutD z.cps.toList l h).toArray⟩ := by
        unfold cutS cutD
        rw [show z.cps.toList.length = z.length from by simp [Str.length]]
      rw [e]
      refine .str _ ?_
      rw [← e]
      exact Nat.le_trans (cutS_length z l h) hz
  | tup xs =>
    cases hf
    cases r1 with
    | tup k r z =>
      rename_i a vs
      have sq : SqT X.K H3 a vs := Same.seqT ex3.fh (Same.seqT ex3.ff (Same.seqT ex2.ff k))
      have r3 := (r.up ex2.ff).up ex3.ff
      by_cases hw : HT.sIx vs.length 0 l = 0 ∧ HT.sIx vs.length vs.length h = vs.length
      · refine .inr (.inr ⟨a, vs, rfl, sq, hw, q _ _ _ ((ex1.trans ex2).trans ex3) ?_⟩)
        have e : cutD xs l h = xs := by
          unfold cutD
          rw [← r.length, hw.1, hw.2]
          simp [r.length]
        rw [e]
        exact .tup (Same.seqT ex3.ff (Same.seqT ex2.ff k)) r3 z
      · refine .inr (.inl ⟨a, vs, rfl, sq, hw, fun p hp => ?_⟩)
        have ex := Ext.new (u := .tup (cutV vs l h)) ex3.fh hp
        exact q _ _ _ (((ex1.trans ex2).trans ex3).trans ex) (.tup (SqT.of upd_same) ((r3.cut l h).up ex.ff) (Nat.le_trans (cutD_length _ _ _) z))
  | _ => cases hf

/-! ### built-ins -/
def dLen : List Dat → Option Dat
  | [.tup l] => some (.int l.length)
  | [.lst l] => some (.int l.length)
  | [.frl l] => some (.int l.length)
  | [.str z] => some (.int z.length)
  | _ => none
theorem cd_len : CallD X (.builtin "len") dLen := by
  refine ⟨_, call_len, fun H F xs dx d Q hs r e q => ?_⟩
  unfold dLen at e
  split at e
  all_goals first | (cases e; done) | skip
  · cases e
    cases r with
    | cons h t =>
      cases t
      cases h with
      | tup h r z => exact ⟨_, _, rfl, .inr ⟨_, Same.seqT hs h, r.length.symm⟩, q _ _ _ (.refl hs) (.int _)⟩
  · cases e
    cases r with
    | cons h t =>
      cases t
      cases h with
      | lst h r z => exact ⟨_, _, rfl, .inl ⟨_, SqL.of (hs _ _ h), r.length.symm⟩, q _ _ _ (.refl hs) (.int _)⟩
  · cases e
    cases r with
    | cons h t =>
      cases t
      cases h with
      | frl h r z => exact ⟨_, _, rfl, .inl ⟨_, Same.seq hs h, r.length.symm⟩, q _ _ _ (.refl hs) (.int _)⟩
  · cases e
    cases r with
    | cons h t =>
      cases t
      cases h with
      | str _ z => exact ⟨_, _, rfl, ⟨z, rfl⟩, q _ _ _ (.refl hs) (.int _)⟩
def dInt : List Dat → Option Dat
  | [.int i] => some (.int i)
  | [.bl b] => some (.int (if b then 1 else 0))
  | [.str z] => if z.length ≤ 640 then (PySem.intText? z).map Dat.int else none
  | _ => none
theorem cd_int : CallD X (.type "int") dInt := by
  refine ⟨_, CallR.or call_int1 call_int_str, fun H F xs dx d Q hs r e q => ?_⟩
  unfold dInt at e
  split at e
  all_goals first | (cases e; done) | skip
  · cases e
    cases r with
    | cons h t => cases t; cases h; exact .inl (.inl ⟨_, rfl, q _ _ _ (.refl hs) (.int _)⟩)
  · cases e
    cases r with
    | cons h t => cases t; cases h; exact .inl (.inr ⟨_, rfl, q _ _ _ (.refl hs) (.int _)⟩)
  · split at e
    · rename_i hl
      obtain ⟨n, e1, e2⟩ := Option.map_eq_some_iff.mp e
      subst e2
      cases r with
      | cons h t => cases t; cases h; exact .inr ⟨_, n, rfl, e1, hl, q _ _ _ (.refl hs) (.int _)⟩
    · cases e
def dStr : List Dat → Option Dat
  | [.int i] => if i.natAbs.log2 < 1920 ∧ (toString i : Str).length ≤ 1000000 then some (.str (toString i)) else none
  | _ => none
theorem cd_str : CallD X (.type "str") dStr := by
  refine ⟨_, call_str_int, fun H F xs dx d Q hs r e q => ?_⟩
  unfold dStr at e
  split at e
  · split at e
    · rename_i hl
      cases e
      cases r with
      | cons h t => cases t; cases h; exact ⟨_, rfl, hl.1, q _ _ _ (.refl hs) (.str _ (sl1M hl.2))⟩
    · cases e
  · cases e
def dTuple : List Dat → Option Dat
  | [.lst l] => some (.tup l)
  | [.tup l] => some (.tup l)
  | [.frl l] => some (.tup l)
  | _ => none
theorem cd_tuple : CallD X (.type "tuple") dTuple := by
  refine ⟨_, call_tuple_of, fun H F xs dx d Q hs r e q => ?_⟩
  unfold dTuple at e
  split at e
  all_goals first | (cases e; done) | skip
  · cases e
    cases r with
    | cons h t =>
      cases t
      cases h with
      | lst h r z =>
        rename_i p1 vs1
        refine ⟨_, _, rfl, .inl ⟨SqL.of (hs _ _ h), fun p hp => ?_⟩⟩
        have ex := Ext.new (u := .tup vs1) hs hp
        exact q _ _ _ ex (.tup (SqT.of upd_same) (r.up ex.ff) z)
  · cases e
    cases r with
    | cons h t =>
      cases t
      cases h with
      | tup h r z => exact ⟨_, _, rfl, .inr ⟨Same.seqT hs h, q _ _ _ (.refl hs) (.tup h r z)⟩⟩
  · cases e
    cases r with
    | cons h t =>
      cases t
      cases h with
      | frl h r z =>
        rename_i p1 vs1
        refine ⟨_, _, rfl, .inl ⟨Same.seq hs h, fun p hp => ?_⟩⟩
        have ex := Ext.new (u := .tup vs1) hs hp
        exact q _ _ _ ex (.tup (SqT.of upd_same) (r.up ex.ff) z)
/-- a list of bools -/
def blsOf : List Dat → Option (List Bool)
  | [] => some []
  | .bl b :: r => (blsOf r).map fun bs => b :: bs
  | _ => none
theorem reps_bls {K : PySem.W.Frag} {F : Hp} : ∀ {vs : List V} {ds : List Dat} {bs : List Bool}, Reps K F vs ds → blsOf ds = some bs → vs = bs.map V.bl
  | _, [], _, .nil, e => by cases e; rfl
  | _, d :: ds, bs, .cons h t, e => by
    cases d with
    | bl b =>
      obtain ⟨x, e1, e2⟩ := Option.map_eq_some_iff.mp (show (blsOf ds).map (fun bs => b :: bs) = some bs from e)
      subst e2
      cases h
      rw [reps_bls t e1]; rfl
    | _ => cases e
def dAll : List Dat → Option Dat
  | [.lst l] => (blsOf l).map fun bs => .bl (bs.all id)
  | _ => none
theorem cd_all (hc : X.calm = true) : CallD X (.builtin "all") dAll := by
  refine ⟨_, cr_all hc, fun H F xs dx d Q hs r e q => ?_⟩
  unfold dAll at e
  split at e
  · obtain ⟨bs, e1, e2⟩ := Option.map_eq_some_iff.mp e
    subst e2
    cases r with
    | cons h t =>
      cases t
      cases h with
      | lst h r z => exact ⟨_, bs, rfl, by rw [← reps_bls r e1]; exact SqL.of (hs _ _ h), q _ _ _ (.refl hs) (.bl _)⟩
  · cases e
def dMin : List Dat → Option Dat
  | [.int i, .int j] => some (.int (if j < i then j else i))
  | _ => none
theorem cd_min (hc : X.calm = true) : CallD X (.builtin "min") dMin := by
  refine ⟨_, call_min2 hc, fun H F xs dx d Q hs r e q => ?_⟩
  unfold dMin at e
  split at e
  · cases e
    cases r with
    | cons h t =>
      cases h
      cases t with
      | cons h t => cases h; cases t; exact ⟨_, _, rfl, q _ _ _ (.refl hs) (.int _)⟩
  · cases e
def dMax : List Dat → Option Dat
  | [.int i, .int j] => some (.int (if j > i then j else i))
  | _ => none
theorem cd_max (hc : X.calm = true) : CallD X (.builtin "max") dMax := by
  refine ⟨_, call_max2 hc, fun H F xs dx d Q hs r e q => ?_⟩
  unfold dMax at e
  split at e
  · cases e
    cases r with
    | cons h t =>
      cases h
      cases t with
      | cons h t => cases h; cases t; exact ⟨_, _, rfl, q _ _ _ (.refl hs) (.int _)⟩
  · cases e
/-- list(x): a fresh list -/
def sListOf (fs : Rho → Option (List Dat)) : Rho → Option (List Dat) := fun ρ => (fs ρ).bind fun ds => match ds with
  | [.lst l] => some l
  | [.tup l] => some l
  | [.frl l] => some l
  | _ => none
theorem pf_list {a : Expr} {p : Pos} {fs : Rho → Option (List Dat)} (hg : Gl X "list") (hm : X.mg "list" = none) (ha : AP' X [a] fs)
    (he : starEach [a] X.env = (false, eval a X.env) :: starEach [] X.env := by rfl) (hpl : (backTo pos (starEach [] X.env)).any (·.1) = false := by rfl) : PF X (.Call (.Name "list" p) [a] [] pos) (sListOf fs) := by
  obtain ⟨t, h1, h2⟩ := ha
  refine ⟨_, pe_callTy call_list_of hg hm (by decide +kernel) h1 (by decide) (by decide) he hpl, fun σ H F ρ ds Q hs hE hf q => ?_⟩
  obtain ⟨xs, e1, hf⟩ := Option.bind_eq_some_iff.mp hf
  refine h2 σ H F ρ xs _ hs hE e1 fun vs H1 F1 ex1 r1 => ?_
  have fin : ∀ {l : List V} {ds : List Dat}, Reps X.K F1 l ds → ds.length ≤ sizeLine → (∀ a vs H' F', Ext H F H' F' → H a = none → H' a = some (.lst vs) → F' a = none → Reps X.K F' vs ds → ds.length ≤ sizeLine → Q (.ref a) H') → ∀ p, H1 p = none → Q (.ref p) (upd H1 p (.lst l)) := fun {l ds} r z q p hp => by
    have ex := Ext.newH (u := .lst l) ex1.fh hp
    exact q _ _ _ _ (ex1.trans ex) (ex1.hh.free hp) upd_same (ex1.fh.free hp) r z
  split at hf
  all_goals first | (cases hf; done) | skip
  · cases hf
    cases r1 with
    | cons h t =>
      cases t
      cases h with
      | lst h r z => exact ⟨_, _, rfl, .inl (SqL.of (ex1.fh _ _ h)), fin r z q⟩
  · cases hf
    cases r1 with
    | cons h t =>
      cases t
      cases h with
      | tup h r z => exact ⟨_, _, rfl, .inr (Same.seqT ex1.fh h), fin r z q⟩
  · cases hf
    cases r1 with
    | cons h t =>
      cases t
      cases h with
      | frl h r z => exact ⟨_, _, rfl, .inl (Same.seq ex1.fh h), fin r z q⟩
end
end MV

namespace MV
open PySem PySem.Spec PyProof.Rows L2

/-! ## list comprehensions whose parts change owned data; their assignment -/
def LCD (X : Cx) (J : Jc) (er : ET) (elt tg iter : Expr) (ifs : List Expr) (scope : Scope) (own : List (Str × Nat)) (f : Rho → Rs (List Dat)) : Prop :=
  ∃ wi g tt te, PI X tg iter wi ∧ (∀ (s : Shared) (H : Hp) (C : Addr) (cl : List (Str × Addr)) (fp : List Addr), PG (Cx.bk X scope s H C cl fp) tg g) ∧ (∀ (s : Shared) (H : Hp) (C : Addr) (cl : List (Str × Addr)) (fp : List Addr), PTs (Cx.bk X scope s H C cl fp) ifs tt) ∧
    (∀ (s : Shared) (H : Hp) (C : Addr) (cl : List (Str × Addr)) (fp : List Addr), PE (Cx.bk X scope s H C cl fp) elt te) ∧ ∀ σ H Q, tMF X.K J er f σ H Q → tLc wi g tt te (own.map (·.2)) σ H Q
theorem Wd.frzNew {K : PySem.W.Frag} {J : Jc} {B : Bs} {H F : Hp} {o : Ow} {σ : St} {ρ : Rho} (w1 : Wd K J B H F o σ ρ) {a : Addr} {vs : List V} (h1 : H a = some (.lst vs)) (h2 : F a = none) (h3 : o a = none) (h4 : B.o a ≠ none ∨ B.H a = none) : Wd K J B H (L2.upd F a (.lst vs)) o σ ρ := by
  refine ⟨fun b u k => ?_, fun b u k => ?_, w1.oh, w1.len, fun i d k => ?_, w1.pr, w1.bk, fun b u k => ?_, w1.bo, fun b u k => ?_, fun x hx => Own.keep (fun b u k => by rw [upd_ne (fun e => by rw [e, h2] at k; cases k)]; exact k) x.2.2 [] [] x.2.1 (fun b p k => ⟨k, rfl⟩) (w1.hl x hx)⟩
  · by_cases hb : b = a
    · subst hb; rw [upd_same] at k; cases k; exact h1
    · rw [upd_ne hb] at k; exact w1.fh b u k
  · by_cases hb : b = a
    · subst hb; exact h3
    · rw [upd_ne hb] at k; exact w1.fo b u k
  · obtain ⟨v, k1, k2⟩ := w1.sl i d k
    exact ⟨v, k1, Own.keep (fun b u k => by rw [upd_ne (fun e => by rw [e, h2] at k; cases k)]; exact k) d [] [] v (fun b p k => ⟨k, rfl⟩) k2⟩
  · have k' := w1.bf b u k
    rw [upd_ne (fun e => by rw [e, h2] at k'; cases k')]; exact k'
  · by_cases hb : b = a
    · subst hb; exact .inr h4
    · rw [upd_ne hb] at k; exact w1.bn b u k
section
variable {X : Cx} {J : Jc} {er : ET} {tg iter elt : Expr} {ifs : List Expr} {pos : Pos} {scope : Scope} {own : List (Str × Nat)} {is : List Nat} {fi : Rho → Option (List Dat)} {get : Dat → Option (List Dat)} {ft : Rho → Option Bool} {fe : Rho → Option Dat} {f : Rho → Rs (List Dat)}
theorem lcd_pf (hi : ID X tg iter fi) 
    (hg : ∀ (s : Shared) (H : Hp) (C : Addr) (cl : List (Str × Addr)) (fp : List Addr), TGD (Cx.bk X scope s H C cl fp) tg is get) (ht : ∀ (s : Shared) (H : Hp) (C : Addr) (cl : List (Str × Addr)) (fp : List Addr), TsD (Cx.bk X scope s H C cl fp) ifs ft)
    (he : ∀ (s : Shared) (H : Hp) (C : Addr) (cl : List (Str × Addr)) (fp : List Addr), PP (Cx.bk X scope s H C cl fp) elt fe) (his : (is.all fun i => (own.map (·.2)).contains i) = true) :
    ∃ wi g tt te, PI X tg iter wi ∧ (∀ (s : Shared) (H : Hp) (C : Addr) (cl : List (Str × Addr)) (fp : List Addr), PG (Cx.bk X scope s H C cl fp) tg g) ∧ (∀ (s : Shared) (H : Hp) (C : Addr) (cl : List (Str × Addr)) (fp : List Addr), PTs (Cx.bk X scope s H C cl fp) ifs tt) ∧
    (∀ (s : Shared) (H : Hp) (C : Addr) (cl : List (Str × Addr)) (fp : List Addr), PE (Cx.bk X scope s H C cl fp) elt te) ∧ PFr X.K (tLc wi g tt te (own.map (·.2))) (sLC (own.map (·.2)) is fi get ft fe) := by
  obtain ⟨wi, h1, h2⟩ := hi
  have his' : ∀ i ∈ is, i ∈ own.map (·.2) := fun i hm => by
    have := List.all_eq_true.mp his i hm
    simpa using this
  refine ⟨wi, gD X.K is get, tDT X.K ft, tD X.K fe, h1, fun s H C cl fp => (hg s H C cl fp).pg, fun s H C cl fp => (ht s H C cl fp).pts, fun s H C cl fp => (he s H C cl fp).pe, fun σ H F ρ ys Q hs hE hf hq => ?_⟩
  obtain ⟨ds, e1, hf⟩ := Option.bind_eq_some_iff.mp hf
  refine h2 σ H F ρ ds _ hs hE e1 fun I H1 F1 ex w => fun D hD => ?_
  exact lc_rd (g := gD X.K is get) (tt := tDT X.K ft) (te := tD X.K fe) (Qd := fun H => Q (.ref D) H) w gD_rd tDT_rd tD_rd his' ex.fh (hE.up ex.ff) hD hf
    fun vs H' F' ex2 hD' hF' r z => hq D vs H' F' (ex.trans ex2) (ex.hh.free hD) hD' hF' r z
theorem lcd_p (hi : ID X tg iter fi) 
    (hg : ∀ (s : Shared) (H : Hp) (C : Addr) (cl : List (Str × Addr)) (fp : List Addr), TGD (Cx.bk X scope s H C cl fp) tg is get) (ht : ∀ (s : Shared) (H : Hp) (C : Addr) (cl : List (Str × Addr)) (fp : List Addr), TsD (Cx.bk X scope s H C cl fp) ifs ft)
    (he : ∀ (s : Shared) (H : Hp) (C : Addr) (cl : List (Str × Addr)) (fp : List Addr), PP (Cx.bk X scope s H C cl fp) elt fe) (his : (is.all fun i => (own.map (·.2)).contains i) = true := by decide) : LCD X J er elt tg iter ifs scope own (mP (sLC (own.map (·.2)) is fi get ft fe)) := by
  obtain ⟨wi, g, tt, te, h1, h2, h3, h4, h5⟩ := lcd_pf hi hg ht he his
  refine ⟨wi, g, tt, te, h1, h2, h3, h4, fun σ H Q ⟨B, F, o, ρ, w, q⟩ => ?_⟩
  unfold mP at q
  cases e : sLC (own.map (·.2)) is fi get ft fe ρ with
  | none => rw [e] at q; exact q.elim
  | some ds =>
    rw [e] at q
    exact h5 σ H F ρ ds Q w.fh w.envF e fun a vs H' F' ex k1 k2 k3 r z => q a vs H' F' o (w.ext ex) ex.ff k2 k3 (w.on k1) (w.bh k1) r z
theorem lcd_z (hi : ID X tg iter fi) 
    (hg : ∀ (s : Shared) (H : Hp) (C : Addr) (cl : List (Str × Addr)) (fp : List Addr), TGD (Cx.bk X scope s H C cl fp) tg is get) (ht : ∀ (s : Shared) (H : Hp) (C : Addr) (cl : List (Str × Addr)) (fp : List Addr), TsD (Cx.bk X scope s H C cl fp) ifs ft)
    (he : ∀ (s : Shared) (H : Hp) (C : Addr) (cl : List (Str × Addr)) (fp : List Addr), PP (Cx.bk X scope s H C cl fp) elt fe) (his : (is.all fun i => (own.map (·.2)).contains i) = true := by decide) : LCD X J er elt tg iter ifs scope own (mZF (sLC (own.map (·.2)) is fi get ft fe)) := by
  obtain ⟨wi, g, tt, te, h1, h2, h3, h4, h5⟩ := lcd_pf hi hg ht he his
  refine ⟨wi, g, tt, te, h1, h2, h3, h4, fun σ H Q ⟨B, F, o, ρ, w, q⟩ => ?_⟩
  unfold mZF at q
  cases e : sLC (own.map (·.2)) is fi get ft fe (frzR ρ) with
  | none => rw [e] at q; exact q.elim
  | some ds =>
    rw [e] at q
    by_cases hn : Dat.nols ds = true
    · simp only [hn, if_true] at q
      exact w.useZF h5 e hn fun a vs H' F' ex k1 k2 k3 r z => q a vs H' F' o (w.ext ex) ex.ff k2 k3 (w.on k1) (w.bh k1) r z
    · simp only [hn] at q; exact q.elim
theorem fm_lc (hc : X.calm = true) (hN : X.N.Nodup) (h : LCD X J er elt tg iter ifs scope own f) (ok : BlkOk X.N X.env.scope scope own) (hs : ∀ x, foldedSetIterable iter X.env x = pure x := by intro _; rfl) : FM X J er (.ListComp elt [⟨tg, iter, ifs, 0⟩] scope pos) f := by
  obtain ⟨wi, g, tt, te, h1, h2, h3, h4, h5⟩ := h
  exact PE.imp (pe_lc hc hN h1 ok h2 h3 h4 hs) h5
/-- y = [..] on one line: the new list owned -/
theorem sm_setLcO (i : Nat) {y : Str} {py spos : Pos} (hc : X.calm = true) (hp : J.pn.contains i = false) (hN : X.N.Nodup) (h : LCD X J er elt tg iter ifs scope own f) (ok : BlkOk X.N X.env.scope scope own)
    (hsw : swapsWith (.ListComp elt [⟨tg, iter, ifs, 0⟩] scope pos) (some (.Name y py)) spos.line X.env = pure true) (hy : X.N[i]? = some y := by rfl) (hyl : X.env.scope.names.lookup y = some .local := by rfl) (hs : ∀ x, foldedSetIterable iter X.env x = pure x := by intro _; rfl) :
    SM X J er (.Assign [.Name y py] (.ListComp elt [⟨tg, iter, ifs, 0⟩] scope pos) spos) (oSet i (mOw f)) := by
  obtain ⟨wi, g, tt, te, h1, h2, h3, h4, h5⟩ := h
  have hp' : i ∉ J.pn := fun z => by rw [List.contains_iff_mem.mpr z] at hp; cases hp
  refine PS.imp (ps_setLc (i := i) hc hN hy hyl hsw h1 ok h2 h3 h4 hs) fun D σ H ⟨B, F, o, ρ, w, q⟩ => h5 σ H _ ⟨B, F, o, ρ, w, ?_⟩
  unfold oSet mOw at q
  cases e : f ρ with
  | er e' ρ1 => rw [e] at q; exact fun c dd H F1 o w he => q c dd σ H F1 o w he
  | no => rw [e] at q; exact q
  | ok ds ρ1 =>
    rw [e] at q
    have q' : PostS X.K J er B D (.nx (ρ1.set i (some (.mls ds)))) := q
    exact fun a vs H1 F1 o1 w1 s1 k1 k2 k3 k4 r z => q' _ _ _ _ (w1.setO hp' k1 k2 k3 k4 r z)
/-- .. frozen -/
theorem sm_setLc (i : Nat) {y : Str} {py spos : Pos} (hc : X.calm = true) (hp : J.pn.contains i = false) (hN : X.N.Nodup) (h : LCD X J er elt tg iter ifs scope own f) (ok : BlkOk X.N X.env.scope scope own)
    (hsw : swapsWith (.ListComp elt [⟨tg, iter, ifs, 0⟩] scope pos) (some (.Name y py)) spos.line X.env = pure true) (hy : X.N[i]? = some y := by rfl) (hyl : X.env.scope.names.lookup y = some .local := by rfl) (hs : ∀ x, foldedSetIterable iter X.env x = pure x := by intro _; rfl) :
    SM X J er (.Assign [.Name y py] (.ListComp elt [⟨tg, iter, ifs, 0⟩] scope pos) spos) (oSet i (mFz f)) := by
  obtain ⟨wi, g, tt, te, h1, h2, h3, h4, h5⟩ := h
  have hp' : i ∉ J.pn := fun z => by rw [List.contains_iff_mem.mpr z] at hp; cases hp
  refine PS.imp (ps_setLc (i := i) hc hN hy hyl hsw h1 ok h2 h3 h4 hs) fun D σ H ⟨B, F, o, ρ, w, q⟩ => h5 σ H _ ⟨B, F, o, ρ, w, ?_⟩
  unfold oSet mFz at q
  cases e : f ρ with
  | er e' ρ1 => rw [e] at q; exact fun c dd H F1 o w he => q c dd σ H F1 o w he
  | no => rw [e] at q; exact q
  | ok ds ρ1 =>
    rw [e] at q
    have q' : PostS X.K J er B D (.nx (ρ1.set i (some (.lst ds)))) := q
    refine fun a vs H1 F1 o1 w1 s1 k1 k2 k3 k4 r z => ?_
    have w2 := w1.frzNew k1 k2 k3 k4
    have hs : Same F1 (L2.upd F1 a (.lst vs)) := fun b u k => by rw [upd_ne (fun e => by rw [e, k2] at k; cases k)]; exact k
    exact q' _ _ _ _ (w2.set hp' (.lst upd_same (r.up hs) z))

/-! ### elements that change owned data -/
def lcGoM (own is : List Nat) (get : Dat → Option (List Dat)) (tt : Rho → Rs Bool) (te : Rho → Rs Dat) : List Dat → Rho → Rs (List Dat)
  | [], ρ => .ok [] ρ
  | d :: r, ρ => match get d with
    | none => .no
    | some xs => match tt (setR ρ is xs) with
      | .ok true ρ1 => (match te ρ1 with
        | .ok y ρ2 => (match lcGoM own is get tt te r (wipeR ρ2 own) with
          | .ok ys ρ3 => .ok (y :: ys) ρ3
          | _ => .no)
        | _ => .no)
      | .ok false ρ1 => lcGoM own is get tt te r (wipeR ρ1 own)
      | _ => .no
def mLC (own is : List Nat) (fi : Rho → Rs (List Dat)) (get : Dat → Option (List Dat)) (tt : Rho → Rs Bool) (te : Rho → Rs Dat) : Rho → Rs (List Dat) := fun ρ => (fi ρ).bind fun ds ρ1 => lcGoM own is get tt te ds (wipeR ρ1 own)
theorem wipe_get {σ : St} {i : Nat} : ∀ {vs : List Nat}, i ∉ vs → (L2.wipe σ vs)[i]? = σ[i]?
  | [], _ => rfl
  | v :: vs, h => by
    simp only [List.mem_cons, not_or] at h
    unfold L2.wipe
    rw [List.getElem?_set_ne (Ne.symm h.1), wipe_get h.2]
theorem wipeR_get {ρ : Rho} {i : Nat} : ∀ {vs : List Nat}, i ∉ vs → (wipeR ρ vs)[i]? = ρ[i]?
  | [], _ => rfl
  | v :: vs, h => by
    simp only [List.mem_cons, not_or] at h
    unfold wipeR
    rw [List.getElem?_set_ne (Ne.symm h.1), wipeR_get h.2]
theorem wipeR_in {ρ : Rho} {i : Nat} {d : Dat} : ∀ {vs : List Nat}, (wipeR ρ vs)[i]? = some (some d) → i ∉ vs
  | [], _ => by simp
  | v :: vs, h => by
    unfold wipeR at h
    by_cases hi : v = i
    · subst hi
      by_cases hl : v < (wipeR ρ vs).length
      · rw [List.getElem?_set_self hl] at h; cases h
      · rw [List.getElem?_eq_none (by simpa using hl)] at h; cases h
    · rw [List.getElem?_set_ne hi] at h
      simp only [List.mem_cons, not_or]
      exact ⟨fun e => hi e.symm, wipeR_in h⟩
section
variable {K : PySem.W.Frag} {B : Bs} {H F : Hp} {o : Ow} {σ σ' : St} {ρ : Rho}
/-- the same state over other slots, those at own forgotten -/
theorem Wd.slots (w : Wd K J B H F o σ ρ) {vs : List Nat} (hp : ∀ i ∈ vs, i ∉ J.pn) (hl : σ'.length = σ.length) (h : ∀ i, i ∉ vs → σ'[i]? = σ[i]?) : Wd K J B H F o σ' (wipeR ρ vs) :=
  ⟨w.fh, w.fo, w.oh, by rw [wipeR_length, hl]; exact w.len, fun i d e => by
    have hi := wipeR_in e
    rw [wipeR_get hi] at e
    obtain ⟨v, k1, k2⟩ := w.sl i d e
    exact ⟨v, by rw [h i hi]; exact k1, k2⟩, fun i hi => by rw [h i (fun z => hp i z hi)]; exact w.pr i hi, w.bk, w.bf, w.bo, w.bn, w.hl⟩
/-- a fresh list is held meanwhile -/
theorem Wd.hold (w : Wd K J B H F o σ ρ) {a : Addr} {vs : List V} {ds : List Dat} (ha : H a = some (.lst vs)) (hf : F a = none) (ho : o a = none) (hb : B.o a ≠ none ∨ B.H a = none) (r : Reps K F vs ds) (hz : ds.length ≤ sizeLine) (k : Nat) :
    Wd K J { B with F := F, hd := (k, .ref a, .mls ds) :: B.hd } H F (fun b => if b = a then some (.inr (k + 1), []) else o b) σ ρ := by
  have hk : ∀ b p, o b = some p → b ≠ a := fun b p e z => by rw [z, ho] at e; cases e
  refine ⟨w.fh, fun b u e => ?_, fun b q e => ?_, w.len, fun i d e => ?_, w.pr, w.bk, Same.refl _, fun b q e => ?_, fun b u e => .inl e, fun x hx => ?_⟩
  · by_cases z : b = a
    · subst z; rw [hf] at e; cases e
    · rw [if_neg z]; exact w.fo b u e
  · by_cases z : b = a
    · subst z; rw [ha]; trivial
    · rw [if_neg z] at e; exact w.oh b q e
  · obtain ⟨v, k1, k2⟩ := w.sl i d e
    exact ⟨v, k1, Own.keep (Same.refl _) d [] [] v (fun b p e => ⟨by rw [if_neg (hk b _ e)]; exact e, rfl⟩) k2⟩
  · by_cases z : b = a
    · subst z; exact hb
    · rw [if_neg z] at e; exact w.bo b q e
  · rcases List.mem_cons.mp hx with e | hx
    · subst e
      show Own K J.T F H _ (.inr (k + 1)) [] (.mls ds) (.ref a)
      unfold Own
      exact ⟨a, vs, rfl, if_pos rfl, ha, hz, r.owns⟩
    · exact Own.keep (Same.refl _) x.2.2 [] [] x.2.1 (fun b p e => ⟨by rw [if_neg (hk b _ e)]; exact e, rfl⟩) (w.hl x hx)
/-- .. and let go: it is a fresh list again -/
theorem Wd.unhold {F1 : Hp} {k : Nat} {a : Addr} {ds : List Dat} (hds : ds.all Dat.fz = true) (hbf : Same B.F F1) (hbn : ∀ b u, F1 b = some u → B.F b = some u ∨ B.o b ≠ none ∨ B.H b = none) (hk : ∀ x ∈ B.hd, x.1 ≠ k) (w : Wd K J { B with F := F1, hd := (k, .ref a, .mls ds) :: B.hd } H F o σ ρ) :
    ∃ vs, Wd K J B H F (fun b => if b = a then none else o b) σ ρ ∧ H a = some (.lst vs) ∧ F a = none ∧ (B.o a ≠ none ∨ B.H a = none) ∧ Reps K F vs ds ∧ ds.length ≤ sizeLine := by
  have h := w.hl (k, .ref a, .mls ds) (by simp)
  have h : Own K J.T F H o (.inr (k + 1)) [] (.mls ds) (.ref a) := h
  unfold Own at h
  obtain ⟨a', vs, e0, h1, h2, hz, h3⟩ := h
  cases e0
  have hne : ∀ b r p, o b = some (r, p) → r ≠ .inr (k + 1) → b ≠ a := fun b r p e n z => by rw [z, h1] at e; cases e; exact n rfl
  refine ⟨vs, ⟨w.fh, fun b u e => ?_, fun b q e => ?_, w.len, fun i d e => ?_, w.pr, w.bk, hbf.trans w.bf, fun b q e => ?_, fun b u e => ?_, fun x hx => ?_⟩, h2, ?_, w.bo a _ h1, owns_reps hds h3, hz⟩
  · by_cases z : b = a
    · rw [if_pos z]
    · rw [if_neg z]; exact w.fo b u e
  · by_cases z : b = a
    · rw [if_pos z] at e; cases e
    · rw [if_neg z] at e; exact w.oh b q e
  · obtain ⟨v, k1, k2⟩ := w.sl i d e
    exact ⟨v, k1, Own.keep (Same.refl _) d [] [] v (fun b p e => ⟨by rw [if_neg (hne b _ _ e (fun z => nomatch z))]; exact e, rfl⟩) k2⟩
  · by_cases z : b = a
    · rw [if_pos z] at e; cases e
    · rw [if_neg z] at e; exact w.bo b q e
  · rcases w.bn b u e with z | z
    · exact hbn b u z
    · exact .inr z
  · exact Own.keep (Same.refl _) x.2.2 [] [] x.2.1 (fun b p e => ⟨by rw [if_neg (hne b _ _ e (fun z => hk x hx (by injection z with z; omega)))]; exact e, rfl⟩) (w.hl x (List.mem_cons_of_mem _ hx))
  · cases e : F a with
    | none => rfl
    | some u => rw [w.fo a u e] at h1; cases h1
/-- an item is put behind the held list -/
theorem Wd.heldApp {F1 : Hp} {k : Nat} {a : Addr} {ds : List Dat} {v : V} {d : Dat} (hds : ds.all Dat.fz = true) (hk : ∀ x ∈ B.hd, x.1 ≠ k) (w : Wd K J { B with F := F1, hd := (k, .ref a, .mls ds) :: B.hd } H F o σ ρ) (r : Rep K F v d) (hz : ds.length < sizeLine) :
    ∃ vs, H a = some (.lst vs) ∧ vs.length = ds.length ∧ Wd K J { B with F := F1, hd := (k, .ref a, .mls (ds ++ [d])) :: B.hd } (L2.upd H a (.lst (vs ++ [v]))) F o σ ρ := by
  have h := w.hl (k, .ref a, .mls ds) (by simp)
  have h : Own K J.T F H o (.inr (k + 1)) [] (.mls ds) (.ref a) := h
  unfold Own at h
  obtain ⟨a', vs, e0, h1, h2, hz', h3⟩ := h
  cases e0
  have hne : ∀ b r p, o b = some (r, p) → r ≠ .inr (k + 1) → b ≠ a := fun b r p e n z => by rw [z, h1] at e; cases e; exact n rfl
  have hr := owns_reps hds h3
  refine ⟨vs, h2, hr.length, ⟨fun b u e => ?_, w.fo, fun b q e => ?_, w.len, fun i d e => ?_, w.pr, fun b u e1 e2 => ?_, w.bf, w.bo, w.bn, fun x hx => ?_⟩⟩
  · rw [upd_ne (fun z => by have := w.fo b u e; rw [z, h1] at this; cases this)]; exact w.fh b u e
  · by_cases z : b = a
    · subst z; rw [upd_same]; trivial
    · rw [upd_ne z]; exact w.oh b q e
  · obtain ⟨v, k1, k2⟩ := w.sl i d e
    exact ⟨v, k1, Own.keep (Same.refl _) d [] [] v (fun b p e => ⟨e, upd_ne (hne b _ _ e (fun z => nomatch z))⟩) k2⟩
  · rw [upd_ne (fun z => ?_)]
    · exact w.bk b u e1 e2
    · rcases w.bo a _ h1 with q | q
      · exact q (z ▸ e2)
      · rw [z, q] at e1; cases e1
  · rcases List.mem_cons.mp hx with e | hx
    · subst e
      show Own K J.T F _ o (.inr (k + 1)) [] (.mls (ds ++ [d])) (.ref a)
      unfold Own
      exact ⟨a, _, rfl, h1, upd_same, by simp; omega, (hr.snoc r).owns⟩
    · exact Own.keep (Same.refl _) x.2.2 [] [] x.2.1 (fun b p e => ⟨e, upd_ne (hne b _ _ e (fun z => hk x hx (by injection z with z; omega)))⟩) (w.hl x (List.mem_cons_of_mem _ hx))
end
theorem hd_fresh (B : Bs) : ∃ k, ∀ x ∈ B.hd, x.1 ≠ k := by
  have : ∀ l : List (Nat × V × Dat), ∃ k, ∀ x ∈ l, x.1 < k := by
    intro l
    induction l with
    | nil => exact ⟨0, fun _ h => nomatch h⟩
    | cons y l ih =>
      obtain ⟨k, h⟩ := ih
      refine ⟨max k (y.1 + 1), fun x hx => ?_⟩
      rcases List.mem_cons.mp hx with e | hx
      · subst e; omega
      · have := h x hx; omega
  obtain ⟨k, h⟩ := this B.hd
  exact ⟨k, fun x hx => by have := h x hx; omega⟩
/-- within a block nothing is raised -/
def Jc.bk (J : Jc) : Jc := ⟨J.T, J.pn, fun _ _ _ => False⟩
theorem Wd.toBk {K : PySem.W.Frag} {B : Bs} {H F : Hp} {o : Ow} {σ : St} {ρ : Rho} (w : Wd K J B H F o σ ρ) : Wd K J.bk B H F o σ ρ := ⟨w.fh, w.fo, w.oh, w.len, w.sl, w.pr, w.bk, w.bf, w.bo, w.bn, w.hl⟩
theorem Wd.ofBk {K : PySem.W.Frag} {B : Bs} {H F : Hp} {o : Ow} {σ : St} {ρ : Rho} (w : Wd K J.bk B H F o σ ρ) : Wd K J B H F o σ ρ := ⟨w.fh, w.fo, w.oh, w.len, w.sl, w.pr, w.bk, w.bf, w.bo, w.bn, w.hl⟩
def TsM (X : Cx) (J : Jc) (er : ET) (ifs : List Expr) (f : Rho → Rs Bool) : Prop := PTs X ifs (tMT X.K J er f)
def mYes : Rho → Rs Bool := fun ρ => .ok true ρ
theorem tsm_nil : TsM X J er [] mYes := ⟨fun pins s σ H Q I ⟨B, F, o, ρ, w, q⟩ => pts_nil.run pins s σ H Q I (q H F o w (Same.refl _))⟩
theorem tsm_one {c : Expr} {f : Rho → Rs Bool} (h : TM X J er c f) : TsM X J er [c] f := pts_one h
theorem lcd_m {fi : Rho → Rs (List Dat)} {ft : Rho → Rs Bool} {fe : Rho → Rs Dat} (hi : IM X J er tg iter fi)
    (hg : ∀ (s : Shared) (H : Hp) (C : Addr) (cl : List (Str × Addr)) (fp : List Addr), TGD (Cx.bk X scope s H C cl fp) tg is get) (ht : ∀ (s : Shared) (H : Hp) (C : Addr) (cl : List (Str × Addr)) (fp : List Addr), TsM (Cx.bk X scope s H C cl fp) J.bk er ifs ft)
    (he : ∀ (s : Shared) (H : Hp) (C : Addr) (cl : List (Str × Addr)) (fp : List Addr), PM (Cx.bk X scope s H C cl fp) J.bk er elt fe) (his : (is.all fun i => (own.map (·.2)).contains i) = true := by decide) (hpn : ((own.map (·.2)).all fun i => !J.pn.contains i) = true := by decide) :
    LCD X J er elt tg iter ifs scope own (mLC (own.map (·.2)) is fi get ft fe) := by
  have his' : ∀ i ∈ is, i ∈ own.map (·.2) := fun i hm => by
    have := List.all_eq_true.mp his i hm
    simpa using this
  have hpn' := pn_ok hpn
  refine ⟨_, gD X.K is get, tMT X.K J.bk er ft, tM X.K J.bk er fe, hi, fun s H C cl fp => (hg s H C cl fp).pg, ht, he, fun σ H Q ⟨B, F, o, ρ, w, q⟩ => ⟨B, F, o, ρ, w, ?_⟩⟩
  unfold mLC at q
  cases e : fi ρ with
  | er e' ρ1 => rw [e] at q; exact q
  | no => rw [e] at q; exact q.elim
  | ok ds ρ1 =>
    rw [e] at q
    intro I H1 F1 o1 w1 s1 wd D hD
    have q1 : PostF X.K J er B F σ Q (lcGoM (own.map (·.2)) is get ft fe ds (wipeR ρ1 (own.map (·.2)))) := q
    obtain ⟨⟨G, Y, wk, hG, hY⟩, hz⟩ := wd
    obtain ⟨k, hk⟩ := hd_fresh B
    have hFD : F1 D = none := w1.fh.free hD
    have exD := Ext.newH (u := .lst []) w1.fh hD
    have hw0 := ((w1.ext exD).slots (σ' := L2.wipe σ (own.map (·.2))) hpn' (L2.wipe_length _ _) fun i hi => wipe_get hi).hold (a := D) (vs := []) (ds := []) upd_same hFD (w1.on hD) (w1.bh hD) .nil (Nat.zero_le _) k
    let Pv : Nat → Hp → Prop := fun i Hc => ∃ as F2 o2 ρ2, as.all Dat.fz = true ∧ as.length ≤ i ∧ Wd X.K J { B with F := F1, hd := (k, .ref D, .mls as) :: B.hd } Hc F2 o2 (L2.wipe σ (own.map (·.2))) ρ2 ∧
      PostF X.K J er B F σ Q (match lcGoM (own.map (·.2)) is get ft fe (ds.drop i) ρ2 with
        | .ok ys ρ3 => .ok (as ++ ys) ρ3
        | _ => .no)
    have kk : ∀ x ∈ B.hd, x.1 ≠ k := hk
    refine lc_it wk Pv ⟨[], F1, _, _, rfl, Nat.zero_le _, hw0, ?_⟩ (fun i Hc hi p => ?_) (fun i x Hc H' hi p y => ?_) (fun Hc p => ?_)
    · rw [List.drop_zero]
      cases e2 : lcGoM (own.map (·.2)) is get ft fe ds (wipeR ρ1 (own.map (·.2))) with
      | ok ys ρ3 => rw [e2] at q1; simpa using q1
      | er _ _ =>
        exfalso
        have : ∀ (l : List Dat) (ρ : Rho) (e : Er) (ρ' : Rho), lcGoM (own.map (·.2)) is get ft fe l ρ ≠ .er e ρ' := by
          intro l
          induction l with
          | nil => intro ρ e ρ' z; cases z
          | cons d l ih =>
            intro ρ e ρ' z
            unfold lcGoM at z
            split at z
            · cases z
            · split at z
              · split at z
                · split at z <;> cases z
                · cases z
              · exact ih _ _ _ z
              · cases z
        exact this _ _ _ _ e2
      | no => rw [e2] at q1; exact q1.elim
    · obtain ⟨as, F2, o2, ρ2, h1, h2, h3, h4⟩ := p
      exact hG Hc (h3.bf.trans h3.fh)
    · obtain ⟨as, F2, o2, ρ2, h1, h2, h3, h4⟩ := p
      obtain ⟨F3, d, e1, ex, r⟩ := hY i Hc F2 x H' hi h3.bf h3.fh y
      have hdrop : ds.drop i = d :: ds.drop (i + 1) := by
        obtain ⟨hi', e⟩ := List.getElem?_eq_some_iff.mp e1
        rw [List.drop_eq_getElem_cons hi', e]
      rw [hdrop] at h4
      simp only [lcGoM] at h4
      cases e2 : get d with
      | none => rw [e2] at h4; exact h4.elim
      | some xs =>
        rw [e2] at h4
        simp only at h4
        have w3 := h3.ext ex
        refine ⟨F3, d, xs, w3.fh, r, e2, fun vs rv lv => ⟨by rw [wipe_setS _ _ _ _ his', wipe_wipe], ?_⟩⟩
        have w4 := Wd.sets is (fun i hi => hpn' i (his' i hi)) w3 rv
        refine ⟨_, F3, o2, _, w4.toBk, ?_⟩
        -- back to the turn's start
        have again : ∀ {H5 F5 : Hp} {o5 : Ow} {ρ5 : Rho} {B5 : Bs}, Wd X.K J B5 H5 F5 o5 (setS (L2.wipe σ (own.map (·.2))) is vs) ρ5 → Wd X.K J B5 H5 F5 o5 (L2.wipe σ (own.map (·.2))) (wipeR ρ5 (own.map (·.2))) := fun {H5 F5 o5 ρ5 B5} w5 => by
          refine w5.slots hpn' ?_ fun i hi => ?_
          · have h0 := congrArg List.length (wipe_setS is (L2.wipe σ (own.map (·.2))) vs (own.map (·.2)) his')
            rw [L2.wipe_length, L2.wipe_length] at h0
            exact h0.symm
          · have h0 := wipe_setS is (L2.wipe σ (own.map (·.2))) vs (own.map (·.2)) his'
            rw [← wipe_get (σ := L2.wipe σ (own.map (·.2))) hi, ← h0, wipe_get hi]
        cases e3 : ft (setR ρ2 is xs) with
        | er _ _ => rw [e3] at h4; exact h4.elim
        | no => rw [e3] at h4; exact h4.elim
        | ok c ρ3 =>
          rw [e3] at h4
          intro H5 F5 o5 w5 s5
          cases c with
          | false =>
            refine iteF ?_
            simp only at h4
            exact ⟨as, F5, o5, _, h1, Nat.le_succ_of_le h2, again w5.ofBk, h4⟩
          | true =>
            refine iteT ?_
            simp only at h4
            refine ⟨_, F5, o5, ρ3, w5, ?_⟩
            cases e4 : fe ρ3 with
            | er _ _ => rw [e4] at h4; exact h4.elim
            | no => rw [e4] at h4; exact h4.elim
            | ok yd ρ4 =>
              rw [e4] at h4
              intro yv H6 F6 o6 w6 s6 r6
              simp only at h4
              have hlen : as.length < sizeLine := by omega
              obtain ⟨acc, k1, k2, k3⟩ := Wd.heldApp (ds := as) h1 kk w6.ofBk r6 hlen
              refine ⟨acc, k1, by rw [k2]; exact hlen, as ++ [yd], F6, o6, _, ?_, by simp; omega, again k3, ?_⟩
              · rw [List.all_append, h1]; simp [r6.fz]
              · cases e5 : lcGoM (own.map (·.2)) is get ft fe (ds.drop (i + 1)) (wipeR ρ4 (own.map (·.2))) with
                | ok ys ρ5 => rw [e5] at h4; simpa using h4
                | er _ _ => rw [e5] at h4; exact h4.elim
                | no => rw [e5] at h4; exact h4.elim
    · obtain ⟨as, F2, o2, ρ2, h1, h2, h3, h4⟩ := p
      rw [List.drop_length] at h4
      simp only [lcGoM, List.append_nil] at h4
      obtain ⟨vs, w6, k1, k2, k3, k4, k5⟩ := Wd.unhold (B := B) (F1 := F1) h1 w1.bf w1.bn kk h3
      -- the outer slots again
      have w7 : Wd X.K J B Hc F2 (fun b => if b = D then none else o2 b) σ ρ2 := by
        refine ⟨w6.fh, w6.fo, w6.oh, by rw [← w6.len, L2.wipe_length], fun i d e => ?_, w1.pr, w6.bk, w6.bf, w6.bo, w6.bn, w6.hl⟩
        obtain ⟨v, j1, j2⟩ := w6.sl i d e
        exact ⟨v, (L2.wipe_some j1).1, j2⟩
      exact h4 D vs Hc F2 _ w7 (s1.trans h3.bf) k1 k2 (if_pos rfl) k3 k4 k5
end
end MV

namespace MV
open PySem PySem.Spec PyProof.Rows L2

section
variable {prog : Program} {w : World} {A : Around} {E : Value → Shared → Prop} {s : Shared}
theorem adjust_rev (n : Nat) : Builtin.Slice.sliceAdjust none none (-1) (n : Int) = ((n : Int) - 1, -1) := by
  unfold Builtin.Slice.sliceAdjust
  have h1 : ((-1 : Int) < 0) := by omega
  simp only [h1, if_true]
theorem places_rev (n : Nat) : Builtin.Slice.slicePlaces ((n : Int) - 1) (-1) (-1) = n := by
  unfold Builtin.Slice.slicePlaces
  have h1 : ¬ ((-1 : Int) > 0) := by omega
  simp only [h1, if_false, Int.neg_neg, Int.ediv_one]
  split <;> omega
theorem pick_rev (xs : Array Value) : ((List.range xs.size).filterMap fun (m : Nat) => xs[(((xs.size : Int) - 1) + (m : Int) * (-1)).toNat]?).toArray = xs.toList.reverse.toArray := by
  congr 1
  apply List.ext_getElem?
  intro i
  have e : ((List.range xs.size).filterMap fun (m : Nat) => xs[(((xs.size : Int) - 1) + (m : Int) * (-1)).toNat]?) = (List.range xs.size).pmap (fun m (h : m < xs.size) => xs[xs.size - 1 - m]) (fun m h => by simpa using h) := by
    have aux : ∀ (l : List Nat) (hl : ∀ m ∈ l, m < xs.size), (l.filterMap fun (m : Nat) => xs[(((xs.size : Int) - 1) + (m : Int) * (-1)).toNat]?) = l.pmap (fun m (h : m < xs.size) => xs[xs.size - 1 - m]) hl := by
      intro l
      induction l with
      | nil => intro _; rfl
      | cons a l ih =>
        intro hl
        have ha : a < xs.size := hl a (by simp)
        have e1 : (((xs.size : Int) - 1) + (a : Int) * (-1)).toNat = xs.size - 1 - a := by omega
        have e2 : xs[(((xs.size : Int) - 1) + (a : Int) * (-1)).toNat]? = some (xs[xs.size - 1 - a]) := by rw [e1]; exact Array.getElem?_eq_getElem (by omega)
        rw [List.filterMap_cons, e2, List.pmap_cons, ih (fun m hm => hl m (List.mem_cons_of_mem _ hm))]
    exact aux _ _
  rw [e]
  by_cases hi : i < xs.size
  · rw [List.getElem?_eq_getElem (by simpa using hi), List.getElem?_eq_getElem (by simpa using hi)]
    simp
  · rw [List.getElem?_eq_none (by simpa using hi), List.getElem?_eq_none (by simpa using hi)]
theorem getItem_tuple_rev {t sl : Addr} {items : Array Value} {vl vu vs : Value} {Q : Value → Shared → Prop} (ht : IsTup s.heap t items) (hs : s.heap.IsSliceOf sl vl vu vs) (pl : IsPart vl none) (pu : IsPart vu none) (ps : IsPart vs (some (-1)))
    (h : Q (.ref s.heap.objs.size) { s with heap := s.heap.push { cls := .type "tuple", data := .seq items.toList.reverse.toArray } })
    (hsz : items.size ≤ sizeLine) : wpAny (model prog w) A (getItem (.ref t) (.ref sl)) Q E s := by
  have htake : sizeOk (.seq items.toList.reverse.toArray) := by
    show items.toList.reverse.toArray.size ≤ sizeLine
    simpa using hsz
  obtain ⟨os, hos, hcs, hds⟩ := id hs
  have hTs : s.TypeIs (.ref sl) "slice" := ⟨os, hos, hcs⟩
  unfold getItem
  try with_reducible refine wpAny_holding ?_
  first | refine wpAny_bind (wpAny_pure ?_) | skip
  refine wpAny_bind (wpAny_sequenceKey ht.typeIs (by decide) ?_)
  refine wpAny_bind (wpAny_callSpecial?_slot (name := Str.ofString "__getitem__") ht.typeIs PyProof.Rows.slot_tuple_getitem
    (wpAny_call_entry PyProof.Rows.slot_tuple_getitem ht.typeIs entry_tuple_getitem ?_ (args_tuple_getitem _ _)))
  show wpAny _ _ (Builtin.Tuple.tupleItemsOf (.ref t) >>= _) _ _ s
  refine wpAny_bind (tupleItemsOf_ ht ?_)
  refine wpAny_bind (wpAny_typeOf hTs ?_)
  rw [if_pos (by decide)]
  have hsa : ∀ {A : Around} {E : Value → Shared → Prop} {Q : Int × Int × Nat → Shared → Prop}, Q ((items.size : Int) - 1, -1, items.size) s → wpAny (model prog w) A (Builtin.Slice.sliceApplied (.ref sl) (pure (items.size : Int))) Q E s := by
    intro A E Q h
    unfold Builtin.Slice.sliceApplied Builtin.Slice.sliceFields
    refine wpAny_bind (wpAny_bind (wpAny_field hos hds (x := vl) rfl (wpAny_bind (wpAny_field hos hds (x := vu) rfl (wpAny_bind (wpAny_field hos hds (x := vs) rfl (wpAny_pure ?_)))))))
    refine wpAny_bind (HT.slicePart_ ps ?_)
    show wpAny _ _ (if ((-1 : Int) == 0) = true then _ else _) _ _ s
    rw [if_neg (by decide)]
    refine wpAny_bind (HT.slicePart_ pl (wpAny_bind (HT.slicePart_ pu (wpAny_bind (wpAny_pure ?_)))))
    show wpAny _ _ (match Builtin.Slice.sliceAdjust none none (-1) (items.size : Int) with | (lo, hi) => pure (lo, (-1 : Int), Builtin.Slice.slicePlaces lo hi (-1))) _ _ s
    rw [adjust_rev]
    show wpAny _ _ (pure (((items.size : Int) - 1), (-1 : Int), Builtin.Slice.slicePlaces ((items.size : Int) - 1) (-1) (-1))) _ _ s
    rw [places_rev]
    exact wpAny_pure h
  refine wpAny_bind (hsa ?_)
  have hno : ¬ (((((items.size : Int) - 1) == 0 && (-1 : Int) == 1 && items.size == items.size) = true)) := by
    simp
  show wpAny _ _ (if ((((items.size : Int) - 1) == 0 && (-1 : Int) == 1 && items.size == items.size) = true) then _ else _) _ _ s
  rw [if_neg hno, pick_rev]
  first
    | exact wpAny_bind (m := Builtin.Tuple.tupleExact _) (wpAny_newObj_type (wpAny_pure ⟨_, rfl, wpAny_pure h⟩) htake)
    | exact wpAny_bind (m := Builtin.Tuple.tupleExact _) (wpAny_newObj_type (wpAny_bind (wpAny_pure (wpAny_pure ⟨_, rfl, wpAny_pure h⟩))) htake)
    | exact wpAny_bind (wpAny_bind (m := Builtin.Tuple.tupleExact _) (wpAny_newObj_type (wpAny_pure (wpAny_pure ⟨_, rfl, wpAny_pure h⟩)) htake))
    | exact wpAny_bind (wpAny_bind (m := Builtin.Tuple.tupleExact _) (wpAny_newObj_type (wpAny_pure ⟨_, rfl, wpAny_pure h⟩) htake))
end
/-! ### t[::-1] -/
def tRevT (K : PySem.W.Frag) (te : TE) : TE := fun σ H Q => te σ H fun x H1 => ∃ a xs, x = .ref a ∧ SqT K H1 a xs ∧ ∀ p, H1 p = none → Q (.ref p) (L2.upd H1 p (.tup xs.reverse))
theorem pe_revT {X : Cx} {e : Expr} {te : TE} {k : Nat} {p1 p2 p3 pos : Pos} (he : PE X e te) : PE X (.Subscript e (.Slice none none (some (.UnaryOp .USub (.Constant (.int 1) k p1) p2)) p3) pos) (tRevT X.K te) := by
  refine ⟨fun pins s σ H Q I h => ?_⟩
  refine Subscript_ (thn (he.run pins s σ H _ I h) fun v s1 ⟨x, H1, I1, r1, q1⟩ => ?_)
  obtain ⟨a, xs, ex, hx, q⟩ := q1
  subst ex
  cases r1
  have hst : PO X (some (.UnaryOp .USub (.Constant (.int 1) k p1) p2)) (tPart (tUn (rU fun i => .int (-i)) (tC (.int 1)))) := po_some (pe_un un_neg pe_int)
  refine wpAny_Slice (thn (po_none.run pins s1 σ H1 (fun o H2 => o = none ∧ H2 = H1) I1 ⟨rfl, rfl⟩) fun vl s2 ⟨l, H2, I2, pl, el, e2⟩ => ?_)
  subst el e2
  refine thn (po_none.run pins s2 σ H2 (fun o H3 => o = none ∧ H3 = H2) I2 ⟨rfl, rfl⟩) fun vu s3 ⟨u, H3, I3, pu, eu, e3⟩ => ?_
  subst eu e3
  refine thn (hst.run pins s3 σ H3 (fun o H4 => o = some (-1) ∧ H4 = H3) I3 ⟨1, rfl, -1, rfl, rfl, rfl⟩) fun vs s4 ⟨o, H4, I4, ps, eo, e4⟩ => ?_
  subst eo e4
  have I5 : Inv X pins σ H4 { s4 with heap := s4.heap.push { cls := .type "slice", data := .fields #[vl, vu, vs] } } := I4.kept (t' := s4.toks) fun b ob q => Heap.get?_push_of_some _ q
  obtain ⟨its, r, ht, hz⟩ := I5.tuple hx
  have hlen := r.length
  show wpAny (model X.prog X.w) X.A (subscriptTail e (.Slice none none (some (.UnaryOp .USub (.Constant (.int 1) k p1) p2)) p3) (.ref a) (.ref s4.heap.objs.size)) (EP X pins σ Q) X.xe { s4 with heap := s4.heap.push { cls := .type "slice", data := .fields #[vl, vu, vs] } }
  refine tail_any (ops := [.ref a, .ref s4.heap.objs.size]) ht.typeIs (PyProof.Rows.slot_tuple_getitem.lookup) ?_ (by with_unfolding_all rfl)
  refine getItem_tuple_rev ht (Heap.IsSliceOf.new _ vl vu vs) pl pu ps ?_ (by rw [List.size_toArray]; omega)
  refine ⟨.ref _, _, I5.laid (t' := s4.toks) (o := .tup xs.reverse) (fun b ob q => Heap.get?_push_of_some _ q) (Nat.le_refl _) ?_, rfl, q _ (I5.hok.fresh (Nat.le_refl _))⟩
  refine ⟨by rw [List.length_reverse]; exact hz, its.reverse, r.reverse, ?_⟩
  exact ⟨_, Heap.get?_push_size _ rfl, rfl, 0, by simp⟩
section
variable {X : Cx} {J : Jc} {er : ET} {e a b : Expr} {es : List Expr} {pos : Pos} {f fa fb : Rho → Option Dat}
def sRevT (f : Rho → Option Dat) : Rho → Option Dat := fun ρ => (f ρ).bind fun d => match d with
  | .tup l => some (.tup l.reverse)
  | _ => none
theorem pp_revT {k : Nat} {p1 p2 p3 : Pos} (he : PP X e f) : PP X (.Subscript e (.Slice none none (some (.UnaryOp .USub (.Constant (.int 1) k p1) p2)) p3) pos) (sRevT f) := by
  obtain ⟨t, h1, h2⟩ := he
  refine ⟨_, pe_revT h1, fun σ H F ρ d Q hs hE hf q => ?_⟩
  obtain ⟨x, e1, hf⟩ := Option.bind_eq_some_iff.mp hf
  refine h2 σ H F ρ x _ hs hE e1 fun v H1 F1 ex1 r1 => ?_
  cases x with
  | tup l =>
    cases hf
    cases r1 with
    | tup h r z =>
      rename_i a1 vs1
      refine ⟨_, _, rfl, Same.seqT ex1.fh h, fun p hp => ?_⟩
      have ex := Ext.new (u := .tup vs1.reverse) ex1.fh hp
      exact q _ _ _ (ex1.trans ex) (.tup (SqT.of upd_same) (r.reverse.up ex.ff) (by simpa using z))
  | _ => cases hf
def sRevL (f : Rho → Option Dat) : Rho → Option (List Dat) := fun ρ => (f ρ).bind fun d => match d with
  | .lst l => some l.reverse
  | _ => none
theorem pf_revL {k : Nat} {p1 p2 p3 : Pos} (he : PP X e f) : PF X (.Subscript e (.Slice none none (some (.UnaryOp .USub (.Constant (.int 1) k p1) p2)) p3) pos) (sRevL f) := by
  obtain ⟨t, h1, h2⟩ := he
  refine ⟨_, pe_revL h1, fun σ H F ρ d Q hs hE hf q => ?_⟩
  obtain ⟨x, e1, hf⟩ := Option.bind_eq_some_iff.mp hf
  refine h2 σ H F ρ x _ hs hE e1 fun v H1 F1 ex1 r1 => ?_
  cases x with
  | lst l =>
    cases hf
    cases r1 with
    | lst h r z =>
      rename_i a1 vs1
      refine ⟨_, _, rfl, SqL.of (ex1.fh _ _ h), fun p hp => ?_⟩
      have ex := Ext.newH (u := .lst vs1.reverse) ex1.fh hp
      exact q _ _ _ _ (ex1.trans ex) (ex1.hh.free hp) upd_same (ex1.fh.free hp) r.reverse (by simpa using z)
  | _ => cases hf

/-! ### isinstance -/
def Dat.tyN : Dat → Option String
  | .non => some "NoneType"
  | .bl _ => some "bool"
  | .int _ => some "int"
  | .str _ => some "str"
  | .tup _ => some "tuple"
  | .lst _ => some "list"
  | .frl _ => some "list"
  | _ => none
theorem rep_ty {K : PySem.W.Frag} {H F : Hp} {v : V} {d : Dat} {t : String} (hs : Same F H) (r : Rep K F v d) (h : d.tyN = some t) : TyX K H v (.type t) := by
  have rdT : ∀ {a : Addr} {xs : List V}, SqT K F a xs → TyX K H (.ref a) (.type "tuple") := fun {a xs} q => by
    rcases Same.seqT hs q with (k | ⟨o, k⟩) | ⟨o, its, n, k, k2, _⟩
    · exact .base (.tup k)
    · exact .fTuple k
    · exact .kTuple k k2
  cases r with
  | non => cases h; exact .base .non
  | bl b => cases h; exact .base (.bl b)
  | int i => cases h; exact .base (.int i)
  | str s z => cases h; exact .base (.str s)
  | tup k r z => cases h; exact rdT k
  | lst k r z => cases h; exact .base (.lst (hs _ _ k))
  | frl k r z =>
    cases h
    rcases Same.seq hs k with (k | ⟨o, k⟩) | ⟨o, its, n, k, k2, _⟩
    · exact .base (.lst k)
    · exact .base (.frz k)
    · exact .kList k k2
def dIsi (c : String) (d : Dat) : Option Dat := (d.tyN).bind fun t => (kitB t c).map Dat.bl
theorem pp_isi (c : String) {x : Str} {p pc : Pos} (he : PP X e f) (hg : Gl X "isinstance") (hm : X.mg "isinstance" = none) (hgc : Gl X x) (hmc : X.mg x = none) (hvc : bootBuiltins x = some (.type c)) (hn : x ≠ "__name__" := by decide) (hd : (x == ("__debug__" : Str)) = false := by decide)
    (h1 : starEach [e, .Name x pc] X.env = (false, eval e X.env) :: starEach [.Name x pc] X.env := by rfl) (h2 : starEach [.Name x pc] X.env = (false, eval (.Name x pc) X.env) :: starEach [] X.env := by rfl) (hpl : (backTo pos (starEach [.Name x pc] X.env)).any (·.1) = false := by rfl) :
    PP X (.Call (.Name "isinstance" p) [e, .Name x pc] [] pos) (sUn (dIsi c) f) := by
  obtain ⟨t, k1, k2⟩ := he
  refine ⟨_, pe_callB call_isi hg hm (by decide +kernel) (pa_cons k1 (pa_cons (pe_bltn (v := .ty c) hgc hmc hvc rfl hn hd) pa_nil h2) h1) (by decide) (by decide) h1 hpl, fun σ H F ρ d Q hs hE hf q => ?_⟩
  obtain ⟨x, e1, hf⟩ := Option.bind_eq_some_iff.mp hf
  refine k2 σ H F ρ x _ hs hE e1 fun v H1 F1 ex1 r1 => ?_
  obtain ⟨t, e2, hf⟩ := Option.bind_eq_some_iff.mp hf
  obtain ⟨b, e3, e4⟩ := Option.map_eq_some_iff.mp hf
  subst e4
  exact ⟨v, .ty c, .type t, .type c, b, rfl, .ty c, rep_ty ex1.fh r1 e2, kit_ty e3, q _ _ _ ex1 (.bl _)⟩

/-! ### texts: split, join -/
theorem le_sum_of_mem : ∀ {l : List Nat} {n : Nat}, n ∈ l → n ≤ l.sum
  | _ :: _, _, .head _ => by simp
  | a :: l, n, .tail _ h => by have := le_sum_of_mem h; simp; omega
theorem split_part_le {x y p : Str} (hy : 1 ≤ y.length) (h : p ∈ Txt.split x y) : p.length ≤ x.length := by
  have h1 := split_weight x y hy
  have h2 : p.length ≤ ((Txt.split x y).map (·.length)).sum := le_sum_of_mem (List.mem_map.mpr ⟨p, h, rfl⟩)
  have h3 : 1 ≤ (Txt.split x y).length := by cases e : Txt.split x y with
    | nil => rw [e] at h; cases h
    | cons _ _ => simp
  omega
theorem reps_strs {K : PySem.W.Frag} {F : Hp} : ∀ {ys : List Str}, (∀ y ∈ ys, y.length ≤ sizeLine) → Reps K F (ys.map V.str) (ys.map Dat.str)
  | [], _ => .nil
  | y :: ys, h => .cons (.str _ (h y (by simp))) (reps_strs fun z hz => h z (List.mem_cons_of_mem _ hz))
def sSplit (fa fb : Rho → Option Dat) : Rho → Option (List Dat) := fun ρ => (fa ρ).bind fun x => (fb ρ).bind fun y => match x, y with
  | .str a, .str b => if 1 ≤ b.length ∧ a.length ≤ 1000000 then some ((Txt.split a b).map Dat.str) else none
  | _, _ => none
theorem pf_split {apos : Pos} (ha : PP X a fa) (hb : PP X b fb) (hs : starEach [b] X.env = [(false, eval b X.env)] := by rfl) (hbase : attributeBase a "split" X.env (eval a X.env) = eval a X.env := by rfl) (hline : (apos.endLine == pos.line) = true := by rfl) :
    PF X (.Call (.Attribute a "split" apos) [b] [] pos) (sSplit fa fb) := by
  obtain ⟨t, h1, h2⟩ := ha
  obtain ⟨u, g1, g2⟩ := hb
  refine ⟨_, pe_split h1 g1 hs hbase hline, fun σ H F ρ ds Q hs hE hf q => ?_⟩
  obtain ⟨x, e1, hf⟩ := Option.bind_eq_some_iff.mp hf
  obtain ⟨y, e2, hf⟩ := Option.bind_eq_some_iff.mp hf
  refine h2 σ H F ρ x _ hs hE e1 fun v H1 F1 ex1 r1 => ?_
  split at hf
  · rename_i x1 y1 _
    split at hf
    · rename_i hl
      cases hf
      cases r1
      refine ⟨⟨_, rfl⟩, ?_⟩
      refine g2 σ H1 F1 ρ _ _ ex1.fh (hE.up ex1.ff) e2 fun w H2 F2 ex2 r2 => ?_
      cases r2
      refine ⟨_, _, rfl, rfl, by have := hl.1; simp; omega, by rw [sizeLine_eq]; omega, fun p hp => ?_⟩
      have ex := Ext.newH (u := .lst ((Txt.split x1 y1).map V.str)) ex2.fh hp
      have hw := split_weight x1 y1 hl.1
      exact q _ _ _ _ ((ex1.trans ex2).trans ex) (ex1.hh.free (ex2.hh.free hp)) upd_same (ex2.fh.free hp) (reps_strs fun z hz => Nat.le_trans (split_part_le hl.1 hz) (sl1M hl.2)) (by rw [List.length_map, sizeLine_eq]; omega)
    · cases hf
  · cases hf
def strsOf : List Dat → Option (List Str)
  | [] => some []
  | .str s :: r => (strsOf r).map fun x => s :: x
  | _ => none
theorem reps_strsOf {K : PySem.W.Frag} {F : Hp} : ∀ {vs : List V} {ds : List Dat} {ys : List Str}, Reps K F vs ds → strsOf ds = some ys → vs = ys.map V.str
  | _, [], _, .nil, e => by cases e; rfl
  | _, d :: ds, ys, .cons h t, e => by
    cases d with
    | str s =>
      obtain ⟨x, e1, e2⟩ := Option.map_eq_some_iff.mp (show (strsOf ds).map (fun x => s :: x) = some ys from e)
      subst e2
      cases h
      rw [reps_strsOf t e1]; rfl
    | _ => cases e
def dJoin : Dat → Dat → Option Dat
  | .str a, .lst l => (strsOf l).bind fun ys => if (ys.map (·.length)).sum + ys.length * a.length ≤ 1000000 then some (.str (Txt.join a ys)) else none
  | .str a, .tup l => (strsOf l).bind fun ys => if (ys.map (·.length)).sum + ys.length * a.length ≤ 1000000 then some (.str (Txt.join a ys)) else none
  | _, _ => none
theorem join_len (a : Str) (ys : List Str) (h : (ys.map (·.length)).sum + ys.length * a.length ≤ 1000000) : (Txt.join a ys).length ≤ sizeLine := by
  have := StrLaws.join_length_le a ys
  show (PySem.Builtin.Str.glued a ys).length ≤ sizeLine
  rw [StrLaws.glued_eq_join]
  exact sl1M (by omega)
theorem pp_join {apos : Pos} (ha : PP X a fa) (hb : PP X b fb) (hs : starEach [b] X.env = [(false, eval b X.env)] := by rfl) (hbase : attributeBase a "join" X.env (eval a X.env) = eval a X.env := by rfl) (hline : (apos.endLine == pos.line) = true := by rfl) :
    PP X (.Call (.Attribute a "join" apos) [b] [] pos) (sBin dJoin fa fb) := by
  obtain ⟨t, h1, h2⟩ := ha
  obtain ⟨u, g1, g2⟩ := hb
  refine ⟨_, pe_join h1 g1 hs hbase hline, fun σ H F ρ d Q hs hE hf q => ?_⟩
  obtain ⟨x, e1, hf⟩ := Option.bind_eq_some_iff.mp hf
  obtain ⟨y, e2, hf⟩ := Option.bind_eq_some_iff.mp hf
  refine h2 σ H F ρ x _ hs hE e1 fun v H1 F1 ex1 r1 => ?_
  unfold dJoin at hf
  split at hf
  · rename_i a1 l
    obtain ⟨ys, e3, hf⟩ := Option.bind_eq_some_iff.mp hf
    split at hf
    · rename_i hl
      cases hf
      cases r1
      refine ⟨⟨_, rfl⟩, g2 σ H1 F1 ρ _ _ ex1.fh (hE.up ex1.ff) e2 fun w H2 F2 ex2 r2 => ?_⟩
      cases r2 with
      | lst h r z => exact ⟨_, _, ys, rfl, rfl, .inl (by rw [← reps_strsOf r e3]; exact SqL.of (ex2.fh _ _ h)), by omega, q _ _ _ (ex1.trans ex2) (.str _ (join_len _ _ hl))⟩
    · cases hf
  · rename_i a1 l
    obtain ⟨ys, e3, hf⟩ := Option.bind_eq_some_iff.mp hf
    split at hf
    · rename_i hl
      cases hf
      cases r1
      refine ⟨⟨_, rfl⟩, g2 σ H1 F1 ρ _ _ ex1.fh (hE.up ex1.ff) e2 fun w H2 F2 ex2 r2 => ?_⟩
      cases r2 with
      | tup h r z => exact ⟨_, _, ys, rfl, rfl, .inr (by rw [← reps_strsOf r e3]; exact Same.seqT ex2.fh h), by omega, q _ _ _ (ex1.trans ex2) (.str _ (join_len _ _ hl))⟩
    · cases hf
  · cases hf

/-! ### list.count, list.index -/
def rCnt (K : PySem.W.Frag) : V → List V → Hp → VK → Prop := fun x xs H Q => ∃ (p : Addr) (ys : List V) (y : V), x = .ref p ∧ xs = [y] ∧ SqL K H p ys ∧ flatV y = true ∧ ys.all flatV = true ∧ Q (.int (ys.countP (fun z => eqV z y) : Nat)) H
theorem countP_eqU {x : V} : ∀ {xs : List V} {us : List Value}, Vals xs us → xs.all flatV = true → us.countP (eqU x) = xs.countP fun y => eqV y x
  | _, _, .nil, _ => rfl
  | y :: xs, u :: us, .cons r t, f => by
    rw [List.all_cons, Bool.and_eq_true] at f
    rw [List.countP_cons, List.countP_cons, eqU_of r f.1, countP_eqU t f.2]
theorem mt_cnt : MtR X "list.count" (rCnt X.K) := by
  intro pins s σ H x xs v us Q I rx rxs h
  obtain ⟨p, ys, y, rfl, rfl, hs, fy, fys, q⟩ := h
  cases rx
  obtain ⟨u, rfl, ru⟩ := rxs.one
  obtain ⟨its, rv, ⟨⟨cls, dd, data, sl⟩, n, ho, hc, hdn, hd⟩, hlen⟩ := I.list hs
  simp only at hc hd
  subst hc hd
  refine call_meets PySem.F.slot_list_count ⟨_, ho, rfl⟩ PySem.F.entry_list_count (PySem.F.args_list_count_2 _ _)
    (SeqAt.list_countAt p its.toArray n dd sl u (eqU y)) ⟨ho, fun z hz => mem_eqAt ru fy rv fys z (by simpa using hz), ?_⟩
  have ec : its.toArray.toList.countP (eqU y) = ys.countP fun z => eqV z y := countP_eqU rv fys
  refine ⟨.int (ys.countP (fun z => eqV z y) : Nat), H, I.tok _, ⟨s.toks, ?_⟩, q⟩
  show Value.int ((its.toArray.toList.countP (eqU y) : Nat) : Int) s.toks = Value.int ((ys.countP (fun z => eqV z y) : Nat) : Int) s.toks
  rw [ec]
def dCount : Dat → Dat → Option Dat
  | .lst l, x => if x.flat = true ∧ l.all Dat.flat = true then some (.int (l.countP fun z => Dat.eqf z x : Nat)) else none
  | _, _ => none
def dIndex : Dat → Dat → Option Dat
  | .lst l, x => if x.flat = true ∧ l.all Dat.flat = true then (l.findIdx? fun z => Dat.eqf z x).map fun j => .int (j : Nat) else none
  | _, _ => none
theorem reps_cnt {K : PySem.W.Frag} {F : Hp} {v : V} {d : Dat} (r : Rep K F v d) (hd : d.flat = true) : ∀ {vs : List V} {ds : List Dat}, Reps K F vs ds → ds.all Dat.flat = true → vs.countP (fun z => eqV z v) = ds.countP fun z => Dat.eqf z d
  | _, _, .nil, _ => rfl
  | _, _, .cons h t, z => by
    rw [List.all_cons, Bool.and_eq_true] at z
    rw [List.countP_cons, List.countP_cons, rep_eqV h r z.1 hd, reps_cnt r hd t z.2]
theorem pp_count {apos : Pos} (ha : PP X a fa) (hb : PP X b fb) (hbase : attributeBase a "count" X.env (eval a X.env) = eval a X.env := by rfl)
    (hfew : ((backTo pos (starEach [b] X.env)).all (fun x => !x.1) && (backToKw pos (keywordEach [] X.env)).all (fun x => x.1.isSome)
      && decide ([b].length + ([] : List Keyword).length + (if ([] : List Keyword).isEmpty then 0 else 1) < 30)) = true := by rfl)
    (hline : (apos.endLine == pos.line) = true := by rfl) (hs : starEach [b] X.env = (false, eval b X.env) :: starEach [] X.env := by rfl) (hplain : (backTo pos (starEach [] X.env)).any (·.1) = false := by rfl) :
    PP X (.Call (.Attribute a "count" apos) [b] [] pos) (sBin dCount fa fb) := by
  obtain ⟨t, h1, h2⟩ := ha
  obtain ⟨u, g1, g2⟩ := hb
  refine ⟨_, pe_bm PySem.F.plainAttrs_list PySem.F.slot_list_count PySem.F.type_list_count mt_cnt h1 (pa_cons g1 pa_nil hs) hbase hfew hline hs hplain, fun σ H F ρ d Q hs hE hf q => ?_⟩
  obtain ⟨x, e1, hf⟩ := Option.bind_eq_some_iff.mp hf
  obtain ⟨y, e2, hf⟩ := Option.bind_eq_some_iff.mp hf
  refine h2 σ H F ρ x _ hs hE e1 fun v H1 F1 ex1 r1 => ?_
  unfold dCount at hf
  split at hf
  · split at hf
    · rename_i l x1 hl
      cases hf
      cases r1 with
      | lst h r z =>
        rename_i p vs
        refine ⟨.inl ⟨rfl, _, SqL.of (ex1.fh _ _ h)⟩, g2 σ H1 F1 ρ _ _ ex1.fh (hE.up ex1.ff) e2 fun w H2 F2 ex2 r2 => ?_⟩
        refine ⟨p, vs, w, rfl, rfl, SqL.of (ex2.fh _ _ (ex2.ff _ _ h)), rep_flat r2 hl.1, reps_flat r hl.2, ?_⟩
        rw [reps_cnt r2 hl.1 (r.up ex2.ff) hl.2]
        exact q _ _ _ (ex1.trans ex2) (.int _)
    · cases hf
  · cases hf
theorem pp_index {apos : Pos} (ha : PP X a fa) (hb : PP X b fb) (hbase : attributeBase a "index" X.env (eval a X.env) = eval a X.env := by rfl)
    (hfew : ((backTo pos (starEach [b] X.env)).all (fun x => !x.1) && (backToKw pos (keywordEach [] X.env)).all (fun x => x.1.isSome)
      && decide ([b].length + ([] : List Keyword).length + (if ([] : List Keyword).isEmpty then 0 else 1) < 30)) = true := by rfl)
    (hline : (apos.endLine == pos.line) = true := by rfl) (hs : starEach [b] X.env = (false, eval b X.env) :: starEach [] X.env := by rfl) (hplain : (backTo pos (starEach [] X.env)).any (·.1) = false := by rfl) :
    PP X (.Call (.Attribute a "index" apos) [b] [] pos) (sBin dIndex fa fb) := by
  obtain ⟨t, h1, h2⟩ := ha
  obtain ⟨u, g1, g2⟩ := hb
  refine ⟨_, pe_bm PySem.F.plainAttrs_list PySem.F.slot_list_index PySem.F.type_list_index mt_index h1 (pa_cons g1 pa_nil hs) hbase hfew hline hs hplain, fun σ H F ρ d Q hs hE hf q => ?_⟩
  obtain ⟨x, e1, hf⟩ := Option.bind_eq_some_iff.mp hf
  obtain ⟨y, e2, hf⟩ := Option.bind_eq_some_iff.mp hf
  refine h2 σ H F ρ x _ hs hE e1 fun v H1 F1 ex1 r1 => ?_
  unfold dIndex at hf
  split at hf
  · split at hf
    · rename_i l x1 hl
      obtain ⟨j, e3, e4⟩ := Option.map_eq_some_iff.mp hf
      subst e4
      cases r1 with
      | lst h r z =>
        rename_i p vs
        refine ⟨.inl ⟨rfl, _, SqL.of (ex1.fh _ _ h)⟩, g2 σ H1 F1 ρ _ _ ex1.fh (hE.up ex1.ff) e2 fun w H2 F2 ex2 r2 => ?_⟩
        have r3 := r.up ex2.ff
        obtain ⟨hj, k1, k2⟩ := List.findIdx?_eq_some_iff_getElem.mp e3
        obtain ⟨z1, m1, m2⟩ := r3.get (List.getElem?_eq_getElem hj)
        have fl : ∀ (m : Nat) (hm : m < l.length), l[m].flat = true := fun m hm => List.all_eq_true.mp hl.2 _ (List.getElem_mem hm)
        refine ⟨p, vs, w, j, z1, rfl, rfl, SqL.of (ex2.fh _ _ (ex2.ff _ _ h)), rep_flat r2 hl.1, reps_flat r hl.2, m1, by rw [rep_eqV m2 r2 (fl j hj) hl.1]; exact k1, fun m z' hm hz' => ?_, q _ _ _ (ex1.trans ex2) (.int _)⟩
        obtain ⟨d', n1, n2⟩ := r3.getV hz'
        obtain ⟨n3, n4⟩ := List.getElem?_eq_some_iff.mp n1
        subst n4
        rw [rep_eqV n2 r2 (fl m n3) hl.1]
        have := k2 m hm
        simpa using this
    · cases hf
  · cases hf

/-! ### a module's dict with text keys -/
def dKdIn (neg : Bool) (ks : List Str) : Dat → Option Dat
  | .str z => if ks.contains z = true then some (.bl (!neg)) else none
  | _ => none
def dKdIx (tb : List (Str × Int)) : Dat → Option Dat
  | .str z => (tb.lookup z).map Dat.int
  | _ => none
theorem pp_kdNotIn (ks : List Str) {x : Str} {px : Pos} {d : Addr} {es : Array DictEntry} {n : Nat} (D : KDict X.K X.w d es n) (ha : PP X a fa) (hg : Gl X x) (hm : X.mg x = some (.ref d)) (hk : ∀ z ∈ ks, ∃ u, PySem.W.nsIn X.K d z = some (some u)) (hd : (x == ("__debug__" : Str)) = false := by decide) :
    PP X (.Compare a [.NotIn] [.Name x px] pos) (sUn (dKdIn true ks) fa) := by
  obtain ⟨t, h1, h2⟩ := ha
  refine ⟨_, pe_cmpR (op_notIn_kd D) h1 (pe_glob (v := .ref d) hg hm rfl hd) rfl, fun σ H F ρ d' Q hs hE hf q => ?_⟩
  obtain ⟨y, e1, hf⟩ := Option.bind_eq_some_iff.mp hf
  refine h2 σ H F ρ y _ hs hE e1 fun v H1 F1 ex1 r1 => ?_
  unfold dKdIn at hf
  split at hf
  · split at hf
    · rename_i z hz
      cases hf; cases r1
      obtain ⟨u, hu⟩ := hk z (List.contains_iff_mem.mp hz)
      exact ⟨z, some u, rfl, rfl, hu, q _ _ _ ex1 (.bl _)⟩
    · cases hf
  · cases hf
theorem pp_kdIx (tb : List (Str × Int)) {x : Str} {px : Pos} {d : Addr} {es : Array DictEntry} {n : Nat} (D : KDict X.K X.w d es n) (ha : PP X a fa) (hg : Gl X x) (hm : X.mg x = some (.ref d)) (hk : ∀ z i, tb.lookup z = some i → ∃ t, PySem.W.nsIn X.K d z = some (some (.int i t))) (hd : (x == ("__debug__" : Str)) = false := by decide)
    (hs : PlainIx a := by exact fun _ _ => rfl) : PP X (.Subscript (.Name x px) a pos) (sUn (dKdIx tb) fa) := by
  obtain ⟨t, h1, h2⟩ := ha
  refine ⟨_, pe_ix ix_kdict (pe_glob (v := .ref d) hg hm rfl hd) h1 hs, fun σ H F ρ d' Q hs hE hf q => ?_⟩
  obtain ⟨y, e1, hf⟩ := Option.bind_eq_some_iff.mp hf
  refine h2 σ H F ρ y _ hs hE e1 fun v H1 F1 ex1 r1 => ?_
  unfold dKdIx at hf
  split at hf
  · rename_i z
    obtain ⟨i, e2, e3⟩ := Option.map_eq_some_iff.mp hf
    subst e3
    cases r1
    obtain ⟨tk, hu⟩ := hk z i e2
    exact ⟨d, z, .int i, rfl, rfl, ⟨es, n, _, D.at_, D.lit, hu, ⟨tk, rfl⟩⟩, q _ _ _ ex1 (.int _)⟩
  · cases hf
end
end MV

namespace MV
open PySem PySem.Spec PyProof.Rows L2

theorem hu64 {k : Nat} {A : Around} (h : Room k A) : A.units + 64 < cLine := by have := h.un; omega
theorem hu65 {k : Nat} {A : Around} (h : Room k A) : A.units + 65 < cLine := by have := h.un; omega
/-- a result that is frozen -/
def mO (g : Rho → Rs Dat) : Rho → Rs Dat := fun ρ => (g ρ).bind fun d ρ1 => if d.fz = true then .ok d ρ1 else .no
section
variable {X : Cx} {J : Jc} {er : ET} {e a b c : Expr} {pos : Pos} {rest : List Expr} {g ga gb : Rho → Rs Dat} {p q : Rho → Rs Bool}
theorem pm_o (h : OM X J er e g) : PM X J er e (mO g) := PE.imp h fun σ H Q ⟨B, F, o, ρ, w, k⟩ => ⟨B, F, o, ρ, w, by
  unfold mO at k
  cases e : g ρ with
  | er e' ρ1 => rw [e] at k; exact k
  | no => rw [e] at k; exact k.elim
  | ok d ρ1 =>
    rw [e] at k
    intro v H1 F1 o1 w1 s1 r1
    have k' : PostM X.K J er B F σ Q (if d.fz = true then .ok d ρ1 else .no) := k
    by_cases hz : d.fz = true
    · rw [if_pos hz] at k'
      exact k' v H1 F1 o1 w1 s1 ((own_fz hz).mp r1)
    · rw [if_neg hz] at k'; exact k'.elim⟩
/-! ### and, or, not as tests -/
def WM (X : Cx) (J : Jc) (er : ET) (e : Expr) (f : Rho → Rs Bool) : Prop := PW X e (tMT X.K J er f)
theorem PW.imp {X : Cx} {e : Expr} {t t' : TT} (h : PW X e t) (i : ∀ σ H Q, t' σ H Q → t σ H Q) : PW X e t' := ⟨fun wh pins s σ H Q I q => h.run wh pins s σ H Q I (i σ H Q q)⟩
theorem tm_w (h : WM X J er e p) : TM X J er e p := PW.pt h
theorem wm_and1 (h : TM X J er a p) : WM X J er (.BoolOp .And [a] pos) p := pw_and1 h
theorem wm_or1 (h : TM X J er a p) : WM X J er (.BoolOp .Or [a] pos) p := pw_or1 h
def mAnd (f g : Rho → Rs Bool) : Rho → Rs Bool := fun ρ => (f ρ).bind fun b ρ1 => if b = true then g ρ1 else .ok false ρ1
def mOr (f g : Rho → Rs Bool) : Rho → Rs Bool := fun ρ => (f ρ).bind fun b ρ1 => if b = true then .ok true ρ1 else g ρ1
def mNot (f : Rho → Rs Bool) : Rho → Rs Bool := fun ρ => (f ρ).bind fun b ρ1 => .ok (!b) ρ1
theorem wm_and (h : TM X J er a p) (g : WM X J er (.BoolOp .And (b :: rest) pos) q) : WM X J er (.BoolOp .And (a :: b :: rest) pos) (mAnd p q) := by
  refine PW.imp (pw_and h g) fun σ H Q ⟨B, F, o, ρ, w, k⟩ => ⟨B, F, o, ρ, w, ?_⟩
  unfold mAnd at k
  cases e : p ρ with
  | er e' ρ1 => rw [e] at k; exact k
  | no => rw [e] at k; exact k.elim
  | ok c ρ1 =>
    rw [e] at k
    intro H1 F1 o1 w1 s1
    cases c with
    | true => exact iteT ⟨B, F1, o1, ρ1, w1, PostT.mono k s1⟩
    | false => exact iteF (k H1 F1 o1 w1 s1)
theorem wm_or (h : TM X J er a p) (g : WM X J er (.BoolOp .Or (b :: rest) pos) q) : WM X J er (.BoolOp .Or (a :: b :: rest) pos) (mOr p q) := by
  refine PW.imp (pw_or h g) fun σ H Q ⟨B, F, o, ρ, w, k⟩ => ⟨B, F, o, ρ, w, ?_⟩
  unfold mOr at k
  cases e : p ρ with
  | er e' ρ1 => rw [e] at k; exact k
  | no => rw [e] at k; exact k.elim
  | ok c ρ1 =>
    rw [e] at k
    intro H1 F1 o1 w1 s1
    cases c with
    | true => exact iteT (k H1 F1 o1 w1 s1)
    | false => exact iteF ⟨B, F1, o1, ρ1, w1, PostT.mono k s1⟩
theorem tm_not (h : TM X J er a p) : TM X J er (.UnaryOp .Not a pos) (mNot p) := by
  refine PT.imp (pt_not h) fun σ H Q ⟨B, F, o, ρ, w, k⟩ => ⟨B, F, o, ρ, w, ?_⟩
  unfold mNot at k
  cases e : p ρ with
  | er e' ρ1 => rw [e] at k; exact k
  | no => rw [e] at k; exact k.elim
  | ok c ρ1 =>
    rw [e] at k
    intro H1 F1 o1 w1 s1
    exact k H1 F1 o1 w1 s1
end
/-- a def of which nothing is said -/
theorem fn_no {P : Program} {w : World} {K : PySem.W.Frag} {mg : Str → Option Value} {base : Heap} {T : CT} {er : ET} {x : Str} {params : Arguments} {body : List Stmt} {scope : Scope} {f : Addr} {fd : FuncData} {N ps : List Str} {k np : Nat} {pn : List Nat} (Fd : FunD K x x params body scope [] [] f fd) (hm : mg x = some (.ref f)) (S : FnScope N ps scope) (hps : ps.length = np)
    (hb : ∀ (kV doc pm : Value) (an : Option Addr) (cdv ct : Value) (us : List Value), us.length = ps.length → bindArgs (PySem.W.fnOf x x params body scope .none kV doc pm an cdv ct) ⟨us, []⟩ = pure (ps.zip us)) :
    FnM P w K mg base T er (k + 1) x np pn (fun _ => .no) :=
  ⟨f, fd, ps, Fd.ok S (fun vs H Q E h => h.1.trans hps.symm) (fun cdv A outer s H vs Q E hr h => False.elim (let ⟨_, _, _, _, _, q⟩ := h; q)), hm, Fd.kp, Fd.bindsN hb⟩
/-- .. fuel -/
theorem FnM.upto {P : Program} {w : World} {K : PySem.W.Frag} {mg : Str → Option Value} {base : Heap} {T : CT} {er : ET} {x : Str} {n : Nat} {pn : List Nat} {fn : Nat → List Dat → Rs Dat} {k j : Nat} (h0 : FnM P w K mg base T er (k + 1) x n pn (fn 0)) (hs : ∀ m, FnM P w K mg base T er (k + 1 + m) x n pn (fn m) → FnM P w K mg base T er (k + 1 + m + 1) x n pn (fn (m + 1))) : ∀ m, FnM P w K mg base T er (k + 1 + m) x n pn (fn m)
  | 0 => h0
  | m + 1 => hs m (FnM.upto (j := j) h0 hs m)
end MV

namespace MV
open PySem PySem.Spec PyProof.Rows L2

def fnO (np n : Nat) (pn : List Nat) (body : Rho → Out) : List Dat → Rs Dat := fun ds => match fnOf np n pn body ds with
  | .ok d o => .ok d o
  | _ => .no
theorem fn_mkN {P : Program} {w : World} {K : PySem.W.Frag} {mg : Str → Option Value} {base : Heap} {T : CT} {er : ET} {x : Str} {params : Arguments} {body : List Stmt} {scope : Scope} {f : Addr} {fd : FuncData} {N ps : List Str} {k np n : Nat} {pn : List Nat} {gb : Rho → Out} (Fd : FunD K x x params body scope [] [] f fd) (hm : mg x = some (.ref f)) (S : FnScope N ps scope) (hps : ps.length = np) (hn : N.length = n) (hN : decide (np ≤ n) = true) (hpn : (pn.all fun i => decide (i < np)) = true)
    (hb : ∀ (kV doc pm : Value) (an : Option Addr) (cdv ct : Value) (us : List Value), us.length = ps.length → bindArgs (PySem.W.fnOf x x params body scope .none kV doc pm an cdv ct) ⟨us, []⟩ = pure (ps.zip us))
    (hbody : ∀ (cdv : Value) (A : Around) (outer : List Env) (s : Shared) (H : Hp) (E : XK), Room k (A.deeper (envOfC x scope s.heap.objs.size f cdv)) → SsM (cxOf (L2.CX P w) P w K mg base N x scope f cdv A outer s H E).nox ⟨T, pn, fun _ _ _ => False⟩ er body gb) :
    FnM P w K mg base T er (k + 1) x np pn (fnO np n pn gb) := by
  subst hn
  exact fn_mk Fd hm S hps (of_decide_eq_true hN) hpn hb hbody
section
variable {X : Cx} {e : Expr} {pos p2 : Pos} {lo hi : Option Expr} {f : Rho → Option Dat} {fl fh : Rho → Option (Option Int)}
theorem pp_slT (he : PP X e f) (hl : OD X lo fl) (hh : OD X hi fh) : PP X (.Subscript e (.Slice lo hi none p2) pos) (sSl f fl fh) :=
  pp_sl (SlR.or sl_str sl_tupA) (fun x l h H Q q => by
    rcases q with q | q | q
    · exact .inl q
    · obtain ⟨a, xs, h1, h2, h3, h4⟩ := q; exact .inr ⟨a, xs, h1, h2, fun w => absurd w h3, fun _ => h4⟩
    · obtain ⟨a, xs, h1, h2, h3, h4⟩ := q; exact .inr ⟨a, xs, h1, h2, fun _ => h4, fun n => absurd h3 n⟩) he hl hh
theorem pp_gstr {x z : Str} (hg : Gl X x) (hm : ∃ t, X.mg x = some (.str z t)) (hz : decide (z.length ≤ 1000) = true := by decide +kernel) (hd : (x == ("__debug__" : Str)) = false := by decide) : PP X (.Name x pos) (sC (.str z)) := by
  obtain ⟨t, h⟩ := hm
  exact pp_glob hg h (v := .str z) ⟨t, rfl⟩ (.str _ (sl1000 (of_decide_eq_true hz))) hd
theorem pp_gint {x : Str} {i : Int} (hg : Gl X x) (hm : ∃ t, X.mg x = some (.int i t)) (hd : (x == ("__debug__" : Str)) = false := by decide) : PP X (.Name x pos) (sC (.int i)) := by
  obtain ⟨t, h⟩ := hm
  exact pp_glob hg h (v := .int i) ⟨t, rfl⟩ (.int _) hd
end
def sF (f : Rho → Option (List Dat)) : Rho → Option Dat := fun ρ => (f ρ).map Dat.lst
def sSeq (f : Rho → Option Dat) : Rho → Option (List Dat) := fun ρ => (f ρ).bind seqOf

/-! ### list + list, parts impure -/
def cat2 : Dat → Dat → Option (List Dat)
  | .lst a, .lst b => if a.length + b.length ≤ 1000000 then some (a ++ b) else none
  | _, _ => none
def mCat (fa fb : Rho → Rs Dat) : Rho → Rs (List Dat) := fun ρ => (fa ρ).bind fun x ρ1 => (fb ρ1).bind fun y ρ2 => Rs.of (cat2 x y) ρ2
theorem fm_cat {X : Cx} {J : Jc} {er : ET} {a b : Expr} {pos : Pos} {ga gb : Rho → Rs Dat} (ha : PM X J er a ga) (hb : PM X J er b gb) : FM X J er (.BinOp a .Add b pos) (mCat ga gb) := by
  refine PE.imp (pe_op op_cat ha hb) fun σ H Q ⟨B, F, o, ρ, w, q⟩ => ⟨B, F, o, ρ, w, ?_⟩
  unfold mCat at q
  cases e1 : ga ρ with
  | er e' ρ1 => rw [e1] at q; exact q
  | no => rw [e1] at q; exact q.elim
  | ok x ρ1 =>
    rw [e1] at q
    intro v H1 F1 o1 w1 s1 r1
    refine ⟨B, F1, o1, ρ1, w1, ?_⟩
    have q1 : PostF X.K J er B F σ Q ((gb ρ1).bind fun y ρ2 => Rs.of (cat2 x y) ρ2) := q
    cases e2 : gb ρ1 with
    | er e' ρ2 => rw [e2] at q1; exact q1
    | no => rw [e2] at q1; exact q1.elim
    | ok y ρ2 =>
      rw [e2] at q1
      intro u H2 F2 o2 w2 s2 r2
      have q2 : PostF X.K J er B F σ Q (Rs.of (cat2 x y) ρ2) := q1
      cases e3 : cat2 x y with
      | none => rw [e3] at q2; exact q2.elim
      | some l =>
        rw [e3] at q2
        unfold cat2 at e3
        split at e3
        · rename_i l1 l2
          split at e3
          · rename_i hl
            cases e3
            cases r1 with
            | lst k1 r1 z1 =>
              rename_i p1 vs1
              cases r2 with
              | lst k2 r2 z2 =>
                rename_i p2 vs2
                refine ⟨_, _, _, _, rfl, rfl, w2.fh _ _ (s2 _ _ k1), w2.fh _ _ k2, by rw [r1.length, r2.length]; exact sl1M hl, fun p hp => ?_⟩
                have ex := Ext.newH (u := .lst (vs1 ++ vs2)) w2.fh hp
                exact q2 p _ _ _ _ (w2.ext ex) (s1.trans s2) upd_same (w2.fh.free hp) (w2.on hp) (w2.bh hp) ((r1.up s2).append r2) (by rw [List.length_append]; exact sl1M hl)
          · cases e3
        · cases e3

theorem tp_kdNotIn {X : Cx} {a : Expr} {pos : Pos} {fa : Rho → Option Dat} (ks : List Str) {x : Str} {px : Pos} {d : Addr} {es : Array DictEntry} {n : Nat} (D : KDict X.K X.w d es n) (ha : PP X a fa) (hg : Gl X x) (hm : X.mg x = some (.ref d)) (hk : ∀ z ∈ ks, ∃ u, PySem.W.nsIn X.K d z = some (some u)) (hd : (x == ("__debug__" : Str)) = false := by decide) :
    TP' X (.Compare a [.NotIn] [.Name x px] pos) (sTruB (sUn (dKdIn true ks) fa)) := by
  obtain ⟨t, h1, h2⟩ := ha
  refine ⟨_, pt_cmpR (op_notIn_kd D) h1 (pe_glob (v := .ref d) hg hm rfl hd) rfl, fun σ H F ρ d' Q hs hE hf q => ?_⟩
  obtain ⟨z, e0, hf⟩ := Option.bind_eq_some_iff.mp hf
  obtain ⟨y, e1, e0⟩ := Option.bind_eq_some_iff.mp e0
  refine h2 σ H F ρ y _ hs hE e1 fun v H1 F1 ex1 r1 => ?_
  unfold dKdIn at e0
  split at e0
  · split at e0
    · rename_i z hz
      cases e0; cases hf; cases r1
      obtain ⟨u, hu⟩ := hk z (List.contains_iff_mem.mp hz)
      exact ⟨z, some u, rfl, rfl, hu, _, rfl, q _ _ ex1⟩
    · cases e0
  · cases e0
end MV

namespace MV
open PySem PySem.Spec PyProof.Rows L2

/-- the law's own def -/
theorem fnok_mk {CX : CXT} {P : Program} {w : World} {K : PySem.W.Frag} {mg : Str → Option Value} {base : Heap} {T : CT} {er : ET} {x : Str} {params : Arguments} {body : List Stmt} {scope : Scope} {f : Addr} {fd : FuncData} {N ps : List Str} {k np n : Nat} {pn : List Nat} {gb : Rho → Out} (Fd : FunD K x x params body scope [] [] f fd) (S : FnScope N ps scope) (hps : ps.length = np) (hn : N.length = n) (hN : decide (np ≤ n) = true) (hpn : (pn.all fun i => decide (i < np)) = true)
    (hbody : ∀ (cdv : Value) (A : Around) (outer : List Env) (s : Shared) (H : Hp) (E : XK), Room k (A.deeper (envOfC x scope s.heap.objs.size f cdv)) → SsM (cxOf CX P w K mg base N x scope f cdv A outer s H E).nox ⟨T, pn, fun _ _ _ => False⟩ er body gb) :
    FnOk P w K mg base CX (k + 1) f fd ps (spD K T er pn np (fnO np n pn gb)) := by
  subst hn
  refine Fd.ok S (fun vs H Q E h => h.1.trans hps.symm) (fun cdv A outer s H vs Q E hr h => ?_)
  obtain ⟨hl, F, o, ds, en, q⟩ := h
  refine ⟨_, PSs.nox (hbody cdv A outer s H E hr), ?_⟩
  have hd : ds.length = np := en.len.symm.trans hl
  refine ⟨_, F, o, _, wd_start (J := ⟨T, pn, fun _ _ _ => False⟩) rfl en (of_decide_eq_true hN) hd, ?_⟩
  refine ends_of (E := fun _ _ _ => False) (vs := vs) (ds := ds) (np := np) rfl rfl hl (fun i hi => of_decide_eq_true (List.all_eq_true.mp hpn i hi)) ?_
  unfold fnO fnOf at q
  simp only [hd, if_true] at q
  have q' : PostFn K T er pn H F o vs Q E _ := q
  show PostFn K T er pn H F o vs Q (fun _ _ _ => False) _
  cases e : gb (ds.map some ++ List.replicate (N.length - np) none) with
  | nx ρ => rw [e] at q'; exact q'
  | rt d ρ => rw [e] at q'; exact q'
  | er _ ρ => rw [e] at q'; exact q'.elim
  | bk ρ => rw [e] at q'; exact q'.elim
  | ct ρ => rw [e] at q'; exact q'.elim
  | no => rw [e] at q'; exact q'.elim
theorem reps_ints {K : PySem.W.Frag} {F : Hp} : ∀ ns : List Int, Reps K F (ns.map V.int) (ns.map Dat.int)
  | [] => .nil
  | _ :: ns => .cons (.int _) (reps_ints ns)
/-- the law's promise at a script -/
theorem sp_script {K : PySem.W.Frag} {T : CT} {er : ET} {fn : List Dat → Rs Dat} {H : Hp} {a : Addr} {ns : List Int} {E : XK} (hl : ns.length ≤ sizeLine) (hS : SqL K H a (ns.map V.int)) (h : ∃ o, fn [.frl (ns.map Dat.int)] = .ok (.bl true) o) : spD K T er [] 1 fn [.ref a] H (fun v _ => v = .bl true) E := by
  obtain ⟨o, e⟩ := h
  refine ⟨rfl, H, fun _ => none, [.frl (ns.map Dat.int)], ⟨Same.refl _, fun _ _ _ => rfl, fun a q h => (nomatch h), rfl, fun i d h => ?_⟩, ?_⟩
  · cases i with
    | zero =>
      have e1 : d = .frl (ns.map Dat.int) := by simpa using h.symm
      subst e1
      exact ⟨_, rfl, Rep.own (.frl hS (reps_ints ns) (by simpa using hl))⟩
    | succ i => simp at h
  · rw [e]
    intro v H' F' o' x r
    exact (show Rep K F' v (.bl true) from (own_fz rfl).mp r) |> fun r => by cases r; rfl

theorem tb_of {K : PySem.W.Frag} {a : Addr} {tb : List (Str × Int)} (h : He.valsB K a (tb.map fun p => (p.1, He.Dv.int p.2)) = true) (z : Str) (i : Int) (e : tb.lookup z = some i) : ∃ t, PySem.W.nsIn K a z = some (some (.int i t)) := by
  have hm : ∀ (l : List (Str × Int)), l.lookup z = some i → (z, i) ∈ l := by
    intro l
    induction l with
    | nil => intro h; cases h
    | cons p l ih =>
      intro h
      rw [List.lookup_cons] at h
      split at h
      · rename_i hz
        cases h
        have : z = p.1 := by simpa using hz
        rw [this]; exact List.mem_cons_self
      · exact List.mem_cons_of_mem _ (ih h)
  obtain ⟨u, e1, r⟩ := He.valsB_ok h (q := (z, .int i)) (List.mem_map.mpr ⟨(z, i), hm _ e, rfl⟩)
  obtain ⟨t, rfl⟩ := r
  exact ⟨t, e1⟩
theorem ks_of {K : PySem.W.Frag} {a : Addr} {tb : List (Str × Int)} (h : He.valsB K a (tb.map fun p => (p.1, He.Dv.int p.2)) = true) (z : Str) (e : z ∈ tb.map (·.1)) : ∃ u, PySem.W.nsIn K a z = some (some u) := by
  obtain ⟨p, hp, rfl⟩ := List.mem_map.mp e
  obtain ⟨u, e1, r⟩ := He.valsB_ok h (q := (p.1, .int p.2)) (List.mem_map.mpr ⟨p, hp, rfl⟩)
  exact ⟨u, e1⟩
def T0 : CT := fun _ => (0, [])
def er0 : ET := fun _ _ _ _ => False
end MV

namespace MV
open PySem PySem.Spec PyProof.Rows L2

/-! ## plain evaluation of the printed functions -/
theorem ofString_tl (s : String) : (Str.ofString s).cps.toList = s.toList.map Char.toNat := by rw [Str.ofString_eq_toList]
theorem ofString_inj {a b : String} (h : Str.ofString a = Str.ofString b) : a = b := by
  have h1 := congrArg (fun z : Str => z.cps.toList) h
  simp only [ofString_tl] at h1
  have inj : ∀ {x y : List Char}, x.map Char.toNat = y.map Char.toNat → x = y := by
    intro x
    induction x with
    | nil => intro y h; cases y with
      | nil => rfl
      | cons _ _ => cases h
    | cons c x ih => intro y h; cases y with
      | nil => cases h
      | cons d y =>
        simp only [List.map_cons, List.cons.injEq] at h
        have : c = d := Char.ext (UInt32.toNat_inj.mp h.1)
        rw [this, ih h.2]
  exact String.ext (inj h1)
theorem str_beq (a b : String) : (Str.ofString a == Str.ofString b) = decide (a = b) := by
  by_cases h : a = b
  · subst h; simp
  · rw [decide_eq_false h]
    exact beq_eq_false_iff_ne.mpr fun e => h (ofString_inj e)
theorem str_lit (a b : String) : (Str.ofString a = Str.ofString b) = (a = b) := propext ⟨ofString_inj, fun h => by rw [h]⟩
/-! ### comprehensions -/
theorem lcGo_map {ρ : Rho} {is : List Nat} {get : Dat → Option (List Dat)} {te : Rho → Option Dat} (F : Dat → Dat) : ∀ {ds : List Dat}, (∀ d ∈ ds, ∃ xs, get d = some xs ∧ te (setR ρ is xs) = some (F d)) → lcGo ρ is get sYes te ds = some (ds.map F)
  | [], _ => rfl
  | d :: r, h => by
    obtain ⟨xs, h1, h2⟩ := h d (by simp)
    have ih := lcGo_map F (ds := r) fun z hz => h z (List.mem_cons_of_mem _ hz)
    simp only [lcGo, h1, h2, ih, sYes, Option.bind_some, if_true, List.map_cons]
/-- one plain name, the items read off plain things -/
theorem lcGo_nm {α : Type} {ρ : Rho} {i : Nat} {te : Rho → Option Dat} (D G : α → Dat) (l : List α) (h : ∀ x ∈ l, te (ρ.set i (some (D x))) = some (G x)) : lcGo ρ [i] gNm sYes te (l.map D) = some (l.map G) := by
  induction l with
  | nil => rfl
  | cons x l ih =>
    have h1 := h x (by simp)
    have h2 := ih fun z hz => h z (List.mem_cons_of_mem _ hz)
    simp only [List.map_cons, lcGo, gNm, setR, h1, h2, sYes, Option.bind_some, if_true]
/-- .. numbers from 0 -/
theorem lcGo_rng {ρ : Rho} {i : Nat} {te : Rho → Option Dat} (G : Nat → Dat) (n : Nat) (h : ∀ k < n, te (ρ.set i (some (.int (k : Int)))) = some (G k)) : lcGo ρ [i] gNm sYes te (rng 0 n) = some ((List.range n).map G) := by
  have := lcGo_nm (ρ := ρ) (i := i) (te := te) (fun k : Nat => Dat.int (0 + (k : Int))) G (List.range n) fun k hk => by
    rw [Int.zero_add]; exact h k (List.mem_range.mp hk)
  exact this
/-! ### loops -/
theorem oForL_nil {is : List Nat} {get : Dat → Option (List Dat)} {body : Rho → Out} {ρ : Rho} : oForL is get body [] ρ = .nx ρ := rfl
/-- a loop that keeps going, its states by plain things -/
theorem oForL_nx {α β : Type} {is : List Nat} {get : Dat → Option (List Dat)} {body : Rho → Out} (D : α → Dat) (S : β → Rho) (step : β → α → β) : ∀ (l : List α) (b : β), (∀ b x, x ∈ l → ∃ xs, get (D x) = some xs ∧ (body (setR (S b) is xs) = .nx (S (step b x)) ∨ body (setR (S b) is xs) = .ct (S (step b x)))) → oForL is get body (l.map D) (S b) = .nx (S (l.foldl step b))
  | [], b, _ => rfl
  | x :: l, b, h => by
    obtain ⟨xs, h1, h2⟩ := h b x (by simp)
    have ih := oForL_nx D S step l (step b x) fun b z hz => h b z (List.mem_cons_of_mem _ hz)
    simp only [List.map_cons, oForL, h1, List.foldl_cons]
    rcases h2 with h2 | h2 <;> rw [h2] <;> exact ih
/-- what is returned -/
def Out.val : Out → Option Dat
  | .rt d _ => some d
  | _ => none
theorem Out.of_val {x : Out} {d : Dat} (h : x.val = some d) : ∃ ρ, x = .rt d ρ := by
  cases x with
  | rt e ρ => cases h; exact ⟨ρ, rfl⟩
  | _ => cases h
theorem fz_non : Dat.fz .non = true := rfl
theorem fz_bl {b : Bool} : Dat.fz (.bl b) = true := rfl
theorem fz_int {i : Int} : Dat.fz (.int i) = true := rfl
theorem fz_str {s : Str} : Dat.fz (.str s) = true := rfl
theorem fz_tup {l : List Dat} : Dat.fz (.tup l) = true := rfl
theorem fz_lst {l : List Dat} : Dat.fz (.lst l) = true := rfl
theorem fz_frl {l : List Dat} : Dat.fz (.frl l) = true := rfl
theorem fz_mls {l : List Dat} : Dat.fz (.mls l) = false := rfl
theorem fz_obj {c : Nat} {l : List Dat} : Dat.fz (.obj c l) = false := rfl
/-- an index within -/
theorem atI_nat {α : Type} {l : List α} {k : Nat} {i : Int} (hi : i = (k : Int)) {x : α} (h : l[k]? = some x) : L2.atI l i = some x := by
  subst hi
  obtain ⟨hk, e⟩ := List.getElem?_eq_some_iff.mp h
  unfold L2.atI L2.ixN
  rw [if_pos (by omega), if_pos (by omega)]
  simpa using h
end MV

namespace K98
open PySem PySem.Spec PyProof.Rows L2 MV
def tb_NUMBERS : List (Str × Int) := [("offer", 3), ("cancel", 1), ("undo", 0), ("redo", 0)]
def ks_NUMBERS : List Str := ["offer", "cancel", "undo", "redo"]
/-! ### words_of -/
def g_words_of_1 : Rho → Option Dat := (sArgs dStr (sCons (sVar 1) sNil))
def g_words_of_s0 : Rho → Out := (oRet (mP (sF (sLC [1] [1] (sSeq (sVar 0)) gNm sYes (g_words_of_1)))))
def g_words_of : Rho → Out := (g_words_of_s0)
def f_words_of : List Dat → Rs Dat := fnO 1 2 [] (g_words_of)
/-! ### group_words -/
def g_group_words_1 : Rho → Out := (oSet 1 (mP (sF (sCat (sF (sCat (sVar 1) (sF (sLstF (sCons (sC (.str "cap")) (sCons (sArgs dStr (sCons (sVar 3) sNil)) (sCons (sC (.str "of")) sNil))))))) (sFn 1 f_words_of (sCons (sVar 2) sNil))))))
def g_group_words_s0 : Rho → Out := (oSet 1 (mP (sF (sLstF sNil))))
def g_group_words_s1 : Rho → Out := (oFor [2, 3] (mSeqOf (mP (sVar 0))) (gTp 2 (gsCons gNm (gsCons gNm gsNil))) (g_group_words_1))
def g_group_words_s2 : Rho → Out := (oRet (mP (sVar 1)))
def g_group_words : Rho → Out := (oSeq (g_group_words_s0) (oSeq (g_group_words_s1) (g_group_words_s2)))
def f_group_words : List Dat → Rs Dat := fnO 1 4 [] (g_group_words)
/-! ### choice_words -/
def g_choice_words_1 (rc : List Dat → Rs Dat) : Rho → Out := (oIf (mP (sTruB (sBin dEq (sVar 1) (sC (.str "table")))))
    (oSet 2 (mP (sF (sCat (sF (sCat (sVar 2) (sF (sLstF (sCons (sC (.str "row")) sNil))))) (sFn 1 f_words_of (sCons (sVar 3) sNil))))))
    (oSet 2 (mP (sF (sCat (sF (sCat (sVar 2) (sF (sLstF (sCons (sC (.str "part")) sNil))))) (sFn 1 rc (sCons (sVar 3) sNil)))))))
def g_choice_words_s0 (rc : List Dat → Rs Dat) : Rho → Out := (oSet 1 (mP (sBin dIx (sVar 0) (sC (.int 0)))))
def g_choice_words_s1 (rc : List Dat → Rs Dat) : Rho → Out := (oIf (mP (sTruB (sBin dEq (sVar 1) (sC (.str "maker")))))
    (oRet (mP (sF (sCat (sF (sCat (sF (sCat (sF (sLstF (sCons (sVar 1) (sCons (sArgs dStr (sCons (sBin dIx (sVar 0) (sC (.int 1))) sNil)) (sCons (sC (.str "buys")) sNil))))) (sFn 1 f_words_of (sCons (sBin dIx (sVar 0) (sC (.int 2))) sNil)))) (sF (sLstF (sCons (sC (.str "sells")) sNil))))) (sFn 1 f_words_of (sCons (sBin dIx (sVar 0) (sC (.int 3))) sNil))))))
    oNil)
def g_choice_words_s2 (rc : List Dat → Rs Dat) : Rho → Out := (oIf (mP (sTruB (sBin dEq (sVar 1) (sC (.str "sides")))))
    (oSeq (oSet 2 (mP (sF (sCat (sF (sLstF (sCons (sVar 1) (sCons (sArgs dStr (sCons (sBin dIx (sVar 0) (sC (.int 1))) sNil)) (sCons (sC (.str "buys")) sNil))))) (sFn 1 f_words_of (sCons (sBin dIx (sVar 0) (sC (.int 2))) sNil))))))
    (oRet (mP (sF (sCat (sF (sCat (sVar 2) (sF (sLstF (sCons (sArgs dStr (sCons (sBin dIx (sVar 0) (sC (.int 3))) sNil)) (sCons (sC (.str "sells")) sNil)))))) (sFn 1 f_words_of (sCons (sBin dIx (sVar 0) (sC (.int 4))) sNil)))))))
    oNil)
def g_choice_words_s3 (rc : List Dat → Rs Dat) : Rho → Out := (oIf (mP (sTruB (sBin dEq (sVar 1) (sC (.str "trader")))))
    (oSeq (oSet 4 (mP (sF (sLstF (sCons (sVar 1) (sCons (sArgs dStr (sCons (sBin dIx (sVar 0) (sC (.int 1))) sNil)) (sCons (sArgs dStr (sCons (sBin dIx (sVar 0) (sC (.int 2))) sNil)) sNil)))))))
    (oRet (mP (sF (sCat (sF (sCat (sF (sCat (sF (sCat (sVar 4) (sF (sLstF (sCons (sC (.str "buys")) sNil))))) (sFn 1 f_words_of (sCons (sBin dIx (sVar 0) (sC (.int 3))) sNil)))) (sF (sLstF (sCons (sC (.str "sells")) sNil))))) (sFn 1 f_words_of (sCons (sBin dIx (sVar 0) (sC (.int 4))) sNil)))))))
    oNil)
def g_choice_words_s4 (rc : List Dat → Rs Dat) : Rho → Out := (oIf (mP (sTruB (sBin dEq (sVar 1) (sC (.str "caps")))))
    (oSeq (oSet 2 (mP (sF (sCat (sF (sCat (sF (sLstF (sCons (sVar 1) (sCons (sC (.str "buys")) sNil)))) (sFn 1 f_words_of (sCons (sBin dIx (sVar 0) (sC (.int 1))) sNil)))) (sFn 1 f_group_words (sCons (sBin dIx (sVar 0) (sC (.int 2))) sNil))))))
    (oRet (mP (sF (sCat (sF (sCat (sF (sCat (sVar 2) (sF (sLstF (sCons (sC (.str "sells")) sNil))))) (sFn 1 f_words_of (sCons (sBin dIx (sVar 0) (sC (.int 3))) sNil)))) (sFn 1 f_group_words (sCons (sBin dIx (sVar 0) (sC (.int 4))) sNil)))))))
    oNil)
def g_choice_words_s5 (rc : List Dat → Rs Dat) : Rho → Out := (oSet 2 (mP (sF (sLstF (sCons (sVar 1) sNil)))))
def g_choice_words_s6 (rc : List Dat → Rs Dat) : Rho → Out := (oFor [3] (mSeqOf (mP (sBin dIx (sVar 0) (sC (.int 1))))) gNm (g_choice_words_1 rc))
def g_choice_words_s7 (rc : List Dat → Rs Dat) : Rho → Out := (oRet (mP (sVar 2)))
def g_choice_words (rc : List Dat → Rs Dat) : Rho → Out := (oSeq (g_choice_words_s0 rc) (oSeq (g_choice_words_s1 rc) (oSeq (g_choice_words_s2 rc) (oSeq (g_choice_words_s3 rc) (oSeq (g_choice_words_s4 rc) (oSeq (g_choice_words_s5 rc) (oSeq (g_choice_words_s6 rc) (g_choice_words_s7 rc))))))))
def f_choice_words : Nat → List Dat → Rs Dat
  | 0 => fun _ => .no
  | m + 1 => fnO 1 5 [] (g_choice_words (f_choice_words m))
/-! ### deed_words -/
def g_deed_words_s0 : Rho → Out := (oIf (mP (sTruB (sBin dEq (sBin dIx (sVar 0) (sC (.int 0))) (sC (.str "choose")))))
    (oRet (mP (sF (sCat (sF (sLstF (sCons (sBin dIx (sVar 0) (sC (.int 0))) (sCons (sArgs dStr (sCons (sBin dIx (sVar 0) (sC (.int 1))) sNil)) sNil)))) (sFn 1 (f_choice_words 8) (sCons (sBin dIx (sVar 0) (sC (.int 2))) sNil))))))
    oNil)
def g_deed_words_s1 : Rho → Out := (oRet (mP (sF (sCat (sF (sLstF (sCons (sBin dIx (sVar 0) (sC (.int 0))) sNil))) (sFn 1 f_words_of (sCons (sSl (sVar 0) (sPart (sC (.int 1))) sNoP) sNil))))))
def g_deed_words : Rho → Out := (oSeq (g_deed_words_s0) (g_deed_words_s1))
def f_deed_words : List Dat → Rs Dat := fnO 1 1 [] (g_deed_words)
/-! ### write_journal -/
def g_write_journal_1 : Rho → Option Dat := (sBin dAdd (sBin dJoin (sC (.str " ")) (sFn 1 f_deed_words (sCons (sVar 1) sNil))) (sC (.str "\n")))
def g_write_journal_s0 : Rho → Out := (oRet (mP (sBin dJoin (sC (.str "")) (sF (sLC [1] [1] (sSeq (sVar 0)) gNm sYes (g_write_journal_1))))))
def g_write_journal : Rho → Out := (g_write_journal_s0)
def f_write_journal : List Dat → Rs Dat := fnO 1 2 [] (g_write_journal)
/-! ### is_integer_text -/
def g_is_integer_text_1 : Rho → Out := (oIf (mP (sTruB (sBin (dIn true) (sVar 2) (sC (.str "0123456789")))))
    (oRet (mP (sC (.bl false))))
    oNil)
def g_is_integer_text_s0 : Rho → Out := (oSet 1 (mP (sIf (sTruB (sBin dEq (sSl (sVar 0) sNoP (sPart (sC (.int 1)))) (sC (.str "-")))) (sSl (sVar 0) (sPart (sC (.int 1))) sNoP) (sVar 0))))
def g_is_integer_text_s1 : Rho → Out := (oFor [2] (mSeqOf (mP (sVar 1))) gNm (g_is_integer_text_1))
def g_is_integer_text_s2 : Rho → Out := (oIf (mP (sOr (sTruB (sBin dEq (sVar 1) (sC (.str "")))) (sTruB (sBin dGt (sArgs dLen (sCons (sVar 1) sNil)) (sC (.int (60)))))))
    (oRet (mP (sC (.bl false))))
    oNil)
def g_is_integer_text_s3 : Rho → Out := (oRet (mP (sOrV (sBin dNe (sBin dIx (sVar 1) (sC (.int 0))) (sC (.str "0"))) (sBin dEq (sVar 0) (sC (.str "0"))))))
def g_is_integer_text : Rho → Out := (oSeq (g_is_integer_text_s0) (oSeq (g_is_integer_text_s1) (oSeq (g_is_integer_text_s2) (g_is_integer_text_s3))))
def f_is_integer_text : List Dat → Rs Dat := fnO 1 3 [] (g_is_integer_text)
/-! ### read_numbers -/
def g_read_numbers_1 : Rho → Option Dat := (sFn 1 f_is_integer_text (sCons (sVar 1) sNil))
def g_read_numbers_2 : Rho → Option Dat := (sArgs dInt (sCons (sVar 1) sNil))
def g_read_numbers_s0 : Rho → Out := (oIf (mP (sNot (sTruB (sArgs dAll (sCons (sF (sLC [1] [1] (sSeq (sVar 0)) gNm sYes (g_read_numbers_1))) sNil)))))
    (oRet (mP (sC .non)))
    oNil)
def g_read_numbers_s1 : Rho → Out := (oRet (mP (sArgs dTuple (sCons (sF (sLC [1] [1] (sSeq (sVar 0)) gNm sYes (g_read_numbers_2))) sNil))))
def g_read_numbers : Rho → Out := (oSeq (g_read_numbers_s0) (g_read_numbers_s1))
def f_read_numbers : List Dat → Rs Dat := fnO 1 2 [] (g_read_numbers)
/-! ### parts_behind -/
def g_parts_behind_1 : Rho → Out := (oIf (mP (sTruB (sBin dEq (sVar 3) (sVar 1))))
    (oAppM 2 (mOw (mP (sLstF sNil))))
    (oApp (plIx (plVar 2) (sUn dNeg (sC (.int 1)))) (sVar 3)))
def g_parts_behind_s0 : Rho → Out := (oIf (mP (sAnd (sTruB (sBin dGt (sArgs dLen (sCons (sVar 0) sNil)) (sC (.int 0)))) (sTruB (sBin dNe (sBin dIx (sVar 0) (sC (.int 0))) (sVar 1)))))
    (oRet (mP (sC .non)))
    oNil)
def g_parts_behind_s1 : Rho → Out := (oSet 2 (mOw (mP (sLstF sNil))))
def g_parts_behind_s2 : Rho → Out := (oFor [3] (mSeqOf (mP (sVar 0))) gNm (g_parts_behind_1))
def g_parts_behind_s3 : Rho → Out := (oRet (mVz 2))
def g_parts_behind : Rho → Out := (oSeq (g_parts_behind_s0) (oSeq (g_parts_behind_s1) (oSeq (g_parts_behind_s2) (g_parts_behind_s3))))
def f_parts_behind : List Dat → Rs Dat := fnO 2 4 [] (g_parts_behind)
/-! ### read_table -/
def g_read_table_1 : Rho → Option Dat := (sFn 1 f_read_numbers (sCons (sVar 3) sNil))
def g_read_table_s0 : Rho → Out := (oSet 1 (mP (sFn 2 f_parts_behind (sCons (sVar 0) (sCons (sC (.str "row")) sNil)))))
def g_read_table_s1 : Rho → Out := (oIf (mP (sOr (sTruB (sBin dIs (sVar 1) (sC .non))) (sTruB (sBin (dIn false) (sF (sLstF sNil)) (sVar 1)))))
    (oRet (mP (sC .non)))
    oNil)
def g_read_table_s2 : Rho → Out := (oSet 2 (mFz (mP (sLC [3] [3] (sSeq (sVar 1)) gNm sYes (g_read_table_1)))))
def g_read_table_s3 : Rho → Out := (oRet (mP (sIf (sTruB (sBin (dIn false) (sC .non) (sVar 2))) (sC .non) (sTup (sCons (sC (.str "table")) (sCons (sArgs dTuple (sCons (sVar 2) sNil)) sNil))))))
def g_read_table : Rho → Out := (oSeq (g_read_table_s0) (oSeq (g_read_table_s1) (oSeq (g_read_table_s2) (g_read_table_s3))))
def f_read_table : List Dat → Rs Dat := fnO 1 4 [] (g_read_table)
/-! ### read_wishes -/
def g_read_wishes_s0 : Rho → Out := (oIf (mP (sOr (sTruB (sBin dNe (sBin dCount (sVar 1) (sC (.str "buys"))) (sC (.int 1)))) (sOr (sTruB (sBin dNe (sBin dCount (sVar 1) (sC (.str "sells"))) (sC (.int 1)))) (sTruB (sBin dLt (sBin dIndex (sVar 1) (sC (.str "sells"))) (sBin dIndex (sVar 1) (sC (.str "buys"))))))))
    (oRet (mP (sC .non)))
    oNil)
def g_read_wishes_s1 : Rho → Out := (oSet 2 (mP (sBin dIndex (sVar 1) (sC (.str "buys")))))
def g_read_wishes_s2 : Rho → Out := (oSet 3 (mP (sBin dIndex (sVar 1) (sC (.str "sells")))))
def g_read_wishes_s3 : Rho → Out := (oSet 4 (mP (sFn 1 f_read_numbers (sCons (sF (sSlL (sVar 1) sNoP (sPart (sVar 2)))) sNil))))
def g_read_wishes_s4 : Rho → Out := (oSet 5 (mP (sFn 1 f_read_numbers (sCons (sF (sSlL (sVar 1) (sPart (sBin dAdd (sVar 2) (sC (.int 1)))) (sPart (sVar 3)))) sNil))))
def g_read_wishes_s5 : Rho → Out := (oSet 6 (mP (sFn 1 f_read_numbers (sCons (sF (sSlL (sVar 1) (sPart (sBin dAdd (sVar 3) (sC (.int 1)))) sNoP)) sNil))))
def g_read_wishes_s6 : Rho → Out := (oIf (mP (sOr (sTruB (sBin dIs (sVar 4) (sC .non))) (sOr (sTruB (sBin dIs (sVar 5) (sC .non))) (sOr (sTruB (sBin dIs (sVar 6) (sC .non))) (sTruB (sBin dNe (sArgs dLen (sCons (sVar 4) sNil)) (sBin dAdd (sC (.int 1)) (sArgs dInt (sCons (sBin dEq (sVar 0) (sC (.str "trader"))) sNil)))))))))
    (oRet (mP (sC .non)))
    oNil)
def g_read_wishes_s7 : Rho → Out := (oIf (mP (sTruB (sBin dNe (sVar 0) (sC (.str "sides")))))
    (oRet (mP (sBin dAdd (sBin dAdd (sTup (sCons (sVar 0) sNil)) (sVar 4)) (sTup (sCons (sVar 5) (sCons (sVar 6) sNil))))))
    oNil)
def g_read_wishes_s8 : Rho → Out := (oRet (mP (sIf (sTruB (sBin dEq (sArgs dLen (sCons (sVar 5) sNil)) (sC (.int 0)))) (sC .non) (sTup (sCons (sVar 0) (sCons (sBin dIx (sVar 4) (sC (.int 0))) (sCons (sSl (sVar 5) sNoP (sPart (sUn dNeg (sC (.int 1))))) (sCons (sBin dIx (sVar 5) (sUn dNeg (sC (.int 1)))) (sCons (sVar 6) sNil)))))))))
def g_read_wishes : Rho → Out := (oSeq (g_read_wishes_s0) (oSeq (g_read_wishes_s1) (oSeq (g_read_wishes_s2) (oSeq (g_read_wishes_s3) (oSeq (g_read_wishes_s4) (oSeq (g_read_wishes_s5) (oSeq (g_read_wishes_s6) (oSeq (g_read_wishes_s7) (g_read_wishes_s8)))))))))
def f_read_wishes : List Dat → Rs Dat := fnO 2 7 [] (g_read_wishes)
/-! ### read_groups -/
def g_read_groups_1 : Rho → Out := (oSeq (oIf (mP (sOr (sTruB (sBin dNe (sF (sSlL (sVar 3) (sPart (sC (.int 1))) (sPart (sC (.int 2))))) (sF (sLstF (sCons (sC (.str "of")) sNil))))) (sTruB (sBin dLt (sArgs dLen (sCons (sVar 3) sNil)) (sC (.int 3))))))
    (oRet (mP (sC .non)))
    oNil)
    (oSeq (oSet 4 (mP (sFn 1 f_read_numbers (sCons (sF (sCat (sF (sSlL (sVar 3) sNoP (sPart (sC (.int 1))))) (sF (sSlL (sVar 3) (sPart (sC (.int 2))) sNoP)))) sNil))))
    (oSeq (oIf (mP (sTruB (sBin dIs (sVar 4) (sC .non))))
    (oRet (mP (sC .non)))
    oNil)
    (oApp (plVar 2) (sTup (sCons (sSl (sVar 4) (sPart (sC (.int 1))) sNoP) (sCons (sBin dIx (sVar 4) (sC (.int 0))) sNil)))))))
def g_read_groups_s0 : Rho → Out := (oSet 1 (mP (sFn 2 f_parts_behind (sCons (sVar 0) (sCons (sC (.str "cap")) sNil)))))
def g_read_groups_s1 : Rho → Out := (oIf (mP (sTruB (sBin dIs (sVar 1) (sC .non))))
    (oRet (mP (sC .non)))
    oNil)
def g_read_groups_s2 : Rho → Out := (oSet 2 (mOw (mP (sLstF sNil))))
def g_read_groups_s3 : Rho → Out := (oFor [3] (mSeqOf (mP (sVar 1))) gNm (g_read_groups_1))
def g_read_groups_s4 : Rho → Out := (oRet (mZ (sArgs dTuple (sCons (sVar 2) sNil))))
def g_read_groups : Rho → Out := (oSeq (g_read_groups_s0) (oSeq (g_read_groups_s1) (oSeq (g_read_groups_s2) (oSeq (g_read_groups_s3) (g_read_groups_s4)))))
def f_read_groups : List Dat → Rs Dat := fnO 1 5 [] (g_read_groups)
/-! ### read_side -/
def g_read_side_s0 : Rho → Out := (oSet 1 (mP (sIf (sTruB (sBin (dIn false) (sC (.str "cap")) (sVar 0))) (sBin dIndex (sVar 0) (sC (.str "cap"))) (sArgs dLen (sCons (sVar 0) sNil)))))
def g_read_side_s1 : Rho → Out := (oSet 2 (mP (sFn 1 f_read_numbers (sCons (sF (sSlL (sVar 0) sNoP (sPart (sVar 1)))) sNil))))
def g_read_side_s2 : Rho → Out := (oSet 3 (mP (sFn 1 f_read_groups (sCons (sF (sSlL (sVar 0) (sPart (sVar 1)) sNoP)) sNil))))
def g_read_side_s3 : Rho → Out := (oRet (mP (sIf (sOr (sTruB (sBin dIs (sVar 2) (sC .non))) (sTruB (sBin dIs (sVar 3) (sC .non)))) (sC .non) (sTup (sCons (sVar 2) (sCons (sVar 3) sNil))))))
def g_read_side : Rho → Out := (oSeq (g_read_side_s0) (oSeq (g_read_side_s1) (oSeq (g_read_side_s2) (g_read_side_s3))))
def f_read_side : List Dat → Rs Dat := fnO 1 4 [] (g_read_side)
/-! ### read_caps -/
def g_read_caps_s0 : Rho → Out := (oIf (mP (sOr (sTruB (sBin dNe (sF (sSlL (sVar 0) sNoP (sPart (sC (.int 1))))) (sF (sLstF (sCons (sC (.str "buys")) sNil))))) (sTruB (sBin dNe (sBin dCount (sVar 0) (sC (.str "sells"))) (sC (.int 1))))))
    (oRet (mP (sC .non)))
    oNil)
def g_read_caps_s1 : Rho → Out := (oSet 1 (mP (sBin dIndex (sVar 0) (sC (.str "sells")))))
def g_read_caps_s2 : Rho → Out := (oSet 2 (mP (sFn 1 f_read_side (sCons (sF (sSlL (sVar 0) (sPart (sC (.int 1))) (sPart (sVar 1)))) sNil))))
def g_read_caps_s3 : Rho → Out := (oSet 3 (mP (sFn 1 f_read_side (sCons (sF (sSlL (sVar 0) (sPart (sBin dAdd (sVar 1) (sC (.int 1)))) sNoP)) sNil))))
def g_read_caps_s4 : Rho → Out := (oRet (mP (sIf (sOr (sTruB (sBin dIs (sVar 2) (sC .non))) (sTruB (sBin dIs (sVar 3) (sC .non)))) (sC .non) (sBin dAdd (sBin dAdd (sTup (sCons (sC (.str "caps")) sNil)) (sVar 2)) (sVar 3)))))
def g_read_caps : Rho → Out := (oSeq (g_read_caps_s0) (oSeq (g_read_caps_s1) (oSeq (g_read_caps_s2) (oSeq (g_read_caps_s3) (g_read_caps_s4)))))
def f_read_caps : List Dat → Rs Dat := fnO 1 4 [] (g_read_caps)
/-! ### read_part -/
def g_read_part_s0 : Rho → Out := (oSet 1 (mP (sIf (sTruB (sBin dGt (sArgs dLen (sCons (sVar 0) sNil)) (sC (.int 0)))) (sBin dIx (sVar 0) (sC (.int 0))) (sC (.str "")))))
def g_read_part_s1 : Rho → Out := (oIf (mP (sTruB (sBin dEq (sVar 1) (sC (.str "table")))))
    (oRet (mP (sFn 1 f_read_table (sCons (sF (sSlL (sVar 0) (sPart (sC (.int 1))) sNoP)) sNil))))
    oNil)
def g_read_part_s2 : Rho → Out := (oIf (mP (sTruB (sBin dEq (sVar 1) (sC (.str "caps")))))
    (oRet (mP (sFn 1 f_read_caps (sCons (sF (sSlL (sVar 0) (sPart (sC (.int 1))) sNoP)) sNil))))
    oNil)
def g_read_part_s3 : Rho → Out := (oIf (mP (sTruB (sBin (dIn false) (sVar 1) (sTup (sCons (sC (.str "maker")) (sCons (sC (.str "sides")) (sCons (sC (.str "trader")) sNil)))))))
    (oRet (mP (sFn 2 f_read_wishes (sCons (sVar 1) (sCons (sF (sSlL (sVar 0) (sPart (sC (.int 1))) sNoP)) sNil)))))
    oNil)
def g_read_part_s4 : Rho → Out := (oRet (mP (sC .non)))
def g_read_part : Rho → Out := (oSeq (g_read_part_s0) (oSeq (g_read_part_s1) (oSeq (g_read_part_s2) (oSeq (g_read_part_s3) (g_read_part_s4)))))
def f_read_part : List Dat → Rs Dat := fnO 1 2 [] (g_read_part)
/-! ### read_choice -/
def g_read_choice_1 : Rho → Option Dat := (sFn 1 f_read_part (sCons (sVar 3) sNil))
def g_read_choice_s0 : Rho → Out := (oIf (mP (sTruB (sBin dNe (sF (sSlL (sVar 0) sNoP (sPart (sC (.int 1))))) (sF (sLstF (sCons (sC (.str "split")) sNil))))))
    (oRet (mP (sFn 1 f_read_part (sCons (sVar 0) sNil))))
    oNil)
def g_read_choice_s1 : Rho → Out := (oSet 1 (mP (sFn 2 f_parts_behind (sCons (sF (sSlL (sVar 0) (sPart (sC (.int 1))) sNoP)) (sCons (sC (.str "part")) sNil)))))
def g_read_choice_s2 : Rho → Out := (oIf (mP (sTruB (sBin dIs (sVar 1) (sC .non))))
    (oRet (mP (sC .non)))
    oNil)
def g_read_choice_s3 : Rho → Out := (oSet 2 (mFz (mP (sLC [3] [3] (sSeq (sVar 1)) gNm sYes (g_read_choice_1)))))
def g_read_choice_s4 : Rho → Out := (oRet (mP (sIf (sTruB (sBin (dIn false) (sC .non) (sVar 2))) (sC .non) (sTup (sCons (sC (.str "split")) (sCons (sArgs dTuple (sCons (sVar 2) sNil)) sNil))))))
def g_read_choice : Rho → Out := (oSeq (g_read_choice_s0) (oSeq (g_read_choice_s1) (oSeq (g_read_choice_s2) (oSeq (g_read_choice_s3) (g_read_choice_s4)))))
def f_read_choice : List Dat → Rs Dat := fnO 1 4 [] (g_read_choice)
/-! ### read_deed -/
def g_read_deed_s0 : Rho → Out := (oSet 1 (mP (sF (sSplit (sVar 0) (sC (.str " "))))))
def g_read_deed_s1 : Rho → Out := (oIf (mP (sTruB (sBin dEq (sBin dIx (sVar 1) (sC (.int 0))) (sC (.str "choose")))))
    (oSeq (oSet 3 (mP (sFn 1 f_read_numbers (sCons (sF (sSlL (sVar 1) (sPart (sC (.int 1))) (sPart (sC (.int 2))))) sNil))))
    (oSeq (oSet 4 (mP (sFn 1 f_read_choice (sCons (sF (sSlL (sVar 1) (sPart (sC (.int 2))) sNoP)) sNil))))
    (oSeq (oIf (mP (sOr (sTruB (sBin dIs (sVar 3) (sC .non))) (sOr (sTruB (sBin dEq (sArgs dLen (sCons (sVar 3) sNil)) (sC (.int 0)))) (sTruB (sBin dIs (sVar 4) (sC .non))))))
    (oRet (mP (sC .non)))
    oNil)
    (oRet (mP (sTup (sCons (sC (.str "choose")) (sCons (sBin dIx (sVar 3) (sC (.int 0))) (sCons (sVar 4) sNil)))))))))
    oNil)
def g_read_deed_s2 : Rho → Out := (oSet 2 (mP (sFn 1 f_read_numbers (sCons (sF (sSlL (sVar 1) (sPart (sC (.int 1))) sNoP)) sNil))))
def g_read_deed_s3 : Rho → Out := (oIf (mP (sOr (sTruB (sBin dIs (sVar 2) (sC .non))) (sOr (sTruB (sUn (dKdIn true ks_NUMBERS) (sBin dIx (sVar 1) (sC (.int 0))))) (sTruB (sBin dNe (sArgs dLen (sCons (sVar 2) sNil)) (sUn (dKdIx tb_NUMBERS) (sBin dIx (sVar 1) (sC (.int 0)))))))))
    (oRet (mP (sC .non)))
    oNil)
def g_read_deed_s4 : Rho → Out := (oRet (mP (sBin dAdd (sTup (sCons (sBin dIx (sVar 1) (sC (.int 0))) sNil)) (sVar 2))))
def g_read_deed : Rho → Out := (oSeq (g_read_deed_s0) (oSeq (g_read_deed_s1) (oSeq (g_read_deed_s2) (oSeq (g_read_deed_s3) (g_read_deed_s4)))))
def f_read_deed : List Dat → Rs Dat := fnO 1 5 [] (g_read_deed)
/-! ### read_journal -/
def g_read_journal_1 : Rho → Out := (oSeq (oSet 5 (mP (sFn 1 f_read_deed (sCons (sVar 4) sNil))))
    (oSeq (oIf (mP (sTruB (sBin dIs (sVar 5) (sC .non))))
    oNever
    oNil)
    (oApp (plVar 2) (sVar 5))))
def g_read_journal_s0 : Rho → Out := (oSet 1 (mP (sF (sSplit (sVar 0) (sC (.str "\n"))))))
def g_read_journal_s1 : Rho → Out := (oSet 2 (mOw (mP (sLstF sNil))))
def g_read_journal_s2 : Rho → Out := (oFor [3, 4] (mItA enum1 (mCons (mP (sF (sSlL (sVar 1) sNoP (sPart (sUn dNeg (sC (.int 1))))))) mNil)) (gTp 2 (gsCons gNm (gsCons gNm gsNil))) (g_read_journal_1))
def g_read_journal_s3 : Rho → Out := (oIf (mP (sTruB (sBin dNe (sBin dIx (sVar 1) (sUn dNeg (sC (.int 1)))) (sC (.str "")))))
    oNever
    oNil)
def g_read_journal_s4 : Rho → Out := (oRet (mZ (sArgs dTuple (sCons (sVar 2) sNil))))
def g_read_journal : Rho → Out := (oSeq (g_read_journal_s0) (oSeq (g_read_journal_s1) (oSeq (g_read_journal_s2) (oSeq (g_read_journal_s3) (g_read_journal_s4)))))
def f_read_journal : List Dat → Rs Dat := fnO 1 6 [] (g_read_journal)
/-! ### _law_draws -/
def g__law_draws_1 : Rho → Option Dat := (sArgs dInt (sCons (sVar 8) sNil))
def g__law_draws_2 : Rho → Out := (oSeq (oSet 6 (mZ (sBin dMod (sVar 5) (sArgs dLen (sCons (sVar 2) sNil)))))
    (oIf (mZT (sTruB (sBin dGe (sBin dIx (sVar 2) (sVar 6)) (sBin dPow (sC (.int 10)) (sC (.int 18))))))
    (oSeq (oApp (plVar 4) (uZ (sBin dMod (sArgs dInt (sCons (sBin dIx (sVar 3) (sVar 6)) sNil)) (sC (.int 1000)))))
    (oSetAt (uVar 3) (sVar 6) (mZ (sBin dDiv (sBin dIx (sVar 3) (sVar 6)) (sC (.int 1000))))))
    (oSeq (oSet 7 (mZ (sBin dMod (sArgs dInt (sCons (sBin dAdd (sBin dAdd (sBin dMul (sBin dIx (sVar 2) (sVar 6)) (sC (.int 48271))) (sBin dMul (sVar 5) (sC (.int 69621)))) (sC (.int 11))) sNil)) (sC (.int 2147483647)))))
    (oApp (plVar 4) (sBin dMod (sArgs dInt (sCons (sBin dAdd (sBin dAdd (sBin dMul (sVar 7) (sVar 7)) (sBin dMul (sC (.int 3)) (sVar 7))) (sVar 5)) sNil)) (sC (.int 1000003)))))))
def g__law_draws_s0 : Rho → Out := (oSet 2 (mOw (mP (sLC [8] [8] (sSeq (sVar 0)) gNm sYes (g__law_draws_1)))))
def g__law_draws_s1 : Rho → Out := (oIf (mZT (sTruB (sBin dEq (sArgs dLen (sCons (sVar 2) sNil)) (sC (.int 0)))))
    (oApp (plVar 2) (sC (.int 0)))
    oNil)
def g__law_draws_s2 : Rho → Out := (oSet 3 (mOw (mZF (sListOf (sCons (sVar 2) sNil)))))
def g__law_draws_s3 : Rho → Out := (oSet 4 (mOw (mP (sLstF sNil))))
def g__law_draws_s4 : Rho → Out := (oFor [5] (mItA rng1 (mCons (mP (sVar 1)) mNil)) gNm (g__law_draws_2))
def g__law_draws_s5 : Rho → Out := (oRev (plVar 4))
def g__law_draws_s6 : Rho → Out := (oRet (mMv 4))
def g__law_draws : Rho → Out := (oSeq (g__law_draws_s0) (oSeq (g__law_draws_s1) (oSeq (g__law_draws_s2) (oSeq (g__law_draws_s3) (oSeq (g__law_draws_s4) (oSeq (g__law_draws_s5) (g__law_draws_s6)))))))
def f__law_draws : List Dat → Rs Dat := fnO 2 9 [] (g__law_draws)
/-! ### _law_take -/
def g__law_take_s0 : Rho → Out := (oIf (mZT (sTruB (sBin dEq (sArgs dLen (sCons (sVar 0) sNil)) (sC (.int 0)))))
    (oRet (mP (sC (.int 0))))
    oNil)
def g__law_take_s1 : Rho → Out := (oRet (mBin dMod (mArgs dInt (mCons (mPop (plVar 0)) mNil)) (mP (sVar 1))))
def g__law_take : Rho → Out := (oSeq (g__law_take_s0) (g__law_take_s1))
def f__law_take : List Dat → Rs Dat := fnO 2 2 [0] (g__law_take)
/-! ### _law_number -/
def g__law_number_s0 : Rho → Out := (oSet 2 (mFn [0] 2 f__law_take (agSl 1 (agFr (mP (sC (.int 8))) agNil))))
def g__law_number_s1 : Rho → Out := (oSet 3 (mFn [0] 2 f__law_take (agSl 1 (agFr (mP (sC (.int 14))) agNil))))
def g__law_number_s2 : Rho → Out := (oIf (mP (sTruB (sBin dEq (sVar 2) (sC (.int 1)))))
    (oRet (mP (sBin dSub (sUn dNeg (sC (.int 1))) (sVar 3))))
    oNil)
def g__law_number_s3 : Rho → Out := (oIf (mP (sTruB (sBin dEq (sVar 2) (sC (.int 2)))))
    (oRet (mP (sBin dIx (sF (sLstF (sCons (sBin dSub (sBin dPow (sC (.int 10)) (sC (.int 60))) (sC (.int 1))) (sCons (sBin dSub (sC (.int 1)) (sBin dPow (sC (.int 10)) (sC (.int 60)))) (sCons (sC (.int 0)) (sCons (sBin dPow (sC (.int 10)) (sC (.int 59))) sNil)))))) (sBin dMod (sArgs dInt (sCons (sVar 3) sNil)) (sC (.int 4))))))
    oNil)
def g__law_number_s4 : Rho → Out := (oIf (mP (sAnd (sTruB (sBin dEq (sVar 2) (sC (.int 3)))) (sTruB (sBin dGt (sArgs dLen (sCons (sVar 0) sNil)) (sC (.int 0))))))
    (oRet (mP (sBin dMod (sArgs dInt (sCons (sBin dIx (sVar 0) (sBin dMod (sArgs dInt (sCons (sVar 3) sNil)) (sArgs dLen (sCons (sVar 0) sNil)))) sNil)) (sBin dPow (sC (.int 10)) (sC (.int 60))))))
    oNil)
def g__law_number_s5 : Rho → Out := (oRet (mP (sVar 3)))
def g__law_number : Rho → Out := (oSeq (g__law_number_s0) (oSeq (g__law_number_s1) (oSeq (g__law_number_s2) (oSeq (g__law_number_s3) (oSeq (g__law_number_s4) (g__law_number_s5))))))
def f__law_number : List Dat → Rs Dat := fnO 2 4 [1] (g__law_number)
/-! ### _law_numbers -/
def g__law_numbers_1 : Rho → Option Dat := (sBin dMod (sArgs dInt (sCons (sBin dMul (sVar 4) (sVar 4)) sNil)) (sC (.int 41)))
def g__law_numbers_2 : Rho → Rs Dat := (mO (mFn [1] 2 f__law_number (agFr (mP (sVar 0)) (agSl 1 agNil))))
def g__law_numbers_s0 : Rho → Out := (oSet 3 (mBin dAdd (mP (sVar 2)) (mBin dIx (mP (sF (sLstF (sCons (sC (.int 0)) (sCons (sC (.int 1)) (sCons (sC (.int 2)) (sCons (sC (.int 3)) sNil))))))) (mO (mFn [0] 2 f__law_take (agSl 1 (agFr (mP (sC (.int 4))) agNil)))))))
def g__law_numbers_s1 : Rho → Out := (oIf (mTru (mBin dEq (mO (mFn [0] 2 f__law_take (agSl 1 (agFr (mP (sC (.int 30))) agNil)))) (mP (sC (.int 7)))))
    (oRet (mP (sArgs dTuple (sCons (sF (sLC [4] [4] (sItA rng1 (sCons (sC (.int 30)) sNil)) gNm sYes (g__law_numbers_1))) sNil))))
    oNil)
def g__law_numbers_s2 : Rho → Out := (oRet (mArgs dTuple (mCons (mFz (mLC [4] [4] (mItA rng1 (mCons (mP (sVar 3)) mNil)) gNm mYes (g__law_numbers_2))) mNil)))
def g__law_numbers : Rho → Out := (oSeq (g__law_numbers_s0) (oSeq (g__law_numbers_s1) (g__law_numbers_s2)))
def f__law_numbers : List Dat → Rs Dat := fnO 3 5 [1] (g__law_numbers)
/-! ### _law_caps -/
def g__law_caps_1 : Rho → Rs Dat := (mArgs dTup (mCons (mO (mFn [1] 3 f__law_numbers (agFr (mP (sVar 0)) (agSl 1 (agFr (mP (sC (.int 1))) agNil))))) (mCons (mO (mFn [1] 2 f__law_number (agFr (mP (sVar 0)) (agSl 1 agNil)))) mNil)))
def g__law_caps_s0 : Rho → Out := (oRet (mArgs dTuple (mCons (mFz (mLC [2] [2] (mItA rng1 (mCons (mO (mFn [0] 2 f__law_take (agSl 1 (agFr (mP (sC (.int 3))) agNil)))) mNil)) gNm mYes (g__law_caps_1))) mNil)))
def g__law_caps : Rho → Out := (g__law_caps_s0)
def f__law_caps : List Dat → Rs Dat := fnO 2 3 [1] (g__law_caps)
/-! ### _law_part -/
def g__law_part_1 : Rho → Rs Dat := (mO (mFn [1] 3 f__law_numbers (agFr (mP (sVar 0)) (agSl 1 (agFr (mP (sC (.int 1))) agNil)))))
def g__law_part_s0 : Rho → Out := (oSet 2 (mFn [0] 2 f__law_take (agSl 1 (agFr (mP (sC (.int 5))) agNil))))
def g__law_part_s1 : Rho → Out := (oSet 3 (mFn [1] 3 f__law_numbers (agFr (mP (sVar 0)) (agSl 1 (agFr (mP (sC (.int 0))) agNil)))))
def g__law_part_s2 : Rho → Out := (oSet 4 (mFn [1] 3 f__law_numbers (agFr (mP (sVar 0)) (agSl 1 (agFr (mP (sC (.int 0))) agNil)))))
def g__law_part_s3 : Rho → Out := (oSet 5 (mFn [1] 2 f__law_number (agFr (mP (sVar 0)) (agSl 1 agNil))))
def g__law_part_s4 : Rho → Out := (oIf (mP (sTruB (sBin dEq (sVar 2) (sC (.int 0)))))
    (oRet (mP (sTup (sCons (sC (.str "maker")) (sCons (sVar 5) (sCons (sVar 3) (sCons (sVar 4) sNil)))))))
    oNil)
def g__law_part_s5 : Rho → Out := (oIf (mP (sTruB (sBin dEq (sVar 2) (sC (.int 1)))))
    (oRet (mArgs dTup (mCons (mP (sC (.str "sides"))) (mCons (mP (sVar 5)) (mCons (mP (sVar 3)) (mCons (mO (mFn [1] 2 f__law_number (agFr (mP (sVar 0)) (agSl 1 agNil)))) (mCons (mP (sVar 4)) mNil)))))))
    oNil)
def g__law_part_s6 : Rho → Out := (oIf (mP (sTruB (sBin dEq (sVar 2) (sC (.int 2)))))
    (oRet (mArgs dTup (mCons (mP (sC (.str "trader"))) (mCons (mP (sVar 5)) (mCons (mO (mFn [1] 2 f__law_number (agFr (mP (sVar 0)) (agSl 1 agNil)))) (mCons (mP (sVar 3)) (mCons (mP (sVar 4)) mNil)))))))
    oNil)
def g__law_part_s7 : Rho → Out := (oIf (mP (sTruB (sBin dEq (sVar 2) (sC (.int 3)))))
    (oRet (mArgs dTup (mCons (mP (sC (.str "caps"))) (mCons (mP (sVar 3)) (mCons (mO (mFn [1] 2 f__law_caps (agFr (mP (sVar 0)) (agSl 1 agNil)))) (mCons (mP (sVar 4)) (mCons (mO (mFn [1] 2 f__law_caps (agFr (mP (sVar 0)) (agSl 1 agNil)))) mNil)))))))
    oNil)
def g__law_part_s8 : Rho → Out := (oRet (mArgs dTup (mCons (mP (sC (.str "table"))) (mCons (mArgs dTuple (mCons (mFz (mLC [6] [6] (mItA rng1 (mCons (mO (mFn [0] 2 f__law_take (agSl 1 (agFr (mP (sC (.int 4))) agNil)))) mNil)) gNm mYes (g__law_part_1))) mNil)) mNil))))
def g__law_part : Rho → Out := (oSeq (g__law_part_s0) (oSeq (g__law_part_s1) (oSeq (g__law_part_s2) (oSeq (g__law_part_s3) (oSeq (g__law_part_s4) (oSeq (g__law_part_s5) (oSeq (g__law_part_s6) (oSeq (g__law_part_s7) (g__law_part_s8)))))))))
def f__law_part : List Dat → Rs Dat := fnO 2 7 [1] (g__law_part)
/-! ### _law_any_deed -/
def g__law_any_deed_1 : Rho → Rs Dat := (mO (mFn [1] 2 f__law_number (agFr (mP (sVar 0)) (agSl 1 agNil))))
def g__law_any_deed_2 : Rho → Rs Dat := (mO (mFn [1] 2 f__law_part (agFr (mP (sVar 0)) (agSl 1 agNil))))
def g__law_any_deed_s0 : Rho → Out := (oSet 2 (mFn [0] 2 f__law_take (agSl 1 (agFr (mP (sC (.int 8))) agNil))))
def g__law_any_deed_s1 : Rho → Out := (oSet 3 (mFz (mLC [5] [5] (mItA rng1 (mCons (mP (sC (.int 3))) mNil)) gNm mYes (g__law_any_deed_1))))
def g__law_any_deed_s2 : Rho → Out := (oIf (mP (sTruB (sBin dLt (sVar 2) (sC (.int 4)))))
    (oSeq (oSet 4 (mFn [1] 2 f__law_part (agFr (mP (sVar 0)) (agSl 1 agNil))))
    (oSeq (oIf (mTru (mBin dEq (mO (mFn [0] 2 f__law_take (agSl 1 (agFr (mP (sC (.int 4))) agNil)))) (mP (sC (.int 1)))))
    (oSet 4 (mArgs dTup (mCons (mP (sC (.str "split"))) (mCons (mArgs dTuple (mCons (mFz (mLC [5] [5] (mItA rng1 (mCons (mO (mFn [0] 2 f__law_take (agSl 1 (agFr (mP (sC (.int 4))) agNil)))) mNil)) gNm mYes (g__law_any_deed_2))) mNil)) mNil))))
    oNil)
    (oRet (mP (sTup (sCons (sC (.str "choose")) (sCons (sBin dIx (sVar 3) (sC (.int 0))) (sCons (sVar 4) sNil))))))))
    oNil)
def g__law_any_deed_s3 : Rho → Out := (oIf (mP (sTruB (sBin dEq (sVar 2) (sC (.int 4)))))
    (oRet (mP (sTup (sCons (sC (.str "offer")) (sCons (sBin dIx (sVar 3) (sC (.int 0))) (sCons (sBin dIx (sVar 3) (sC (.int 1))) (sCons (sBin dIx (sVar 3) (sC (.int 2))) sNil)))))))
    oNil)
def g__law_any_deed_s4 : Rho → Out := (oIf (mP (sTruB (sBin dEq (sVar 2) (sC (.int 5)))))
    (oRet (mP (sTup (sCons (sC (.str "cancel")) (sCons (sBin dIx (sVar 3) (sC (.int 0))) sNil)))))
    oNil)
def g__law_any_deed_s5 : Rho → Out := (oRet (mP (sBin dIx (sF (sLstF (sCons (sTup (sCons (sC (.str "undo")) sNil)) (sCons (sTup (sCons (sC (.str "redo")) sNil)) sNil)))) (sBin dSub (sVar 2) (sC (.int 6))))))
def g__law_any_deed : Rho → Out := (oSeq (g__law_any_deed_s0) (oSeq (g__law_any_deed_s1) (oSeq (g__law_any_deed_s2) (oSeq (g__law_any_deed_s3) (oSeq (g__law_any_deed_s4) (g__law_any_deed_s5))))))
def f__law_any_deed : List Dat → Rs Dat := fnO 2 6 [1] (g__law_any_deed)
/-! ### _law_texts -/
def g__law_texts_1 : Rho → Option Dat := (sArgs dStr (sCons (sVar 1) sNil))
def g__law_texts_s0 : Rho → Out := (oRet (mP (sF (sLC [1] [1] (sSeq (sVar 0)) gNm sYes (g__law_texts_1)))))
def g__law_texts : Rho → Out := (g__law_texts_s0)
def f__law_texts : List Dat → Rs Dat := fnO 1 2 [] (g__law_texts)
/-! ### _law_group_words -/
def g__law_group_words_1 : Rho → Out := (oSet 1 (mP (sF (sCat (sF (sCat (sVar 1) (sF (sLstF (sCons (sC (.str "cap")) (sCons (sArgs dStr (sCons (sBin dIx (sVar 2) (sC (.int 1))) sNil)) (sCons (sC (.str "of")) sNil))))))) (sFn 1 f__law_texts (sCons (sBin dIx (sVar 2) (sC (.int 0))) sNil))))))
def g__law_group_words_s0 : Rho → Out := (oSet 1 (mP (sF (sLstF sNil))))
def g__law_group_words_s1 : Rho → Out := (oFor [2] (mSeqOf (mP (sVar 0))) gNm (g__law_group_words_1))
def g__law_group_words_s2 : Rho → Out := (oRet (mP (sVar 1)))
def g__law_group_words : Rho → Out := (oSeq (g__law_group_words_s0) (oSeq (g__law_group_words_s1) (g__law_group_words_s2)))
def f__law_group_words : List Dat → Rs Dat := fnO 1 3 [] (g__law_group_words)
/-! ### _law_choice_words -/
def g__law_choice_words_1 (rc : List Dat → Rs Dat) : Rho → Out := (oSet 1 (mP (sF (sCat (sF (sCat (sVar 1) (sF (sLstF (sCons (sC (.str "part")) sNil))))) (sFn 1 rc (sCons (sVar 2) sNil))))))
def g__law_choice_words_2 (rc : List Dat → Rs Dat) : Rho → Out := (oSet 1 (mP (sF (sCat (sF (sCat (sVar 1) (sF (sLstF (sCons (sC (.str "row")) sNil))))) (sFn 1 f__law_texts (sCons (sVar 3) sNil))))))
def g__law_choice_words_s0 (rc : List Dat → Rs Dat) : Rho → Out := (oSet 1 (mP (sF (sLstF (sCons (sBin dIx (sVar 0) (sC (.int 0))) sNil)))))
def g__law_choice_words_s1 (rc : List Dat → Rs Dat) : Rho → Out := (oIf (mP (sTruB (sBin dEq (sBin dIx (sVar 0) (sC (.int 0))) (sC (.str "split")))))
    (oSeq (oFor [2] (mSeqOf (mP (sBin dIx (sVar 0) (sC (.int 1))))) gNm (g__law_choice_words_1 rc))
    (oRet (mP (sVar 1))))
    oNil)
def g__law_choice_words_s2 (rc : List Dat → Rs Dat) : Rho → Out := (oIf (mP (sTruB (sBin dEq (sBin dIx (sVar 0) (sC (.int 0))) (sC (.str "table")))))
    (oSeq (oFor [3] (mSeqOf (mP (sBin dIx (sVar 0) (sC (.int 1))))) gNm (g__law_choice_words_2 rc))
    (oRet (mP (sVar 1))))
    oNil)
def g__law_choice_words_s3 (rc : List Dat → Rs Dat) : Rho → Out := (oIf (mP (sTruB (sBin dEq (sBin dIx (sVar 0) (sC (.int 0))) (sC (.str "caps")))))
    (oSeq (oSet 1 (mP (sF (sCat (sF (sCat (sF (sCat (sVar 1) (sF (sLstF (sCons (sC (.str "buys")) sNil))))) (sFn 1 f__law_texts (sCons (sBin dIx (sVar 0) (sC (.int 1))) sNil)))) (sFn 1 f__law_group_words (sCons (sBin dIx (sVar 0) (sC (.int 2))) sNil))))))
    (oRet (mP (sF (sCat (sF (sCat (sF (sCat (sVar 1) (sF (sLstF (sCons (sC (.str "sells")) sNil))))) (sFn 1 f__law_texts (sCons (sBin dIx (sVar 0) (sC (.int 3))) sNil)))) (sFn 1 f__law_group_words (sCons (sBin dIx (sVar 0) (sC (.int 4))) sNil)))))))
    oNil)
def g__law_choice_words_s4 (rc : List Dat → Rs Dat) : Rho → Out := (oIf (mP (sTruB (sBin dEq (sBin dIx (sVar 0) (sC (.int 0))) (sC (.str "sides")))))
    (oSet 1 (mP (sF (sCat (sF (sCat (sF (sCat (sVar 1) (sF (sLstF (sCons (sArgs dStr (sCons (sBin dIx (sVar 0) (sC (.int 1))) sNil)) (sCons (sC (.str "buys")) sNil)))))) (sFn 1 f__law_texts (sCons (sBin dIx (sVar 0) (sC (.int 2))) sNil)))) (sF (sLstF (sCons (sArgs dStr (sCons (sBin dIx (sVar 0) (sC (.int 3))) sNil)) sNil)))))))
    (oIf (mP (sTruB (sBin dEq (sBin dIx (sVar 0) (sC (.int 0))) (sC (.str "maker")))))
    (oSet 1 (mP (sF (sCat (sF (sCat (sVar 1) (sF (sLstF (sCons (sArgs dStr (sCons (sBin dIx (sVar 0) (sC (.int 1))) sNil)) (sCons (sC (.str "buys")) sNil)))))) (sFn 1 f__law_texts (sCons (sBin dIx (sVar 0) (sC (.int 2))) sNil))))))
    (oSet 1 (mP (sF (sCat (sF (sCat (sVar 1) (sF (sLstF (sCons (sArgs dStr (sCons (sBin dIx (sVar 0) (sC (.int 1))) sNil)) (sCons (sArgs dStr (sCons (sBin dIx (sVar 0) (sC (.int 2))) sNil)) (sCons (sC (.str "buys")) sNil))))))) (sFn 1 f__law_texts (sCons (sBin dIx (sVar 0) (sC (.int 3))) sNil))))))))
def g__law_choice_words_s5 (rc : List Dat → Rs Dat) : Rho → Out := (oRet (mP (sF (sCat (sF (sCat (sVar 1) (sF (sLstF (sCons (sC (.str "sells")) sNil))))) (sFn 1 f__law_texts (sCons (sBin dIx (sVar 0) (sUn dNeg (sC (.int 1)))) sNil))))))
def g__law_choice_words (rc : List Dat → Rs Dat) : Rho → Out := (oSeq (g__law_choice_words_s0 rc) (oSeq (g__law_choice_words_s1 rc) (oSeq (g__law_choice_words_s2 rc) (oSeq (g__law_choice_words_s3 rc) (oSeq (g__law_choice_words_s4 rc) (g__law_choice_words_s5 rc))))))
def f__law_choice_words : Nat → List Dat → Rs Dat
  | 0 => fun _ => .no
  | m + 1 => fnO 1 4 [] (g__law_choice_words (f__law_choice_words m))
/-! ### _law_line -/
def g__law_line_s0 : Rho → Out := (oIf (mP (sTruB (sBin dNe (sBin dIx (sVar 0) (sC (.int 0))) (sC (.str "choose")))))
    (oRet (mP (sBin dJoin (sC (.str " ")) (sF (sCat (sF (sLstF (sCons (sBin dIx (sVar 0) (sC (.int 0))) sNil))) (sFn 1 f__law_texts (sCons (sSl (sVar 0) (sPart (sC (.int 1))) sNoP) sNil)))))))
    oNil)
def g__law_line_s1 : Rho → Out := (oRet (mP (sBin dJoin (sC (.str " ")) (sF (sCat (sF (sLstF (sCons (sC (.str "choose")) (sCons (sArgs dStr (sCons (sBin dIx (sVar 0) (sC (.int 1))) sNil)) sNil)))) (sFn 1 (f__law_choice_words 8) (sCons (sBin dIx (sVar 0) (sC (.int 2))) sNil)))))))
def g__law_line : Rho → Out := (oSeq (g__law_line_s0) (g__law_line_s1))
def f__law_line : List Dat → Rs Dat := fnO 1 1 [] (g__law_line)
/-! ### _law_same -/
def g__law_same_1 (rc : List Dat → Rs Dat) : Rho → Out := (oIf (mP (sNot (sTruB (sFn 2 rc (sCons (sBin dIx (sVar 0) (sVar 2)) (sCons (sBin dIx (sVar 1) (sVar 2)) sNil))))))
    (oRet (mP (sC (.bl false))))
    oNil)
def g__law_same_s0 (rc : List Dat → Rs Dat) : Rho → Out := (oIf (mP (sTruB (sBin dIs (sVar 1) (sC .non))))
    (oRet (mP (sBin dIs (sVar 0) (sC .non))))
    oNil)
def g__law_same_s1 (rc : List Dat → Rs Dat) : Rho → Out := (oIf (mP (sTruB (sUn (dIsi "str") (sVar 1))))
    (oRet (mP (sAndV (sUn (dIsi "str") (sVar 0)) (sBin dEq (sVar 0) (sVar 1)))))
    oNil)
def g__law_same_s2 (rc : List Dat → Rs Dat) : Rho → Out := (oIf (mP (sTruB (sUn (dIsi "int") (sVar 1))))
    (oRet (mP (sAndV (sUn (dIsi "int") (sVar 0)) (sAndV (sNotV (sUn (dIsi "bool") (sVar 0))) (sBin dEq (sVar 0) (sVar 1))))))
    oNil)
def g__law_same_s3 (rc : List Dat → Rs Dat) : Rho → Out := (oIf (mP (sOr (sNot (sTruB (sUn (dIsi "tuple") (sVar 0)))) (sTruB (sBin dNe (sArgs dLen (sCons (sVar 0) sNil)) (sArgs dLen (sCons (sVar 1) sNil))))))
    (oRet (mP (sC (.bl false))))
    oNil)
def g__law_same_s4 (rc : List Dat → Rs Dat) : Rho → Out := (oFor [2] (mItA rng1 (mCons (mP (sArgs dLen (sCons (sVar 1) sNil))) mNil)) gNm (g__law_same_1 rc))
def g__law_same_s5 (rc : List Dat → Rs Dat) : Rho → Out := (oRet (mP (sC (.bl true))))
def g__law_same (rc : List Dat → Rs Dat) : Rho → Out := (oSeq (g__law_same_s0 rc) (oSeq (g__law_same_s1 rc) (oSeq (g__law_same_s2 rc) (oSeq (g__law_same_s3 rc) (oSeq (g__law_same_s4 rc) (g__law_same_s5 rc))))))
def f__law_same : Nat → List Dat → Rs Dat
  | 0 => fun _ => .no
  | m + 1 => fnO 2 3 [] (g__law_same (f__law_same m))
/-! ### _law_many_parts -/
def g__law_many_parts_1 : Rho → Option Dat := (sTup (sCons (sC (.str "caps")) (sCons (sTup (sCons (sBin dAdd (sVar 0) (sVar 6)) sNil)) (sCons (sTup (sCons (sTup (sCons (sTup (sCons (sVar 6) (sCons (sC (.int 7)) sNil))) (sCons (sVar 6) sNil))) sNil)) (sCons (sTup (sCons (sVar 6) (sCons (sC (.int 99)) sNil))) (sCons (sTup (sCons (sTup (sCons (sTup (sCons (sVar 6) (sCons (sC (.int 8)) sNil))) (sCons (sC (.int 3)) sNil))) (sCons (sTup (sCons (sTup (sCons (sC (.int 5)) sNil)) (sCons (sVar 6) sNil))) sNil))) sNil))))))
def g__law_many_parts_2 : Rho → Option Dat := (sTup (sCons (sTup (sCons (sVar 6) (sCons (sBin dAdd (sVar 6) (sVar 0)) sNil))) (sCons (sBin dSub (sC (.int 40)) (sBin dMul (sC (.int 3)) (sVar 6))) sNil)))
def g__law_many_parts_3 : Rho → Option Dat := (sTup (sCons (sBin dMod (sArgs dInt (sCons (sBin dMul (sVar 6) (sVar 0)) sNil)) (sC (.int 9))) (sCons (sBin dAdd (sC (.int 9)) (sVar 6)) sNil)))
def g__law_many_parts_4 : Rho → Option Dat := (sTup (sCons (sC (.str "choose")) (sCons (sVar 0) (sCons (sVar 5) sNil))))
def g__law_many_parts_s0 : Rho → Out := (oSet 1 (mP (sArgs dTuple (sCons (sF (sLC [6] [6] (sItA rng1 (sCons (sC (.int 9)) sNil)) gNm sYes (g__law_many_parts_1))) sNil))))
def g__law_many_parts_s1 : Rho → Out := (oSet 2 (mP (sArgs dTuple (sCons (sF (sLC [6] [6] (sItA rng1 (sCons (sC (.int 20)) sNil)) gNm sYes (g__law_many_parts_2))) sNil))))
def g__law_many_parts_s2 : Rho → Out := (oSet 3 (mP (sArgs dTuple (sCons (sF (sLC [6] [6] (sItA rng1 (sCons (sC (.int 40)) sNil)) gNm sYes (g__law_many_parts_3))) sNil))))
def g__law_many_parts_s3 : Rho → Out := (oSet 4 (mP (sF (sLstF (sCons (sTup (sCons (sC (.str "split")) (sCons (sVar 1) sNil))) (sCons (sTup (sCons (sC (.str "caps")) (sCons (sTup (sCons (sC (.int 3)) (sCons (sC (.int 1)) (sCons (sC (.int 2)) sNil)))) (sCons (sVar 2) (sCons (sTup sNil) (sCons (sRevT (sVar 2)) sNil)))))) (sCons (sTup (sCons (sC (.str "table")) (sCons (sVar 3) sNil))) sNil)))))))
def g__law_many_parts_s4 : Rho → Out := (oRet (mP (sF (sLC [5] [5] (sSeq (sVar 4)) gNm sYes (g__law_many_parts_4)))))
def g__law_many_parts : Rho → Out := (oSeq (g__law_many_parts_s0) (oSeq (g__law_many_parts_s1) (oSeq (g__law_many_parts_s2) (oSeq (g__law_many_parts_s3) (g__law_many_parts_s4)))))
def f__law_many_parts : List Dat → Rs Dat := fnO 1 7 [] (g__law_many_parts)
/-! ### law -/
def g_law_1 : Rho → Rs Dat := (mO (mFn [1] 2 f__law_any_deed (agFr (mP (sVar 0)) (agSl 1 agNil))))
def g_law_2 : Rho → Option Dat := (sBin dAdd (sFn 1 f__law_line (sCons (sVar 7) sNil)) (sC (.str "\n")))
def g_law_3 : Rho → Out := (oIf (mP (sNot (sTruB (sFn 2 (f__law_same 12) (sCons (sFn 1 f_read_journal (sCons (sBin dIx (sVar 3) (sVar 6)) sNil)) (sCons (sTup (sCons (sBin dIx (sVar 2) (sVar 6)) sNil)) sNil))))))
    (oRet (mP (sC (.bl false))))
    oNil)
def g_law_s0 : Rho → Out := (oSet 1 (mFn [] 2 f__law_draws (agFr (mP (sVar 0)) (agFr (mP (sC (.int 702))) agNil))))
def g_law_s1 : Rho → Out := (oSet 2 (mFz (mLC [6] [6] (mItA rng1 (mCons (mO (mFn [0] 2 f__law_take (agSl 1 (agFr (mP (sC (.int 9))) agNil)))) mNil)) gNm mYes (g_law_1))))
def g_law_s2 : Rho → Out := (oIf (mTru (mBin dEq (mO (mFn [0] 2 f__law_take (agSl 1 (agFr (mP (sC (.int 8))) agNil)))) (mP (sC (.int 3)))))
    (oSet 2 (mP (sF (sRep (sVar 2) (sC (.int 6))))))
    oNil)
def g_law_s3 : Rho → Out := (oIf (mTru (mBin dEq (mO (mFn [0] 2 f__law_take (agSl 1 (agFr (mP (sC (.int 8))) agNil)))) (mP (sC (.int 5)))))
    (oSet 2 (mFz (mCat (mO (mFn [] 1 f__law_many_parts (agFr (mBin dAdd (mP (sC (.int 1))) (mO (mFn [0] 2 f__law_take (agSl 1 (agFr (mP (sC (.int 30))) agNil))))) agNil))) (mP (sF (sSlL (sVar 2) sNoP (sPart (sC (.int 2)))))))))
    oNil)
def g_law_s4 : Rho → Out := (oSet 3 (mFz (mP (sLC [7] [7] (sSeq (sVar 2)) gNm sYes (g_law_2)))))
def g_law_s5 : Rho → Out := (oIf (mP (sTruB (sBin dGt (sArgs dLen (sCons (sBin dJoin (sC (.str "")) (sVar 3)) sNil)) (sC (.int 20000)))))
    (oSeq (oSet 2 (mP (sF (sSlL (sVar 2) sNoP (sPart (sC (.int 2)))))))
    (oSet 3 (mP (sF (sSlL (sVar 3) sNoP (sPart (sC (.int 2))))))))
    oNil)
def g_law_s6 : Rho → Out := (oSet 4 (mP (sBin dJoin (sC (.str "")) (sVar 3))))
def g_law_s7 : Rho → Out := (oSet 5 (mP (sFn 1 f_write_journal (sCons (sArgs dTuple (sCons (sVar 2) sNil)) sNil))))
def g_law_s8 : Rho → Out := (oIf (mP (sOr (sNot (sTruB (sUn (dIsi "str") (sVar 5)))) (sOr (sTruB (sBin dNe (sVar 5) (sVar 4))) (sNot (sTruB (sFn 2 (f__law_same 12) (sCons (sFn 1 f_read_journal (sCons (sVar 4) sNil)) (sCons (sArgs dTuple (sCons (sVar 2) sNil)) sNil))))))))
    (oRet (mP (sC (.bl false))))
    oNil)
def g_law_s9 : Rho → Out := (oFor [6] (mItA rng1 (mCons (mP (sArgs dMin (sCons (sC (.int 8)) (sCons (sArgs dLen (sCons (sVar 2) sNil)) sNil)))) mNil)) gNm (g_law_3))
def g_law_s10 : Rho → Out := (oRet (mP (sAndV (sBin dEq (sFn 1 f_write_journal (sCons (sTup sNil) sNil)) (sC (.str ""))) (sFn 2 (f__law_same 12) (sCons (sFn 1 f_read_journal (sCons (sC (.str "")) sNil)) (sCons (sTup sNil) sNil))))))
def g_law : Rho → Out := (oSeq (g_law_s0) (oSeq (g_law_s1) (oSeq (g_law_s2) (oSeq (g_law_s3) (oSeq (g_law_s4) (oSeq (g_law_s5) (oSeq (g_law_s6) (oSeq (g_law_s7) (oSeq (g_law_s8) (oSeq (g_law_s9) (g_law_s10)))))))))))
def f_law : List Dat → Rs Dat := fnO 1 8 [] (g_law)
end K98

namespace K98
open PySem PySem.Spec PyProof.Rows L2 MV
def top (i : Nat) : Stmt := PySem.Challenge.pw_nochaingains_k98_journals_written_and_re.main.body.getD i (.Pass ⟨0, 0, 0, 0⟩)
abbrev FnP (K : PySem.W.Frag) (x : Str) (st : Stmt) (f : Addr) (fd : FuncData) : Prop := FunD K x x (defArgs st) (defBody st) (defScope st) [] [] f fd
structure KdF (K : PySem.W.Frag) (w : World) (mg : Str → Option Value) (x : Str) (tb : List (Str × Int)) (ks : List Str) where
  d : Addr
  es : Array DictEntry
  n : Nat
  kd : KDict K w d es n
  mg : mg x = some (.ref d)
  tb : ∀ z i, tb.lookup z = some i → ∃ t, PySem.W.nsIn K d z = some (some (.int i t))
  ks : ∀ z ∈ ks, ∃ u, PySem.W.nsIn K d z = some (some u)
structure Fx (K : PySem.W.Frag) (w : World) (mg : Str → Option Value) where
  b_all : mg "all" = none
  b_bool : mg "bool" = none
  b_enumerate : mg "enumerate" = none
  b_int : mg "int" = none
  b_isinstance : mg "isinstance" = none
  b_len : mg "len" = none
  b_list : mg "list" = none
  b_min : mg "min" = none
  b_range : mg "range" = none
  b_str : mg "str" = none
  b_tuple : mg "tuple" = none
  c_DIGITS : ∃ t, mg "DIGITS" = some (.str "0123456789" t)
  c_MOST_DIGITS : ∃ t, mg "MOST_DIGITS" = some (.int (60) t)
  d_NUMBERS : KdF K w mg "NUMBERS" tb_NUMBERS ks_NUMBERS
section
variable {P : Program} {w : World} {K : PySem.W.Frag} {mg : Str → Option Value} {base : Heap} {T : CT} {er : ET}
/-! ### words_of -/
abbrev s_words_of : Stmt := top 6
abbrev N_words_of : List Str := ["numbers", "number"]
theorem sc_words_of : FnScope N_words_of ["numbers"] (defScope s_words_of) := ⟨rfl, rfl, rfl, by decide +kernel, rfl, by decide +kernel, by decide +kernel⟩
theorem ok_words_of {f : Addr} {fd : FuncData} {k : Nat} (F : FnP K "words_of" s_words_of f fd) (hm : mg "words_of" = some (.ref f)) (c : Fx K w mg)  :
  FnM P w K mg base T er (k + 1) "words_of" 1 [] f_words_of :=
  fn_mkN F hm sc_words_of rfl rfl rfl rfl (fun _ _ _ _ _ _ us hl => match us, hl with | [_], _ => rfl) (fun cdv A outer s H E hr =>
    (ss_one (sm_ret (om_m (pm_p (pf_pp (pf_lc (own := [("number", 1)]) rfl sc_words_of.nd (id_seq (pp_var 0)) (blkOk_by (N := N_words_of) (sc := defScope s_words_of) (by decide +kernel)) (fun s H C cl fp => (tg_nm 1 sc_words_of.nd)) (fun s H C cl fp => ts_nil) (fun s H C cl fp => (pp_callTy cd_str rfl c.b_str (by decide +kernel) (ap_cons (pp_var 1) ap_nil))))))))))
/-! ### group_words -/
abbrev s_group_words : Stmt := top 7
abbrev N_group_words : List Str := ["groups", "words", "group", "cap"]
theorem sc_group_words : FnScope N_group_words ["groups"] (defScope s_group_words) := ⟨rfl, rfl, rfl, by decide +kernel, rfl, by decide +kernel, by decide +kernel⟩
theorem ok_group_words {f : Addr} {fd : FuncData} {k : Nat} (F : FnP K "group_words" s_group_words f fd) (hm : mg "group_words" = some (.ref f)) (c : Fx K w mg) (H_words_of : FnM P w K mg base T er k "words_of" 1 [] f_words_of) :
  FnM P w K mg base T er (k + 1) "group_words" 1 [] f_group_words :=
  fn_mkN F hm sc_group_words rfl rfl rfl rfl (fun _ _ _ _ _ _ us hl => match us, hl with | [_], _ => rfl) (fun cdv A outer s H E hr =>
    (ss_cons (sm_set 1 rfl sc_group_words.nd (om_m (pm_p (pf_pp (pf_lst ap_nil)))))
    (ss_cons (sm_for .never rfl rfl (im_seq (pm_p (pp_var 0))) (tg_tup rfl (tgs_cons (tg_nm 2 sc_group_words.nd) (tgs_cons (tg_nm 3 sc_group_words.nd) tgs_nil)))
    (ss_one (sm_set 1 rfl sc_group_words.nd (om_m (pm_p (pf_pp (pf_cat (pf_pp (pf_cat (pp_var 1) (pf_pp (pf_lst (ap_cons pp_str (ap_cons (pp_callTy cd_str rfl c.b_str (by decide +kernel) (ap_cons (pp_var 3) ap_nil)) (ap_cons pp_str ap_nil))))))) (pp_fn H_words_of hr rfl (ap_cons (pp_var 2) ap_nil)))))))))
    (ss_one (sm_ret (om_m (pm_p (pp_var 1))))))))
/-! ### choice_words -/
abbrev s_choice_words : Stmt := top 8
abbrev N_choice_words : List Str := ["choice", "kind", "words", "part", "rooms"]
theorem sc_choice_words : FnScope N_choice_words ["choice"] (defScope s_choice_words) := ⟨rfl, rfl, rfl, by decide +kernel, rfl, by decide +kernel, by decide +kernel⟩
theorem ok1_choice_words {f : Addr} {fd : FuncData} {k : Nat} {rc : List Dat → Rs Dat} (F : FnP K "choice_words" s_choice_words f fd) (hm : mg "choice_words" = some (.ref f)) (c : Fx K w mg) (H_group_words : FnM P w K mg base T er k "group_words" 1 [] f_group_words) (H_words_of : FnM P w K mg base T er k "words_of" 1 [] f_words_of) (H_choice_words : FnM P w K mg base T er k "choice_words" 1 [] rc) :
  FnM P w K mg base T er (k + 1) "choice_words" 1 [] (fnO 1 5 [] (g_choice_words rc)) :=
  fn_mkN F hm sc_choice_words rfl rfl rfl rfl (fun _ _ _ _ _ _ us hl => match us, hl with | [_], _ => rfl) (fun cdv A outer s H E hr =>
    (ss_cons (sm_set 1 rfl sc_choice_words.nd (om_m (pm_p (pp_ix id_ix (pp_var 0) pp_int))))
    (ss_cons (sm_if (tm_p (tp_cmp (od_eq (hu64 hr)) (pp_var 1) pp_str (nomark _)))
    (ss_one (sm_ret (om_m (pm_p (pf_pp (pf_cat (pf_pp (pf_cat (pf_pp (pf_cat (pf_pp (pf_lst (ap_cons (pp_var 1) (ap_cons (pp_callTy cd_str rfl c.b_str (by decide +kernel) (ap_cons (pp_ix id_ix (pp_var 0) pp_int) ap_nil)) (ap_cons pp_str ap_nil))))) (pp_fn H_words_of hr rfl (ap_cons (pp_ix id_ix (pp_var 0) pp_int) ap_nil)))) (pf_pp (pf_lst (ap_cons pp_str ap_nil))))) (pp_fn H_words_of hr rfl (ap_cons (pp_ix id_ix (pp_var 0) pp_int) ap_nil))))))))
    ss_nil)
    (ss_cons (sm_if (tm_p (tp_cmp (od_eq (hu64 hr)) (pp_var 1) pp_str (nomark _)))
    (ss_cons (sm_set 2 rfl sc_choice_words.nd (om_m (pm_p (pf_pp (pf_cat (pf_pp (pf_lst (ap_cons (pp_var 1) (ap_cons (pp_callTy cd_str rfl c.b_str (by decide +kernel) (ap_cons (pp_ix id_ix (pp_var 0) pp_int) ap_nil)) (ap_cons pp_str ap_nil))))) (pp_fn H_words_of hr rfl (ap_cons (pp_ix id_ix (pp_var 0) pp_int) ap_nil)))))))
    (ss_one (sm_ret (om_m (pm_p (pf_pp (pf_cat (pf_pp (pf_cat (pp_var 2) (pf_pp (pf_lst (ap_cons (pp_callTy cd_str rfl c.b_str (by decide +kernel) (ap_cons (pp_ix id_ix (pp_var 0) pp_int) ap_nil)) (ap_cons pp_str ap_nil)))))) (pp_fn H_words_of hr rfl (ap_cons (pp_ix id_ix (pp_var 0) pp_int) ap_nil)))))))))
    ss_nil)
    (ss_cons (sm_if (tm_p (tp_cmp (od_eq (hu64 hr)) (pp_var 1) pp_str (nomark _)))
    (ss_cons (sm_set 4 rfl sc_choice_words.nd (om_m (pm_p (pf_pp (pf_lst (ap_cons (pp_var 1) (ap_cons (pp_callTy cd_str rfl c.b_str (by decide +kernel) (ap_cons (pp_ix id_ix (pp_var 0) pp_int) ap_nil)) (ap_cons (pp_callTy cd_str rfl c.b_str (by decide +kernel) (ap_cons (pp_ix id_ix (pp_var 0) pp_int) ap_nil)) ap_nil))))))))
    (ss_one (sm_ret (om_m (pm_p (pf_pp (pf_cat (pf_pp (pf_cat (pf_pp (pf_cat (pf_pp (pf_cat (pp_var 4) (pf_pp (pf_lst (ap_cons pp_str ap_nil))))) (pp_fn H_words_of hr rfl (ap_cons (pp_ix id_ix (pp_var 0) pp_int) ap_nil)))) (pf_pp (pf_lst (ap_cons pp_str ap_nil))))) (pp_fn H_words_of hr rfl (ap_cons (pp_ix id_ix (pp_var 0) pp_int) ap_nil)))))))))
    ss_nil)
    (ss_cons (sm_if (tm_p (tp_cmp (od_eq (hu64 hr)) (pp_var 1) pp_str (nomark _)))
    (ss_cons (sm_set 2 rfl sc_choice_words.nd (om_m (pm_p (pf_pp (pf_cat (pf_pp (pf_cat (pf_pp (pf_lst (ap_cons (pp_var 1) (ap_cons pp_str ap_nil)))) (pp_fn H_words_of hr rfl (ap_cons (pp_ix id_ix (pp_var 0) pp_int) ap_nil)))) (pp_fn H_group_words hr rfl (ap_cons (pp_ix id_ix (pp_var 0) pp_int) ap_nil)))))))
    (ss_one (sm_ret (om_m (pm_p (pf_pp (pf_cat (pf_pp (pf_cat (pf_pp (pf_cat (pp_var 2) (pf_pp (pf_lst (ap_cons pp_str ap_nil))))) (pp_fn H_words_of hr rfl (ap_cons (pp_ix id_ix (pp_var 0) pp_int) ap_nil)))) (pp_fn H_group_words hr rfl (ap_cons (pp_ix id_ix (pp_var 0) pp_int) ap_nil)))))))))
    ss_nil)
    (ss_cons (sm_set 2 rfl sc_choice_words.nd (om_m (pm_p (pf_pp (pf_lst (ap_cons (pp_var 1) ap_nil))))))
    (ss_cons (sm_for .never rfl rfl (im_seq (pm_p (pp_ix id_ix (pp_var 0) pp_int))) (tg_nm 3 sc_choice_words.nd)
    (ss_one (sm_if (tm_p (tp_cmp (od_eq (hu64 hr)) (pp_var 1) pp_str (nomark _)))
    (ss_one (sm_set 2 rfl sc_choice_words.nd (om_m (pm_p (pf_pp (pf_cat (pf_pp (pf_cat (pp_var 2) (pf_pp (pf_lst (ap_cons pp_str ap_nil))))) (pp_fn H_words_of hr rfl (ap_cons (pp_var 3) ap_nil))))))))
    (ss_one (sm_set 2 rfl sc_choice_words.nd (om_m (pm_p (pf_pp (pf_cat (pf_pp (pf_cat (pp_var 2) (pf_pp (pf_lst (ap_cons pp_str ap_nil))))) (pp_fn H_choice_words hr rfl (ap_cons (pp_var 3) ap_nil)))))))))))
    (ss_one (sm_ret (om_m (pm_p (pp_var 2)))))))))))))
theorem ok_choice_words {f : Addr} {fd : FuncData} {k : Nat} (F : FnP K "choice_words" s_choice_words f fd) (hm : mg "choice_words" = some (.ref f)) (c : Fx K w mg) (H_group_words : FnM P w K mg base T er k "group_words" 1 [] f_group_words) (H_words_of : FnM P w K mg base T er k "words_of" 1 [] f_words_of) :
  ∀ m, FnM P w K mg base T er (k + 1 + m) "choice_words" 1 [] (f_choice_words m) :=
  FnM.upto (j := 0) (fn_no F hm sc_choice_words rfl (fun _ _ _ _ _ _ us hl => match us, hl with | [_], _ => rfl)) fun m h => ok1_choice_words F hm c (H_group_words.mono (by omega)) (H_words_of.mono (by omega)) h
/-! ### deed_words -/
abbrev s_deed_words : Stmt := top 21
abbrev N_deed_words : List Str := ["deed"]
theorem sc_deed_words : FnScope N_deed_words ["deed"] (defScope s_deed_words) := ⟨rfl, rfl, rfl, by decide +kernel, rfl, by decide +kernel, by decide +kernel⟩
theorem ok_deed_words {f : Addr} {fd : FuncData} {k : Nat} (F : FnP K "deed_words" s_deed_words f fd) (hm : mg "deed_words" = some (.ref f)) (c : Fx K w mg) (H_choice_words : FnM P w K mg base T er k "choice_words" 1 [] (f_choice_words 8)) (H_words_of : FnM P w K mg base T er k "words_of" 1 [] f_words_of) :
  FnM P w K mg base T er (k + 1) "deed_words" 1 [] f_deed_words :=
  fn_mkN F hm sc_deed_words rfl rfl rfl rfl (fun _ _ _ _ _ _ us hl => match us, hl with | [_], _ => rfl) (fun cdv A outer s H E hr =>
    (ss_cons (sm_if (tm_p (tp_cmp (od_eq (hu64 hr)) (pp_ix id_ix (pp_var 0) pp_int) pp_str (nomark _)))
    (ss_one (sm_ret (om_m (pm_p (pf_pp (pf_cat (pf_pp (pf_lst (ap_cons (pp_ix id_ix (pp_var 0) pp_int) (ap_cons (pp_callTy cd_str rfl c.b_str (by decide +kernel) (ap_cons (pp_ix id_ix (pp_var 0) pp_int) ap_nil)) ap_nil)))) (pp_fn H_choice_words hr rfl (ap_cons (pp_ix id_ix (pp_var 0) pp_int) ap_nil))))))))
    ss_nil)
    (ss_one (sm_ret (om_m (pm_p (pf_pp (pf_cat (pf_pp (pf_lst (ap_cons (pp_ix id_ix (pp_var 0) pp_int) ap_nil))) (pp_fn H_words_of hr rfl (ap_cons (pp_slT (pp_var 0) (od_some pp_int) od_none) ap_nil))))))))))
/-! ### write_journal -/
abbrev s_write_journal : Stmt := top 22
abbrev N_write_journal : List Str := ["deeds", "deed"]
theorem sc_write_journal : FnScope N_write_journal ["deeds"] (defScope s_write_journal) := ⟨rfl, rfl, rfl, by decide +kernel, rfl, by decide +kernel, by decide +kernel⟩
theorem ok_write_journal {f : Addr} {fd : FuncData} {k : Nat} (F : FnP K "write_journal" s_write_journal f fd) (hm : mg "write_journal" = some (.ref f)) (c : Fx K w mg) (H_deed_words : FnM P w K mg base T er k "deed_words" 1 [] f_deed_words) :
  FnM P w K mg base T er (k + 1) "write_journal" 1 [] f_write_journal :=
  fn_mkN F hm sc_write_journal rfl rfl rfl rfl (fun _ _ _ _ _ _ us hl => match us, hl with | [_], _ => rfl) (fun cdv A outer s H E hr =>
    (ss_one (sm_ret (om_m (pm_p (pp_join pp_str (pf_pp (pf_lc (own := [("deed", 1)]) rfl sc_write_journal.nd (id_seq (pp_var 0)) (blkOk_by (N := N_write_journal) (sc := defScope s_write_journal) (by decide +kernel)) (fun s H C cl fp => (tg_nm 1 sc_write_journal.nd)) (fun s H C cl fp => ts_nil) (fun s H C cl fp => (pp_bin od_add (pp_join pp_str (pp_fn H_deed_words hr rfl (ap_cons (pp_var 1) ap_nil))) pp_str))))))))))
/-! ### is_integer_text -/
abbrev s_is_integer_text : Stmt := top 9
abbrev N_is_integer_text : List Str := ["text", "digits", "digit"]
theorem sc_is_integer_text : FnScope N_is_integer_text ["text"] (defScope s_is_integer_text) := ⟨rfl, rfl, rfl, by decide +kernel, rfl, by decide +kernel, by decide +kernel⟩
theorem ok_is_integer_text {f : Addr} {fd : FuncData} {k : Nat} (F : FnP K "is_integer_text" s_is_integer_text f fd) (hm : mg "is_integer_text" = some (.ref f)) (c : Fx K w mg)  :
  FnM P w K mg base T er (k + 1) "is_integer_text" 1 [] f_is_integer_text :=
  fn_mkN F hm sc_is_integer_text rfl rfl rfl rfl (fun _ _ _ _ _ _ us hl => match us, hl with | [_], _ => rfl) (fun cdv A outer s H E hr =>
    (ss_cons (sm_set 1 rfl sc_is_integer_text.nd (om_m (pm_p (pp_if (tp_cmp (od_eq (hu64 hr)) (pp_slT (pp_var 0) od_none (od_some pp_int)) pp_str (nomark _)) (pp_slT (pp_var 0) (od_some pp_int) od_none) (pp_var 0)))))
    (ss_cons (sm_for .never rfl rfl (im_seq (pm_p (pp_var 1))) (tg_nm 2 sc_is_integer_text.nd)
    (ss_one (sm_if (tm_p (tp_cmp (od_notIn (hu65 hr)) (pp_var 2) (pp_gstr rfl c.c_DIGITS) rfl))
    (ss_one (sm_ret (om_m (pm_p pp_bl))))
    ss_nil)))
    (ss_cons (sm_if (tm_p (wp_tp (wp_or (tp_cmp (od_eq (hu64 hr)) (pp_var 1) pp_str (nomark _)) (wp_or1 (tp_cmp od_gt (pp_callB cd_len rfl c.b_len (by decide +kernel) (ap_cons (pp_var 1) ap_nil)) (pp_gint rfl c.c_MOST_DIGITS) (nomark _))))))
    (ss_one (sm_ret (om_m (pm_p pp_bl))))
    ss_nil)
    (ss_one (sm_ret (om_m (pm_p (pp_or (pp_cmp (od_ne (hu64 hr)) (pp_ix id_ix (pp_var 1) pp_int) pp_str (nomark _)) (pp_one (pp_cmp (od_eq (hu64 hr)) (pp_var 0) pp_str (nomark _))))))))))))
/-! ### read_numbers -/
abbrev s_read_numbers : Stmt := top 10
abbrev N_read_numbers : List Str := ["words", "word"]
theorem sc_read_numbers : FnScope N_read_numbers ["words"] (defScope s_read_numbers) := ⟨rfl, rfl, rfl, by decide +kernel, rfl, by decide +kernel, by decide +kernel⟩
theorem ok_read_numbers {f : Addr} {fd : FuncData} {k : Nat} (F : FnP K "read_numbers" s_read_numbers f fd) (hm : mg "read_numbers" = some (.ref f)) (c : Fx K w mg) (H_is_integer_text : FnM P w K mg base T er k "is_integer_text" 1 [] f_is_integer_text) :
  FnM P w K mg base T er (k + 1) "read_numbers" 1 [] f_read_numbers :=
  fn_mkN F hm sc_read_numbers rfl rfl rfl rfl (fun _ _ _ _ _ _ us hl => match us, hl with | [_], _ => rfl) (fun cdv A outer s H E hr =>
    (ss_cons (sm_if (tm_p (tp_not (tp_val (pp_callB (cd_all rfl) rfl c.b_all (by decide +kernel) (ap_cons (pf_pp (pf_lc (own := [("word", 1)]) rfl sc_read_numbers.nd (id_seq (pp_var 0)) (blkOk_by (N := N_read_numbers) (sc := defScope s_read_numbers) (by decide +kernel)) (fun s H C cl fp => (tg_nm 1 sc_read_numbers.nd)) (fun s H C cl fp => ts_nil) (fun s H C cl fp => (pp_fn H_is_integer_text hr rfl (ap_cons (pp_var 1) ap_nil))))) ap_nil)))))
    (ss_one (sm_ret (om_m (pm_p pp_non))))
    ss_nil)
    (ss_one (sm_ret (om_m (pm_p (pp_callTy cd_tuple rfl c.b_tuple (by decide +kernel) (ap_cons (pf_pp (pf_lc (own := [("word", 1)]) rfl sc_read_numbers.nd (id_seq (pp_var 0)) (blkOk_by (N := N_read_numbers) (sc := defScope s_read_numbers) (by decide +kernel)) (fun s H C cl fp => (tg_nm 1 sc_read_numbers.nd)) (fun s H C cl fp => ts_nil) (fun s H C cl fp => (pp_callTy cd_int rfl c.b_int (by decide +kernel) (ap_cons (pp_var 1) ap_nil))))) ap_nil))))))))
/-! ### parts_behind -/
abbrev s_parts_behind : Stmt := top 11
abbrev N_parts_behind : List Str := ["words", "mark", "parts", "word"]
theorem sc_parts_behind : FnScope N_parts_behind ["words", "mark"] (defScope s_parts_behind) := ⟨rfl, rfl, rfl, by decide +kernel, rfl, by decide +kernel, by decide +kernel⟩
theorem ok_parts_behind {f : Addr} {fd : FuncData} {k : Nat} (F : FnP K "parts_behind" s_parts_behind f fd) (hm : mg "parts_behind" = some (.ref f)) (c : Fx K w mg)  :
  FnM P w K mg base T er (k + 1) "parts_behind" 2 [] f_parts_behind :=
  fn_mkN F hm sc_parts_behind rfl rfl rfl rfl (fun _ _ _ _ _ _ us hl => match us, hl with | [_, _], _ => rfl) (fun cdv A outer s H E hr =>
    (ss_cons (sm_if (tm_p (wp_tp (wp_and (tp_cmp od_gt (pp_callB cd_len rfl c.b_len (by decide +kernel) (ap_cons (pp_var 0) ap_nil)) pp_int (nomark _)) (wp_and1 (tp_cmp (od_ne (hu64 hr)) (pp_ix id_ix (pp_var 0) pp_int) (pp_var 1) (nomark _))))))
    (ss_one (sm_ret (om_m (pm_p pp_non))))
    ss_nil)
    (ss_cons (sm_set 2 rfl sc_parts_behind.nd (om_f (fm_p (pf_lst ap_nil))))
    (ss_cons (sm_for .never rfl rfl (im_seq (pm_p (pp_var 0))) (tg_nm 3 sc_parts_behind.nd)
    (ss_one (sm_if (tm_p (tp_cmp (od_eq (hu64 hr)) (pp_var 3) (pp_var 1) (nomark _)))
    (ss_one (sm_appM 2 (om_f (fm_p (pf_lst ap_nil)))))
    (ss_one (sm_app (lm_ix (lm_var 2) (ud_p (pp_un ud_neg pp_int))) (ud_p (pp_var 3)))))))
    (ss_one (sm_ret (om_m (pm_vz 2))))))))
/-! ### read_table -/
abbrev s_read_table : Stmt := top 12
abbrev N_read_table : List Str := ["words", "parts", "rows", "part"]
theorem sc_read_table : FnScope N_read_table ["words"] (defScope s_read_table) := ⟨rfl, rfl, rfl, by decide +kernel, rfl, by decide +kernel, by decide +kernel⟩
theorem ok_read_table {f : Addr} {fd : FuncData} {k : Nat} (F : FnP K "read_table" s_read_table f fd) (hm : mg "read_table" = some (.ref f)) (c : Fx K w mg) (H_parts_behind : FnM P w K mg base T er k "parts_behind" 2 [] f_parts_behind) (H_read_numbers : FnM P w K mg base T er k "read_numbers" 1 [] f_read_numbers) :
  FnM P w K mg base T er (k + 1) "read_table" 1 [] f_read_table :=
  fn_mkN F hm sc_read_table rfl rfl rfl rfl (fun _ _ _ _ _ _ us hl => match us, hl with | [_], _ => rfl) (fun cdv A outer s H E hr =>
    (ss_cons (sm_set 1 rfl sc_read_table.nd (om_m (pm_p (pp_fn H_parts_behind hr rfl (ap_cons (pp_var 0) (ap_cons pp_str ap_nil))))))
    (ss_cons (sm_if (tm_p (wp_tp (wp_or (tp_cmp od_is (pp_var 1) pp_non (nomark _)) (wp_or1 (tp_cmp (od_in (hu65 hr)) (pf_pp (pf_lst ap_nil)) (pp_var 1) rfl)))))
    (ss_one (sm_ret (om_m (pm_p pp_non))))
    ss_nil)
    (ss_cons (sm_setLc 2 rfl rfl sc_read_table.nd (lcd_p (own := [("part", 3)]) (id_seq (pp_var 1)) (fun s H C cl fp => (tg_nm 3 sc_read_table.nd)) (fun s H C cl fp => ts_nil) (fun s H C cl fp => (pp_fn H_read_numbers hr rfl (ap_cons (pp_var 3) ap_nil)))) (blkOk_by (N := N_read_table) (sc := defScope s_read_table) (by decide +kernel)) (sw_true rfl rfl rfl (by decide +kernel)))
    (ss_one (sm_ret (om_m (pm_p (pp_if (tp_cmp (od_in (hu65 hr)) pp_non (pp_var 2) rfl) pp_non (pp_tup (ap_cons pp_str (ap_cons (pp_callTy cd_tuple rfl c.b_tuple (by decide +kernel) (ap_cons (pp_var 2) ap_nil)) ap_nil))))))))))))
/-! ### read_wishes -/
abbrev s_read_wishes : Stmt := top 13
abbrev N_read_wishes : List Str := ["kind", "words", "start", "end", "rooms", "buys", "sells"]
theorem sc_read_wishes : FnScope N_read_wishes ["kind", "words"] (defScope s_read_wishes) := ⟨rfl, rfl, rfl, by decide +kernel, rfl, by decide +kernel, by decide +kernel⟩
theorem ok_read_wishes {f : Addr} {fd : FuncData} {k : Nat} (F : FnP K "read_wishes" s_read_wishes f fd) (hm : mg "read_wishes" = some (.ref f)) (c : Fx K w mg) (H_read_numbers : FnM P w K mg base T er k "read_numbers" 1 [] f_read_numbers) :
  FnM P w K mg base T er (k + 1) "read_wishes" 2 [] f_read_wishes :=
  fn_mkN F hm sc_read_wishes rfl rfl rfl rfl (fun _ _ _ _ _ _ us hl => match us, hl with | [_, _], _ => rfl) (fun cdv A outer s H E hr =>
    (ss_cons (sm_if (tm_p (wp_tp (wp_or (tp_cmp (od_ne (hu64 hr)) (pp_count (pp_var 1) pp_str) pp_int (nomark _)) (wp_or (tp_cmp (od_ne (hu64 hr)) (pp_count (pp_var 1) pp_str) pp_int (nomark _)) (wp_or1 (tp_cmp od_lt (pp_index (pp_var 1) pp_str) (pp_index (pp_var 1) pp_str) (nomark _)))))))
    (ss_one (sm_ret (om_m (pm_p pp_non))))
    ss_nil)
    (ss_cons (sm_set 2 rfl sc_read_wishes.nd (om_m (pm_p (pp_index (pp_var 1) pp_str))))
    (ss_cons (sm_set 3 rfl sc_read_wishes.nd (om_m (pm_p (pp_index (pp_var 1) pp_str))))
    (ss_cons (sm_set 4 rfl sc_read_wishes.nd (om_m (pm_p (pp_fn H_read_numbers hr rfl (ap_cons (pf_pp (pf_sl (pp_var 1) od_none (od_some (pp_var 2)))) ap_nil)))))
    (ss_cons (sm_set 5 rfl sc_read_wishes.nd (om_m (pm_p (pp_fn H_read_numbers hr rfl (ap_cons (pf_pp (pf_sl (pp_var 1) (od_some (pp_bin od_add (pp_var 2) pp_int)) (od_some (pp_var 3)))) ap_nil)))))
    (ss_cons (sm_set 6 rfl sc_read_wishes.nd (om_m (pm_p (pp_fn H_read_numbers hr rfl (ap_cons (pf_pp (pf_sl (pp_var 1) (od_some (pp_bin od_add (pp_var 3) pp_int)) od_none)) ap_nil)))))
    (ss_cons (sm_if (tm_p (wp_tp (wp_or (tp_cmp od_is (pp_var 4) pp_non (nomark _)) (wp_or (tp_cmp od_is (pp_var 5) pp_non (nomark _)) (wp_or (tp_cmp od_is (pp_var 6) pp_non (nomark _)) (wp_or1 (tp_cmp (od_ne (hu64 hr)) (pp_callB cd_len rfl c.b_len (by decide +kernel) (ap_cons (pp_var 4) ap_nil)) (pp_bin od_add pp_int (pp_callTy cd_int rfl c.b_int (by decide +kernel) (ap_cons (pp_cmp (od_eq (hu64 hr)) (pp_var 0) pp_str (nomark _)) ap_nil))) (nomark _))))))))
    (ss_one (sm_ret (om_m (pm_p pp_non))))
    ss_nil)
    (ss_cons (sm_if (tm_p (tp_cmp (od_ne (hu64 hr)) (pp_var 0) pp_str (nomark _)))
    (ss_one (sm_ret (om_m (pm_p (pp_bin od_add (pp_bin od_add (pp_tup (ap_cons (pp_var 0) ap_nil)) (pp_var 4)) (pp_tup (ap_cons (pp_var 5) (ap_cons (pp_var 6) ap_nil))))))))
    ss_nil)
    (ss_one (sm_ret (om_m (pm_p (pp_if (tp_cmp (od_eq (hu64 hr)) (pp_callB cd_len rfl c.b_len (by decide +kernel) (ap_cons (pp_var 5) ap_nil)) pp_int (nomark _)) pp_non (pp_tup (ap_cons (pp_var 0) (ap_cons (pp_ix id_ix (pp_var 4) pp_int) (ap_cons (pp_slT (pp_var 5) od_none (od_some (pp_un ud_neg pp_int))) (ap_cons (pp_ix id_ix (pp_var 5) (pp_un ud_neg pp_int)) (ap_cons (pp_var 6) ap_nil))))))))))))))))))))
/-! ### read_groups -/
abbrev s_read_groups : Stmt := top 14
abbrev N_read_groups : List Str := ["words", "parts", "groups", "part", "numbers"]
theorem sc_read_groups : FnScope N_read_groups ["words"] (defScope s_read_groups) := ⟨rfl, rfl, rfl, by decide +kernel, rfl, by decide +kernel, by decide +kernel⟩
theorem ok_read_groups {f : Addr} {fd : FuncData} {k : Nat} (F : FnP K "read_groups" s_read_groups f fd) (hm : mg "read_groups" = some (.ref f)) (c : Fx K w mg) (H_parts_behind : FnM P w K mg base T er k "parts_behind" 2 [] f_parts_behind) (H_read_numbers : FnM P w K mg base T er k "read_numbers" 1 [] f_read_numbers) :
  FnM P w K mg base T er (k + 1) "read_groups" 1 [] f_read_groups :=
  fn_mkN F hm sc_read_groups rfl rfl rfl rfl (fun _ _ _ _ _ _ us hl => match us, hl with | [_], _ => rfl) (fun cdv A outer s H E hr =>
    (ss_cons (sm_set 1 rfl sc_read_groups.nd (om_m (pm_p (pp_fn H_parts_behind hr rfl (ap_cons (pp_var 0) (ap_cons pp_str ap_nil))))))
    (ss_cons (sm_if (tm_p (tp_cmp od_is (pp_var 1) pp_non (nomark _)))
    (ss_one (sm_ret (om_m (pm_p pp_non))))
    ss_nil)
    (ss_cons (sm_set 2 rfl sc_read_groups.nd (om_f (fm_p (pf_lst ap_nil))))
    (ss_cons (sm_for .never rfl rfl (im_seq (pm_p (pp_var 1))) (tg_nm 3 sc_read_groups.nd)
    (ss_cons (sm_if (tm_p (wp_tp (wp_or (tp_cmp (od_ne (hu64 hr)) (pf_pp (pf_sl (pp_var 3) (od_some pp_int) (od_some pp_int))) (pf_pp (pf_lst (ap_cons pp_str ap_nil))) (nomark _)) (wp_or1 (tp_cmp od_lt (pp_callB cd_len rfl c.b_len (by decide +kernel) (ap_cons (pp_var 3) ap_nil)) pp_int (nomark _))))))
    (ss_one (sm_ret (om_m (pm_p pp_non))))
    ss_nil)
    (ss_cons (sm_set 4 rfl sc_read_groups.nd (om_m (pm_p (pp_fn H_read_numbers hr rfl (ap_cons (pf_pp (pf_cat (pf_pp (pf_sl (pp_var 3) od_none (od_some pp_int))) (pf_pp (pf_sl (pp_var 3) (od_some pp_int) od_none)))) ap_nil)))))
    (ss_cons (sm_if (tm_p (tp_cmp od_is (pp_var 4) pp_non (nomark _)))
    (ss_one (sm_ret (om_m (pm_p pp_non))))
    ss_nil)
    (ss_one (sm_app (lm_var 2) (ud_p (pp_tup (ap_cons (pp_slT (pp_var 4) (od_some pp_int) od_none) (ap_cons (pp_ix id_ix (pp_var 4) pp_int) ap_nil))))))))))
    (ss_one (sm_ret (om_m (pm_z (pp_callTy cd_tuple rfl c.b_tuple (by decide +kernel) (ap_cons (pp_var 2) ap_nil)))))))))))
/-! ### read_side -/
abbrev s_read_side : Stmt := top 15
abbrev N_read_side : List Str := ["words", "end", "row", "groups"]
theorem sc_read_side : FnScope N_read_side ["words"] (defScope s_read_side) := ⟨rfl, rfl, rfl, by decide +kernel, rfl, by decide +kernel, by decide +kernel⟩
theorem ok_read_side {f : Addr} {fd : FuncData} {k : Nat} (F : FnP K "read_side" s_read_side f fd) (hm : mg "read_side" = some (.ref f)) (c : Fx K w mg) (H_read_groups : FnM P w K mg base T er k "read_groups" 1 [] f_read_groups) (H_read_numbers : FnM P w K mg base T er k "read_numbers" 1 [] f_read_numbers) :
  FnM P w K mg base T er (k + 1) "read_side" 1 [] f_read_side :=
  fn_mkN F hm sc_read_side rfl rfl rfl rfl (fun _ _ _ _ _ _ us hl => match us, hl with | [_], _ => rfl) (fun cdv A outer s H E hr =>
    (ss_cons (sm_set 1 rfl sc_read_side.nd (om_m (pm_p (pp_if (tp_cmp (od_in (hu65 hr)) pp_str (pp_var 0) rfl) (pp_index (pp_var 0) pp_str) (pp_callB cd_len rfl c.b_len (by decide +kernel) (ap_cons (pp_var 0) ap_nil))))))
    (ss_cons (sm_set 2 rfl sc_read_side.nd (om_m (pm_p (pp_fn H_read_numbers hr rfl (ap_cons (pf_pp (pf_sl (pp_var 0) od_none (od_some (pp_var 1)))) ap_nil)))))
    (ss_cons (sm_set 3 rfl sc_read_side.nd (om_m (pm_p (pp_fn H_read_groups hr rfl (ap_cons (pf_pp (pf_sl (pp_var 0) (od_some (pp_var 1)) od_none)) ap_nil)))))
    (ss_one (sm_ret (om_m (pm_p (pp_if (wp_tp (wp_or (tp_cmp od_is (pp_var 2) pp_non (nomark _)) (wp_or1 (tp_cmp od_is (pp_var 3) pp_non (nomark _))))) pp_non (pp_tup (ap_cons (pp_var 2) (ap_cons (pp_var 3) ap_nil))))))))))))
/-! ### read_caps -/
abbrev s_read_caps : Stmt := top 16
abbrev N_read_caps : List Str := ["words", "end", "buys", "sells"]
theorem sc_read_caps : FnScope N_read_caps ["words"] (defScope s_read_caps) := ⟨rfl, rfl, rfl, by decide +kernel, rfl, by decide +kernel, by decide +kernel⟩
theorem ok_read_caps {f : Addr} {fd : FuncData} {k : Nat} (F : FnP K "read_caps" s_read_caps f fd) (hm : mg "read_caps" = some (.ref f)) (c : Fx K w mg) (H_read_side : FnM P w K mg base T er k "read_side" 1 [] f_read_side) :
  FnM P w K mg base T er (k + 1) "read_caps" 1 [] f_read_caps :=
  fn_mkN F hm sc_read_caps rfl rfl rfl rfl (fun _ _ _ _ _ _ us hl => match us, hl with | [_], _ => rfl) (fun cdv A outer s H E hr =>
    (ss_cons (sm_if (tm_p (wp_tp (wp_or (tp_cmp (od_ne (hu64 hr)) (pf_pp (pf_sl (pp_var 0) od_none (od_some pp_int))) (pf_pp (pf_lst (ap_cons pp_str ap_nil))) (nomark _)) (wp_or1 (tp_cmp (od_ne (hu64 hr)) (pp_count (pp_var 0) pp_str) pp_int (nomark _))))))
    (ss_one (sm_ret (om_m (pm_p pp_non))))
    ss_nil)
    (ss_cons (sm_set 1 rfl sc_read_caps.nd (om_m (pm_p (pp_index (pp_var 0) pp_str))))
    (ss_cons (sm_set 2 rfl sc_read_caps.nd (om_m (pm_p (pp_fn H_read_side hr rfl (ap_cons (pf_pp (pf_sl (pp_var 0) (od_some pp_int) (od_some (pp_var 1)))) ap_nil)))))
    (ss_cons (sm_set 3 rfl sc_read_caps.nd (om_m (pm_p (pp_fn H_read_side hr rfl (ap_cons (pf_pp (pf_sl (pp_var 0) (od_some (pp_bin od_add (pp_var 1) pp_int)) od_none)) ap_nil)))))
    (ss_one (sm_ret (om_m (pm_p (pp_if (wp_tp (wp_or (tp_cmp od_is (pp_var 2) pp_non (nomark _)) (wp_or1 (tp_cmp od_is (pp_var 3) pp_non (nomark _))))) pp_non (pp_bin od_add (pp_bin od_add (pp_tup (ap_cons pp_str ap_nil)) (pp_var 2)) (pp_var 3))))))))))))
/-! ### read_part -/
abbrev s_read_part : Stmt := top 17
abbrev N_read_part : List Str := ["words", "kind"]
theorem sc_read_part : FnScope N_read_part ["words"] (defScope s_read_part) := ⟨rfl, rfl, rfl, by decide +kernel, rfl, by decide +kernel, by decide +kernel⟩
theorem ok_read_part {f : Addr} {fd : FuncData} {k : Nat} (F : FnP K "read_part" s_read_part f fd) (hm : mg "read_part" = some (.ref f)) (c : Fx K w mg) (H_read_caps : FnM P w K mg base T er k "read_caps" 1 [] f_read_caps) (H_read_table : FnM P w K mg base T er k "read_table" 1 [] f_read_table) (H_read_wishes : FnM P w K mg base T er k "read_wishes" 2 [] f_read_wishes) :
  FnM P w K mg base T er (k + 1) "read_part" 1 [] f_read_part :=
  fn_mkN F hm sc_read_part rfl rfl rfl rfl (fun _ _ _ _ _ _ us hl => match us, hl with | [_], _ => rfl) (fun cdv A outer s H E hr =>
    (ss_cons (sm_set 1 rfl sc_read_part.nd (om_m (pm_p (pp_if (tp_cmp od_gt (pp_callB cd_len rfl c.b_len (by decide +kernel) (ap_cons (pp_var 0) ap_nil)) pp_int (nomark _)) (pp_ix id_ix (pp_var 0) pp_int) pp_str))))
    (ss_cons (sm_if (tm_p (tp_cmp (od_eq (hu64 hr)) (pp_var 1) pp_str (nomark _)))
    (ss_one (sm_ret (om_m (pm_p (pp_fn H_read_table hr rfl (ap_cons (pf_pp (pf_sl (pp_var 0) (od_some pp_int) od_none)) ap_nil))))))
    ss_nil)
    (ss_cons (sm_if (tm_p (tp_cmp (od_eq (hu64 hr)) (pp_var 1) pp_str (nomark _)))
    (ss_one (sm_ret (om_m (pm_p (pp_fn H_read_caps hr rfl (ap_cons (pf_pp (pf_sl (pp_var 0) (od_some pp_int) od_none)) ap_nil))))))
    ss_nil)
    (ss_cons (sm_if (tm_p (tp_cmp (od_in (hu65 hr)) (pp_var 1) (pp_tup (ap_cons pp_str (ap_cons pp_str (ap_cons pp_str ap_nil)))) rfl))
    (ss_one (sm_ret (om_m (pm_p (pp_fn H_read_wishes hr rfl (ap_cons (pp_var 1) (ap_cons (pf_pp (pf_sl (pp_var 0) (od_some pp_int) od_none)) ap_nil)))))))
    ss_nil)
    (ss_one (sm_ret (om_m (pm_p pp_non)))))))))
/-! ### read_choice -/
abbrev s_read_choice : Stmt := top 18
abbrev N_read_choice : List Str := ["words", "parts", "choices", "part"]
theorem sc_read_choice : FnScope N_read_choice ["words"] (defScope s_read_choice) := ⟨rfl, rfl, rfl, by decide +kernel, rfl, by decide +kernel, by decide +kernel⟩
theorem ok_read_choice {f : Addr} {fd : FuncData} {k : Nat} (F : FnP K "read_choice" s_read_choice f fd) (hm : mg "read_choice" = some (.ref f)) (c : Fx K w mg) (H_parts_behind : FnM P w K mg base T er k "parts_behind" 2 [] f_parts_behind) (H_read_part : FnM P w K mg base T er k "read_part" 1 [] f_read_part) :
  FnM P w K mg base T er (k + 1) "read_choice" 1 [] f_read_choice :=
  fn_mkN F hm sc_read_choice rfl rfl rfl rfl (fun _ _ _ _ _ _ us hl => match us, hl with | [_], _ => rfl) (fun cdv A outer s H E hr =>
    (ss_cons (sm_if (tm_p (tp_cmp (od_ne (hu64 hr)) (pf_pp (pf_sl (pp_var 0) od_none (od_some pp_int))) (pf_pp (pf_lst (ap_cons pp_str ap_nil))) (nomark _)))
    (ss_one (sm_ret (om_m (pm_p (pp_fn H_read_part hr rfl (ap_cons (pp_var 0) ap_nil))))))
    ss_nil)
    (ss_cons (sm_set 1 rfl sc_read_choice.nd (om_m (pm_p (pp_fn H_parts_behind hr rfl (ap_cons (pf_pp (pf_sl (pp_var 0) (od_some pp_int) od_none)) (ap_cons pp_str ap_nil))))))
    (ss_cons (sm_if (tm_p (tp_cmp od_is (pp_var 1) pp_non (nomark _)))
    (ss_one (sm_ret (om_m (pm_p pp_non))))
    ss_nil)
    (ss_cons (sm_setLc 2 rfl rfl sc_read_choice.nd (lcd_p (own := [("part", 3)]) (id_seq (pp_var 1)) (fun s H C cl fp => (tg_nm 3 sc_read_choice.nd)) (fun s H C cl fp => ts_nil) (fun s H C cl fp => (pp_fn H_read_part hr rfl (ap_cons (pp_var 3) ap_nil)))) (blkOk_by (N := N_read_choice) (sc := defScope s_read_choice) (by decide +kernel)) (sw_true rfl rfl rfl (by decide +kernel)))
    (ss_one (sm_ret (om_m (pm_p (pp_if (tp_cmp (od_in (hu65 hr)) pp_non (pp_var 2) rfl) pp_non (pp_tup (ap_cons pp_str (ap_cons (pp_callTy cd_tuple rfl c.b_tuple (by decide +kernel) (ap_cons (pp_var 2) ap_nil)) ap_nil)))))))))))))
/-! ### read_deed -/
abbrev s_read_deed : Stmt := top 23
abbrev N_read_deed : List Str := ["line", "words", "numbers", "house", "choice"]
theorem sc_read_deed : FnScope N_read_deed ["line"] (defScope s_read_deed) := ⟨rfl, rfl, rfl, by decide +kernel, rfl, by decide +kernel, by decide +kernel⟩
theorem ok_read_deed {f : Addr} {fd : FuncData} {k : Nat} (F : FnP K "read_deed" s_read_deed f fd) (hm : mg "read_deed" = some (.ref f)) (c : Fx K w mg) (H_read_choice : FnM P w K mg base T er k "read_choice" 1 [] f_read_choice) (H_read_numbers : FnM P w K mg base T er k "read_numbers" 1 [] f_read_numbers) :
  FnM P w K mg base T er (k + 1) "read_deed" 1 [] f_read_deed :=
  fn_mkN F hm sc_read_deed rfl rfl rfl rfl (fun _ _ _ _ _ _ us hl => match us, hl with | [_], _ => rfl) (fun cdv A outer s H E hr =>
    (ss_cons (sm_set 1 rfl sc_read_deed.nd (om_m (pm_p (pf_pp (pf_split (pp_var 0) pp_str)))))
    (ss_cons (sm_if (tm_p (tp_cmp (od_eq (hu64 hr)) (pp_ix id_ix (pp_var 1) pp_int) pp_str (nomark _)))
    (ss_cons (sm_set 3 rfl sc_read_deed.nd (om_m (pm_p (pp_fn H_read_numbers hr rfl (ap_cons (pf_pp (pf_sl (pp_var 1) (od_some pp_int) (od_some pp_int))) ap_nil)))))
    (ss_cons (sm_set 4 rfl sc_read_deed.nd (om_m (pm_p (pp_fn H_read_choice hr rfl (ap_cons (pf_pp (pf_sl (pp_var 1) (od_some pp_int) od_none)) ap_nil)))))
    (ss_cons (sm_if (tm_p (wp_tp (wp_or (tp_cmp od_is (pp_var 3) pp_non (nomark _)) (wp_or (tp_cmp (od_eq (hu64 hr)) (pp_callB cd_len rfl c.b_len (by decide +kernel) (ap_cons (pp_var 3) ap_nil)) pp_int (nomark _)) (wp_or1 (tp_cmp od_is (pp_var 4) pp_non (nomark _)))))))
    (ss_one (sm_ret (om_m (pm_p pp_non))))
    ss_nil)
    (ss_one (sm_ret (om_m (pm_p (pp_tup (ap_cons pp_str (ap_cons (pp_ix id_ix (pp_var 3) pp_int) (ap_cons (pp_var 4) ap_nil)))))))))))
    ss_nil)
    (ss_cons (sm_set 2 rfl sc_read_deed.nd (om_m (pm_p (pp_fn H_read_numbers hr rfl (ap_cons (pf_pp (pf_sl (pp_var 1) (od_some pp_int) od_none)) ap_nil)))))
    (ss_cons (sm_if (tm_p (wp_tp (wp_or (tp_cmp od_is (pp_var 2) pp_non (nomark _)) (wp_or (tp_kdNotIn ks_NUMBERS c.d_NUMBERS.kd (pp_ix id_ix (pp_var 1) pp_int) rfl c.d_NUMBERS.mg c.d_NUMBERS.ks) (wp_or1 (tp_cmp (od_ne (hu64 hr)) (pp_callB cd_len rfl c.b_len (by decide +kernel) (ap_cons (pp_var 2) ap_nil)) (pp_kdIx tb_NUMBERS c.d_NUMBERS.kd (pp_ix id_ix (pp_var 1) pp_int) rfl c.d_NUMBERS.mg c.d_NUMBERS.tb) (nomark _)))))))
    (ss_one (sm_ret (om_m (pm_p pp_non))))
    ss_nil)
    (ss_one (sm_ret (om_m (pm_p (pp_bin od_add (pp_tup (ap_cons (pp_ix id_ix (pp_var 1) pp_int) ap_nil)) (pp_var 2)))))))))))
/-! ### read_journal -/
abbrev s_read_journal : Stmt := top 24
abbrev N_read_journal : List Str := ["text", "lines", "deeds", "index", "line", "deed"]
theorem sc_read_journal : FnScope N_read_journal ["text"] (defScope s_read_journal) := ⟨rfl, rfl, rfl, by decide +kernel, rfl, by decide +kernel, by decide +kernel⟩
theorem ok_read_journal {f : Addr} {fd : FuncData} {k : Nat} (F : FnP K "read_journal" s_read_journal f fd) (hm : mg "read_journal" = some (.ref f)) (c : Fx K w mg) (H_read_deed : FnM P w K mg base T er k "read_deed" 1 [] f_read_deed) :
  FnM P w K mg base T er (k + 1) "read_journal" 1 [] f_read_journal :=
  fn_mkN F hm sc_read_journal rfl rfl rfl rfl (fun _ _ _ _ _ _ us hl => match us, hl with | [_], _ => rfl) (fun cdv A outer s H E hr =>
    (ss_cons (sm_set 1 rfl sc_read_journal.nd (om_m (pm_p (pf_pp (pf_split (pp_var 0) pp_str)))))
    (ss_cons (sm_set 2 rfl sc_read_journal.nd (om_f (fm_p (pf_lst ap_nil))))
    (ss_cons (sm_for .never rfl rfl (im_enumL rfl c.b_enumerate (am_cons (pm_p (pf_pp (pf_sl (pp_var 1) od_none (od_some (pp_un ud_neg pp_int))))) am_nil)) (tg_tup rfl (tgs_cons (tg_nm 3 sc_read_journal.nd) (tgs_cons (tg_nm 4 sc_read_journal.nd) tgs_nil)))
    (ss_cons (sm_set 5 rfl sc_read_journal.nd (om_m (pm_p (pp_fn H_read_deed hr rfl (ap_cons (pp_var 4) ap_nil)))))
    (ss_cons (sm_if (tm_p (tp_cmp od_is (pp_var 5) pp_non (nomark _)))
    (ss_one sm_never)
    ss_nil)
    (ss_one (sm_app (lm_var 2) (ud_p (pp_var 5)))))))
    (ss_cons (sm_if (tm_p (tp_cmp (od_ne (hu64 hr)) (pp_ix id_ix (pp_var 1) (pp_un ud_neg pp_int)) pp_str (nomark _)))
    (ss_one sm_never)
    ss_nil)
    (ss_one (sm_ret (om_m (pm_z (pp_callTy cd_tuple rfl c.b_tuple (by decide +kernel) (ap_cons (pp_var 2) ap_nil)))))))))))
/-! ### _law_draws -/
abbrev s__law_draws : Stmt := top 26
abbrev N__law_draws : List Str := ["_law_script", "_law_many", "_law_cells", "_law_rest", "_law_draws_here", "_law_k", "_law_at", "_law_once", "_law_cell"]
theorem sc__law_draws : FnScope N__law_draws ["_law_script", "_law_many"] (defScope s__law_draws) := ⟨rfl, rfl, rfl, by decide +kernel, rfl, by decide +kernel, by decide +kernel⟩
theorem ok__law_draws {f : Addr} {fd : FuncData} {k : Nat} (F : FnP K "_law_draws" s__law_draws f fd) (hm : mg "_law_draws" = some (.ref f)) (c : Fx K w mg)  :
  FnM P w K mg base T er (k + 1) "_law_draws" 2 [] f__law_draws :=
  fn_mkN F hm sc__law_draws rfl rfl rfl rfl (fun _ _ _ _ _ _ us hl => match us, hl with | [_, _], _ => rfl) (fun cdv A outer s H E hr =>
    (ss_cons (sm_setLcO 2 rfl rfl sc__law_draws.nd (lcd_p (own := [("_law_cell", 8)]) (id_seq (pp_var 0)) (fun s H C cl fp => (tg_nm 8 sc__law_draws.nd)) (fun s H C cl fp => ts_nil) (fun s H C cl fp => (pp_callTy cd_int rfl c.b_int (by decide +kernel) (ap_cons (pp_var 8) ap_nil)))) (blkOk_by (N := N__law_draws) (sc := defScope s__law_draws) (by decide +kernel)) (sw_true rfl rfl rfl (by decide +kernel)))
    (ss_cons (sm_if (tm_z (tp_cmp (od_eq (hu64 hr)) (pp_callB cd_len rfl c.b_len (by decide +kernel) (ap_cons (pp_var 2) ap_nil)) pp_int (nomark _)))
    (ss_one (sm_app (lm_var 2) (ud_p pp_int)))
    ss_nil)
    (ss_cons (sm_set 3 rfl sc__law_draws.nd (om_f (fm_z (pf_list rfl c.b_list (ap_cons (pp_var 2) ap_nil)))))
    (ss_cons (sm_set 4 rfl sc__law_draws.nd (om_f (fm_p (pf_lst ap_nil))))
    (ss_cons (sm_for .never rfl rfl (im_range1 rfl c.b_range (am_cons (pm_p (pp_var 1)) am_nil)) (tg_nm 5 sc__law_draws.nd)
    (ss_cons (sm_set 6 rfl sc__law_draws.nd (om_m (pm_z (pp_bin od_mod (pp_var 5) (pp_callB cd_len rfl c.b_len (by decide +kernel) (ap_cons (pp_var 2) ap_nil))))))
    (ss_one (sm_if (tm_z (tp_cmp od_ge (pp_ix id_ix (pp_var 2) (pp_var 6)) (pp_bin od_pow pp_int pp_int) (nomark _)))
    (ss_cons (sm_app (lm_var 4) (ud_z (pp_bin od_mod (pp_callTy cd_int rfl c.b_int (by decide +kernel) (ap_cons (pp_ix id_ix (pp_var 3) (pp_var 6)) ap_nil)) pp_int)))
    (ss_one (sm_setAt (pm_z (pp_bin od_div (pp_ix id_ix (pp_var 3) (pp_var 6)) pp_int)) (ul_var 3) (ud_p (pp_var 6)))))
    (ss_cons (sm_set 7 rfl sc__law_draws.nd (om_m (pm_z (pp_bin od_mod (pp_callTy cd_int rfl c.b_int (by decide +kernel) (ap_cons (pp_bin od_add (pp_bin od_add (pp_bin od_mul (pp_ix id_ix (pp_var 2) (pp_var 6)) pp_int) (pp_bin od_mul (pp_var 5) pp_int)) pp_int) ap_nil)) pp_int))))
    (ss_one (sm_app (lm_var 4) (ud_p (pp_bin od_mod (pp_callTy cd_int rfl c.b_int (by decide +kernel) (ap_cons (pp_bin od_add (pp_bin od_add (pp_bin od_mul (pp_var 7) (pp_var 7)) (pp_bin od_mul pp_int (pp_var 7))) (pp_var 5)) ap_nil)) pp_int)))))))))
    (ss_cons (sm_rev (lm_var 4))
    (ss_one (sm_ret (om_mv 4))))))))))
/-! ### _law_take -/
abbrev s__law_take : Stmt := top 27
abbrev N__law_take : List Str := ["_law_draws_here", "_law_many"]
theorem sc__law_take : FnScope N__law_take ["_law_draws_here", "_law_many"] (defScope s__law_take) := ⟨rfl, rfl, rfl, by decide +kernel, rfl, by decide +kernel, by decide +kernel⟩
theorem ok__law_take {f : Addr} {fd : FuncData} {k : Nat} (F : FnP K "_law_take" s__law_take f fd) (hm : mg "_law_take" = some (.ref f)) (c : Fx K w mg)  :
  FnM P w K mg base T er (k + 1) "_law_take" 2 [0] f__law_take :=
  fn_mkN F hm sc__law_take rfl rfl rfl rfl (fun _ _ _ _ _ _ us hl => match us, hl with | [_, _], _ => rfl) (fun cdv A outer s H E hr =>
    (ss_cons (sm_if (tm_z (tp_cmp (od_eq (hu64 hr)) (pp_callB cd_len rfl c.b_len (by decide +kernel) (ap_cons (pp_var 0) ap_nil)) pp_int (nomark _)))
    (ss_one (sm_ret (om_m (pm_p pp_int))))
    ss_nil)
    (ss_one (sm_ret (om_m (pm_bin od_mod (pm_callTy cd_int rfl c.b_int (by decide +kernel) (am_cons (pm_pop (lm_var 0)) am_nil)) (pm_p (pp_var 1))))))))
/-! ### _law_number -/
abbrev s__law_number : Stmt := top 28
abbrev N__law_number : List Str := ["_law_script", "_law_draws_here", "_law_kind", "_law_number_here"]
theorem sc__law_number : FnScope N__law_number ["_law_script", "_law_draws_here"] (defScope s__law_number) := ⟨rfl, rfl, rfl, by decide +kernel, rfl, by decide +kernel, by decide +kernel⟩
theorem ok__law_number {f : Addr} {fd : FuncData} {k : Nat} (F : FnP K "_law_number" s__law_number f fd) (hm : mg "_law_number" = some (.ref f)) (c : Fx K w mg) (H__law_take : FnM P w K mg base T er k "_law_take" 2 [0] f__law_take) :
  FnM P w K mg base T er (k + 1) "_law_number" 2 [1] f__law_number :=
  fn_mkN F hm sc__law_number rfl rfl rfl rfl (fun _ _ _ _ _ _ us hl => match us, hl with | [_, _], _ => rfl) (fun cdv A outer s H E hr =>
    (ss_cons (sm_set 2 rfl sc__law_number.nd (om_fn H__law_take hr rfl passL (gm_sl 1 (gm_fr (pm_p pp_int) gm_nil))))
    (ss_cons (sm_set 3 rfl sc__law_number.nd (om_fn H__law_take hr rfl passL (gm_sl 1 (gm_fr (pm_p pp_int) gm_nil))))
    (ss_cons (sm_if (tm_p (tp_cmp (od_eq (hu64 hr)) (pp_var 2) pp_int (nomark _)))
    (ss_one (sm_ret (om_m (pm_p (pp_bin od_sub (pp_un ud_neg pp_int) (pp_var 3))))))
    ss_nil)
    (ss_cons (sm_if (tm_p (tp_cmp (od_eq (hu64 hr)) (pp_var 2) pp_int (nomark _)))
    (ss_one (sm_ret (om_m (pm_p (pp_ix id_ix (pf_pp (pf_lst (ap_cons (pp_bin od_sub (pp_bin od_pow pp_int pp_int) pp_int) (ap_cons (pp_bin od_sub pp_int (pp_bin od_pow pp_int pp_int)) (ap_cons pp_int (ap_cons (pp_bin od_pow pp_int pp_int) ap_nil)))))) (pp_bin od_mod (pp_callTy cd_int rfl c.b_int (by decide +kernel) (ap_cons (pp_var 3) ap_nil)) pp_int))))))
    ss_nil)
    (ss_cons (sm_if (tm_p (wp_tp (wp_and (tp_cmp (od_eq (hu64 hr)) (pp_var 2) pp_int (nomark _)) (wp_and1 (tp_cmp od_gt (pp_callB cd_len rfl c.b_len (by decide +kernel) (ap_cons (pp_var 0) ap_nil)) pp_int (nomark _))))))
    (ss_one (sm_ret (om_m (pm_p (pp_bin od_mod (pp_callTy cd_int rfl c.b_int (by decide +kernel) (ap_cons (pp_ix id_ix (pp_var 0) (pp_bin od_mod (pp_callTy cd_int rfl c.b_int (by decide +kernel) (ap_cons (pp_var 3) ap_nil)) (pp_callB cd_len rfl c.b_len (by decide +kernel) (ap_cons (pp_var 0) ap_nil)))) ap_nil)) (pp_bin od_pow pp_int pp_int))))))
    ss_nil)
    (ss_one (sm_ret (om_m (pm_p (pp_var 3)))))))))))
/-! ### _law_numbers -/
abbrev s__law_numbers : Stmt := top 29
abbrev N__law_numbers : List Str := ["_law_script", "_law_draws_here", "_law_least", "_law_many", "_law_k"]
theorem sc__law_numbers : FnScope N__law_numbers ["_law_script", "_law_draws_here", "_law_least"] (defScope s__law_numbers) := ⟨rfl, rfl, rfl, by decide +kernel, rfl, by decide +kernel, by decide +kernel⟩
theorem ok__law_numbers {f : Addr} {fd : FuncData} {k : Nat} (F : FnP K "_law_numbers" s__law_numbers f fd) (hm : mg "_law_numbers" = some (.ref f)) (c : Fx K w mg) (H__law_number : FnM P w K mg base T er k "_law_number" 2 [1] f__law_number) (H__law_take : FnM P w K mg base T er k "_law_take" 2 [0] f__law_take) :
  FnM P w K mg base T er (k + 1) "_law_numbers" 3 [1] f__law_numbers :=
  fn_mkN F hm sc__law_numbers rfl rfl rfl rfl (fun _ _ _ _ _ _ us hl => match us, hl with | [_, _, _], _ => rfl) (fun cdv A outer s H E hr =>
    (ss_cons (sm_set 3 rfl sc__law_numbers.nd (om_m (pm_bin od_add (pm_p (pp_var 2)) (pm_ix id_ix (pm_p (pf_pp (pf_lst (ap_cons pp_int (ap_cons pp_int (ap_cons pp_int (ap_cons pp_int ap_nil))))))) (pm_o (om_fn H__law_take hr rfl passL (gm_sl 1 (gm_fr (pm_p pp_int) gm_nil))))))))
    (ss_cons (sm_if (tm_cmp (od_eq (hu64 hr)) (pm_o (om_fn H__law_take hr rfl passL (gm_sl 1 (gm_fr (pm_p pp_int) gm_nil)))) (pm_p pp_int) (nomark _))
    (ss_one (sm_ret (om_m (pm_p (pp_callTy cd_tuple rfl c.b_tuple (by decide +kernel) (ap_cons (pf_pp (pf_lc (own := [("_law_k", 4)]) rfl sc__law_numbers.nd (id_range1 rfl c.b_range (ap_cons pp_int ap_nil)) (blkOk_by (N := N__law_numbers) (sc := defScope s__law_numbers) (by decide +kernel)) (fun s H C cl fp => (tg_nm 4 sc__law_numbers.nd)) (fun s H C cl fp => ts_nil) (fun s H C cl fp => (pp_bin od_mod (pp_callTy cd_int rfl c.b_int (by decide +kernel) (ap_cons (pp_bin od_mul (pp_var 4) (pp_var 4)) ap_nil)) pp_int)))) ap_nil))))))
    ss_nil)
    (ss_one (sm_ret (om_m (pm_callTy cd_tuple rfl c.b_tuple (by decide +kernel) (am_cons (fm_pm (fm_lc rfl sc__law_numbers.nd (lcd_m (hpn := by rfl) (own := [("_law_k", 4)]) (im_range1 rfl c.b_range (am_cons (pm_p (pp_var 3)) am_nil)) (fun s H C cl fp => (tg_nm 4 sc__law_numbers.nd)) (fun s H C cl fp => tsm_nil) (fun s H C cl fp => (pm_o (om_fn H__law_number hr rfl passL (gm_fr (pm_p (pp_var 0)) (gm_sl 1 gm_nil)))))) (blkOk_by (N := N__law_numbers) (sc := defScope s__law_numbers) (by decide +kernel)))) am_nil))))))))
/-! ### _law_caps -/
abbrev s__law_caps : Stmt := top 30
abbrev N__law_caps : List Str := ["_law_script", "_law_draws_here", "_law_k"]
theorem sc__law_caps : FnScope N__law_caps ["_law_script", "_law_draws_here"] (defScope s__law_caps) := ⟨rfl, rfl, rfl, by decide +kernel, rfl, by decide +kernel, by decide +kernel⟩
theorem ok__law_caps {f : Addr} {fd : FuncData} {k : Nat} (F : FnP K "_law_caps" s__law_caps f fd) (hm : mg "_law_caps" = some (.ref f)) (c : Fx K w mg) (H__law_number : FnM P w K mg base T er k "_law_number" 2 [1] f__law_number) (H__law_numbers : FnM P w K mg base T er k "_law_numbers" 3 [1] f__law_numbers) (H__law_take : FnM P w K mg base T er k "_law_take" 2 [0] f__law_take) :
  FnM P w K mg base T er (k + 1) "_law_caps" 2 [1] f__law_caps :=
  fn_mkN F hm sc__law_caps rfl rfl rfl rfl (fun _ _ _ _ _ _ us hl => match us, hl with | [_, _], _ => rfl) (fun cdv A outer s H E hr =>
    (ss_one (sm_ret (om_m (pm_callTy cd_tuple rfl c.b_tuple (by decide +kernel) (am_cons (fm_pm (fm_lc rfl sc__law_caps.nd (lcd_m (hpn := by rfl) (own := [("_law_k", 2)]) (im_range1 rfl c.b_range (am_cons (pm_o (om_fn H__law_take hr rfl passL (gm_sl 1 (gm_fr (pm_p pp_int) gm_nil)))) am_nil)) (fun s H C cl fp => (tg_nm 2 sc__law_caps.nd)) (fun s H C cl fp => tsm_nil) (fun s H C cl fp => (pm_tup (am_cons (pm_o (om_fn H__law_numbers hr rfl passL (gm_fr (pm_p (pp_var 0)) (gm_sl 1 (gm_fr (pm_p pp_int) gm_nil))))) (am_cons (pm_o (om_fn H__law_number hr rfl passL (gm_fr (pm_p (pp_var 0)) (gm_sl 1 gm_nil)))) am_nil))))) (blkOk_by (N := N__law_caps) (sc := defScope s__law_caps) (by decide +kernel)))) am_nil))))))
/-! ### _law_part -/
abbrev s__law_part : Stmt := top 31
abbrev N__law_part : List Str := ["_law_script", "_law_draws_here", "_law_kind", "_law_one", "_law_other", "_law_room", "_law_k"]
theorem sc__law_part : FnScope N__law_part ["_law_script", "_law_draws_here"] (defScope s__law_part) := ⟨rfl, rfl, rfl, by decide +kernel, rfl, by decide +kernel, by decide +kernel⟩
theorem ok__law_part {f : Addr} {fd : FuncData} {k : Nat} (F : FnP K "_law_part" s__law_part f fd) (hm : mg "_law_part" = some (.ref f)) (c : Fx K w mg) (H__law_caps : FnM P w K mg base T er k "_law_caps" 2 [1] f__law_caps) (H__law_number : FnM P w K mg base T er k "_law_number" 2 [1] f__law_number) (H__law_numbers : FnM P w K mg base T er k "_law_numbers" 3 [1] f__law_numbers) (H__law_take : FnM P w K mg base T er k "_law_take" 2 [0] f__law_take) :
  FnM P w K mg base T er (k + 1) "_law_part" 2 [1] f__law_part :=
  fn_mkN F hm sc__law_part rfl rfl rfl rfl (fun _ _ _ _ _ _ us hl => match us, hl with | [_, _], _ => rfl) (fun cdv A outer s H E hr =>
    (ss_cons (sm_set 2 rfl sc__law_part.nd (om_fn H__law_take hr rfl passL (gm_sl 1 (gm_fr (pm_p pp_int) gm_nil))))
    (ss_cons (sm_set 3 rfl sc__law_part.nd (om_fn H__law_numbers hr rfl passL (gm_fr (pm_p (pp_var 0)) (gm_sl 1 (gm_fr (pm_p pp_int) gm_nil)))))
    (ss_cons (sm_set 4 rfl sc__law_part.nd (om_fn H__law_numbers hr rfl passL (gm_fr (pm_p (pp_var 0)) (gm_sl 1 (gm_fr (pm_p pp_int) gm_nil)))))
    (ss_cons (sm_set 5 rfl sc__law_part.nd (om_fn H__law_number hr rfl passL (gm_fr (pm_p (pp_var 0)) (gm_sl 1 gm_nil))))
    (ss_cons (sm_if (tm_p (tp_cmp (od_eq (hu64 hr)) (pp_var 2) pp_int (nomark _)))
    (ss_one (sm_ret (om_m (pm_p (pp_tup (ap_cons pp_str (ap_cons (pp_var 5) (ap_cons (pp_var 3) (ap_cons (pp_var 4) ap_nil)))))))))
    ss_nil)
    (ss_cons (sm_if (tm_p (tp_cmp (od_eq (hu64 hr)) (pp_var 2) pp_int (nomark _)))
    (ss_one (sm_ret (om_m (pm_tup (am_cons (pm_p pp_str) (am_cons (pm_p (pp_var 5)) (am_cons (pm_p (pp_var 3)) (am_cons (pm_o (om_fn H__law_number hr rfl passL (gm_fr (pm_p (pp_var 0)) (gm_sl 1 gm_nil)))) (am_cons (pm_p (pp_var 4)) am_nil)))))))))
    ss_nil)
    (ss_cons (sm_if (tm_p (tp_cmp (od_eq (hu64 hr)) (pp_var 2) pp_int (nomark _)))
    (ss_one (sm_ret (om_m (pm_tup (am_cons (pm_p pp_str) (am_cons (pm_p (pp_var 5)) (am_cons (pm_o (om_fn H__law_number hr rfl passL (gm_fr (pm_p (pp_var 0)) (gm_sl 1 gm_nil)))) (am_cons (pm_p (pp_var 3)) (am_cons (pm_p (pp_var 4)) am_nil)))))))))
    ss_nil)
    (ss_cons (sm_if (tm_p (tp_cmp (od_eq (hu64 hr)) (pp_var 2) pp_int (nomark _)))
    (ss_one (sm_ret (om_m (pm_tup (am_cons (pm_p pp_str) (am_cons (pm_p (pp_var 3)) (am_cons (pm_o (om_fn H__law_caps hr rfl passL (gm_fr (pm_p (pp_var 0)) (gm_sl 1 gm_nil)))) (am_cons (pm_p (pp_var 4)) (am_cons (pm_o (om_fn H__law_caps hr rfl passL (gm_fr (pm_p (pp_var 0)) (gm_sl 1 gm_nil)))) am_nil)))))))))
    ss_nil)
    (ss_one (sm_ret (om_m (pm_tup (am_cons (pm_p pp_str) (am_cons (pm_callTy cd_tuple rfl c.b_tuple (by decide +kernel) (am_cons (fm_pm (fm_lc rfl sc__law_part.nd (lcd_m (hpn := by rfl) (own := [("_law_k", 6)]) (im_range1 rfl c.b_range (am_cons (pm_o (om_fn H__law_take hr rfl passL (gm_sl 1 (gm_fr (pm_p pp_int) gm_nil)))) am_nil)) (fun s H C cl fp => (tg_nm 6 sc__law_part.nd)) (fun s H C cl fp => tsm_nil) (fun s H C cl fp => (pm_o (om_fn H__law_numbers hr rfl passL (gm_fr (pm_p (pp_var 0)) (gm_sl 1 (gm_fr (pm_p pp_int) gm_nil))))))) (blkOk_by (N := N__law_part) (sc := defScope s__law_part) (by decide +kernel)))) am_nil)) am_nil)))))))))))))))
/-! ### _law_any_deed -/
abbrev s__law_any_deed : Stmt := top 32
abbrev N__law_any_deed : List Str := ["_law_script", "_law_draws_here", "_law_kind", "_law_numbers_here", "_law_choice", "_law_k"]
theorem sc__law_any_deed : FnScope N__law_any_deed ["_law_script", "_law_draws_here"] (defScope s__law_any_deed) := ⟨rfl, rfl, rfl, by decide +kernel, rfl, by decide +kernel, by decide +kernel⟩
theorem ok__law_any_deed {f : Addr} {fd : FuncData} {k : Nat} (F : FnP K "_law_any_deed" s__law_any_deed f fd) (hm : mg "_law_any_deed" = some (.ref f)) (c : Fx K w mg) (H__law_number : FnM P w K mg base T er k "_law_number" 2 [1] f__law_number) (H__law_part : FnM P w K mg base T er k "_law_part" 2 [1] f__law_part) (H__law_take : FnM P w K mg base T er k "_law_take" 2 [0] f__law_take) :
  FnM P w K mg base T er (k + 1) "_law_any_deed" 2 [1] f__law_any_deed :=
  fn_mkN F hm sc__law_any_deed rfl rfl rfl rfl (fun _ _ _ _ _ _ us hl => match us, hl with | [_, _], _ => rfl) (fun cdv A outer s H E hr =>
    (ss_cons (sm_set 2 rfl sc__law_any_deed.nd (om_fn H__law_take hr rfl passL (gm_sl 1 (gm_fr (pm_p pp_int) gm_nil))))
    (ss_cons (sm_setLc 3 rfl rfl sc__law_any_deed.nd (lcd_m (hpn := by rfl) (own := [("_law_k", 5)]) (im_range1 rfl c.b_range (am_cons (pm_p pp_int) am_nil)) (fun s H C cl fp => (tg_nm 5 sc__law_any_deed.nd)) (fun s H C cl fp => tsm_nil) (fun s H C cl fp => (pm_o (om_fn H__law_number hr rfl passL (gm_fr (pm_p (pp_var 0)) (gm_sl 1 gm_nil)))))) (blkOk_by (N := N__law_any_deed) (sc := defScope s__law_any_deed) (by decide +kernel)) (sw_true rfl rfl rfl (by decide +kernel)))
    (ss_cons (sm_if (tm_p (tp_cmp od_lt (pp_var 2) pp_int (nomark _)))
    (ss_cons (sm_set 4 rfl sc__law_any_deed.nd (om_fn H__law_part hr rfl passL (gm_fr (pm_p (pp_var 0)) (gm_sl 1 gm_nil))))
    (ss_cons (sm_if (tm_cmp (od_eq (hu64 hr)) (pm_o (om_fn H__law_take hr rfl passL (gm_sl 1 (gm_fr (pm_p pp_int) gm_nil)))) (pm_p pp_int) (nomark _))
    (ss_one (sm_set 4 rfl sc__law_any_deed.nd (om_m (pm_tup (am_cons (pm_p pp_str) (am_cons (pm_callTy cd_tuple rfl c.b_tuple (by decide +kernel) (am_cons (fm_pm (fm_lc rfl sc__law_any_deed.nd (lcd_m (hpn := by rfl) (own := [("_law_k", 5)]) (im_range1 rfl c.b_range (am_cons (pm_o (om_fn H__law_take hr rfl passL (gm_sl 1 (gm_fr (pm_p pp_int) gm_nil)))) am_nil)) (fun s H C cl fp => (tg_nm 5 sc__law_any_deed.nd)) (fun s H C cl fp => tsm_nil) (fun s H C cl fp => (pm_o (om_fn H__law_part hr rfl passL (gm_fr (pm_p (pp_var 0)) (gm_sl 1 gm_nil)))))) (blkOk_by (N := N__law_any_deed) (sc := defScope s__law_any_deed) (by decide +kernel)))) am_nil)) am_nil))))))
    ss_nil)
    (ss_one (sm_ret (om_m (pm_p (pp_tup (ap_cons pp_str (ap_cons (pp_ix id_ix (pp_var 3) pp_int) (ap_cons (pp_var 4) ap_nil))))))))))
    ss_nil)
    (ss_cons (sm_if (tm_p (tp_cmp (od_eq (hu64 hr)) (pp_var 2) pp_int (nomark _)))
    (ss_one (sm_ret (om_m (pm_p (pp_tup (ap_cons pp_str (ap_cons (pp_ix id_ix (pp_var 3) pp_int) (ap_cons (pp_ix id_ix (pp_var 3) pp_int) (ap_cons (pp_ix id_ix (pp_var 3) pp_int) ap_nil)))))))))
    ss_nil)
    (ss_cons (sm_if (tm_p (tp_cmp (od_eq (hu64 hr)) (pp_var 2) pp_int (nomark _)))
    (ss_one (sm_ret (om_m (pm_p (pp_tup (ap_cons pp_str (ap_cons (pp_ix id_ix (pp_var 3) pp_int) ap_nil)))))))
    ss_nil)
    (ss_one (sm_ret (om_m (pm_p (pp_ix id_ix (pf_pp (pf_lst (ap_cons (pp_tup (ap_cons pp_str ap_nil)) (ap_cons (pp_tup (ap_cons pp_str ap_nil)) ap_nil)))) (pp_bin od_sub (pp_var 2) pp_int))))))))))))
/-! ### _law_texts -/
abbrev s__law_texts : Stmt := top 33
abbrev N__law_texts : List Str := ["_law_numbers_here", "_law_number_here"]
theorem sc__law_texts : FnScope N__law_texts ["_law_numbers_here"] (defScope s__law_texts) := ⟨rfl, rfl, rfl, by decide +kernel, rfl, by decide +kernel, by decide +kernel⟩
theorem ok__law_texts {f : Addr} {fd : FuncData} {k : Nat} (F : FnP K "_law_texts" s__law_texts f fd) (hm : mg "_law_texts" = some (.ref f)) (c : Fx K w mg)  :
  FnM P w K mg base T er (k + 1) "_law_texts" 1 [] f__law_texts :=
  fn_mkN F hm sc__law_texts rfl rfl rfl rfl (fun _ _ _ _ _ _ us hl => match us, hl with | [_], _ => rfl) (fun cdv A outer s H E hr =>
    (ss_one (sm_ret (om_m (pm_p (pf_pp (pf_lc (own := [("_law_number_here", 1)]) rfl sc__law_texts.nd (id_seq (pp_var 0)) (blkOk_by (N := N__law_texts) (sc := defScope s__law_texts) (by decide +kernel)) (fun s H C cl fp => (tg_nm 1 sc__law_texts.nd)) (fun s H C cl fp => ts_nil) (fun s H C cl fp => (pp_callTy cd_str rfl c.b_str (by decide +kernel) (ap_cons (pp_var 1) ap_nil))))))))))
/-! ### _law_group_words -/
abbrev s__law_group_words : Stmt := top 34
abbrev N__law_group_words : List Str := ["_law_groups", "_law_words", "_law_pair"]
theorem sc__law_group_words : FnScope N__law_group_words ["_law_groups"] (defScope s__law_group_words) := ⟨rfl, rfl, rfl, by decide +kernel, rfl, by decide +kernel, by decide +kernel⟩
theorem ok__law_group_words {f : Addr} {fd : FuncData} {k : Nat} (F : FnP K "_law_group_words" s__law_group_words f fd) (hm : mg "_law_group_words" = some (.ref f)) (c : Fx K w mg) (H__law_texts : FnM P w K mg base T er k "_law_texts" 1 [] f__law_texts) :
  FnM P w K mg base T er (k + 1) "_law_group_words" 1 [] f__law_group_words :=
  fn_mkN F hm sc__law_group_words rfl rfl rfl rfl (fun _ _ _ _ _ _ us hl => match us, hl with | [_], _ => rfl) (fun cdv A outer s H E hr =>
    (ss_cons (sm_set 1 rfl sc__law_group_words.nd (om_m (pm_p (pf_pp (pf_lst ap_nil)))))
    (ss_cons (sm_for .never rfl rfl (im_seq (pm_p (pp_var 0))) (tg_nm 2 sc__law_group_words.nd)
    (ss_one (sm_set 1 rfl sc__law_group_words.nd (om_m (pm_p (pf_pp (pf_cat (pf_pp (pf_cat (pp_var 1) (pf_pp (pf_lst (ap_cons pp_str (ap_cons (pp_callTy cd_str rfl c.b_str (by decide +kernel) (ap_cons (pp_ix id_ix (pp_var 2) pp_int) ap_nil)) (ap_cons pp_str ap_nil))))))) (pp_fn H__law_texts hr rfl (ap_cons (pp_ix id_ix (pp_var 2) pp_int) ap_nil)))))))))
    (ss_one (sm_ret (om_m (pm_p (pp_var 1))))))))
/-! ### _law_choice_words -/
abbrev s__law_choice_words : Stmt := top 35
abbrev N__law_choice_words : List Str := ["_law_choice", "_law_words", "_law_part_here", "_law_row"]
theorem sc__law_choice_words : FnScope N__law_choice_words ["_law_choice"] (defScope s__law_choice_words) := ⟨rfl, rfl, rfl, by decide +kernel, rfl, by decide +kernel, by decide +kernel⟩
theorem ok1__law_choice_words {f : Addr} {fd : FuncData} {k : Nat} {rc : List Dat → Rs Dat} (F : FnP K "_law_choice_words" s__law_choice_words f fd) (hm : mg "_law_choice_words" = some (.ref f)) (c : Fx K w mg) (H__law_group_words : FnM P w K mg base T er k "_law_group_words" 1 [] f__law_group_words) (H__law_texts : FnM P w K mg base T er k "_law_texts" 1 [] f__law_texts) (H__law_choice_words : FnM P w K mg base T er k "_law_choice_words" 1 [] rc) :
  FnM P w K mg base T er (k + 1) "_law_choice_words" 1 [] (fnO 1 4 [] (g__law_choice_words rc)) :=
  fn_mkN F hm sc__law_choice_words rfl rfl rfl rfl (fun _ _ _ _ _ _ us hl => match us, hl with | [_], _ => rfl) (fun cdv A outer s H E hr =>
    (ss_cons (sm_set 1 rfl sc__law_choice_words.nd (om_m (pm_p (pf_pp (pf_lst (ap_cons (pp_ix id_ix (pp_var 0) pp_int) ap_nil))))))
    (ss_cons (sm_if (tm_p (tp_cmp (od_eq (hu64 hr)) (pp_ix id_ix (pp_var 0) pp_int) pp_str (nomark _)))
    (ss_cons (sm_for .never rfl rfl (im_seq (pm_p (pp_ix id_ix (pp_var 0) pp_int))) (tg_nm 2 sc__law_choice_words.nd)
    (ss_one (sm_set 1 rfl sc__law_choice_words.nd (om_m (pm_p (pf_pp (pf_cat (pf_pp (pf_cat (pp_var 1) (pf_pp (pf_lst (ap_cons pp_str ap_nil))))) (pp_fn H__law_choice_words hr rfl (ap_cons (pp_var 2) ap_nil)))))))))
    (ss_one (sm_ret (om_m (pm_p (pp_var 1))))))
    ss_nil)
    (ss_cons (sm_if (tm_p (tp_cmp (od_eq (hu64 hr)) (pp_ix id_ix (pp_var 0) pp_int) pp_str (nomark _)))
    (ss_cons (sm_for .never rfl rfl (im_seq (pm_p (pp_ix id_ix (pp_var 0) pp_int))) (tg_nm 3 sc__law_choice_words.nd)
    (ss_one (sm_set 1 rfl sc__law_choice_words.nd (om_m (pm_p (pf_pp (pf_cat (pf_pp (pf_cat (pp_var 1) (pf_pp (pf_lst (ap_cons pp_str ap_nil))))) (pp_fn H__law_texts hr rfl (ap_cons (pp_var 3) ap_nil)))))))))
    (ss_one (sm_ret (om_m (pm_p (pp_var 1))))))
    ss_nil)
    (ss_cons (sm_if (tm_p (tp_cmp (od_eq (hu64 hr)) (pp_ix id_ix (pp_var 0) pp_int) pp_str (nomark _)))
    (ss_cons (sm_set 1 rfl sc__law_choice_words.nd (om_m (pm_p (pf_pp (pf_cat (pf_pp (pf_cat (pf_pp (pf_cat (pp_var 1) (pf_pp (pf_lst (ap_cons pp_str ap_nil))))) (pp_fn H__law_texts hr rfl (ap_cons (pp_ix id_ix (pp_var 0) pp_int) ap_nil)))) (pp_fn H__law_group_words hr rfl (ap_cons (pp_ix id_ix (pp_var 0) pp_int) ap_nil)))))))
    (ss_one (sm_ret (om_m (pm_p (pf_pp (pf_cat (pf_pp (pf_cat (pf_pp (pf_cat (pp_var 1) (pf_pp (pf_lst (ap_cons pp_str ap_nil))))) (pp_fn H__law_texts hr rfl (ap_cons (pp_ix id_ix (pp_var 0) pp_int) ap_nil)))) (pp_fn H__law_group_words hr rfl (ap_cons (pp_ix id_ix (pp_var 0) pp_int) ap_nil)))))))))
    ss_nil)
    (ss_cons (sm_if (tm_p (tp_cmp (od_eq (hu64 hr)) (pp_ix id_ix (pp_var 0) pp_int) pp_str (nomark _)))
    (ss_one (sm_set 1 rfl sc__law_choice_words.nd (om_m (pm_p (pf_pp (pf_cat (pf_pp (pf_cat (pf_pp (pf_cat (pp_var 1) (pf_pp (pf_lst (ap_cons (pp_callTy cd_str rfl c.b_str (by decide +kernel) (ap_cons (pp_ix id_ix (pp_var 0) pp_int) ap_nil)) (ap_cons pp_str ap_nil)))))) (pp_fn H__law_texts hr rfl (ap_cons (pp_ix id_ix (pp_var 0) pp_int) ap_nil)))) (pf_pp (pf_lst (ap_cons (pp_callTy cd_str rfl c.b_str (by decide +kernel) (ap_cons (pp_ix id_ix (pp_var 0) pp_int) ap_nil)) ap_nil)))))))))
    (ss_one (sm_if (tm_p (tp_cmp (od_eq (hu64 hr)) (pp_ix id_ix (pp_var 0) pp_int) pp_str (nomark _)))
    (ss_one (sm_set 1 rfl sc__law_choice_words.nd (om_m (pm_p (pf_pp (pf_cat (pf_pp (pf_cat (pp_var 1) (pf_pp (pf_lst (ap_cons (pp_callTy cd_str rfl c.b_str (by decide +kernel) (ap_cons (pp_ix id_ix (pp_var 0) pp_int) ap_nil)) (ap_cons pp_str ap_nil)))))) (pp_fn H__law_texts hr rfl (ap_cons (pp_ix id_ix (pp_var 0) pp_int) ap_nil))))))))
    (ss_one (sm_set 1 rfl sc__law_choice_words.nd (om_m (pm_p (pf_pp (pf_cat (pf_pp (pf_cat (pp_var 1) (pf_pp (pf_lst (ap_cons (pp_callTy cd_str rfl c.b_str (by decide +kernel) (ap_cons (pp_ix id_ix (pp_var 0) pp_int) ap_nil)) (ap_cons (pp_callTy cd_str rfl c.b_str (by decide +kernel) (ap_cons (pp_ix id_ix (pp_var 0) pp_int) ap_nil)) (ap_cons pp_str ap_nil))))))) (pp_fn H__law_texts hr rfl (ap_cons (pp_ix id_ix (pp_var 0) pp_int) ap_nil)))))))))))
    (ss_one (sm_ret (om_m (pm_p (pf_pp (pf_cat (pf_pp (pf_cat (pp_var 1) (pf_pp (pf_lst (ap_cons pp_str ap_nil))))) (pp_fn H__law_texts hr rfl (ap_cons (pp_ix id_ix (pp_var 0) (pp_un ud_neg pp_int)) ap_nil))))))))))))))
theorem ok__law_choice_words {f : Addr} {fd : FuncData} {k : Nat} (F : FnP K "_law_choice_words" s__law_choice_words f fd) (hm : mg "_law_choice_words" = some (.ref f)) (c : Fx K w mg) (H__law_group_words : FnM P w K mg base T er k "_law_group_words" 1 [] f__law_group_words) (H__law_texts : FnM P w K mg base T er k "_law_texts" 1 [] f__law_texts) :
  ∀ m, FnM P w K mg base T er (k + 1 + m) "_law_choice_words" 1 [] (f__law_choice_words m) :=
  FnM.upto (j := 0) (fn_no F hm sc__law_choice_words rfl (fun _ _ _ _ _ _ us hl => match us, hl with | [_], _ => rfl)) fun m h => ok1__law_choice_words F hm c (H__law_group_words.mono (by omega)) (H__law_texts.mono (by omega)) h
/-! ### _law_line -/
abbrev s__law_line : Stmt := top 36
abbrev N__law_line : List Str := ["_law_deed"]
theorem sc__law_line : FnScope N__law_line ["_law_deed"] (defScope s__law_line) := ⟨rfl, rfl, rfl, by decide +kernel, rfl, by decide +kernel, by decide +kernel⟩
theorem ok__law_line {f : Addr} {fd : FuncData} {k : Nat} (F : FnP K "_law_line" s__law_line f fd) (hm : mg "_law_line" = some (.ref f)) (c : Fx K w mg) (H__law_choice_words : FnM P w K mg base T er k "_law_choice_words" 1 [] (f__law_choice_words 8)) (H__law_texts : FnM P w K mg base T er k "_law_texts" 1 [] f__law_texts) :
  FnM P w K mg base T er (k + 1) "_law_line" 1 [] f__law_line :=
  fn_mkN F hm sc__law_line rfl rfl rfl rfl (fun _ _ _ _ _ _ us hl => match us, hl with | [_], _ => rfl) (fun cdv A outer s H E hr =>
    (ss_cons (sm_if (tm_p (tp_cmp (od_ne (hu64 hr)) (pp_ix id_ix (pp_var 0) pp_int) pp_str (nomark _)))
    (ss_one (sm_ret (om_m (pm_p (pp_join pp_str (pf_pp (pf_cat (pf_pp (pf_lst (ap_cons (pp_ix id_ix (pp_var 0) pp_int) ap_nil))) (pp_fn H__law_texts hr rfl (ap_cons (pp_slT (pp_var 0) (od_some pp_int) od_none) ap_nil)))))))))
    ss_nil)
    (ss_one (sm_ret (om_m (pm_p (pp_join pp_str (pf_pp (pf_cat (pf_pp (pf_lst (ap_cons pp_str (ap_cons (pp_callTy cd_str rfl c.b_str (by decide +kernel) (ap_cons (pp_ix id_ix (pp_var 0) pp_int) ap_nil)) ap_nil)))) (pp_fn H__law_choice_words hr rfl (ap_cons (pp_ix id_ix (pp_var 0) pp_int) ap_nil)))))))))))
/-! ### _law_same -/
abbrev s__law_same : Stmt := top 37
abbrev N__law_same : List Str := ["_law_actual", "_law_due", "_law_k"]
theorem sc__law_same : FnScope N__law_same ["_law_actual", "_law_due"] (defScope s__law_same) := ⟨rfl, rfl, rfl, by decide +kernel, rfl, by decide +kernel, by decide +kernel⟩
theorem ok1__law_same {f : Addr} {fd : FuncData} {k : Nat} {rc : List Dat → Rs Dat} (F : FnP K "_law_same" s__law_same f fd) (hm : mg "_law_same" = some (.ref f)) (c : Fx K w mg)  (H__law_same : FnM P w K mg base T er k "_law_same" 2 [] rc) :
  FnM P w K mg base T er (k + 1) "_law_same" 2 [] (fnO 2 3 [] (g__law_same rc)) :=
  fn_mkN F hm sc__law_same rfl rfl rfl rfl (fun _ _ _ _ _ _ us hl => match us, hl with | [_, _], _ => rfl) (fun cdv A outer s H E hr =>
    (ss_cons (sm_if (tm_p (tp_cmp od_is (pp_var 1) pp_non (nomark _)))
    (ss_one (sm_ret (om_m (pm_p (pp_cmp od_is (pp_var 0) pp_non (nomark _))))))
    ss_nil)
    (ss_cons (sm_if (tm_p (tp_val (pp_isi "str" (pp_var 1) rfl c.b_isinstance rfl c.b_str (by decide +kernel))))
    (ss_one (sm_ret (om_m (pm_p (pp_and (pp_isi "str" (pp_var 0) rfl c.b_isinstance rfl c.b_str (by decide +kernel)) (pp_one (pp_cmp (od_eq (hu64 hr)) (pp_var 0) (pp_var 1) (nomark _))))))))
    ss_nil)
    (ss_cons (sm_if (tm_p (tp_val (pp_isi "int" (pp_var 1) rfl c.b_isinstance rfl c.b_int (by decide +kernel))))
    (ss_one (sm_ret (om_m (pm_p (pp_and (pp_isi "int" (pp_var 0) rfl c.b_isinstance rfl c.b_int (by decide +kernel)) (pp_and (pp_not (pp_isi "bool" (pp_var 0) rfl c.b_isinstance rfl c.b_bool (by decide +kernel))) (pp_one (pp_cmp (od_eq (hu64 hr)) (pp_var 0) (pp_var 1) (nomark _)))))))))
    ss_nil)
    (ss_cons (sm_if (tm_p (wp_tp (wp_or (tp_not (tp_val (pp_isi "tuple" (pp_var 0) rfl c.b_isinstance rfl c.b_tuple (by decide +kernel)))) (wp_or1 (tp_cmp (od_ne (hu64 hr)) (pp_callB cd_len rfl c.b_len (by decide +kernel) (ap_cons (pp_var 0) ap_nil)) (pp_callB cd_len rfl c.b_len (by decide +kernel) (ap_cons (pp_var 1) ap_nil)) (nomark _))))))
    (ss_one (sm_ret (om_m (pm_p pp_bl))))
    ss_nil)
    (ss_cons (sm_for .never rfl rfl (im_range1 rfl c.b_range (am_cons (pm_p (pp_callB cd_len rfl c.b_len (by decide +kernel) (ap_cons (pp_var 1) ap_nil))) am_nil)) (tg_nm 2 sc__law_same.nd)
    (ss_one (sm_if (tm_p (tp_not (tp_val (pp_fn H__law_same hr rfl (ap_cons (pp_ix id_ix (pp_var 0) (pp_var 2)) (ap_cons (pp_ix id_ix (pp_var 1) (pp_var 2)) ap_nil))))))
    (ss_one (sm_ret (om_m (pm_p pp_bl))))
    ss_nil)))
    (ss_one (sm_ret (om_m (pm_p pp_bl))))))))))
theorem ok__law_same {f : Addr} {fd : FuncData} {k : Nat} (F : FnP K "_law_same" s__law_same f fd) (hm : mg "_law_same" = some (.ref f)) (c : Fx K w mg)  :
  ∀ m, FnM P w K mg base T er (k + 1 + m) "_law_same" 2 [] (f__law_same m) :=
  FnM.upto (j := 0) (fn_no F hm sc__law_same rfl (fun _ _ _ _ _ _ us hl => match us, hl with | [_, _], _ => rfl)) fun m h => ok1__law_same F hm c  h
/-! ### _law_many_parts -/
abbrev s__law_many_parts : Stmt := top 38
abbrev N__law_many_parts : List Str := ["_law_turn", "_law_parts", "_law_groups", "_law_rows", "_law_choices", "_law_choice", "_law_k"]
theorem sc__law_many_parts : FnScope N__law_many_parts ["_law_turn"] (defScope s__law_many_parts) := ⟨rfl, rfl, rfl, by decide +kernel, rfl, by decide +kernel, by decide +kernel⟩
theorem ok__law_many_parts {f : Addr} {fd : FuncData} {k : Nat} (F : FnP K "_law_many_parts" s__law_many_parts f fd) (hm : mg "_law_many_parts" = some (.ref f)) (c : Fx K w mg)  :
  FnM P w K mg base T er (k + 1) "_law_many_parts" 1 [] f__law_many_parts :=
  fn_mkN F hm sc__law_many_parts rfl rfl rfl rfl (fun _ _ _ _ _ _ us hl => match us, hl with | [_], _ => rfl) (fun cdv A outer s H E hr =>
    (ss_cons (sm_set 1 rfl sc__law_many_parts.nd (om_m (pm_p (pp_callTy cd_tuple rfl c.b_tuple (by decide +kernel) (ap_cons (pf_pp (pf_lc (own := [("_law_k", 6)]) rfl sc__law_many_parts.nd (id_range1 rfl c.b_range (ap_cons pp_int ap_nil)) (blkOk_by (N := N__law_many_parts) (sc := defScope s__law_many_parts) (by decide +kernel)) (fun s H C cl fp => (tg_nm 6 sc__law_many_parts.nd)) (fun s H C cl fp => ts_nil) (fun s H C cl fp => (pp_tup (ap_cons pp_str (ap_cons (pp_tup (ap_cons (pp_bin od_add (pp_var 0) (pp_var 6)) ap_nil)) (ap_cons (pp_tup (ap_cons (pp_tup (ap_cons (pp_tup (ap_cons (pp_var 6) (ap_cons pp_int ap_nil))) (ap_cons (pp_var 6) ap_nil))) ap_nil)) (ap_cons (pp_tup (ap_cons (pp_var 6) (ap_cons pp_int ap_nil))) (ap_cons (pp_tup (ap_cons (pp_tup (ap_cons (pp_tup (ap_cons (pp_var 6) (ap_cons pp_int ap_nil))) (ap_cons pp_int ap_nil))) (ap_cons (pp_tup (ap_cons (pp_tup (ap_cons pp_int ap_nil)) (ap_cons (pp_var 6) ap_nil))) ap_nil))) ap_nil))))))))) ap_nil)))))
    (ss_cons (sm_set 2 rfl sc__law_many_parts.nd (om_m (pm_p (pp_callTy cd_tuple rfl c.b_tuple (by decide +kernel) (ap_cons (pf_pp (pf_lc (own := [("_law_k", 6)]) rfl sc__law_many_parts.nd (id_range1 rfl c.b_range (ap_cons pp_int ap_nil)) (blkOk_by (N := N__law_many_parts) (sc := defScope s__law_many_parts) (by decide +kernel)) (fun s H C cl fp => (tg_nm 6 sc__law_many_parts.nd)) (fun s H C cl fp => ts_nil) (fun s H C cl fp => (pp_tup (ap_cons (pp_tup (ap_cons (pp_var 6) (ap_cons (pp_bin od_add (pp_var 6) (pp_var 0)) ap_nil))) (ap_cons (pp_bin od_sub pp_int (pp_bin od_mul pp_int (pp_var 6))) ap_nil)))))) ap_nil)))))
    (ss_cons (sm_set 3 rfl sc__law_many_parts.nd (om_m (pm_p (pp_callTy cd_tuple rfl c.b_tuple (by decide +kernel) (ap_cons (pf_pp (pf_lc (own := [("_law_k", 6)]) rfl sc__law_many_parts.nd (id_range1 rfl c.b_range (ap_cons pp_int ap_nil)) (blkOk_by (N := N__law_many_parts) (sc := defScope s__law_many_parts) (by decide +kernel)) (fun s H C cl fp => (tg_nm 6 sc__law_many_parts.nd)) (fun s H C cl fp => ts_nil) (fun s H C cl fp => (pp_tup (ap_cons (pp_bin od_mod (pp_callTy cd_int rfl c.b_int (by decide +kernel) (ap_cons (pp_bin od_mul (pp_var 6) (pp_var 0)) ap_nil)) pp_int) (ap_cons (pp_bin od_add pp_int (pp_var 6)) ap_nil)))))) ap_nil)))))
    (ss_cons (sm_set 4 rfl sc__law_many_parts.nd (om_m (pm_p (pf_pp (pf_lst (ap_cons (pp_tup (ap_cons pp_str (ap_cons (pp_var 1) ap_nil))) (ap_cons (pp_tup (ap_cons pp_str (ap_cons (pp_tup (ap_cons pp_int (ap_cons pp_int (ap_cons pp_int ap_nil)))) (ap_cons (pp_var 2) (ap_cons (pp_tup ap_nil) (ap_cons (pp_revT (pp_var 2)) ap_nil)))))) (ap_cons (pp_tup (ap_cons pp_str (ap_cons (pp_var 3) ap_nil))) ap_nil))))))))
    (ss_one (sm_ret (om_m (pm_p (pf_pp (pf_lc (own := [("_law_choice", 5)]) rfl sc__law_many_parts.nd (id_seq (pp_var 4)) (blkOk_by (N := N__law_many_parts) (sc := defScope s__law_many_parts) (by decide +kernel)) (fun s H C cl fp => (tg_nm 5 sc__law_many_parts.nd)) (fun s H C cl fp => ts_nil) (fun s H C cl fp => (pp_tup (ap_cons pp_str (ap_cons (pp_var 0) (ap_cons (pp_var 5) ap_nil))))))))))))))))
/-! ### law -/
abbrev s_law : Stmt := top 39
abbrev N_law : List Str := ["_law_script", "_law_draws_here", "_law_deeds", "_law_lines", "_law_text", "_law_actual", "_law_k", "_law_deed"]
theorem sc_law : FnScope N_law ["_law_script"] (defScope s_law) := ⟨rfl, rfl, rfl, by decide +kernel, rfl, by decide +kernel, by decide +kernel⟩
theorem okR_law {f : Addr} {fd : FuncData} {k : Nat} (F : FnP K "law" s_law f fd) (c : Fx K w mg) (H__law_any_deed : FnM P w K mg base T er k "_law_any_deed" 2 [1] f__law_any_deed) (H__law_draws : FnM P w K mg base T er k "_law_draws" 2 [] f__law_draws) (H__law_line : FnM P w K mg base T er k "_law_line" 1 [] f__law_line) (H__law_many_parts : FnM P w K mg base T er k "_law_many_parts" 1 [] f__law_many_parts) (H__law_same : FnM P w K mg base T er k "_law_same" 2 [] (f__law_same 12)) (H__law_take : FnM P w K mg base T er k "_law_take" 2 [0] f__law_take) (H_read_journal : FnM P w K mg base T er k "read_journal" 1 [] f_read_journal) (H_write_journal : FnM P w K mg base T er k "write_journal" 1 [] f_write_journal) :
  FnOk P w K mg base CX0 (k + 1) f fd ["_law_script"] (spD K T er [] 1 f_law) :=
  fnok_mk F sc_law rfl rfl rfl rfl (fun cdv A outer s H E hr =>
    (ss_cons (sm_set 1 rfl sc_law.nd (om_fn H__law_draws hr rfl passL (gm_fr (pm_p (pp_var 0)) (gm_fr (pm_p pp_int) gm_nil))))
    (ss_cons (sm_setLc 2 rfl rfl sc_law.nd (lcd_m (hpn := by rfl) (own := [("_law_k", 6)]) (im_range1 rfl c.b_range (am_cons (pm_o (om_fn H__law_take hr rfl passL (gm_sl 1 (gm_fr (pm_p pp_int) gm_nil)))) am_nil)) (fun s H C cl fp => (tg_nm 6 sc_law.nd)) (fun s H C cl fp => tsm_nil) (fun s H C cl fp => (pm_o (om_fn H__law_any_deed hr rfl passL (gm_fr (pm_p (pp_var 0)) (gm_sl 1 gm_nil)))))) (blkOk_by (N := N_law) (sc := defScope s_law) (by decide +kernel)) (sw_true rfl rfl rfl (by decide +kernel)))
    (ss_cons (sm_if (tm_cmp (od_eq (hu64 hr)) (pm_o (om_fn H__law_take hr rfl passL (gm_sl 1 (gm_fr (pm_p pp_int) gm_nil)))) (pm_p pp_int) (nomark _))
    (ss_one (sm_set 2 rfl sc_law.nd (om_m (pm_p (pf_pp (pf_rep (pp_var 2) pp_int))))))
    ss_nil)
    (ss_cons (sm_if (tm_cmp (od_eq (hu64 hr)) (pm_o (om_fn H__law_take hr rfl passL (gm_sl 1 (gm_fr (pm_p pp_int) gm_nil)))) (pm_p pp_int) (nomark _))
    (ss_one (sm_set 2 rfl sc_law.nd (om_m (fm_pm (fm_cat (pm_o (om_fn H__law_many_parts hr rfl passL (gm_fr (pm_bin od_add (pm_p pp_int) (pm_o (om_fn H__law_take hr rfl passL (gm_sl 1 (gm_fr (pm_p pp_int) gm_nil))))) gm_nil))) (pm_p (pf_pp (pf_sl (pp_var 2) od_none (od_some pp_int)))))))))
    ss_nil)
    (ss_cons (sm_setLc 3 rfl rfl sc_law.nd (lcd_p (own := [("_law_deed", 7)]) (id_seq (pp_var 2)) (fun s H C cl fp => (tg_nm 7 sc_law.nd)) (fun s H C cl fp => ts_nil) (fun s H C cl fp => (pp_bin od_add (pp_fn H__law_line hr rfl (ap_cons (pp_var 7) ap_nil)) pp_str))) (blkOk_by (N := N_law) (sc := defScope s_law) (by decide +kernel)) (sw_true rfl rfl rfl (by decide +kernel)))
    (ss_cons (sm_if (tm_p (tp_cmp od_gt (pp_callB cd_len rfl c.b_len (by decide +kernel) (ap_cons (pp_join pp_str (pp_var 3)) ap_nil)) pp_int (nomark _)))
    (ss_cons (sm_set 2 rfl sc_law.nd (om_m (pm_p (pf_pp (pf_sl (pp_var 2) od_none (od_some pp_int))))))
    (ss_one (sm_set 3 rfl sc_law.nd (om_m (pm_p (pf_pp (pf_sl (pp_var 3) od_none (od_some pp_int))))))))
    ss_nil)
    (ss_cons (sm_set 4 rfl sc_law.nd (om_m (pm_p (pp_join pp_str (pp_var 3)))))
    (ss_cons (sm_set 5 rfl sc_law.nd (om_m (pm_p (pp_fn H_write_journal hr rfl (ap_cons (pp_callTy cd_tuple rfl c.b_tuple (by decide +kernel) (ap_cons (pp_var 2) ap_nil)) ap_nil)))))
    (ss_cons (sm_if (tm_p (wp_tp (wp_or (tp_not (tp_val (pp_isi "str" (pp_var 5) rfl c.b_isinstance rfl c.b_str (by decide +kernel)))) (wp_or (tp_cmp (od_ne (hu64 hr)) (pp_var 5) (pp_var 4) (nomark _)) (wp_or1 (tp_not (tp_val (pp_fn H__law_same hr rfl (ap_cons (pp_fn H_read_journal hr rfl (ap_cons (pp_var 4) ap_nil)) (ap_cons (pp_callTy cd_tuple rfl c.b_tuple (by decide +kernel) (ap_cons (pp_var 2) ap_nil)) ap_nil))))))))))
    (ss_one (sm_ret (om_m (pm_p pp_bl))))
    ss_nil)
    (ss_cons (sm_for .never rfl rfl (im_range1 rfl c.b_range (am_cons (pm_p (pp_callB (cd_min rfl) rfl c.b_min (by decide +kernel) (ap_cons pp_int (ap_cons (pp_callB cd_len rfl c.b_len (by decide +kernel) (ap_cons (pp_var 2) ap_nil)) ap_nil)))) am_nil)) (tg_nm 6 sc_law.nd)
    (ss_one (sm_if (tm_p (tp_not (tp_val (pp_fn H__law_same hr rfl (ap_cons (pp_fn H_read_journal hr rfl (ap_cons (pp_ix id_ix (pp_var 3) (pp_var 6)) ap_nil)) (ap_cons (pp_tup (ap_cons (pp_ix id_ix (pp_var 2) (pp_var 6)) ap_nil)) ap_nil))))))
    (ss_one (sm_ret (om_m (pm_p pp_bl))))
    ss_nil)))
    (ss_one (sm_ret (om_m (pm_p (pp_and (pp_cmp (od_eq (hu64 hr)) (pp_fn H_write_journal hr rfl (ap_cons (pp_tup ap_nil) ap_nil)) pp_str (nomark _)) (pp_one (pp_fn H__law_same hr rfl (ap_cons (pp_fn H_read_journal hr rfl (ap_cons pp_str ap_nil)) (ap_cons (pp_tup ap_nil) ap_nil))))))))))))))))))))
end
def dD_words_of : He.DefD := ⟨("words_of", none), "words_of", "words_of", defArgs s_words_of, defBody s_words_of, defScope s_words_of, [], []⟩
def dD_group_words : He.DefD := ⟨("group_words", none), "group_words", "group_words", defArgs s_group_words, defBody s_group_words, defScope s_group_words, [], []⟩
def dD_choice_words : He.DefD := ⟨("choice_words", none), "choice_words", "choice_words", defArgs s_choice_words, defBody s_choice_words, defScope s_choice_words, [], []⟩
def dD_deed_words : He.DefD := ⟨("deed_words", none), "deed_words", "deed_words", defArgs s_deed_words, defBody s_deed_words, defScope s_deed_words, [], []⟩
def dD_write_journal : He.DefD := ⟨("write_journal", none), "write_journal", "write_journal", defArgs s_write_journal, defBody s_write_journal, defScope s_write_journal, [], []⟩
def dD_is_integer_text : He.DefD := ⟨("is_integer_text", none), "is_integer_text", "is_integer_text", defArgs s_is_integer_text, defBody s_is_integer_text, defScope s_is_integer_text, [], []⟩
def dD_read_numbers : He.DefD := ⟨("read_numbers", none), "read_numbers", "read_numbers", defArgs s_read_numbers, defBody s_read_numbers, defScope s_read_numbers, [], []⟩
def dD_parts_behind : He.DefD := ⟨("parts_behind", none), "parts_behind", "parts_behind", defArgs s_parts_behind, defBody s_parts_behind, defScope s_parts_behind, [], []⟩
def dD_read_table : He.DefD := ⟨("read_table", none), "read_table", "read_table", defArgs s_read_table, defBody s_read_table, defScope s_read_table, [], []⟩
def dD_read_wishes : He.DefD := ⟨("read_wishes", none), "read_wishes", "read_wishes", defArgs s_read_wishes, defBody s_read_wishes, defScope s_read_wishes, [], []⟩
def dD_read_groups : He.DefD := ⟨("read_groups", none), "read_groups", "read_groups", defArgs s_read_groups, defBody s_read_groups, defScope s_read_groups, [], []⟩
def dD_read_side : He.DefD := ⟨("read_side", none), "read_side", "read_side", defArgs s_read_side, defBody s_read_side, defScope s_read_side, [], []⟩
def dD_read_caps : He.DefD := ⟨("read_caps", none), "read_caps", "read_caps", defArgs s_read_caps, defBody s_read_caps, defScope s_read_caps, [], []⟩
def dD_read_part : He.DefD := ⟨("read_part", none), "read_part", "read_part", defArgs s_read_part, defBody s_read_part, defScope s_read_part, [], []⟩
def dD_read_choice : He.DefD := ⟨("read_choice", none), "read_choice", "read_choice", defArgs s_read_choice, defBody s_read_choice, defScope s_read_choice, [], []⟩
def dD_read_deed : He.DefD := ⟨("read_deed", none), "read_deed", "read_deed", defArgs s_read_deed, defBody s_read_deed, defScope s_read_deed, [], []⟩
def dD_read_journal : He.DefD := ⟨("read_journal", none), "read_journal", "read_journal", defArgs s_read_journal, defBody s_read_journal, defScope s_read_journal, [], []⟩
def dD__law_draws : He.DefD := ⟨("_law_draws", none), "_law_draws", "_law_draws", defArgs s__law_draws, defBody s__law_draws, defScope s__law_draws, [], []⟩
def dD__law_take : He.DefD := ⟨("_law_take", none), "_law_take", "_law_take", defArgs s__law_take, defBody s__law_take, defScope s__law_take, [], []⟩
def dD__law_number : He.DefD := ⟨("_law_number", none), "_law_number", "_law_number", defArgs s__law_number, defBody s__law_number, defScope s__law_number, [], []⟩
def dD__law_numbers : He.DefD := ⟨("_law_numbers", none), "_law_numbers", "_law_numbers", defArgs s__law_numbers, defBody s__law_numbers, defScope s__law_numbers, [], []⟩
def dD__law_caps : He.DefD := ⟨("_law_caps", none), "_law_caps", "_law_caps", defArgs s__law_caps, defBody s__law_caps, defScope s__law_caps, [], []⟩
def dD__law_part : He.DefD := ⟨("_law_part", none), "_law_part", "_law_part", defArgs s__law_part, defBody s__law_part, defScope s__law_part, [], []⟩
def dD__law_any_deed : He.DefD := ⟨("_law_any_deed", none), "_law_any_deed", "_law_any_deed", defArgs s__law_any_deed, defBody s__law_any_deed, defScope s__law_any_deed, [], []⟩
def dD__law_texts : He.DefD := ⟨("_law_texts", none), "_law_texts", "_law_texts", defArgs s__law_texts, defBody s__law_texts, defScope s__law_texts, [], []⟩
def dD__law_group_words : He.DefD := ⟨("_law_group_words", none), "_law_group_words", "_law_group_words", defArgs s__law_group_words, defBody s__law_group_words, defScope s__law_group_words, [], []⟩
def dD__law_choice_words : He.DefD := ⟨("_law_choice_words", none), "_law_choice_words", "_law_choice_words", defArgs s__law_choice_words, defBody s__law_choice_words, defScope s__law_choice_words, [], []⟩
def dD__law_line : He.DefD := ⟨("_law_line", none), "_law_line", "_law_line", defArgs s__law_line, defBody s__law_line, defScope s__law_line, [], []⟩
def dD__law_same : He.DefD := ⟨("_law_same", none), "_law_same", "_law_same", defArgs s__law_same, defBody s__law_same, defScope s__law_same, [], []⟩
def dD__law_many_parts : He.DefD := ⟨("_law_many_parts", none), "_law_many_parts", "_law_many_parts", defArgs s__law_many_parts, defBody s__law_many_parts, defScope s__law_many_parts, [], []⟩
def dD_law : He.DefD := ⟨("law", none), "law", "law", defArgs s_law, defBody s_law, defScope s_law, [], []⟩
def fnL : List He.DefD := [dD_words_of, dD_group_words, dD_choice_words, dD_deed_words, dD_write_journal, dD_is_integer_text, dD_read_numbers, dD_parts_behind, dD_read_table, dD_read_wishes, dD_read_groups, dD_read_side, dD_read_caps, dD_read_part, dD_read_choice, dD_read_deed, dD_read_journal, dD__law_draws, dD__law_take, dD__law_number, dD__law_numbers, dD__law_caps, dD__law_part, dD__law_any_deed, dD__law_texts, dD__law_group_words, dD__law_choice_words, dD__law_line, dD__law_same, dD__law_many_parts, dD_law]
def fa0 : List He.Fa := [.glo "words_of", .glo "group_words", .glo "choice_words", .glo "deed_words", .glo "write_journal", .glo "is_integer_text", .glo "read_numbers", .glo "parts_behind", .glo "read_table", .glo "read_wishes", .glo "read_groups", .glo "read_side", .glo "read_caps", .glo "read_part", .glo "read_choice", .glo "read_deed", .glo "read_journal", .glo "_law_draws", .glo "_law_take", .glo "_law_number", .glo "_law_numbers", .glo "_law_caps", .glo "_law_part", .glo "_law_any_deed", .glo "_law_texts", .glo "_law_group_words", .glo "_law_choice_words", .glo "_law_line", .glo "_law_same", .glo "_law_many_parts"]
def fa1 : List He.Fa := [.glo "law", .free "all", .free "bool", .free "enumerate", .free "int", .free "isinstance", .free "len", .free "list", .free "min", .free "range", .free "str", .free "tuple", .str "DIGITS" "0123456789", .int "MOST_DIGITS" (60), .glo "NUMBERS"]
def faL : List He.Fa := fa0 ++ fa1
def tsL : List He.Tab := [(fun K => He.ga K "NUMBERS", ks_NUMBERS)]
def exL (K : PySem.W.Frag) : Bool := He.valsB K (He.ga K "NUMBERS") (tb_NUMBERS.map fun p => (p.1, He.Dv.int p.2))
theorem facts {P : Program} {w : World} {K : PySem.W.Frag} {h : Heap} {mg : Str → Option Value} {f : Addr} (KX : K.In h) (G : h.Ns mainGlobals mg) (hfa : mg "law" = some (.ref f)) (cc : He.SaysX faL fnL tsL [] exL w h K) :
  ∃ fd : FuncData, (∀ (s : Shared) (u : Value), BindsTo s fd ⟨[u], []⟩ [("_law_script", u)]) ∧ ∀ base : Heap, K.In base → base.Ns mainGlobals mg → FnOk P w K mg base CX0 14 f fd ["_law_script"] (spD K T0 er0 [] 1 f_law) := by
  have d := cc.t.d
  obtain ⟨fd_words_of, F0_words_of⟩ := d.def_ 0 (d := dD_words_of) rfl
  have F_words_of : FnP K "words_of" s_words_of (He.ga K "words_of") fd_words_of := F0_words_of
  have m_words_of : mg "words_of" = some (.ref (He.ga K "words_of")) := He.glo_ok KX G (d.fact 0 (f := .glo "words_of") rfl)
  obtain ⟨fd_group_words, F0_group_words⟩ := d.def_ 1 (d := dD_group_words) rfl
  have F_group_words : FnP K "group_words" s_group_words (He.ga K "group_words") fd_group_words := F0_group_words
  have m_group_words : mg "group_words" = some (.ref (He.ga K "group_words")) := He.glo_ok KX G (d.fact 1 (f := .glo "group_words") rfl)
  obtain ⟨fd_choice_words, F0_choice_words⟩ := d.def_ 2 (d := dD_choice_words) rfl
  have F_choice_words : FnP K "choice_words" s_choice_words (He.ga K "choice_words") fd_choice_words := F0_choice_words
  have m_choice_words : mg "choice_words" = some (.ref (He.ga K "choice_words")) := He.glo_ok KX G (d.fact 2 (f := .glo "choice_words") rfl)
  obtain ⟨fd_deed_words, F0_deed_words⟩ := d.def_ 3 (d := dD_deed_words) rfl
  have F_deed_words : FnP K "deed_words" s_deed_words (He.ga K "deed_words") fd_deed_words := F0_deed_words
  have m_deed_words : mg "deed_words" = some (.ref (He.ga K "deed_words")) := He.glo_ok KX G (d.fact 3 (f := .glo "deed_words") rfl)
  obtain ⟨fd_write_journal, F0_write_journal⟩ := d.def_ 4 (d := dD_write_journal) rfl
  have F_write_journal : FnP K "write_journal" s_write_journal (He.ga K "write_journal") fd_write_journal := F0_write_journal
  have m_write_journal : mg "write_journal" = some (.ref (He.ga K "write_journal")) := He.glo_ok KX G (d.fact 4 (f := .glo "write_journal") rfl)
  obtain ⟨fd_is_integer_text, F0_is_integer_text⟩ := d.def_ 5 (d := dD_is_integer_text) rfl
  have F_is_integer_text : FnP K "is_integer_text" s_is_integer_text (He.ga K "is_integer_text") fd_is_integer_text := F0_is_integer_text
  have m_is_integer_text : mg "is_integer_text" = some (.ref (He.ga K "is_integer_text")) := He.glo_ok KX G (d.fact 5 (f := .glo "is_integer_text") rfl)
  obtain ⟨fd_read_numbers, F0_read_numbers⟩ := d.def_ 6 (d := dD_read_numbers) rfl
  have F_read_numbers : FnP K "read_numbers" s_read_numbers (He.ga K "read_numbers") fd_read_numbers := F0_read_numbers
  have m_read_numbers : mg "read_numbers" = some (.ref (He.ga K "read_numbers")) := He.glo_ok KX G (d.fact 6 (f := .glo "read_numbers") rfl)
  obtain ⟨fd_parts_behind, F0_parts_behind⟩ := d.def_ 7 (d := dD_parts_behind) rfl
  have F_parts_behind : FnP K "parts_behind" s_parts_behind (He.ga K "parts_behind") fd_parts_behind := F0_parts_behind
  have m_parts_behind : mg "parts_behind" = some (.ref (He.ga K "parts_behind")) := He.glo_ok KX G (d.fact 7 (f := .glo "parts_behind") rfl)
  obtain ⟨fd_read_table, F0_read_table⟩ := d.def_ 8 (d := dD_read_table) rfl
  have F_read_table : FnP K "read_table" s_read_table (He.ga K "read_table") fd_read_table := F0_read_table
  have m_read_table : mg "read_table" = some (.ref (He.ga K "read_table")) := He.glo_ok KX G (d.fact 8 (f := .glo "read_table") rfl)
  obtain ⟨fd_read_wishes, F0_read_wishes⟩ := d.def_ 9 (d := dD_read_wishes) rfl
  have F_read_wishes : FnP K "read_wishes" s_read_wishes (He.ga K "read_wishes") fd_read_wishes := F0_read_wishes
  have m_read_wishes : mg "read_wishes" = some (.ref (He.ga K "read_wishes")) := He.glo_ok KX G (d.fact 9 (f := .glo "read_wishes") rfl)
  obtain ⟨fd_read_groups, F0_read_groups⟩ := d.def_ 10 (d := dD_read_groups) rfl
  have F_read_groups : FnP K "read_groups" s_read_groups (He.ga K "read_groups") fd_read_groups := F0_read_groups
  have m_read_groups : mg "read_groups" = some (.ref (He.ga K "read_groups")) := He.glo_ok KX G (d.fact 10 (f := .glo "read_groups") rfl)
  obtain ⟨fd_read_side, F0_read_side⟩ := d.def_ 11 (d := dD_read_side) rfl
  have F_read_side : FnP K "read_side" s_read_side (He.ga K "read_side") fd_read_side := F0_read_side
  have m_read_side : mg "read_side" = some (.ref (He.ga K "read_side")) := He.glo_ok KX G (d.fact 11 (f := .glo "read_side") rfl)
  obtain ⟨fd_read_caps, F0_read_caps⟩ := d.def_ 12 (d := dD_read_caps) rfl
  have F_read_caps : FnP K "read_caps" s_read_caps (He.ga K "read_caps") fd_read_caps := F0_read_caps
  have m_read_caps : mg "read_caps" = some (.ref (He.ga K "read_caps")) := He.glo_ok KX G (d.fact 12 (f := .glo "read_caps") rfl)
  obtain ⟨fd_read_part, F0_read_part⟩ := d.def_ 13 (d := dD_read_part) rfl
  have F_read_part : FnP K "read_part" s_read_part (He.ga K "read_part") fd_read_part := F0_read_part
  have m_read_part : mg "read_part" = some (.ref (He.ga K "read_part")) := He.glo_ok KX G (d.fact 13 (f := .glo "read_part") rfl)
  obtain ⟨fd_read_choice, F0_read_choice⟩ := d.def_ 14 (d := dD_read_choice) rfl
  have F_read_choice : FnP K "read_choice" s_read_choice (He.ga K "read_choice") fd_read_choice := F0_read_choice
  have m_read_choice : mg "read_choice" = some (.ref (He.ga K "read_choice")) := He.glo_ok KX G (d.fact 14 (f := .glo "read_choice") rfl)
  obtain ⟨fd_read_deed, F0_read_deed⟩ := d.def_ 15 (d := dD_read_deed) rfl
  have F_read_deed : FnP K "read_deed" s_read_deed (He.ga K "read_deed") fd_read_deed := F0_read_deed
  have m_read_deed : mg "read_deed" = some (.ref (He.ga K "read_deed")) := He.glo_ok KX G (d.fact 15 (f := .glo "read_deed") rfl)
  obtain ⟨fd_read_journal, F0_read_journal⟩ := d.def_ 16 (d := dD_read_journal) rfl
  have F_read_journal : FnP K "read_journal" s_read_journal (He.ga K "read_journal") fd_read_journal := F0_read_journal
  have m_read_journal : mg "read_journal" = some (.ref (He.ga K "read_journal")) := He.glo_ok KX G (d.fact 16 (f := .glo "read_journal") rfl)
  obtain ⟨fd__law_draws, F0__law_draws⟩ := d.def_ 17 (d := dD__law_draws) rfl
  have F__law_draws : FnP K "_law_draws" s__law_draws (He.ga K "_law_draws") fd__law_draws := F0__law_draws
  have m__law_draws : mg "_law_draws" = some (.ref (He.ga K "_law_draws")) := He.glo_ok KX G (d.fact 17 (f := .glo "_law_draws") rfl)
  obtain ⟨fd__law_take, F0__law_take⟩ := d.def_ 18 (d := dD__law_take) rfl
  have F__law_take : FnP K "_law_take" s__law_take (He.ga K "_law_take") fd__law_take := F0__law_take
  have m__law_take : mg "_law_take" = some (.ref (He.ga K "_law_take")) := He.glo_ok KX G (d.fact 18 (f := .glo "_law_take") rfl)
  obtain ⟨fd__law_number, F0__law_number⟩ := d.def_ 19 (d := dD__law_number) rfl
  have F__law_number : FnP K "_law_number" s__law_number (He.ga K "_law_number") fd__law_number := F0__law_number
  have m__law_number : mg "_law_number" = some (.ref (He.ga K "_law_number")) := He.glo_ok KX G (d.fact 19 (f := .glo "_law_number") rfl)
  obtain ⟨fd__law_numbers, F0__law_numbers⟩ := d.def_ 20 (d := dD__law_numbers) rfl
  have F__law_numbers : FnP K "_law_numbers" s__law_numbers (He.ga K "_law_numbers") fd__law_numbers := F0__law_numbers
  have m__law_numbers : mg "_law_numbers" = some (.ref (He.ga K "_law_numbers")) := He.glo_ok KX G (d.fact 20 (f := .glo "_law_numbers") rfl)
  obtain ⟨fd__law_caps, F0__law_caps⟩ := d.def_ 21 (d := dD__law_caps) rfl
  have F__law_caps : FnP K "_law_caps" s__law_caps (He.ga K "_law_caps") fd__law_caps := F0__law_caps
  have m__law_caps : mg "_law_caps" = some (.ref (He.ga K "_law_caps")) := He.glo_ok KX G (d.fact 21 (f := .glo "_law_caps") rfl)
  obtain ⟨fd__law_part, F0__law_part⟩ := d.def_ 22 (d := dD__law_part) rfl
  have F__law_part : FnP K "_law_part" s__law_part (He.ga K "_law_part") fd__law_part := F0__law_part
  have m__law_part : mg "_law_part" = some (.ref (He.ga K "_law_part")) := He.glo_ok KX G (d.fact 22 (f := .glo "_law_part") rfl)
  obtain ⟨fd__law_any_deed, F0__law_any_deed⟩ := d.def_ 23 (d := dD__law_any_deed) rfl
  have F__law_any_deed : FnP K "_law_any_deed" s__law_any_deed (He.ga K "_law_any_deed") fd__law_any_deed := F0__law_any_deed
  have m__law_any_deed : mg "_law_any_deed" = some (.ref (He.ga K "_law_any_deed")) := He.glo_ok KX G (d.fact 23 (f := .glo "_law_any_deed") rfl)
  obtain ⟨fd__law_texts, F0__law_texts⟩ := d.def_ 24 (d := dD__law_texts) rfl
  have F__law_texts : FnP K "_law_texts" s__law_texts (He.ga K "_law_texts") fd__law_texts := F0__law_texts
  have m__law_texts : mg "_law_texts" = some (.ref (He.ga K "_law_texts")) := He.glo_ok KX G (d.fact 24 (f := .glo "_law_texts") rfl)
  obtain ⟨fd__law_group_words, F0__law_group_words⟩ := d.def_ 25 (d := dD__law_group_words) rfl
  have F__law_group_words : FnP K "_law_group_words" s__law_group_words (He.ga K "_law_group_words") fd__law_group_words := F0__law_group_words
  have m__law_group_words : mg "_law_group_words" = some (.ref (He.ga K "_law_group_words")) := He.glo_ok KX G (d.fact 25 (f := .glo "_law_group_words") rfl)
  obtain ⟨fd__law_choice_words, F0__law_choice_words⟩ := d.def_ 26 (d := dD__law_choice_words) rfl
  have F__law_choice_words : FnP K "_law_choice_words" s__law_choice_words (He.ga K "_law_choice_words") fd__law_choice_words := F0__law_choice_words
  have m__law_choice_words : mg "_law_choice_words" = some (.ref (He.ga K "_law_choice_words")) := He.glo_ok KX G (d.fact 26 (f := .glo "_law_choice_words") rfl)
  obtain ⟨fd__law_line, F0__law_line⟩ := d.def_ 27 (d := dD__law_line) rfl
  have F__law_line : FnP K "_law_line" s__law_line (He.ga K "_law_line") fd__law_line := F0__law_line
  have m__law_line : mg "_law_line" = some (.ref (He.ga K "_law_line")) := He.glo_ok KX G (d.fact 27 (f := .glo "_law_line") rfl)
  obtain ⟨fd__law_same, F0__law_same⟩ := d.def_ 28 (d := dD__law_same) rfl
  have F__law_same : FnP K "_law_same" s__law_same (He.ga K "_law_same") fd__law_same := F0__law_same
  have m__law_same : mg "_law_same" = some (.ref (He.ga K "_law_same")) := He.glo_ok KX G (d.fact 28 (f := .glo "_law_same") rfl)
  obtain ⟨fd__law_many_parts, F0__law_many_parts⟩ := d.def_ 29 (d := dD__law_many_parts) rfl
  have F__law_many_parts : FnP K "_law_many_parts" s__law_many_parts (He.ga K "_law_many_parts") fd__law_many_parts := F0__law_many_parts
  have m__law_many_parts : mg "_law_many_parts" = some (.ref (He.ga K "_law_many_parts")) := He.glo_ok KX G (d.fact 29 (f := .glo "_law_many_parts") rfl)
  obtain ⟨fd_law, F0_law⟩ := d.def_ 30 (d := dD_law) rfl
  have F_law : FnP K "law" s_law (He.ga K "law") fd_law := F0_law
  have m_law : mg "law" = some (.ref (He.ga K "law")) := He.glo_ok KX G (d.fact 30 (f := .glo "law") rfl)
  obtain ⟨es_NUMBERS, n_NUMBERS, kd_NUMBERS⟩ := cc.t.tab 0 (t := (fun K => He.ga K "NUMBERS", ks_NUMBERS)) rfl
  have ex := cc.more
  let c : Fx K w mg := { b_all := He.free_ok KX G (d.fact 31 (f := .free "all") rfl), b_bool := He.free_ok KX G (d.fact 32 (f := .free "bool") rfl), b_enumerate := He.free_ok KX G (d.fact 33 (f := .free "enumerate") rfl), b_int := He.free_ok KX G (d.fact 34 (f := .free "int") rfl), b_isinstance := He.free_ok KX G (d.fact 35 (f := .free "isinstance") rfl), b_len := He.free_ok KX G (d.fact 36 (f := .free "len") rfl), b_list := He.free_ok KX G (d.fact 37 (f := .free "list") rfl), b_min := He.free_ok KX G (d.fact 38 (f := .free "min") rfl), b_range := He.free_ok KX G (d.fact 39 (f := .free "range") rfl), b_str := He.free_ok KX G (d.fact 40 (f := .free "str") rfl), b_tuple := He.free_ok KX G (d.fact 41 (f := .free "tuple") rfl), c_DIGITS := He.str_ok KX G (d.fact 42 (f := .str "DIGITS" "0123456789") rfl), c_MOST_DIGITS := He.int_ok KX G (d.fact 43 (f := .int "MOST_DIGITS" (60)) rfl), d_NUMBERS := ⟨He.ga K "NUMBERS", es_NUMBERS, n_NUMBERS, kd_NUMBERS, He.glo_ok KX G (d.fact 44 (f := .glo "NUMBERS") rfl), tb_of ex, ks_of ex⟩ }
  have e := hfa.symm.trans m_law
  cases e
  have b := FunD.bindsA (ps := ["_law_script"]) F_law fun _ _ _ _ _ _ us hl => match us, hl with | [_], _ => rfl
  refine ⟨fd_law, fun s v => b s [v] rfl, fun base _ _ => ?_⟩
  have H_words_of : FnM P w K mg base T0 er0 1 "words_of" 1 [] f_words_of := ok_words_of F_words_of m_words_of c 
  have H_group_words : FnM P w K mg base T0 er0 2 "group_words" 1 [] f_group_words := ok_group_words F_group_words m_group_words c (H_words_of.mono (by decide))
  have H_choice_words : FnM P w K mg base T0 er0 11 "choice_words" 1 [] (f_choice_words 8) := ok_choice_words F_choice_words m_choice_words c (H_group_words.mono (by decide)) (H_words_of.mono (by decide)) 8
  have H_deed_words : FnM P w K mg base T0 er0 12 "deed_words" 1 [] f_deed_words := ok_deed_words F_deed_words m_deed_words c (H_choice_words.mono (by decide)) (H_words_of.mono (by decide))
  have H_write_journal : FnM P w K mg base T0 er0 13 "write_journal" 1 [] f_write_journal := ok_write_journal F_write_journal m_write_journal c (H_deed_words.mono (by decide))
  have H_is_integer_text : FnM P w K mg base T0 er0 1 "is_integer_text" 1 [] f_is_integer_text := ok_is_integer_text F_is_integer_text m_is_integer_text c 
  have H_read_numbers : FnM P w K mg base T0 er0 2 "read_numbers" 1 [] f_read_numbers := ok_read_numbers F_read_numbers m_read_numbers c (H_is_integer_text.mono (by decide))
  have H_parts_behind : FnM P w K mg base T0 er0 1 "parts_behind" 2 [] f_parts_behind := ok_parts_behind F_parts_behind m_parts_behind c 
  have H_read_table : FnM P w K mg base T0 er0 3 "read_table" 1 [] f_read_table := ok_read_table F_read_table m_read_table c (H_parts_behind.mono (by decide)) (H_read_numbers.mono (by decide))
  have H_read_wishes : FnM P w K mg base T0 er0 3 "read_wishes" 2 [] f_read_wishes := ok_read_wishes F_read_wishes m_read_wishes c (H_read_numbers.mono (by decide))
  have H_read_groups : FnM P w K mg base T0 er0 3 "read_groups" 1 [] f_read_groups := ok_read_groups F_read_groups m_read_groups c (H_parts_behind.mono (by decide)) (H_read_numbers.mono (by decide))
  have H_read_side : FnM P w K mg base T0 er0 4 "read_side" 1 [] f_read_side := ok_read_side F_read_side m_read_side c (H_read_groups.mono (by decide)) (H_read_numbers.mono (by decide))
  have H_read_caps : FnM P w K mg base T0 er0 5 "read_caps" 1 [] f_read_caps := ok_read_caps F_read_caps m_read_caps c (H_read_side.mono (by decide))
  have H_read_part : FnM P w K mg base T0 er0 6 "read_part" 1 [] f_read_part := ok_read_part F_read_part m_read_part c (H_read_caps.mono (by decide)) (H_read_table.mono (by decide)) (H_read_wishes.mono (by decide))
  have H_read_choice : FnM P w K mg base T0 er0 7 "read_choice" 1 [] f_read_choice := ok_read_choice F_read_choice m_read_choice c (H_parts_behind.mono (by decide)) (H_read_part.mono (by decide))
  have H_read_deed : FnM P w K mg base T0 er0 8 "read_deed" 1 [] f_read_deed := ok_read_deed F_read_deed m_read_deed c (H_read_choice.mono (by decide)) (H_read_numbers.mono (by decide))
  have H_read_journal : FnM P w K mg base T0 er0 9 "read_journal" 1 [] f_read_journal := ok_read_journal F_read_journal m_read_journal c (H_read_deed.mono (by decide))
  have H__law_draws : FnM P w K mg base T0 er0 1 "_law_draws" 2 [] f__law_draws := ok__law_draws F__law_draws m__law_draws c 
  have H__law_take : FnM P w K mg base T0 er0 1 "_law_take" 2 [0] f__law_take := ok__law_take F__law_take m__law_take c 
  have H__law_number : FnM P w K mg base T0 er0 2 "_law_number" 2 [1] f__law_number := ok__law_number F__law_number m__law_number c (H__law_take.mono (by decide))
  have H__law_numbers : FnM P w K mg base T0 er0 3 "_law_numbers" 3 [1] f__law_numbers := ok__law_numbers F__law_numbers m__law_numbers c (H__law_number.mono (by decide)) (H__law_take.mono (by decide))
  have H__law_caps : FnM P w K mg base T0 er0 4 "_law_caps" 2 [1] f__law_caps := ok__law_caps F__law_caps m__law_caps c (H__law_number.mono (by decide)) (H__law_numbers.mono (by decide)) (H__law_take.mono (by decide))
  have H__law_part : FnM P w K mg base T0 er0 5 "_law_part" 2 [1] f__law_part := ok__law_part F__law_part m__law_part c (H__law_caps.mono (by decide)) (H__law_number.mono (by decide)) (H__law_numbers.mono (by decide)) (H__law_take.mono (by decide))
  have H__law_any_deed : FnM P w K mg base T0 er0 6 "_law_any_deed" 2 [1] f__law_any_deed := ok__law_any_deed F__law_any_deed m__law_any_deed c (H__law_number.mono (by decide)) (H__law_part.mono (by decide)) (H__law_take.mono (by decide))
  have H__law_texts : FnM P w K mg base T0 er0 1 "_law_texts" 1 [] f__law_texts := ok__law_texts F__law_texts m__law_texts c 
  have H__law_group_words : FnM P w K mg base T0 er0 2 "_law_group_words" 1 [] f__law_group_words := ok__law_group_words F__law_group_words m__law_group_words c (H__law_texts.mono (by decide))
  have H__law_choice_words : FnM P w K mg base T0 er0 11 "_law_choice_words" 1 [] (f__law_choice_words 8) := ok__law_choice_words F__law_choice_words m__law_choice_words c (H__law_group_words.mono (by decide)) (H__law_texts.mono (by decide)) 8
  have H__law_line : FnM P w K mg base T0 er0 12 "_law_line" 1 [] f__law_line := ok__law_line F__law_line m__law_line c (H__law_choice_words.mono (by decide)) (H__law_texts.mono (by decide))
  have H__law_same : FnM P w K mg base T0 er0 13 "_law_same" 2 [] (f__law_same 12) := ok__law_same F__law_same m__law_same c  12
  have H__law_many_parts : FnM P w K mg base T0 er0 1 "_law_many_parts" 1 [] f__law_many_parts := ok__law_many_parts F__law_many_parts m__law_many_parts c 
  exact okR_law F_law c (H__law_any_deed.mono (by decide)) (H__law_draws.mono (by decide)) (H__law_line.mono (by decide)) (H__law_many_parts.mono (by decide)) (H__law_same.mono (by decide)) (H__law_take.mono (by decide)) (H_read_journal.mono (by decide)) (H_write_journal.mono (by decide))
def loose0 : List Str := ["ContractError", "BadText", "DIGITS", "MOST_DIGITS", "words_of", "group_words", "choice_words", "is_integer_text", "read_numbers", "parts_behind", "read_table", "read_wishes", "read_groups", "read_side", "read_caps", "read_part", "read_choice", "NUMBERS", "deed_words", "write_journal", "read_deed", "read_journal", "_law_draws", "_law_take", "_law_number", "_law_numbers", "_law_caps", "_law_part", "_law_any_deed", "_law_texts"]
def loose1 : List Str := ["_law_group_words", "_law_choice_words", "_law_line", "_law_same", "_law_many_parts"]
def loose : List Str := loose0 ++ loose1
abbrev Rw : PySem.W.OpenRow := PySem.W.OpenLaw.row PySem.Challenge.rw_nochaingains_k98_journals_written_and_re
abbrev hk : PySem.W.Hook := He.hookX 4 faL fnL tsL [] exL
def ob (s : PySem.W.SharedT) : He.AlX := He.obsX 4 faL fnL tsL [] exL (HandSHeadRun.getT s)
theorem ob_eq (s : PySem.W.SharedT) : ob s = hk.obs s.abs := He.obsX_eq (HandSHeadRun.getT_eq s)
theorem run_false (w : World) : HandSHeadRun.RunEq Rw (PySem.W.view Rw.prog [39]) hk ob 3440 loose (w.withFollow "special-get-raises" false) := by
  intro os
  kernel_rfl
theorem run_true (w : World) : HandSHeadRun.RunEq Rw (PySem.W.view Rw.prog [39]) hk ob 3440 loose (w.withFollow "special-get-raises" true) := by
  intro os
  kernel_rfl
theorem run (w : World) : HandSHeadRun.RunEq Rw (PySem.W.view Rw.prog [39]) hk ob 3440 loose w := PySem.W.byRow2 "special-get-raises" (P := fun w => HandSHeadRun.RunEq Rw (PySem.W.view Rw.prog [39]) hk ob 3440 loose w) run_false run_true w
end K98

namespace K98
open PySem PySem.Spec PyProof.Rows L2 MV
/-! ## numbers as texts -/
def N60 (i : Int) : Prop := i.natAbs < 10 ^ 60
def nt (i : Int) : Str := Str.ofString (toString i)
theorem tl_neg (m : Nat) : TL.tl (Str.ofString (toString (Int.negSucc m))) = 45 :: TL.numL (m + 1) := by
  have h := TL.tl_num (m + 1)
  unfold TL.tl at h ⊢
  rw [ofString_tl] at h ⊢
  have e : (toString (Int.negSucc m)).toList = '-' :: (toString ((m + 1 : Nat) : Int)).toList := by
    show ("-" ++ Nat.repr (m + 1)).toList = '-' :: (Nat.repr (m + 1)).toList
    rw [String.toList_append]; rfl
  rw [e, List.map_cons, h]; rfl
theorem nt_pos {i : Int} (h : 0 ≤ i) : TL.tl (nt i) = TL.numL i.natAbs := by
  obtain ⟨n, rfl⟩ := Int.eq_ofNat_of_zero_le h
  exact TL.tl_num n
theorem nt_neg {i : Int} (h : i < 0) : TL.tl (nt i) = 45 :: TL.numL i.natAbs := by
  obtain ⟨m, rfl⟩ := Int.eq_negSucc_of_lt_zero h
  exact tl_neg m
theorem numL_head : ∀ n : Nat, n ≠ 0 → ∃ c cs, TL.numL n = c :: cs ∧ c ≠ 48 := by
  intro n
  induction n using Nat.strongRecOn with
  | _ n ih =>
    intro h0
    by_cases h : n < 10
    · exact ⟨48 + n, [], TL.numL_lt h, by omega⟩
    · obtain ⟨c, cs, e, hc⟩ := ih (n / 10) (by omega) (by omega)
      exact ⟨c, cs ++ [48 + n % 10], by rw [TL.numL_step (by omega), e]; rfl, hc⟩
theorem numL60 {i : Int} (h : N60 i) : (TL.numL i.natAbs).length ≤ 60 := TL.numL_len (by decide) h
theorem nt_len {i : Int} (h : N60 i) : (nt i).length ≤ 61 := by
  show (nt i).cps.size ≤ 61
  rw [← Array.length_toList]
  have h1 := numL60 h
  by_cases h0 : 0 ≤ i
  · have := nt_pos h0; unfold TL.tl at this; rw [this]; omega
  · have := nt_neg (show i < 0 by omega); unfold TL.tl at this; rw [this, List.length_cons]; omega
theorem dStr_nt {i : Int} (h : N60 i) : dStr [.int i] = some (.str (nt i)) := by
  have h1 := nt_len h
  have h2 : i.natAbs.log2 < 1920 := by
    by_cases h0 : i.natAbs = 0
    · rw [h0]; decide
    · refine (Nat.log2_lt h0).mpr (Nat.lt_of_lt_of_le h ?_)
      exact Nat.le_of_lt (by decide +kernel)
  exact if_pos ⟨h2, by show (nt i).length ≤ 1000000; omega⟩
theorem dInt_nt {i : Int} (h : N60 i) : dInt [.str (nt i)] = some (.int i) := by
  have h1 := nt_len h
  have e : PySem.intText? (nt i) = some i := by
    by_cases h0 : 0 ≤ i
    · obtain ⟨n, rfl⟩ := Int.eq_ofNat_of_zero_le h0
      exact TL.int_num (by have := numL60 h; simp at this; omega)
    · have e := nt_neg (show i < 0 by omega)
      have h3 := intText_neg (x := nt i) e (TL.numL_digits _) (TL.numL_ne _) (by omega)
      rw [h3, TL.numL_val]
      congr 1; omega
  refine (if_pos (show (nt i).length ≤ 640 by omega)).trans ?_
  rw [e]; rfl
def dNs (ns : List Int) : Dat := .tup (ns.map Dat.int)
def dWs (ws : List Str) : Dat := .lst (ws.map Dat.str)
def wN (ns : List Int) : List Str := ns.map nt
theorem words_of_eq (ns : List Int) (h : ∀ n ∈ ns, N60 n) : f_words_of [dNs ns] = .ok (dWs (wN ns)) [] := by
  have e : lcGo [some (dNs ns), none] [1] gNm sYes g_words_of_1 (ns.map Dat.int) = some (ns.map fun n => .str (nt n)) := by
    refine lcGo_nm _ _ _ fun n hn => ?_
    simp only [g_words_of_1, fnO, fnOf, oSeq, oSet, oIf, oRet, oRetN, oNil, oFor, oNever, oDrop, oAsg, oBk, oCt, Out.then, Rs.out, Rs.bind, Rs.of, mP, mFz, mOw, mMv, mVz, mO, sVar, sC, sBin, sUn, sNil, sCons, sArgs, sTup, sLstF, sTruB, sAnd, sOr, sNot, sIf, sF, sFn, pfn, sSeq, seqOf, sCat, sRep, sSl, sSlL, sPart, sNoP, sRevT, sRevL, sLC, wipeR, mSeqOf, mItA, sItA, gNm, gTp, gsNil, gsCons, setR, oget, dIx, L2.atI, L2.ixN, dEq, dNe, dAdd, dSub, dLt, dLe, dGt, dGe, dI0, dI2, dLen, dIs, dIsNot, Dat.isN, dNeg, sListOf, dTuple, dTup, sNotV, sAndV, sOrV, dJoin, mBin, mUn, mNil, mCons, mArgs, mLstF, mTru, mIf, mNot, mAnd, mOr, MV.cutD, HT.sIx, fz_non, fz_bl, fz_int, fz_str, fz_tup, fz_lst, fz_frl, fz_mls, fz_obj, str_beq, str_lit, List.map_cons, List.map_nil, List.length_cons, List.length_nil, List.length_map, List.replicate_succ, List.replicate_zero, List.cons_append, List.nil_append, List.getElem?_cons_zero, List.getElem?_cons_succ, List.set_cons_zero, List.set_cons_succ, Option.bind_some, Option.bind_none, Option.map_some, Option.map_none, if_true, if_false, Nat.reduceAdd, Nat.reduceSub, Nat.reduceLT, Nat.reduceLeDiff, Nat.reduceEqDiff, reduceIte, reduceCtorEq, decide_true, decide_false, Bool.not_true, Bool.not_false, Int.reduceLT, Int.reduceLE, String.reduceEq, Bool.false_eq_true, Bool.true_eq_false, eq_self, Int.toNat_zero, Int.toNat_one, Int.reduceToNat, Int.natCast_add, Int.reduceAdd, Int.reduceNeg, Int.reduceSub, Int.cast_ofNat_Int, Nat.add_one_sub_one]
    exact dStr_nt (h n hn)
  simp only [f_words_of, g_words_of, g_words_of_s0, dNs, fnO, fnOf, oSeq, oSet, oIf, oRet, oRetN, oNil, oFor, oNever, oDrop, oAsg, oBk, oCt, Out.then, Rs.out, Rs.bind, Rs.of, mP, mFz, mOw, mMv, mVz, mO, sVar, sC, sBin, sUn, sNil, sCons, sArgs, sTup, sLstF, sTruB, sAnd, sOr, sNot, sIf, sF, sFn, pfn, sSeq, seqOf, sCat, sRep, sSl, sSlL, sPart, sNoP, sRevT, sRevL, sLC, wipeR, mSeqOf, mItA, sItA, gNm, gTp, gsNil, gsCons, setR, oget, dIx, L2.atI, L2.ixN, dEq, dNe, dAdd, dSub, dLt, dLe, dGt, dGe, dI0, dI2, dLen, dIs, dIsNot, Dat.isN, dNeg, sListOf, dTuple, dTup, sNotV, sAndV, sOrV, dJoin, mBin, mUn, mNil, mCons, mArgs, mLstF, mTru, mIf, mNot, mAnd, mOr, MV.cutD, HT.sIx, fz_non, fz_bl, fz_int, fz_str, fz_tup, fz_lst, fz_frl, fz_mls, fz_obj, str_beq, str_lit, List.map_cons, List.map_nil, List.length_cons, List.length_nil, List.length_map, List.replicate_succ, List.replicate_zero, List.cons_append, List.nil_append, List.getElem?_cons_zero, List.getElem?_cons_succ, List.set_cons_zero, List.set_cons_succ, Option.bind_some, Option.bind_none, Option.map_some, Option.map_none, if_true, if_false, Nat.reduceAdd, Nat.reduceSub, Nat.reduceLT, Nat.reduceLeDiff, Nat.reduceEqDiff, reduceIte, reduceCtorEq, decide_true, decide_false, Bool.not_true, Bool.not_false, Int.reduceLT, Int.reduceLE, String.reduceEq, Bool.false_eq_true, Bool.true_eq_false, eq_self, Int.toNat_zero, Int.toNat_one, Int.reduceToNat, Int.natCast_add, Int.reduceAdd, Int.reduceNeg, Int.reduceSub, Int.cast_ofNat_Int, Nat.add_one_sub_one]
  unfold dNs at e
  simp only [e, fnO, fnOf, oSeq, oSet, oIf, oRet, oRetN, oNil, oFor, oNever, oDrop, oAsg, oBk, oCt, Out.then, Rs.out, Rs.bind, Rs.of, mP, mFz, mOw, mMv, mVz, mO, sVar, sC, sBin, sUn, sNil, sCons, sArgs, sTup, sLstF, sTruB, sAnd, sOr, sNot, sIf, sF, sFn, pfn, sSeq, seqOf, sCat, sRep, sSl, sSlL, sPart, sNoP, sRevT, sRevL, sLC, wipeR, mSeqOf, mItA, sItA, gNm, gTp, gsNil, gsCons, setR, oget, dIx, L2.atI, L2.ixN, dEq, dNe, dAdd, dSub, dLt, dLe, dGt, dGe, dI0, dI2, dLen, dIs, dIsNot, Dat.isN, dNeg, sListOf, dTuple, dTup, sNotV, sAndV, sOrV, dJoin, mBin, mUn, mNil, mCons, mArgs, mLstF, mTru, mIf, mNot, mAnd, mOr, MV.cutD, HT.sIx, fz_non, fz_bl, fz_int, fz_str, fz_tup, fz_lst, fz_frl, fz_mls, fz_obj, str_beq, str_lit, List.map_cons, List.map_nil, List.length_cons, List.length_nil, List.length_map, List.replicate_succ, List.replicate_zero, List.cons_append, List.nil_append, List.getElem?_cons_zero, List.getElem?_cons_succ, List.set_cons_zero, List.set_cons_succ, Option.bind_some, Option.bind_none, Option.map_some, Option.map_none, if_true, if_false, Nat.reduceAdd, Nat.reduceSub, Nat.reduceLT, Nat.reduceLeDiff, Nat.reduceEqDiff, reduceIte, reduceCtorEq, decide_true, decide_false, Bool.not_true, Bool.not_false, Int.reduceLT, Int.reduceLE, String.reduceEq, Bool.false_eq_true, Bool.true_eq_false, eq_self, Int.toNat_zero, Int.toNat_one, Int.reduceToNat, Int.natCast_add, Int.reduceAdd, Int.reduceNeg, Int.reduceSub, Int.cast_ofNat_Int, Nat.add_one_sub_one, dWs, wN, List.map_map]
  rfl
theorem isint_loop (t : Dat) (D : Dat) : ∀ (cs : List Nat) (x : Option Dat), NumText.AllDigits cs → ∃ y, oForL [2] gNm g_is_integer_text_1 (cs.map fun c => .str ⟨#[c]⟩) [some t, some D, x] = .nx [some t, some D, y]
  | [], x, _ => ⟨x, rfl⟩
  | c :: cs, x, h => by
    obtain ⟨y, hy⟩ := isint_loop t D cs (some (.str ⟨#[c]⟩)) h.tail
    have hc := h.head
    have hm : (decide (c ∈ (Str.ofString "0123456789").cps.toList)) = true := by
      have e : (Str.ofString "0123456789").cps.toList = [48, 49, 50, 51, 52, 53, 54, 55, 56, 57] := by decide +kernel
      rw [e]; simp; omega
    refine ⟨y, ?_⟩
    rw [List.map_cons]
    simp only [oForL, fnO, fnOf, oSeq, oSet, oIf, oRet, oRetN, oNil, oFor, oNever, oDrop, oAsg, oBk, oCt, Out.then, Rs.out, Rs.bind, Rs.of, mP, mFz, mOw, mMv, mVz, mO, sVar, sC, sBin, sUn, sNil, sCons, sArgs, sTup, sLstF, sTruB, sAnd, sOr, sNot, sIf, sF, sFn, pfn, sSeq, seqOf, sCat, sRep, sSl, sSlL, sPart, sNoP, sRevT, sRevL, sLC, wipeR, mSeqOf, mItA, sItA, gNm, gTp, gsNil, gsCons, setR, oget, dIx, L2.atI, L2.ixN, dEq, dNe, dAdd, dSub, dLt, dLe, dGt, dGe, dI0, dI2, dLen, dIs, dIsNot, Dat.isN, dNeg, sListOf, dTuple, dTup, sNotV, sAndV, sOrV, dJoin, mBin, mUn, mNil, mCons, mArgs, mLstF, mTru, mIf, mNot, mAnd, mOr, MV.cutD, HT.sIx, fz_non, fz_bl, fz_int, fz_str, fz_tup, fz_lst, fz_frl, fz_mls, fz_obj, str_beq, str_lit, List.map_cons, List.map_nil, List.length_cons, List.length_nil, List.length_map, List.replicate_succ, List.replicate_zero, List.cons_append, List.nil_append, List.getElem?_cons_zero, List.getElem?_cons_succ, List.set_cons_zero, List.set_cons_succ, Option.bind_some, Option.bind_none, Option.map_some, Option.map_none, if_true, if_false, Nat.reduceAdd, Nat.reduceSub, Nat.reduceLT, Nat.reduceLeDiff, Nat.reduceEqDiff, reduceIte, reduceCtorEq, decide_true, decide_false, Bool.not_true, Bool.not_false, Int.reduceLT, Int.reduceLE, String.reduceEq, Bool.false_eq_true, Bool.true_eq_false, eq_self, Int.toNat_zero, Int.toNat_one, Int.reduceToNat, Int.natCast_add, Int.reduceAdd, Int.reduceNeg, Int.reduceSub, Int.cast_ofNat_Int, Nat.add_one_sub_one, g_is_integer_text_1, dIn, hm]
    exact hy
theorem isint_core {s : Str} {ds : List Nat} (hd : NumText.AllDigits ds) (hl : ds.length ≤ 60) (h : (TL.tl s = 45 :: ds ∧ ∃ c cs, ds = c :: cs ∧ c ≠ 48) ∨ (TL.tl s = ds ∧ ((∃ c cs, ds = c :: cs ∧ c ≠ 48) ∨ s = Str.ofString "0"))) : f_is_integer_text [.str s] = .ok (.bl true) [] := by
  have hne : ds ≠ [] := by
    rcases h with ⟨_, c, cs, e, _⟩ | ⟨e0, ⟨c, cs, e, _⟩ | e⟩
    · rw [e]; simp
    · rw [e]; simp
    · rw [← e0, e]; decide +kernel
  obtain ⟨c0, cs0, e0⟩ := List.exists_cons_of_ne_nil hne
  have hc0 := hd c0 (by rw [e0]; simp)
  have minus : (Str.ofString "-") = ⟨#[45]⟩ := by decide +kernel
  -- the digits' text
  have e1 : ∃ z : Str, TL.tl z = ds ∧ ((s = Str.ofString "0" ∧ z = Str.ofString "0") ∨ (∃ c cs, ds = c :: cs ∧ c ≠ 48)) ∧ g_is_integer_text_s0 [some (.str s), none, none] = .nx [some (.str s), some (.str z), none] := by
    rcases h with ⟨e, hx⟩ | ⟨e, hx⟩
    · refine ⟨⟨ds.toArray⟩, rfl, .inr hx, ?_⟩
      unfold TL.tl at e
      simp only [g_is_integer_text_s0, fnO, fnOf, oSeq, oSet, oIf, oRet, oRetN, oNil, oFor, oNever, oDrop, oAsg, oBk, oCt, Out.then, Rs.out, Rs.bind, Rs.of, mP, mFz, mOw, mMv, mVz, mO, sVar, sC, sBin, sUn, sNil, sCons, sArgs, sTup, sLstF, sTruB, sAnd, sOr, sNot, sIf, sF, sFn, pfn, sSeq, seqOf, sCat, sRep, sSl, sSlL, sPart, sNoP, sRevT, sRevL, sLC, wipeR, mSeqOf, mItA, sItA, gNm, gTp, gsNil, gsCons, setR, oget, dIx, L2.atI, L2.ixN, dEq, dNe, dAdd, dSub, dLt, dLe, dGt, dGe, dI0, dI2, dLen, dIs, dIsNot, Dat.isN, dNeg, sListOf, dTuple, dTup, sNotV, sAndV, sOrV, dJoin, mBin, mUn, mNil, mCons, mArgs, mLstF, mTru, mIf, mNot, mAnd, mOr, MV.cutD, HT.sIx, fz_non, fz_bl, fz_int, fz_str, fz_tup, fz_lst, fz_frl, fz_mls, fz_obj, str_beq, str_lit, List.map_cons, List.map_nil, List.length_cons, List.length_nil, List.length_map, List.replicate_succ, List.replicate_zero, List.cons_append, List.nil_append, List.getElem?_cons_zero, List.getElem?_cons_succ, List.set_cons_zero, List.set_cons_succ, Option.bind_some, Option.bind_none, Option.map_some, Option.map_none, if_true, if_false, Nat.reduceAdd, Nat.reduceSub, Nat.reduceLT, Nat.reduceLeDiff, Nat.reduceEqDiff, reduceIte, reduceCtorEq, decide_true, decide_false, Bool.not_true, Bool.not_false, Int.reduceLT, Int.reduceLE, String.reduceEq, Bool.false_eq_true, Bool.true_eq_false, eq_self, Int.toNat_zero, Int.toNat_one, Int.reduceToNat, Int.natCast_add, Int.reduceAdd, Int.reduceNeg, Int.reduceSub, Int.cast_ofNat_Int, Nat.add_one_sub_one, e]
      have h1 : (min 1 (ds.length + 1) - 0) = 1 := by simp
      have h2 : (min 1 (ds.length + 1)) = 1 := by simp
      have h3 : (ds.length + 1 - 1) = ds.length := by omega
      simp only [h1, h2, List.drop_zero, List.take_succ_cons, List.take_zero, minus, List.drop_succ_cons, h3, List.take_length, BEq.rfl, fnO, fnOf, oSeq, oSet, oIf, oRet, oRetN, oNil, oFor, oNever, oDrop, oAsg, oBk, oCt, Out.then, Rs.out, Rs.bind, Rs.of, mP, mFz, mOw, mMv, mVz, mO, sVar, sC, sBin, sUn, sNil, sCons, sArgs, sTup, sLstF, sTruB, sAnd, sOr, sNot, sIf, sF, sFn, pfn, sSeq, seqOf, sCat, sRep, sSl, sSlL, sPart, sNoP, sRevT, sRevL, sLC, wipeR, mSeqOf, mItA, sItA, gNm, gTp, gsNil, gsCons, setR, oget, dIx, L2.atI, L2.ixN, dEq, dNe, dAdd, dSub, dLt, dLe, dGt, dGe, dI0, dI2, dLen, dIs, dIsNot, Dat.isN, dNeg, sListOf, dTuple, dTup, sNotV, sAndV, sOrV, dJoin, mBin, mUn, mNil, mCons, mArgs, mLstF, mTru, mIf, mNot, mAnd, mOr, MV.cutD, HT.sIx, fz_non, fz_bl, fz_int, fz_str, fz_tup, fz_lst, fz_frl, fz_mls, fz_obj, str_beq, str_lit, List.map_cons, List.map_nil, List.length_cons, List.length_nil, List.length_map, List.replicate_succ, List.replicate_zero, List.cons_append, List.nil_append, List.getElem?_cons_zero, List.getElem?_cons_succ, List.set_cons_zero, List.set_cons_succ, Option.bind_some, Option.bind_none, Option.map_some, Option.map_none, if_true, if_false, Nat.reduceAdd, Nat.reduceSub, Nat.reduceLT, Nat.reduceLeDiff, Nat.reduceEqDiff, reduceIte, reduceCtorEq, decide_true, decide_false, Bool.not_true, Bool.not_false, Int.reduceLT, Int.reduceLE, String.reduceEq, Bool.false_eq_true, Bool.true_eq_false, eq_self, Int.toNat_zero, Int.toNat_one, Int.reduceToNat, Int.natCast_add, Int.reduceAdd, Int.reduceNeg, Int.reduceSub, Int.cast_ofNat_Int, Nat.add_one_sub_one]
    · refine ⟨s, e, hx.symm.imp (fun e => ⟨e, e⟩) id, ?_⟩
      unfold TL.tl at e
      simp only [g_is_integer_text_s0, fnO, fnOf, oSeq, oSet, oIf, oRet, oRetN, oNil, oFor, oNever, oDrop, oAsg, oBk, oCt, Out.then, Rs.out, Rs.bind, Rs.of, mP, mFz, mOw, mMv, mVz, mO, sVar, sC, sBin, sUn, sNil, sCons, sArgs, sTup, sLstF, sTruB, sAnd, sOr, sNot, sIf, sF, sFn, pfn, sSeq, seqOf, sCat, sRep, sSl, sSlL, sPart, sNoP, sRevT, sRevL, sLC, wipeR, mSeqOf, mItA, sItA, gNm, gTp, gsNil, gsCons, setR, oget, dIx, L2.atI, L2.ixN, dEq, dNe, dAdd, dSub, dLt, dLe, dGt, dGe, dI0, dI2, dLen, dIs, dIsNot, Dat.isN, dNeg, sListOf, dTuple, dTup, sNotV, sAndV, sOrV, dJoin, mBin, mUn, mNil, mCons, mArgs, mLstF, mTru, mIf, mNot, mAnd, mOr, MV.cutD, HT.sIx, fz_non, fz_bl, fz_int, fz_str, fz_tup, fz_lst, fz_frl, fz_mls, fz_obj, str_beq, str_lit, List.map_cons, List.map_nil, List.length_cons, List.length_nil, List.length_map, List.replicate_succ, List.replicate_zero, List.cons_append, List.nil_append, List.getElem?_cons_zero, List.getElem?_cons_succ, List.set_cons_zero, List.set_cons_succ, Option.bind_some, Option.bind_none, Option.map_some, Option.map_none, if_true, if_false, Nat.reduceAdd, Nat.reduceSub, Nat.reduceLT, Nat.reduceLeDiff, Nat.reduceEqDiff, reduceIte, reduceCtorEq, decide_true, decide_false, Bool.not_true, Bool.not_false, Int.reduceLT, Int.reduceLE, String.reduceEq, Bool.false_eq_true, Bool.true_eq_false, eq_self, Int.toNat_zero, Int.toNat_one, Int.reduceToNat, Int.natCast_add, Int.reduceAdd, Int.reduceNeg, Int.reduceSub, Int.cast_ofNat_Int, Nat.add_one_sub_one, e]
      have h1 : (min 1 ds.length - 0) = 1 := by rw [e0]; simp
      have h4 : ((⟨(List.take 1 ds).toArray⟩ : Str) == ⟨#[45]⟩) = false := by
        rw [e0]
        refine beq_eq_false_iff_ne.mpr fun z => ?_
        have z1 := congrArg (fun y : Str => y.cps.toList) z
        simp at z1; omega
      simp only [h1, List.drop_zero, minus, h4, fnO, fnOf, oSeq, oSet, oIf, oRet, oRetN, oNil, oFor, oNever, oDrop, oAsg, oBk, oCt, Out.then, Rs.out, Rs.bind, Rs.of, mP, mFz, mOw, mMv, mVz, mO, sVar, sC, sBin, sUn, sNil, sCons, sArgs, sTup, sLstF, sTruB, sAnd, sOr, sNot, sIf, sF, sFn, pfn, sSeq, seqOf, sCat, sRep, sSl, sSlL, sPart, sNoP, sRevT, sRevL, sLC, wipeR, mSeqOf, mItA, sItA, gNm, gTp, gsNil, gsCons, setR, oget, dIx, L2.atI, L2.ixN, dEq, dNe, dAdd, dSub, dLt, dLe, dGt, dGe, dI0, dI2, dLen, dIs, dIsNot, Dat.isN, dNeg, sListOf, dTuple, dTup, sNotV, sAndV, sOrV, dJoin, mBin, mUn, mNil, mCons, mArgs, mLstF, mTru, mIf, mNot, mAnd, mOr, MV.cutD, HT.sIx, fz_non, fz_bl, fz_int, fz_str, fz_tup, fz_lst, fz_frl, fz_mls, fz_obj, str_beq, str_lit, List.map_cons, List.map_nil, List.length_cons, List.length_nil, List.length_map, List.replicate_succ, List.replicate_zero, List.cons_append, List.nil_append, List.getElem?_cons_zero, List.getElem?_cons_succ, List.set_cons_zero, List.set_cons_succ, Option.bind_some, Option.bind_none, Option.map_some, Option.map_none, if_true, if_false, Nat.reduceAdd, Nat.reduceSub, Nat.reduceLT, Nat.reduceLeDiff, Nat.reduceEqDiff, reduceIte, reduceCtorEq, decide_true, decide_false, Bool.not_true, Bool.not_false, Int.reduceLT, Int.reduceLE, String.reduceEq, Bool.false_eq_true, Bool.true_eq_false, eq_self, Int.toNat_zero, Int.toNat_one, Int.reduceToNat, Int.natCast_add, Int.reduceAdd, Int.reduceNeg, Int.reduceSub, Int.cast_ofNat_Int, Nat.add_one_sub_one]
  obtain ⟨z, ez, hz, e1⟩ := e1
  have zl : z.length = ds.length := by rw [TL.len_tl, ez]
  obtain ⟨y, hy⟩ := isint_loop (.str s) (.str z) ds none hd
  have e2 : g_is_integer_text_s1 [some (.str s), some (.str z), none] = .nx [some (.str s), some (.str z), y] := by
    unfold TL.tl at ez
    simp only [g_is_integer_text_s1, fnO, fnOf, oSeq, oSet, oIf, oRet, oRetN, oNil, oFor, oNever, oDrop, oAsg, oBk, oCt, Out.then, Rs.out, Rs.bind, Rs.of, mP, mFz, mOw, mMv, mVz, mO, sVar, sC, sBin, sUn, sNil, sCons, sArgs, sTup, sLstF, sTruB, sAnd, sOr, sNot, sIf, sF, sFn, pfn, sSeq, seqOf, sCat, sRep, sSl, sSlL, sPart, sNoP, sRevT, sRevL, sLC, wipeR, mSeqOf, mItA, sItA, gNm, gTp, gsNil, gsCons, setR, oget, dIx, L2.atI, L2.ixN, dEq, dNe, dAdd, dSub, dLt, dLe, dGt, dGe, dI0, dI2, dLen, dIs, dIsNot, Dat.isN, dNeg, sListOf, dTuple, dTup, sNotV, sAndV, sOrV, dJoin, mBin, mUn, mNil, mCons, mArgs, mLstF, mTru, mIf, mNot, mAnd, mOr, MV.cutD, HT.sIx, fz_non, fz_bl, fz_int, fz_str, fz_tup, fz_lst, fz_frl, fz_mls, fz_obj, str_beq, str_lit, List.map_cons, List.map_nil, List.length_cons, List.length_nil, List.length_map, List.replicate_succ, List.replicate_zero, List.cons_append, List.nil_append, List.getElem?_cons_zero, List.getElem?_cons_succ, List.set_cons_zero, List.set_cons_succ, Option.bind_some, Option.bind_none, Option.map_some, Option.map_none, if_true, if_false, Nat.reduceAdd, Nat.reduceSub, Nat.reduceLT, Nat.reduceLeDiff, Nat.reduceEqDiff, reduceIte, reduceCtorEq, decide_true, decide_false, Bool.not_true, Bool.not_false, Int.reduceLT, Int.reduceLE, String.reduceEq, Bool.false_eq_true, Bool.true_eq_false, eq_self, Int.toNat_zero, Int.toNat_one, Int.reduceToNat, Int.natCast_add, Int.reduceAdd, Int.reduceNeg, Int.reduceSub, Int.cast_ofNat_Int, Nat.add_one_sub_one, ez]
    exact hy
  have e3 : g_is_integer_text_s2 [some (.str s), some (.str z), y] = .nx [some (.str s), some (.str z), y] := by
    have h1 : (z == Str.ofString "") = false := beq_eq_false_iff_ne.mpr fun e => by
      have := congrArg TL.tl e
      rw [ez, show TL.tl (Str.ofString "") = [] by decide +kernel] at this
      exact hne this
    have h2 : decide ((60 : Int) < (z.length : Int)) = false := decide_eq_false (by omega)
    simp only [g_is_integer_text_s2, fnO, fnOf, oSeq, oSet, oIf, oRet, oRetN, oNil, oFor, oNever, oDrop, oAsg, oBk, oCt, Out.then, Rs.out, Rs.bind, Rs.of, mP, mFz, mOw, mMv, mVz, mO, sVar, sC, sBin, sUn, sNil, sCons, sArgs, sTup, sLstF, sTruB, sAnd, sOr, sNot, sIf, sF, sFn, pfn, sSeq, seqOf, sCat, sRep, sSl, sSlL, sPart, sNoP, sRevT, sRevL, sLC, wipeR, mSeqOf, mItA, sItA, gNm, gTp, gsNil, gsCons, setR, oget, dIx, L2.atI, L2.ixN, dEq, dNe, dAdd, dSub, dLt, dLe, dGt, dGe, dI0, dI2, dLen, dIs, dIsNot, Dat.isN, dNeg, sListOf, dTuple, dTup, sNotV, sAndV, sOrV, dJoin, mBin, mUn, mNil, mCons, mArgs, mLstF, mTru, mIf, mNot, mAnd, mOr, MV.cutD, HT.sIx, fz_non, fz_bl, fz_int, fz_str, fz_tup, fz_lst, fz_frl, fz_mls, fz_obj, str_beq, str_lit, List.map_cons, List.map_nil, List.length_cons, List.length_nil, List.length_map, List.replicate_succ, List.replicate_zero, List.cons_append, List.nil_append, List.getElem?_cons_zero, List.getElem?_cons_succ, List.set_cons_zero, List.set_cons_succ, Option.bind_some, Option.bind_none, Option.map_some, Option.map_none, if_true, if_false, Nat.reduceAdd, Nat.reduceSub, Nat.reduceLT, Nat.reduceLeDiff, Nat.reduceEqDiff, reduceIte, reduceCtorEq, decide_true, decide_false, Bool.not_true, Bool.not_false, Int.reduceLT, Int.reduceLE, String.reduceEq, Bool.false_eq_true, Bool.true_eq_false, eq_self, Int.toNat_zero, Int.toNat_one, Int.reduceToNat, Int.natCast_add, Int.reduceAdd, Int.reduceNeg, Int.reduceSub, Int.cast_ofNat_Int, Nat.add_one_sub_one, h1, h2]
  have e4 : g_is_integer_text_s3 [some (.str s), some (.str z), y] = .rt (.bl true) [some (.str s), some (.str z), y] := by
    have h0 : (if (0 : Int) ≤ 0 then (if (0 : Int) < (ds.length : Int) then some (0 : Int).toNat else none) else if -(ds.length : Int) ≤ 0 then some (0 + (ds.length : Int)).toNat else none) = some 0 := by rw [e0]; simp
    unfold TL.tl at ez
    rw [e0] at ez
    have zero : (Str.ofString "0") = ⟨#[48]⟩ := by decide +kernel
    rcases hz with ⟨hz1, hz2⟩ | ⟨c, cs, hz, hc⟩
    · subst hz1 hz2
      have e5 : (Str.ofString "0").cps.toList = [48] := by decide +kernel
      rw [e5] at ez
      cases ez
      simp only [g_is_integer_text_s3, fnO, fnOf, oSeq, oSet, oIf, oRet, oRetN, oNil, oFor, oNever, oDrop, oAsg, oBk, oCt, Out.then, Rs.out, Rs.bind, Rs.of, mP, mFz, mOw, mMv, mVz, mO, sVar, sC, sBin, sUn, sNil, sCons, sArgs, sTup, sLstF, sTruB, sAnd, sOr, sNot, sIf, sF, sFn, pfn, sSeq, seqOf, sCat, sRep, sSl, sSlL, sPart, sNoP, sRevT, sRevL, sLC, wipeR, mSeqOf, mItA, sItA, gNm, gTp, gsNil, gsCons, setR, oget, dIx, L2.atI, L2.ixN, dEq, dNe, dAdd, dSub, dLt, dLe, dGt, dGe, dI0, dI2, dLen, dIs, dIsNot, Dat.isN, dNeg, sListOf, dTuple, dTup, sNotV, sAndV, sOrV, dJoin, mBin, mUn, mNil, mCons, mArgs, mLstF, mTru, mIf, mNot, mAnd, mOr, MV.cutD, HT.sIx, fz_non, fz_bl, fz_int, fz_str, fz_tup, fz_lst, fz_frl, fz_mls, fz_obj, str_beq, str_lit, List.map_cons, List.map_nil, List.length_cons, List.length_nil, List.length_map, List.replicate_succ, List.replicate_zero, List.cons_append, List.nil_append, List.getElem?_cons_zero, List.getElem?_cons_succ, List.set_cons_zero, List.set_cons_succ, Option.bind_some, Option.bind_none, Option.map_some, Option.map_none, if_true, if_false, Nat.reduceAdd, Nat.reduceSub, Nat.reduceLT, Nat.reduceLeDiff, Nat.reduceEqDiff, reduceIte, reduceCtorEq, decide_true, decide_false, Bool.not_true, Bool.not_false, Int.reduceLT, Int.reduceLE, String.reduceEq, Bool.false_eq_true, Bool.true_eq_false, eq_self, Int.toNat_zero, Int.toNat_one, Int.reduceToNat, Int.natCast_add, Int.reduceAdd, Int.reduceNeg, Int.reduceSub, Int.cast_ofNat_Int, Nat.add_one_sub_one, e5, zero]
      simp
    · rw [e0] at hz
      cases hz
      have h4 : ((⟨#[c0]⟩ : Str) == ⟨#[48]⟩) = false := by
        refine beq_eq_false_iff_ne.mpr fun z => ?_
        have z1 := congrArg (fun y : Str => y.cps.toList) z
        simp at z1; omega
      simp only [g_is_integer_text_s3, fnO, fnOf, oSeq, oSet, oIf, oRet, oRetN, oNil, oFor, oNever, oDrop, oAsg, oBk, oCt, Out.then, Rs.out, Rs.bind, Rs.of, mP, mFz, mOw, mMv, mVz, mO, sVar, sC, sBin, sUn, sNil, sCons, sArgs, sTup, sLstF, sTruB, sAnd, sOr, sNot, sIf, sF, sFn, pfn, sSeq, seqOf, sCat, sRep, sSl, sSlL, sPart, sNoP, sRevT, sRevL, sLC, wipeR, mSeqOf, mItA, sItA, gNm, gTp, gsNil, gsCons, setR, oget, dIx, L2.atI, L2.ixN, dEq, dNe, dAdd, dSub, dLt, dLe, dGt, dGe, dI0, dI2, dLen, dIs, dIsNot, Dat.isN, dNeg, sListOf, dTuple, dTup, sNotV, sAndV, sOrV, dJoin, mBin, mUn, mNil, mCons, mArgs, mLstF, mTru, mIf, mNot, mAnd, mOr, MV.cutD, HT.sIx, fz_non, fz_bl, fz_int, fz_str, fz_tup, fz_lst, fz_frl, fz_mls, fz_obj, str_beq, str_lit, List.map_cons, List.map_nil, List.length_cons, List.length_nil, List.length_map, List.replicate_succ, List.replicate_zero, List.cons_append, List.nil_append, List.getElem?_cons_zero, List.getElem?_cons_succ, List.set_cons_zero, List.set_cons_succ, Option.bind_some, Option.bind_none, Option.map_some, Option.map_none, if_true, if_false, Nat.reduceAdd, Nat.reduceSub, Nat.reduceLT, Nat.reduceLeDiff, Nat.reduceEqDiff, reduceIte, reduceCtorEq, decide_true, decide_false, Bool.not_true, Bool.not_false, Int.reduceLT, Int.reduceLE, String.reduceEq, Bool.false_eq_true, Bool.true_eq_false, eq_self, Int.toNat_zero, Int.toNat_one, Int.reduceToNat, Int.natCast_add, Int.reduceAdd, Int.reduceNeg, Int.reduceSub, Int.cast_ofNat_Int, Nat.add_one_sub_one, ez, zero]
      simp [h4]
  simp only [f_is_integer_text, g_is_integer_text, fnO, fnOf, fnO, fnOf, oSeq, oSet, oIf, oRet, oRetN, oNil, oFor, oNever, oDrop, oAsg, oBk, oCt, Out.then, Rs.out, Rs.bind, Rs.of, mP, mFz, mOw, mMv, mVz, mO, sVar, sC, sBin, sUn, sNil, sCons, sArgs, sTup, sLstF, sTruB, sAnd, sOr, sNot, sIf, sF, sFn, pfn, sSeq, seqOf, sCat, sRep, sSl, sSlL, sPart, sNoP, sRevT, sRevL, sLC, wipeR, mSeqOf, mItA, sItA, gNm, gTp, gsNil, gsCons, setR, oget, dIx, L2.atI, L2.ixN, dEq, dNe, dAdd, dSub, dLt, dLe, dGt, dGe, dI0, dI2, dLen, dIs, dIsNot, Dat.isN, dNeg, sListOf, dTuple, dTup, sNotV, sAndV, sOrV, dJoin, mBin, mUn, mNil, mCons, mArgs, mLstF, mTru, mIf, mNot, mAnd, mOr, MV.cutD, HT.sIx, fz_non, fz_bl, fz_int, fz_str, fz_tup, fz_lst, fz_frl, fz_mls, fz_obj, str_beq, str_lit, List.map_cons, List.map_nil, List.length_cons, List.length_nil, List.length_map, List.replicate_succ, List.replicate_zero, List.cons_append, List.nil_append, List.getElem?_cons_zero, List.getElem?_cons_succ, List.set_cons_zero, List.set_cons_succ, Option.bind_some, Option.bind_none, Option.map_some, Option.map_none, if_true, if_false, Nat.reduceAdd, Nat.reduceSub, Nat.reduceLT, Nat.reduceLeDiff, Nat.reduceEqDiff, reduceIte, reduceCtorEq, decide_true, decide_false, Bool.not_true, Bool.not_false, Int.reduceLT, Int.reduceLE, String.reduceEq, Bool.false_eq_true, Bool.true_eq_false, eq_self, Int.toNat_zero, Int.toNat_one, Int.reduceToNat, Int.natCast_add, Int.reduceAdd, Int.reduceNeg, Int.reduceSub, Int.cast_ofNat_Int, Nat.add_one_sub_one, e1, e2, e3, e4]
theorem isint_nt {i : Int} (h : N60 i) : f_is_integer_text [.str (nt i)] = .ok (.bl true) [] := by
  refine isint_core (ds := TL.numL i.natAbs) (TL.numL_digits _) (numL60 h) ?_
  by_cases h0 : 0 ≤ i
  · refine .inr ⟨nt_pos h0, ?_⟩
    by_cases h1 : i.natAbs = 0
    · have : i = 0 := by omega
      subst this; exact .inr rfl
    · exact .inl (numL_head _ h1)
  · exact .inl ⟨nt_neg (by omega), numL_head _ (by omega)⟩
end K98

namespace K98
open PySem PySem.Spec PyProof.Rows L2 MV
/-! ## choices, deeds: as data, as words -/
abbrev Gr := List Int × Int
inductive Ch where
  | maker (r : Int) (b s : List Int)
  | sides (r : Int) (b : List Int) (p : Int) (s : List Int)
  | trader (r t : Int) (b s : List Int)
  | caps (b : List Int) (g : List Gr) (s : List Int) (h : List Gr)
  | table (rows : List (List Int))
inductive De where
  | one (h : Int) (c : Ch)
  | split (h : Int) (cs : List Ch)
  | offer (a b c : Int)
  | cancel (a : Int)
  | undo
  | redo
def dG (g : Gr) : Dat := .tup [dNs g.1, .int g.2]
def dGs (gs : List Gr) : Dat := .tup (gs.map dG)
def Ch.d : Ch → Dat
  | .maker r b s => .tup [.str "maker", .int r, dNs b, dNs s]
  | .sides r b p s => .tup [.str "sides", .int r, dNs b, .int p, dNs s]
  | .trader r t b s => .tup [.str "trader", .int r, .int t, dNs b, dNs s]
  | .caps b g s h => .tup [.str "caps", dNs b, dGs g, dNs s, dGs h]
  | .table rows => .tup [.str "table", .tup (rows.map dNs)]
def dSplit' (cs : List Ch) : Dat := .tup [.str "split", .tup (cs.map Ch.d)]
def De.d : De → Dat
  | .one h c => .tup [.str "choose", .int h, c.d]
  | .split h cs => .tup [.str "choose", .int h, dSplit' cs]
  | .offer a b c => .tup [.str "offer", .int a, .int b, .int c]
  | .cancel a => .tup [.str "cancel", .int a]
  | .undo => .tup [.str "undo"]
  | .redo => .tup [.str "redo"]
def wG (gs : List Gr) : List Str := gs.flatMap fun g => [("cap" : Str), nt g.2, "of"] ++ wN g.1
def wR (rows : List (List Int)) : List Str := rows.flatMap fun r => ("row" : Str) :: wN r
def Ch.w : Ch → List Str
  | .maker r b s => [("maker" : Str), nt r, "buys"] ++ wN b ++ [("sells" : Str)] ++ wN s
  | .sides r b p s => [("sides" : Str), nt r, "buys"] ++ wN b ++ [nt p, "sells"] ++ wN s
  | .trader r t b s => [("trader" : Str), nt r, nt t] ++ [("buys" : Str)] ++ wN b ++ [("sells" : Str)] ++ wN s
  | .caps b g s h => [("caps" : Str), "buys"] ++ wN b ++ wG g ++ [("sells" : Str)] ++ wN s ++ wG h
  | .table rows => [("table" : Str)] ++ wR rows
def wP (cs : List Ch) : List Str := cs.flatMap fun c => ("part" : Str) :: c.w
def De.w : De → List Str
  | .one h c => [("choose" : Str), nt h] ++ c.w
  | .split h cs => [("choose" : Str), nt h] ++ ([("split" : Str)] ++ wP cs)
  | .offer a b c => [("offer" : Str)] ++ wN [a, b, c]
  | .cancel a => [("cancel" : Str)] ++ wN [a]
  | .undo => [("undo" : Str)] ++ wN []
  | .redo => [("redo" : Str)] ++ wN []
def okN (ns : List Int) : Prop := (∀ n ∈ ns, N60 n) ∧ ns.length ≤ 40
def okG (gs : List Gr) : Prop := (∀ g ∈ gs, okN g.1 ∧ g.1 ≠ [] ∧ N60 g.2) ∧ gs.length ≤ 40
def Ch.ok : Ch → Prop
  | .maker r b s => N60 r ∧ okN b ∧ okN s
  | .sides r b p s => N60 r ∧ okN b ∧ N60 p ∧ okN s
  | .trader r t b s => N60 r ∧ N60 t ∧ okN b ∧ okN s
  | .caps b g s h => okN b ∧ okG g ∧ okN s ∧ okG h
  | .table rows => (∀ r ∈ rows, okN r ∧ r ≠ []) ∧ rows.length ≤ 40
def De.ok : De → Prop
  | .one h c => N60 h ∧ c.ok
  | .split h cs => N60 h ∧ (∀ c ∈ cs, c.ok) ∧ cs.length ≤ 9
  | .offer a b c => N60 a ∧ N60 b ∧ N60 c
  | .cancel a => N60 a
  | .undo => True
  | .redo => True
theorem wN_len (ns : List Int) : (wN ns).length = ns.length := by simp [wN]
theorem flat_le {α β : Type} (f : α → List β) (k : Nat) : ∀ (l : List α), (∀ x ∈ l, (f x).length ≤ k) → (l.flatMap f).length ≤ l.length * k
  | [], _ => by simp
  | x :: l, h => by
    have h1 := h x (by simp)
    have h2 := flat_le f k l fun z hz => h z (List.mem_cons_of_mem _ hz)
    simp only [List.flatMap_cons, List.length_append, List.length_cons, Nat.succ_mul]; omega
theorem wG_len {gs : List Gr} (h : okG gs) : (wG gs).length ≤ 1720 := by
  have := flat_le (fun g : Gr => [("cap" : Str), nt g.2, "of"] ++ wN g.1) 43 gs fun g hg => by
    have := (h.1 g hg).1.2
    simp [wN_len]; omega
  have h2 := h.2
  unfold wG; omega
theorem wR_len {rows : List (List Int)} (h : (∀ r ∈ rows, okN r ∧ r ≠ []) ∧ rows.length ≤ 40) : (wR rows).length ≤ 1640 := by
  have := flat_le (fun r : List Int => ("row" : Str) :: wN r) 41 rows fun g hg => by
    have := (h.1 g hg).1.2
    simp [wN_len]; omega
  have h2 := h.2
  unfold wR; omega
theorem Ch.w_len {c : Ch} (h : c.ok) : c.w.length ≤ 3600 := by
  cases c with
  | maker r b s => obtain ⟨_, h1, h2⟩ := h; have := h1.2; have := h2.2; simp [Ch.w, wN_len]; omega
  | sides r b p s => obtain ⟨_, h1, _, h2⟩ := h; have := h1.2; have := h2.2; simp [Ch.w, wN_len]; omega
  | trader r t b s => obtain ⟨_, _, h1, h2⟩ := h; have := h1.2; have := h2.2; simp [Ch.w, wN_len]; omega
  | caps b g s k => obtain ⟨h1, h3, h2, h4⟩ := h; have := h1.2; have := h2.2; have := wG_len h3; have := wG_len h4; simp [Ch.w, wN_len]; omega
  | table rows => have := wR_len h; simp [Ch.w]; omega
theorem wP_len {cs : List Ch} (h : (∀ c ∈ cs, c.ok) ∧ cs.length ≤ 9) : (wP cs).length ≤ 32409 := by
  have := flat_le (fun c : Ch => ("part" : Str) :: c.w) 3601 cs fun c hc => by
    have := Ch.w_len (h.1 c hc)
    simp; omega
  have h2 := h.2
  unfold wP; omega

/-! ## the program's words -/
theorem words_of_ok {ns : List Int} (h : okN ns) : f_words_of [dNs ns] = .ok (dWs (wN ns)) [] := words_of_eq ns h.1
theorem texts_ok {ns : List Int} (h : okN ns) : f__law_texts [dNs ns] = .ok (dWs (wN ns)) [] := by
  have e : lcGo [some (dNs ns), none] [1] gNm sYes g__law_texts_1 (ns.map Dat.int) = some (ns.map fun n => .str (nt n)) := by
    refine lcGo_nm _ _ _ fun n hn => ?_
    simp only [g__law_texts_1, fnO, fnOf, oSeq, oSet, oIf, oRet, oRetN, oNil, oFor, oNever, oDrop, oAsg, oBk, oCt, Out.then, Rs.out, Rs.bind, Rs.of, mP, mFz, mOw, mMv, mVz, mO, sVar, sC, sBin, sUn, sNil, sCons, sArgs, sTup, sLstF, sTruB, sAnd, sOr, sNot, sIf, sF, sFn, pfn, sSeq, seqOf, sCat, sRep, sSl, sSlL, sPart, sNoP, sRevT, sRevL, sLC, wipeR, mSeqOf, mItA, sItA, gNm, gTp, gsNil, gsCons, setR, oget, dIx, L2.atI, L2.ixN, dEq, dNe, dAdd, dSub, dLt, dLe, dGt, dGe, dI0, dI2, dLen, dIs, dIsNot, Dat.isN, dNeg, sListOf, dTuple, dTup, sNotV, sAndV, sOrV, dJoin, mBin, mUn, mNil, mCons, mArgs, mLstF, mTru, mIf, mNot, mAnd, mOr, MV.cutD, HT.sIx, fz_non, fz_bl, fz_int, fz_str, fz_tup, fz_lst, fz_frl, fz_mls, fz_obj, str_beq, str_lit, List.map_cons, List.map_nil, List.length_cons, List.length_nil, List.length_map, List.replicate_succ, List.replicate_zero, List.cons_append, List.nil_append, List.getElem?_cons_zero, List.getElem?_cons_succ, List.set_cons_zero, List.set_cons_succ, Option.bind_some, Option.bind_none, Option.map_some, Option.map_none, if_true, if_false, Nat.reduceAdd, Nat.reduceSub, Nat.reduceLT, Nat.reduceLeDiff, Nat.reduceEqDiff, reduceIte, reduceCtorEq, decide_true, decide_false, Bool.not_true, Bool.not_false, Int.reduceLT, Int.reduceLE, String.reduceEq, Bool.false_eq_true, Bool.true_eq_false, eq_self, Int.toNat_zero, Int.toNat_one, Int.reduceToNat, Int.natCast_add, Int.reduceAdd, Int.reduceNeg, Int.reduceSub, Int.cast_ofNat_Int, Nat.add_one_sub_one]
    exact dStr_nt (h.1 n hn)
  simp only [f__law_texts, g__law_texts, g__law_texts_s0, dNs, fnO, fnOf, oSeq, oSet, oIf, oRet, oRetN, oNil, oFor, oNever, oDrop, oAsg, oBk, oCt, Out.then, Rs.out, Rs.bind, Rs.of, mP, mFz, mOw, mMv, mVz, mO, sVar, sC, sBin, sUn, sNil, sCons, sArgs, sTup, sLstF, sTruB, sAnd, sOr, sNot, sIf, sF, sFn, pfn, sSeq, seqOf, sCat, sRep, sSl, sSlL, sPart, sNoP, sRevT, sRevL, sLC, wipeR, mSeqOf, mItA, sItA, gNm, gTp, gsNil, gsCons, setR, oget, dIx, L2.atI, L2.ixN, dEq, dNe, dAdd, dSub, dLt, dLe, dGt, dGe, dI0, dI2, dLen, dIs, dIsNot, Dat.isN, dNeg, sListOf, dTuple, dTup, sNotV, sAndV, sOrV, dJoin, mBin, mUn, mNil, mCons, mArgs, mLstF, mTru, mIf, mNot, mAnd, mOr, MV.cutD, HT.sIx, fz_non, fz_bl, fz_int, fz_str, fz_tup, fz_lst, fz_frl, fz_mls, fz_obj, str_beq, str_lit, List.map_cons, List.map_nil, List.length_cons, List.length_nil, List.length_map, List.replicate_succ, List.replicate_zero, List.cons_append, List.nil_append, List.getElem?_cons_zero, List.getElem?_cons_succ, List.set_cons_zero, List.set_cons_succ, Option.bind_some, Option.bind_none, Option.map_some, Option.map_none, if_true, if_false, Nat.reduceAdd, Nat.reduceSub, Nat.reduceLT, Nat.reduceLeDiff, Nat.reduceEqDiff, reduceIte, reduceCtorEq, decide_true, decide_false, Bool.not_true, Bool.not_false, Int.reduceLT, Int.reduceLE, String.reduceEq, Bool.false_eq_true, Bool.true_eq_false, eq_self, Int.toNat_zero, Int.toNat_one, Int.reduceToNat, Int.natCast_add, Int.reduceAdd, Int.reduceNeg, Int.reduceSub, Int.cast_ofNat_Int, Nat.add_one_sub_one]
  unfold dNs at e
  simp only [e, fnO, fnOf, oSeq, oSet, oIf, oRet, oRetN, oNil, oFor, oNever, oDrop, oAsg, oBk, oCt, Out.then, Rs.out, Rs.bind, Rs.of, mP, mFz, mOw, mMv, mVz, mO, sVar, sC, sBin, sUn, sNil, sCons, sArgs, sTup, sLstF, sTruB, sAnd, sOr, sNot, sIf, sF, sFn, pfn, sSeq, seqOf, sCat, sRep, sSl, sSlL, sPart, sNoP, sRevT, sRevL, sLC, wipeR, mSeqOf, mItA, sItA, gNm, gTp, gsNil, gsCons, setR, oget, dIx, L2.atI, L2.ixN, dEq, dNe, dAdd, dSub, dLt, dLe, dGt, dGe, dI0, dI2, dLen, dIs, dIsNot, Dat.isN, dNeg, sListOf, dTuple, dTup, sNotV, sAndV, sOrV, dJoin, mBin, mUn, mNil, mCons, mArgs, mLstF, mTru, mIf, mNot, mAnd, mOr, MV.cutD, HT.sIx, fz_non, fz_bl, fz_int, fz_str, fz_tup, fz_lst, fz_frl, fz_mls, fz_obj, str_beq, str_lit, List.map_cons, List.map_nil, List.length_cons, List.length_nil, List.length_map, List.replicate_succ, List.replicate_zero, List.cons_append, List.nil_append, List.getElem?_cons_zero, List.getElem?_cons_succ, List.set_cons_zero, List.set_cons_succ, Option.bind_some, Option.bind_none, Option.map_some, Option.map_none, if_true, if_false, Nat.reduceAdd, Nat.reduceSub, Nat.reduceLT, Nat.reduceLeDiff, Nat.reduceEqDiff, reduceIte, reduceCtorEq, decide_true, decide_false, Bool.not_true, Bool.not_false, Int.reduceLT, Int.reduceLE, String.reduceEq, Bool.false_eq_true, Bool.true_eq_false, eq_self, Int.toNat_zero, Int.toNat_one, Int.reduceToNat, Int.natCast_add, Int.reduceAdd, Int.reduceNeg, Int.reduceSub, Int.cast_ofNat_Int, Nat.add_one_sub_one, dWs, wN, List.map_map]
  rfl
theorem dWs_cons (w : Str) (ws : List Str) : dWs (w :: ws) = .lst (.str w :: ws.map Dat.str) := rfl
theorem gw_loop (D : Dat) : ∀ (gs : List Gr) (acc : List Str) (x y : Option Dat), (∀ g ∈ gs, okN g.1 ∧ g.1 ≠ [] ∧ N60 g.2) → acc.length + gs.length * 43 ≤ 1000000 →
    ∃ x' y', oForL [2, 3] (gTp 2 (gsCons gNm (gsCons gNm gsNil))) g_group_words_1 (gs.map dG) [some D, some (dWs acc), x, y] = .nx [some D, some (dWs (acc ++ wG gs)), x', y']
  | [], acc, x, y, _, _ => ⟨x, y, by simp [oForL, wG]⟩
  | g :: gs, acc, x, y, h, hl => by
    obtain ⟨h1, _, h2⟩ := h g (by simp)
    have hg := h1.2
    simp only [List.length_cons, Nat.succ_mul] at hl
    obtain ⟨x', y', ih⟩ := gw_loop D gs (acc ++ ([("cap" : Str), nt g.2, "of"] ++ wN g.1)) (some (dNs g.1)) (some (.int g.2)) (fun z hz => h z (List.mem_cons_of_mem _ hz)) (by simp [wN_len]; omega)
    refine ⟨x', y', ?_⟩
    rw [List.map_cons]
    have step : g_group_words_1 [some D, some (dWs acc), some (dNs g.1), some (.int g.2)] = .nx [some D, some (dWs (acc ++ ([("cap" : Str), nt g.2, "of"] ++ wN g.1))), some (dNs g.1), some (.int g.2)] := by
      have w := words_of_ok h1
      simp only [dNs] at w
      simp (disch := ((try simp only [List.length_append, List.length_map, List.length_cons, List.length_nil, wN_len]); omega)) only [g_group_words_1, fnO, fnOf, oSeq, oSet, oIf, oRet, oRetN, oNil, oFor, oNever, oDrop, oAsg, oBk, oCt, Out.then, Rs.out, Rs.bind, Rs.of, mP, mFz, mOw, mMv, mVz, mO, sVar, sC, sBin, sUn, sNil, sCons, sArgs, sTup, sLstF, sTruB, sAnd, sOr, sNot, sIf, sF, sFn, pfn, sSeq, seqOf, sCat, sRep, sSl, sSlL, sPart, sNoP, sRevT, sRevL, sLC, wipeR, mSeqOf, mItA, sItA, gNm, gTp, gsNil, gsCons, setR, oget, dIx, L2.atI, L2.ixN, dEq, dNe, dAdd, dSub, dLt, dLe, dGt, dGe, dI0, dI2, dLen, dIs, dIsNot, Dat.isN, dNeg, sListOf, dTuple, dTup, sNotV, sAndV, sOrV, dJoin, mBin, mUn, mNil, mCons, mArgs, mLstF, mTru, mIf, mNot, mAnd, mOr, MV.cutD, HT.sIx, fz_non, fz_bl, fz_int, fz_str, fz_tup, fz_lst, fz_frl, fz_mls, fz_obj, str_beq, str_lit, List.map_cons, List.map_nil, List.length_cons, List.length_nil, List.length_map, List.replicate_succ, List.replicate_zero, List.cons_append, List.nil_append, List.getElem?_cons_zero, List.getElem?_cons_succ, List.set_cons_zero, List.set_cons_succ, Option.bind_some, Option.bind_none, Option.map_some, Option.map_none, if_true, if_false, Nat.reduceAdd, Nat.reduceSub, Nat.reduceLT, Nat.reduceLeDiff, Nat.reduceEqDiff, reduceIte, reduceCtorEq, decide_true, decide_false, Bool.not_true, Bool.not_false, Int.reduceLT, Int.reduceLE, String.reduceEq, Bool.false_eq_true, Bool.true_eq_false, eq_self, Int.toNat_zero, Int.toNat_one, Int.reduceToNat, Int.natCast_add, Int.reduceAdd, Int.reduceNeg, Int.reduceSub, Int.cast_ofNat_Int, Nat.add_one_sub_one, dStr_nt h2, dNs, w, dWs, if_pos, List.map_append, List.append_assoc, eq_self]
    simp only [oForL, dG, gTp, gsCons, gNm, gsNil, List.length_cons, List.length_nil, Option.bind_some, if_true, List.cons_append, List.nil_append, setR, List.set_cons_succ, List.set_cons_zero, Nat.reduceAdd, eq_self]
    rw [step]
    simp only []
    rw [ih]
    simp only [wG, List.flatMap_cons, List.append_assoc]
end K98

namespace K98
open PySem PySem.Spec PyProof.Rows L2 MV
theorem group_words_ok {gs : List Gr} (h : okG gs) : f_group_words [dGs gs] = .ok (dWs (wG gs)) [] := by
  obtain ⟨x', y', e⟩ := gw_loop (dGs gs) gs [] none none h.1 (by have := h.2; simp; omega)
  simp only [dGs, dWs, List.map_nil, List.nil_append] at e
  simp (disch := omega) only [f_group_words, g_group_words, g_group_words_s0, g_group_words_s1, g_group_words_s2, dGs, fnO, fnOf, oSeq, oSet, oIf, oRet, oRetN, oNil, oFor, oNever, oDrop, oAsg, oBk, oCt, Out.then, Rs.out, Rs.bind, Rs.of, mP, mFz, mOw, mMv, mVz, mO, sVar, sC, sBin, sUn, sNil, sCons, sArgs, sTup, sLstF, sTruB, sAnd, sOr, sNot, sIf, sF, sFn, pfn, sSeq, seqOf, sCat, sRep, sSl, sSlL, sPart, sNoP, sRevT, sRevL, sLC, wipeR, mSeqOf, mItA, sItA, gNm, gTp, gsNil, gsCons, setR, oget, dIx, L2.atI, L2.ixN, dEq, dNe, dAdd, dSub, dLt, dLe, dGt, dGe, dI0, dI2, dLen, dIs, dIsNot, Dat.isN, dNeg, sListOf, dTuple, dTup, sNotV, sAndV, sOrV, dJoin, mBin, mUn, mNil, mCons, mArgs, mLstF, mTru, mIf, mNot, mAnd, mOr, MV.cutD, HT.sIx, fz_non, fz_bl, fz_int, fz_str, fz_tup, fz_lst, fz_frl, fz_mls, fz_obj, str_beq, str_lit, List.map_cons, List.map_nil, List.length_cons, List.length_nil, List.length_map, List.replicate_succ, List.replicate_zero, List.cons_append, List.nil_append, List.getElem?_cons_zero, List.getElem?_cons_succ, List.set_cons_zero, List.set_cons_succ, Option.bind_some, Option.bind_none, Option.map_some, Option.map_none, if_true, if_false, Nat.reduceAdd, Nat.reduceSub, Nat.reduceLT, Nat.reduceLeDiff, Nat.reduceEqDiff, reduceIte, reduceCtorEq, decide_true, decide_false, Bool.not_true, Bool.not_false, Int.reduceLT, Int.reduceLE, String.reduceEq, Bool.false_eq_true, Bool.true_eq_false, eq_self, Int.toNat_zero, Int.toNat_one, Int.reduceToNat, Int.natCast_add, Int.reduceAdd, Int.reduceNeg, Int.reduceSub, Int.cast_ofNat_Int, Nat.add_one_sub_one, eq_self, if_pos, e, dWs]
theorem lgw_loop (D : Dat) : ∀ (gs : List Gr) (acc : List Str) (x : Option Dat), (∀ g ∈ gs, okN g.1 ∧ g.1 ≠ [] ∧ N60 g.2) → acc.length + gs.length * 43 ≤ 1000000 →
    ∃ x', oForL [2] gNm g__law_group_words_1 (gs.map dG) [some D, some (dWs acc), x] = .nx [some D, some (dWs (acc ++ wG gs)), x']
  | [], acc, x, _, _ => ⟨x, by simp [oForL, wG]⟩
  | g :: gs, acc, x, h, hl => by
    obtain ⟨h1, _, h2⟩ := h g (by simp)
    have hg := h1.2
    simp only [List.length_cons, Nat.succ_mul] at hl
    obtain ⟨x', ih⟩ := lgw_loop D gs (acc ++ ([("cap" : Str), nt g.2, "of"] ++ wN g.1)) (some (dG g)) (fun z hz => h z (List.mem_cons_of_mem _ hz)) (by simp [wN_len]; omega)
    refine ⟨x', ?_⟩
    rw [List.map_cons]
    have step : g__law_group_words_1 [some D, some (dWs acc), some (dG g)] = .nx [some D, some (dWs (acc ++ ([("cap" : Str), nt g.2, "of"] ++ wN g.1))), some (dG g)] := by
      have w := texts_ok h1
      simp only [dNs] at w
      simp (disch := ((try simp only [List.length_append, List.length_map, List.length_cons, List.length_nil, wN_len]); omega)) only [g__law_group_words_1, fnO, fnOf, oSeq, oSet, oIf, oRet, oRetN, oNil, oFor, oNever, oDrop, oAsg, oBk, oCt, Out.then, Rs.out, Rs.bind, Rs.of, mP, mFz, mOw, mMv, mVz, mO, sVar, sC, sBin, sUn, sNil, sCons, sArgs, sTup, sLstF, sTruB, sAnd, sOr, sNot, sIf, sF, sFn, pfn, sSeq, seqOf, sCat, sRep, sSl, sSlL, sPart, sNoP, sRevT, sRevL, sLC, wipeR, mSeqOf, mItA, sItA, gNm, gTp, gsNil, gsCons, setR, oget, dIx, L2.atI, L2.ixN, dEq, dNe, dAdd, dSub, dLt, dLe, dGt, dGe, dI0, dI2, dLen, dIs, dIsNot, Dat.isN, dNeg, sListOf, dTuple, dTup, sNotV, sAndV, sOrV, dJoin, mBin, mUn, mNil, mCons, mArgs, mLstF, mTru, mIf, mNot, mAnd, mOr, MV.cutD, HT.sIx, fz_non, fz_bl, fz_int, fz_str, fz_tup, fz_lst, fz_frl, fz_mls, fz_obj, str_beq, str_lit, List.map_cons, List.map_nil, List.length_cons, List.length_nil, List.length_map, List.replicate_succ, List.replicate_zero, List.cons_append, List.nil_append, List.getElem?_cons_zero, List.getElem?_cons_succ, List.set_cons_zero, List.set_cons_succ, Option.bind_some, Option.bind_none, Option.map_some, Option.map_none, if_true, if_false, Nat.reduceAdd, Nat.reduceSub, Nat.reduceLT, Nat.reduceLeDiff, Nat.reduceEqDiff, reduceIte, reduceCtorEq, decide_true, decide_false, Bool.not_true, Bool.not_false, Int.reduceLT, Int.reduceLE, String.reduceEq, Bool.false_eq_true, Bool.true_eq_false, eq_self, Int.toNat_zero, Int.toNat_one, Int.reduceToNat, Int.natCast_add, Int.reduceAdd, Int.reduceNeg, Int.reduceSub, Int.cast_ofNat_Int, Nat.add_one_sub_one, dStr_nt h2, dG, dNs, w, dWs, if_pos, List.map_append, List.append_assoc, eq_self, Int.toNat_zero, Int.toNat_one, Int.reduceToNat, Int.natCast_add, Int.reduceAdd]
    simp only [oForL, gNm, setR, List.set_cons_succ, List.set_cons_zero]
    rw [step]
    simp only []
    rw [ih]
    simp only [wG, List.flatMap_cons, List.append_assoc]

theorem cw_rows (rc : List Dat → Rs Dat) (D w4 : Option Dat) : ∀ (rows : List (List Int)) (acc : List Str) (x : Option Dat), (∀ r ∈ rows, okN r ∧ r ≠ []) → acc.length + rows.length * 41 ≤ 1000000 →
    ∃ x', oForL [3] gNm (g_choice_words_1 rc) (rows.map dNs) [D, some (.str "table"), some (dWs acc), x, w4] = .nx [D, some (.str "table"), some (dWs (acc ++ wR rows)), x', w4]
  | [], acc, x, _, _ => ⟨x, by simp [oForL, wR]⟩
  | g :: gs, acc, x, h, hl => by
    obtain ⟨h1, _⟩ := h g (by simp)
    have hg := h1.2
    simp only [List.length_cons, Nat.succ_mul] at hl
    obtain ⟨x', ih⟩ := cw_rows rc D w4 gs (acc ++ (("row" : Str) :: wN g)) (some (dNs g)) (fun z hz => h z (List.mem_cons_of_mem _ hz)) (by simp [wN_len]; omega)
    refine ⟨x', ?_⟩
    rw [List.map_cons]
    have step : g_choice_words_1 rc [D, some (.str "table"), some (dWs acc), some (dNs g), w4] = .nx [D, some (.str "table"), some (dWs (acc ++ (("row" : Str) :: wN g))), some (dNs g), w4] := by
      have w := words_of_ok h1
      simp only [dNs] at w
      simp (disch := ((try simp only [List.length_append, List.length_map, List.length_cons, List.length_nil, wN_len]); omega)) only [g_choice_words_1, fnO, fnOf, oSeq, oSet, oIf, oRet, oRetN, oNil, oFor, oNever, oDrop, oAsg, oBk, oCt, Out.then, Rs.out, Rs.bind, Rs.of, mP, mFz, mOw, mMv, mVz, mO, sVar, sC, sBin, sUn, sNil, sCons, sArgs, sTup, sLstF, sTruB, sAnd, sOr, sNot, sIf, sF, sFn, pfn, sSeq, seqOf, sCat, sRep, sSl, sSlL, sPart, sNoP, sRevT, sRevL, sLC, wipeR, mSeqOf, mItA, sItA, gNm, gTp, gsNil, gsCons, setR, oget, dIx, L2.atI, L2.ixN, dEq, dNe, dAdd, dSub, dLt, dLe, dGt, dGe, dI0, dI2, dLen, dIs, dIsNot, Dat.isN, dNeg, sListOf, dTuple, dTup, sNotV, sAndV, sOrV, dJoin, mBin, mUn, mNil, mCons, mArgs, mLstF, mTru, mIf, mNot, mAnd, mOr, MV.cutD, HT.sIx, fz_non, fz_bl, fz_int, fz_str, fz_tup, fz_lst, fz_frl, fz_mls, fz_obj, str_beq, str_lit, List.map_cons, List.map_nil, List.length_cons, List.length_nil, List.length_map, List.replicate_succ, List.replicate_zero, List.cons_append, List.nil_append, List.getElem?_cons_zero, List.getElem?_cons_succ, List.set_cons_zero, List.set_cons_succ, Option.bind_some, Option.bind_none, Option.map_some, Option.map_none, if_true, if_false, Nat.reduceAdd, Nat.reduceSub, Nat.reduceLT, Nat.reduceLeDiff, Nat.reduceEqDiff, reduceIte, reduceCtorEq, decide_true, decide_false, Bool.not_true, Bool.not_false, Int.reduceLT, Int.reduceLE, String.reduceEq, Bool.false_eq_true, Bool.true_eq_false, eq_self, Int.toNat_zero, Int.toNat_one, Int.reduceToNat, Int.natCast_add, Int.reduceAdd, Int.reduceNeg, Int.reduceSub, Int.cast_ofNat_Int, Nat.add_one_sub_one, dNs, w, dWs, if_pos, List.map_append, List.append_assoc]
    simp only [oForL, gNm, setR, List.set_cons_succ, List.set_cons_zero]
    rw [step]
    simp only []
    rw [ih]
    simp only [wR, List.flatMap_cons, List.append_assoc]

theorem cw_s1 (rc : List Dat → Rs Dat) {a b c d : Option Dat} {k : String} (h : decide (k = "maker") = false) : g_choice_words_s1 rc [a, some (.str k), b, c, d] = .nx [a, some (.str k), b, c, d] := by
  simp only [g_choice_words_s1, fnO, fnOf, oSeq, oSet, oIf, oRet, oRetN, oNil, oFor, oNever, oDrop, oAsg, oBk, oCt, Out.then, Rs.out, Rs.bind, Rs.of, mP, mFz, mOw, mMv, mVz, mO, sVar, sC, sBin, sUn, sNil, sCons, sArgs, sTup, sLstF, sTruB, sAnd, sOr, sNot, sIf, sF, sFn, pfn, sSeq, seqOf, sCat, sRep, sSl, sSlL, sPart, sNoP, sRevT, sRevL, sLC, wipeR, mSeqOf, mItA, sItA, gNm, gTp, gsNil, gsCons, setR, oget, dIx, L2.atI, L2.ixN, dEq, dNe, dAdd, dSub, dLt, dLe, dGt, dGe, dI0, dI2, dLen, dIs, dIsNot, Dat.isN, dNeg, sListOf, dTuple, dTup, sNotV, sAndV, sOrV, dJoin, mBin, mUn, mNil, mCons, mArgs, mLstF, mTru, mIf, mNot, mAnd, mOr, MV.cutD, HT.sIx, fz_non, fz_bl, fz_int, fz_str, fz_tup, fz_lst, fz_frl, fz_mls, fz_obj, str_beq, str_lit, List.map_cons, List.map_nil, List.length_cons, List.length_nil, List.length_map, List.replicate_succ, List.replicate_zero, List.cons_append, List.nil_append, List.getElem?_cons_zero, List.getElem?_cons_succ, List.set_cons_zero, List.set_cons_succ, Option.bind_some, Option.bind_none, Option.map_some, Option.map_none, if_true, if_false, Nat.reduceAdd, Nat.reduceSub, Nat.reduceLT, Nat.reduceLeDiff, Nat.reduceEqDiff, reduceIte, reduceCtorEq, decide_true, decide_false, Bool.not_true, Bool.not_false, Int.reduceLT, Int.reduceLE, String.reduceEq, Bool.false_eq_true, Bool.true_eq_false, eq_self, Int.toNat_zero, Int.toNat_one, Int.reduceToNat, Int.natCast_add, Int.reduceAdd, Int.reduceNeg, Int.reduceSub, Int.cast_ofNat_Int, Nat.add_one_sub_one, h]
theorem cw_s2 (rc : List Dat → Rs Dat) {a b c d : Option Dat} {k : String} (h : decide (k = "sides") = false) : g_choice_words_s2 rc [a, some (.str k), b, c, d] = .nx [a, some (.str k), b, c, d] := by
  simp only [g_choice_words_s2, fnO, fnOf, oSeq, oSet, oIf, oRet, oRetN, oNil, oFor, oNever, oDrop, oAsg, oBk, oCt, Out.then, Rs.out, Rs.bind, Rs.of, mP, mFz, mOw, mMv, mVz, mO, sVar, sC, sBin, sUn, sNil, sCons, sArgs, sTup, sLstF, sTruB, sAnd, sOr, sNot, sIf, sF, sFn, pfn, sSeq, seqOf, sCat, sRep, sSl, sSlL, sPart, sNoP, sRevT, sRevL, sLC, wipeR, mSeqOf, mItA, sItA, gNm, gTp, gsNil, gsCons, setR, oget, dIx, L2.atI, L2.ixN, dEq, dNe, dAdd, dSub, dLt, dLe, dGt, dGe, dI0, dI2, dLen, dIs, dIsNot, Dat.isN, dNeg, sListOf, dTuple, dTup, sNotV, sAndV, sOrV, dJoin, mBin, mUn, mNil, mCons, mArgs, mLstF, mTru, mIf, mNot, mAnd, mOr, MV.cutD, HT.sIx, fz_non, fz_bl, fz_int, fz_str, fz_tup, fz_lst, fz_frl, fz_mls, fz_obj, str_beq, str_lit, List.map_cons, List.map_nil, List.length_cons, List.length_nil, List.length_map, List.replicate_succ, List.replicate_zero, List.cons_append, List.nil_append, List.getElem?_cons_zero, List.getElem?_cons_succ, List.set_cons_zero, List.set_cons_succ, Option.bind_some, Option.bind_none, Option.map_some, Option.map_none, if_true, if_false, Nat.reduceAdd, Nat.reduceSub, Nat.reduceLT, Nat.reduceLeDiff, Nat.reduceEqDiff, reduceIte, reduceCtorEq, decide_true, decide_false, Bool.not_true, Bool.not_false, Int.reduceLT, Int.reduceLE, String.reduceEq, Bool.false_eq_true, Bool.true_eq_false, eq_self, Int.toNat_zero, Int.toNat_one, Int.reduceToNat, Int.natCast_add, Int.reduceAdd, Int.reduceNeg, Int.reduceSub, Int.cast_ofNat_Int, Nat.add_one_sub_one, h]
theorem cw_s3 (rc : List Dat → Rs Dat) {a b c d : Option Dat} {k : String} (h : decide (k = "trader") = false) : g_choice_words_s3 rc [a, some (.str k), b, c, d] = .nx [a, some (.str k), b, c, d] := by
  simp only [g_choice_words_s3, fnO, fnOf, oSeq, oSet, oIf, oRet, oRetN, oNil, oFor, oNever, oDrop, oAsg, oBk, oCt, Out.then, Rs.out, Rs.bind, Rs.of, mP, mFz, mOw, mMv, mVz, mO, sVar, sC, sBin, sUn, sNil, sCons, sArgs, sTup, sLstF, sTruB, sAnd, sOr, sNot, sIf, sF, sFn, pfn, sSeq, seqOf, sCat, sRep, sSl, sSlL, sPart, sNoP, sRevT, sRevL, sLC, wipeR, mSeqOf, mItA, sItA, gNm, gTp, gsNil, gsCons, setR, oget, dIx, L2.atI, L2.ixN, dEq, dNe, dAdd, dSub, dLt, dLe, dGt, dGe, dI0, dI2, dLen, dIs, dIsNot, Dat.isN, dNeg, sListOf, dTuple, dTup, sNotV, sAndV, sOrV, dJoin, mBin, mUn, mNil, mCons, mArgs, mLstF, mTru, mIf, mNot, mAnd, mOr, MV.cutD, HT.sIx, fz_non, fz_bl, fz_int, fz_str, fz_tup, fz_lst, fz_frl, fz_mls, fz_obj, str_beq, str_lit, List.map_cons, List.map_nil, List.length_cons, List.length_nil, List.length_map, List.replicate_succ, List.replicate_zero, List.cons_append, List.nil_append, List.getElem?_cons_zero, List.getElem?_cons_succ, List.set_cons_zero, List.set_cons_succ, Option.bind_some, Option.bind_none, Option.map_some, Option.map_none, if_true, if_false, Nat.reduceAdd, Nat.reduceSub, Nat.reduceLT, Nat.reduceLeDiff, Nat.reduceEqDiff, reduceIte, reduceCtorEq, decide_true, decide_false, Bool.not_true, Bool.not_false, Int.reduceLT, Int.reduceLE, String.reduceEq, Bool.false_eq_true, Bool.true_eq_false, eq_self, Int.toNat_zero, Int.toNat_one, Int.reduceToNat, Int.natCast_add, Int.reduceAdd, Int.reduceNeg, Int.reduceSub, Int.cast_ofNat_Int, Nat.add_one_sub_one, h]
theorem cw_s4 (rc : List Dat → Rs Dat) {a b c d : Option Dat} {k : String} (h : decide (k = "caps") = false) : g_choice_words_s4 rc [a, some (.str k), b, c, d] = .nx [a, some (.str k), b, c, d] := by
  simp only [g_choice_words_s4, fnO, fnOf, oSeq, oSet, oIf, oRet, oRetN, oNil, oFor, oNever, oDrop, oAsg, oBk, oCt, Out.then, Rs.out, Rs.bind, Rs.of, mP, mFz, mOw, mMv, mVz, mO, sVar, sC, sBin, sUn, sNil, sCons, sArgs, sTup, sLstF, sTruB, sAnd, sOr, sNot, sIf, sF, sFn, pfn, sSeq, seqOf, sCat, sRep, sSl, sSlL, sPart, sNoP, sRevT, sRevL, sLC, wipeR, mSeqOf, mItA, sItA, gNm, gTp, gsNil, gsCons, setR, oget, dIx, L2.atI, L2.ixN, dEq, dNe, dAdd, dSub, dLt, dLe, dGt, dGe, dI0, dI2, dLen, dIs, dIsNot, Dat.isN, dNeg, sListOf, dTuple, dTup, sNotV, sAndV, sOrV, dJoin, mBin, mUn, mNil, mCons, mArgs, mLstF, mTru, mIf, mNot, mAnd, mOr, MV.cutD, HT.sIx, fz_non, fz_bl, fz_int, fz_str, fz_tup, fz_lst, fz_frl, fz_mls, fz_obj, str_beq, str_lit, List.map_cons, List.map_nil, List.length_cons, List.length_nil, List.length_map, List.replicate_succ, List.replicate_zero, List.cons_append, List.nil_append, List.getElem?_cons_zero, List.getElem?_cons_succ, List.set_cons_zero, List.set_cons_succ, Option.bind_some, Option.bind_none, Option.map_some, Option.map_none, if_true, if_false, Nat.reduceAdd, Nat.reduceSub, Nat.reduceLT, Nat.reduceLeDiff, Nat.reduceEqDiff, reduceIte, reduceCtorEq, decide_true, decide_false, Bool.not_true, Bool.not_false, Int.reduceLT, Int.reduceLE, String.reduceEq, Bool.false_eq_true, Bool.true_eq_false, eq_self, Int.toNat_zero, Int.toNat_one, Int.reduceToNat, Int.natCast_add, Int.reduceAdd, Int.reduceNeg, Int.reduceSub, Int.cast_ofNat_Int, Nat.add_one_sub_one, h]
theorem cw_s0 (rc : List Dat → Rs Dat) {k : String} {l : List Dat} {b c d : Option Dat} {x : Option Dat} : g_choice_words_s0 rc [some (.tup (.str k :: l)), x, b, c, d] = .nx [some (.tup (.str k :: l)), some (.str k), b, c, d] := by
  have h : (0 : Int) < (l.length + 1 : Nat) := by omega
  simp only [g_choice_words_s0, fnO, fnOf, oSeq, oSet, oIf, oRet, oRetN, oNil, oFor, oNever, oDrop, oAsg, oBk, oCt, Out.then, Rs.out, Rs.bind, Rs.of, mP, mFz, mOw, mMv, mVz, mO, sVar, sC, sBin, sUn, sNil, sCons, sArgs, sTup, sLstF, sTruB, sAnd, sOr, sNot, sIf, sF, sFn, pfn, sSeq, seqOf, sCat, sRep, sSl, sSlL, sPart, sNoP, sRevT, sRevL, sLC, wipeR, mSeqOf, mItA, sItA, gNm, gTp, gsNil, gsCons, setR, oget, dIx, L2.atI, L2.ixN, dEq, dNe, dAdd, dSub, dLt, dLe, dGt, dGe, dI0, dI2, dLen, dIs, dIsNot, Dat.isN, dNeg, sListOf, dTuple, dTup, sNotV, sAndV, sOrV, dJoin, mBin, mUn, mNil, mCons, mArgs, mLstF, mTru, mIf, mNot, mAnd, mOr, MV.cutD, HT.sIx, fz_non, fz_bl, fz_int, fz_str, fz_tup, fz_lst, fz_frl, fz_mls, fz_obj, str_beq, str_lit, List.map_cons, List.map_nil, List.length_cons, List.length_nil, List.length_map, List.replicate_succ, List.replicate_zero, List.cons_append, List.nil_append, List.getElem?_cons_zero, List.getElem?_cons_succ, List.set_cons_zero, List.set_cons_succ, Option.bind_some, Option.bind_none, Option.map_some, Option.map_none, if_true, if_false, Nat.reduceAdd, Nat.reduceSub, Nat.reduceLT, Nat.reduceLeDiff, Nat.reduceEqDiff, reduceIte, reduceCtorEq, decide_true, decide_false, Bool.not_true, Bool.not_false, Int.reduceLT, Int.reduceLE, String.reduceEq, Bool.false_eq_true, Bool.true_eq_false, eq_self, Int.toNat_zero, Int.toNat_one, Int.reduceToNat, Int.natCast_add, Int.reduceAdd, Int.reduceNeg, Int.reduceSub, Int.cast_ofNat_Int, Nat.add_one_sub_one]
  simp [L2.ixN]
theorem choice_ok (m : Nat) {c : Ch} (h : c.ok) : f_choice_words (m + 1) [c.d] = .ok (dWs c.w) [] := by
  cases c with
  | maker r b s =>
    obtain ⟨hr, hb, hs⟩ := h
    have b1 := hb.2
    have s1 := hs.2
    have wb := words_of_ok hb
    have ws := words_of_ok hs
    simp only [dNs] at wb ws
    have e1 : g_choice_words_s1 (f_choice_words m) [some (Ch.maker r b s).d, some (.str "maker"), none, none, none] = .rt (dWs (Ch.maker r b s).w) [some (Ch.maker r b s).d, some (.str "maker"), none, none, none] := by
      simp (disch := ((try simp only [List.length_append, List.length_map, List.length_cons, List.length_nil, wN_len]); omega)) only [g_choice_words_s1, Ch.d, Ch.w, fnO, fnOf, oSeq, oSet, oIf, oRet, oRetN, oNil, oFor, oNever, oDrop, oAsg, oBk, oCt, Out.then, Rs.out, Rs.bind, Rs.of, mP, mFz, mOw, mMv, mVz, mO, sVar, sC, sBin, sUn, sNil, sCons, sArgs, sTup, sLstF, sTruB, sAnd, sOr, sNot, sIf, sF, sFn, pfn, sSeq, seqOf, sCat, sRep, sSl, sSlL, sPart, sNoP, sRevT, sRevL, sLC, wipeR, mSeqOf, mItA, sItA, gNm, gTp, gsNil, gsCons, setR, oget, dIx, L2.atI, L2.ixN, dEq, dNe, dAdd, dSub, dLt, dLe, dGt, dGe, dI0, dI2, dLen, dIs, dIsNot, Dat.isN, dNeg, sListOf, dTuple, dTup, sNotV, sAndV, sOrV, dJoin, mBin, mUn, mNil, mCons, mArgs, mLstF, mTru, mIf, mNot, mAnd, mOr, MV.cutD, HT.sIx, fz_non, fz_bl, fz_int, fz_str, fz_tup, fz_lst, fz_frl, fz_mls, fz_obj, str_beq, str_lit, List.map_cons, List.map_nil, List.length_cons, List.length_nil, List.length_map, List.replicate_succ, List.replicate_zero, List.cons_append, List.nil_append, List.getElem?_cons_zero, List.getElem?_cons_succ, List.set_cons_zero, List.set_cons_succ, Option.bind_some, Option.bind_none, Option.map_some, Option.map_none, if_true, if_false, Nat.reduceAdd, Nat.reduceSub, Nat.reduceLT, Nat.reduceLeDiff, Nat.reduceEqDiff, reduceIte, reduceCtorEq, decide_true, decide_false, Bool.not_true, Bool.not_false, Int.reduceLT, Int.reduceLE, String.reduceEq, Bool.false_eq_true, Bool.true_eq_false, eq_self, Int.toNat_zero, Int.toNat_one, Int.reduceToNat, Int.natCast_add, Int.reduceAdd, Int.reduceNeg, Int.reduceSub, Int.cast_ofNat_Int, Nat.add_one_sub_one, dStr_nt hr, dNs, wb, ws, dWs, if_pos, List.map_append, List.append_assoc]
    simp only [Ch.d] at e1
    simp only [f_choice_words, g_choice_words, fnO, fnOf, oSeq, Out.then, Ch.d, List.map_cons, List.map_nil, List.length_cons, List.length_nil, Nat.reduceAdd, Nat.reduceSub, List.replicate_succ, List.replicate_zero, List.cons_append, List.nil_append, if_true, cw_s0, e1]
  | sides r b p s =>
    obtain ⟨hr, hb, hp, hs⟩ := h
    have b1 := hb.2
    have s1 := hs.2
    have wb := words_of_ok hb
    have ws := words_of_ok hs
    simp only [dNs] at wb ws
    have e1 : ∃ ρ, g_choice_words_s2 (f_choice_words m) [some (Ch.sides r b p s).d, some (.str "sides"), none, none, none] = .rt (dWs (Ch.sides r b p s).w) ρ := by
      refine Out.of_val ?_
      simp (disch := ((try simp only [List.length_append, List.length_map, List.length_cons, List.length_nil, wN_len]); omega)) only [g_choice_words_s2, Ch.d, Ch.w, fnO, fnOf, oSeq, oSet, oIf, oRet, oRetN, oNil, oFor, oNever, oDrop, oAsg, oBk, oCt, Out.then, Rs.out, Rs.bind, Rs.of, mP, mFz, mOw, mMv, mVz, mO, sVar, sC, sBin, sUn, sNil, sCons, sArgs, sTup, sLstF, sTruB, sAnd, sOr, sNot, sIf, sF, sFn, pfn, sSeq, seqOf, sCat, sRep, sSl, sSlL, sPart, sNoP, sRevT, sRevL, sLC, wipeR, mSeqOf, mItA, sItA, gNm, gTp, gsNil, gsCons, setR, oget, dIx, L2.atI, L2.ixN, dEq, dNe, dAdd, dSub, dLt, dLe, dGt, dGe, dI0, dI2, dLen, dIs, dIsNot, Dat.isN, dNeg, sListOf, dTuple, dTup, sNotV, sAndV, sOrV, dJoin, mBin, mUn, mNil, mCons, mArgs, mLstF, mTru, mIf, mNot, mAnd, mOr, MV.cutD, HT.sIx, fz_non, fz_bl, fz_int, fz_str, fz_tup, fz_lst, fz_frl, fz_mls, fz_obj, str_beq, str_lit, List.map_cons, List.map_nil, List.length_cons, List.length_nil, List.length_map, List.replicate_succ, List.replicate_zero, List.cons_append, List.nil_append, List.getElem?_cons_zero, List.getElem?_cons_succ, List.set_cons_zero, List.set_cons_succ, Option.bind_some, Option.bind_none, Option.map_some, Option.map_none, if_true, if_false, Nat.reduceAdd, Nat.reduceSub, Nat.reduceLT, Nat.reduceLeDiff, Nat.reduceEqDiff, reduceIte, reduceCtorEq, decide_true, decide_false, Bool.not_true, Bool.not_false, Int.reduceLT, Int.reduceLE, String.reduceEq, Bool.false_eq_true, Bool.true_eq_false, eq_self, Int.toNat_zero, Int.toNat_one, Int.reduceToNat, Int.natCast_add, Int.reduceAdd, Int.reduceNeg, Int.reduceSub, Int.cast_ofNat_Int, Nat.add_one_sub_one, dStr_nt hr, dStr_nt hp, dNs, wb, ws, dWs, if_pos, List.map_append, List.append_assoc, Out.val]
    obtain ⟨ρ, e1⟩ := e1
    simp only [Ch.d] at e1
    simp only [f_choice_words, g_choice_words, fnO, fnOf, oSeq, Out.then, Ch.d, List.map_cons, List.map_nil, List.length_cons, List.length_nil, Nat.reduceAdd, Nat.reduceSub, List.replicate_succ, List.replicate_zero, List.cons_append, List.nil_append, if_true, cw_s0, cw_s1 (f_choice_words m) (k := "sides") (by decide), e1]
  | trader r t b s =>
    obtain ⟨hr, ht, hb, hs⟩ := h
    have b1 := hb.2
    have s1 := hs.2
    have wb := words_of_ok hb
    have ws := words_of_ok hs
    simp only [dNs] at wb ws
    have e1 : ∃ ρ, g_choice_words_s3 (f_choice_words m) [some (Ch.trader r t b s).d, some (.str "trader"), none, none, none] = .rt (dWs (Ch.trader r t b s).w) ρ := by
      refine Out.of_val ?_
      simp (disch := ((try simp only [List.length_append, List.length_map, List.length_cons, List.length_nil, wN_len]); omega)) only [g_choice_words_s3, Ch.d, Ch.w, fnO, fnOf, oSeq, oSet, oIf, oRet, oRetN, oNil, oFor, oNever, oDrop, oAsg, oBk, oCt, Out.then, Rs.out, Rs.bind, Rs.of, mP, mFz, mOw, mMv, mVz, mO, sVar, sC, sBin, sUn, sNil, sCons, sArgs, sTup, sLstF, sTruB, sAnd, sOr, sNot, sIf, sF, sFn, pfn, sSeq, seqOf, sCat, sRep, sSl, sSlL, sPart, sNoP, sRevT, sRevL, sLC, wipeR, mSeqOf, mItA, sItA, gNm, gTp, gsNil, gsCons, setR, oget, dIx, L2.atI, L2.ixN, dEq, dNe, dAdd, dSub, dLt, dLe, dGt, dGe, dI0, dI2, dLen, dIs, dIsNot, Dat.isN, dNeg, sListOf, dTuple, dTup, sNotV, sAndV, sOrV, dJoin, mBin, mUn, mNil, mCons, mArgs, mLstF, mTru, mIf, mNot, mAnd, mOr, MV.cutD, HT.sIx, fz_non, fz_bl, fz_int, fz_str, fz_tup, fz_lst, fz_frl, fz_mls, fz_obj, str_beq, str_lit, List.map_cons, List.map_nil, List.length_cons, List.length_nil, List.length_map, List.replicate_succ, List.replicate_zero, List.cons_append, List.nil_append, List.getElem?_cons_zero, List.getElem?_cons_succ, List.set_cons_zero, List.set_cons_succ, Option.bind_some, Option.bind_none, Option.map_some, Option.map_none, if_true, if_false, Nat.reduceAdd, Nat.reduceSub, Nat.reduceLT, Nat.reduceLeDiff, Nat.reduceEqDiff, reduceIte, reduceCtorEq, decide_true, decide_false, Bool.not_true, Bool.not_false, Int.reduceLT, Int.reduceLE, String.reduceEq, Bool.false_eq_true, Bool.true_eq_false, eq_self, Int.toNat_zero, Int.toNat_one, Int.reduceToNat, Int.natCast_add, Int.reduceAdd, Int.reduceNeg, Int.reduceSub, Int.cast_ofNat_Int, Nat.add_one_sub_one, dStr_nt hr, dStr_nt ht, dNs, wb, ws, dWs, if_pos, List.map_append, List.append_assoc, Out.val]
    obtain ⟨ρ, e1⟩ := e1
    simp only [Ch.d] at e1
    simp only [f_choice_words, g_choice_words, fnO, fnOf, oSeq, Out.then, Ch.d, List.map_cons, List.map_nil, List.length_cons, List.length_nil, Nat.reduceAdd, Nat.reduceSub, List.replicate_succ, List.replicate_zero, List.cons_append, List.nil_append, if_true, cw_s0, cw_s1 (f_choice_words m) (k := "trader") (by decide), cw_s2 (f_choice_words m) (k := "trader") (by decide), e1]
  | caps b g s k =>
    obtain ⟨hb, hg, hs, hk⟩ := h
    have b1 := hb.2
    have s1 := hs.2
    have g1 := wG_len hg
    have k1 := wG_len hk
    have wb := words_of_ok hb
    have ws := words_of_ok hs
    have wg := group_words_ok hg
    have wk := group_words_ok hk
    simp only [dNs, dGs] at wb ws wg wk
    have e1 : ∃ ρ, g_choice_words_s4 (f_choice_words m) [some (Ch.caps b g s k).d, some (.str "caps"), none, none, none] = .rt (dWs (Ch.caps b g s k).w) ρ := by
      refine Out.of_val ?_
      simp (disch := ((try simp only [List.length_append, List.length_map, List.length_cons, List.length_nil, wN_len]); omega)) only [g_choice_words_s4, Ch.d, Ch.w, fnO, fnOf, oSeq, oSet, oIf, oRet, oRetN, oNil, oFor, oNever, oDrop, oAsg, oBk, oCt, Out.then, Rs.out, Rs.bind, Rs.of, mP, mFz, mOw, mMv, mVz, mO, sVar, sC, sBin, sUn, sNil, sCons, sArgs, sTup, sLstF, sTruB, sAnd, sOr, sNot, sIf, sF, sFn, pfn, sSeq, seqOf, sCat, sRep, sSl, sSlL, sPart, sNoP, sRevT, sRevL, sLC, wipeR, mSeqOf, mItA, sItA, gNm, gTp, gsNil, gsCons, setR, oget, dIx, L2.atI, L2.ixN, dEq, dNe, dAdd, dSub, dLt, dLe, dGt, dGe, dI0, dI2, dLen, dIs, dIsNot, Dat.isN, dNeg, sListOf, dTuple, dTup, sNotV, sAndV, sOrV, dJoin, mBin, mUn, mNil, mCons, mArgs, mLstF, mTru, mIf, mNot, mAnd, mOr, MV.cutD, HT.sIx, fz_non, fz_bl, fz_int, fz_str, fz_tup, fz_lst, fz_frl, fz_mls, fz_obj, str_beq, str_lit, List.map_cons, List.map_nil, List.length_cons, List.length_nil, List.length_map, List.replicate_succ, List.replicate_zero, List.cons_append, List.nil_append, List.getElem?_cons_zero, List.getElem?_cons_succ, List.set_cons_zero, List.set_cons_succ, Option.bind_some, Option.bind_none, Option.map_some, Option.map_none, if_true, if_false, Nat.reduceAdd, Nat.reduceSub, Nat.reduceLT, Nat.reduceLeDiff, Nat.reduceEqDiff, reduceIte, reduceCtorEq, decide_true, decide_false, Bool.not_true, Bool.not_false, Int.reduceLT, Int.reduceLE, String.reduceEq, Bool.false_eq_true, Bool.true_eq_false, eq_self, Int.toNat_zero, Int.toNat_one, Int.reduceToNat, Int.natCast_add, Int.reduceAdd, Int.reduceNeg, Int.reduceSub, Int.cast_ofNat_Int, Nat.add_one_sub_one, dNs, dGs, wb, ws, wg, wk, dWs, if_pos, List.map_append, List.append_assoc, Out.val]
    obtain ⟨ρ, e1⟩ := e1
    simp only [Ch.d] at e1
    simp only [f_choice_words, g_choice_words, fnO, fnOf, oSeq, Out.then, Ch.d, List.map_cons, List.map_nil, List.length_cons, List.length_nil, Nat.reduceAdd, Nat.reduceSub, List.replicate_succ, List.replicate_zero, List.cons_append, List.nil_append, if_true, cw_s0, cw_s1 (f_choice_words m) (k := "caps") (by decide), cw_s2 (f_choice_words m) (k := "caps") (by decide), cw_s3 (f_choice_words m) (k := "caps") (by decide), e1]
  | table rows =>
    obtain ⟨x', e⟩ := cw_rows (f_choice_words m) (some (Ch.table rows).d) none rows [("table" : Str)] none h.1 (by have := h.2; simp; omega)
    have e1 : g_choice_words_s5 (f_choice_words m) [some (Ch.table rows).d, some (.str "table"), none, none, none] = .nx [some (Ch.table rows).d, some (.str "table"), some (dWs [("table" : Str)]), none, none] := by
      simp only [g_choice_words_s5, fnO, fnOf, oSeq, oSet, oIf, oRet, oRetN, oNil, oFor, oNever, oDrop, oAsg, oBk, oCt, Out.then, Rs.out, Rs.bind, Rs.of, mP, mFz, mOw, mMv, mVz, mO, sVar, sC, sBin, sUn, sNil, sCons, sArgs, sTup, sLstF, sTruB, sAnd, sOr, sNot, sIf, sF, sFn, pfn, sSeq, seqOf, sCat, sRep, sSl, sSlL, sPart, sNoP, sRevT, sRevL, sLC, wipeR, mSeqOf, mItA, sItA, gNm, gTp, gsNil, gsCons, setR, oget, dIx, L2.atI, L2.ixN, dEq, dNe, dAdd, dSub, dLt, dLe, dGt, dGe, dI0, dI2, dLen, dIs, dIsNot, Dat.isN, dNeg, sListOf, dTuple, dTup, sNotV, sAndV, sOrV, dJoin, mBin, mUn, mNil, mCons, mArgs, mLstF, mTru, mIf, mNot, mAnd, mOr, MV.cutD, HT.sIx, fz_non, fz_bl, fz_int, fz_str, fz_tup, fz_lst, fz_frl, fz_mls, fz_obj, str_beq, str_lit, List.map_cons, List.map_nil, List.length_cons, List.length_nil, List.length_map, List.replicate_succ, List.replicate_zero, List.cons_append, List.nil_append, List.getElem?_cons_zero, List.getElem?_cons_succ, List.set_cons_zero, List.set_cons_succ, Option.bind_some, Option.bind_none, Option.map_some, Option.map_none, if_true, if_false, Nat.reduceAdd, Nat.reduceSub, Nat.reduceLT, Nat.reduceLeDiff, Nat.reduceEqDiff, reduceIte, reduceCtorEq, decide_true, decide_false, Bool.not_true, Bool.not_false, Int.reduceLT, Int.reduceLE, String.reduceEq, Bool.false_eq_true, Bool.true_eq_false, eq_self, Int.toNat_zero, Int.toNat_one, Int.reduceToNat, Int.natCast_add, Int.reduceAdd, Int.reduceNeg, Int.reduceSub, Int.cast_ofNat_Int, Nat.add_one_sub_one, dWs]
    have e2 : g_choice_words_s6 (f_choice_words m) [some (Ch.table rows).d, some (.str "table"), some (dWs [("table" : Str)]), none, none] = .nx [some (Ch.table rows).d, some (.str "table"), some (dWs ([("table" : Str)] ++ wR rows)), x', none] := by
      rw [← e]
      simp only [g_choice_words_s6, fnO, fnOf, oSeq, oSet, oIf, oRet, oRetN, oNil, oFor, oNever, oDrop, oAsg, oBk, oCt, Out.then, Rs.out, Rs.bind, Rs.of, mP, mFz, mOw, mMv, mVz, mO, sVar, sC, sBin, sUn, sNil, sCons, sArgs, sTup, sLstF, sTruB, sAnd, sOr, sNot, sIf, sF, sFn, pfn, sSeq, seqOf, sCat, sRep, sSl, sSlL, sPart, sNoP, sRevT, sRevL, sLC, wipeR, mSeqOf, mItA, sItA, gNm, gTp, gsNil, gsCons, setR, oget, dIx, L2.atI, L2.ixN, dEq, dNe, dAdd, dSub, dLt, dLe, dGt, dGe, dI0, dI2, dLen, dIs, dIsNot, Dat.isN, dNeg, sListOf, dTuple, dTup, sNotV, sAndV, sOrV, dJoin, mBin, mUn, mNil, mCons, mArgs, mLstF, mTru, mIf, mNot, mAnd, mOr, MV.cutD, HT.sIx, fz_non, fz_bl, fz_int, fz_str, fz_tup, fz_lst, fz_frl, fz_mls, fz_obj, str_beq, str_lit, List.map_cons, List.map_nil, List.length_cons, List.length_nil, List.length_map, List.replicate_succ, List.replicate_zero, List.cons_append, List.nil_append, List.getElem?_cons_zero, List.getElem?_cons_succ, List.set_cons_zero, List.set_cons_succ, Option.bind_some, Option.bind_none, Option.map_some, Option.map_none, if_true, if_false, Nat.reduceAdd, Nat.reduceSub, Nat.reduceLT, Nat.reduceLeDiff, Nat.reduceEqDiff, reduceIte, reduceCtorEq, decide_true, decide_false, Bool.not_true, Bool.not_false, Int.reduceLT, Int.reduceLE, String.reduceEq, Bool.false_eq_true, Bool.true_eq_false, eq_self, Int.toNat_zero, Int.toNat_one, Int.reduceToNat, Int.natCast_add, Int.reduceAdd, Int.reduceNeg, Int.reduceSub, Int.cast_ofNat_Int, Nat.add_one_sub_one, Ch.d]
    have e3 : g_choice_words_s7 (f_choice_words m) [some (Ch.table rows).d, some (.str "table"), some (dWs ([("table" : Str)] ++ wR rows)), x', none] = .rt (dWs ([("table" : Str)] ++ wR rows)) [some (Ch.table rows).d, some (.str "table"), some (dWs ([("table" : Str)] ++ wR rows)), x', none] := by
      simp only [g_choice_words_s7, fnO, fnOf, oSeq, oSet, oIf, oRet, oRetN, oNil, oFor, oNever, oDrop, oAsg, oBk, oCt, Out.then, Rs.out, Rs.bind, Rs.of, mP, mFz, mOw, mMv, mVz, mO, sVar, sC, sBin, sUn, sNil, sCons, sArgs, sTup, sLstF, sTruB, sAnd, sOr, sNot, sIf, sF, sFn, pfn, sSeq, seqOf, sCat, sRep, sSl, sSlL, sPart, sNoP, sRevT, sRevL, sLC, wipeR, mSeqOf, mItA, sItA, gNm, gTp, gsNil, gsCons, setR, oget, dIx, L2.atI, L2.ixN, dEq, dNe, dAdd, dSub, dLt, dLe, dGt, dGe, dI0, dI2, dLen, dIs, dIsNot, Dat.isN, dNeg, sListOf, dTuple, dTup, sNotV, sAndV, sOrV, dJoin, mBin, mUn, mNil, mCons, mArgs, mLstF, mTru, mIf, mNot, mAnd, mOr, MV.cutD, HT.sIx, fz_non, fz_bl, fz_int, fz_str, fz_tup, fz_lst, fz_frl, fz_mls, fz_obj, str_beq, str_lit, List.map_cons, List.map_nil, List.length_cons, List.length_nil, List.length_map, List.replicate_succ, List.replicate_zero, List.cons_append, List.nil_append, List.getElem?_cons_zero, List.getElem?_cons_succ, List.set_cons_zero, List.set_cons_succ, Option.bind_some, Option.bind_none, Option.map_some, Option.map_none, if_true, if_false, Nat.reduceAdd, Nat.reduceSub, Nat.reduceLT, Nat.reduceLeDiff, Nat.reduceEqDiff, reduceIte, reduceCtorEq, decide_true, decide_false, Bool.not_true, Bool.not_false, Int.reduceLT, Int.reduceLE, String.reduceEq, Bool.false_eq_true, Bool.true_eq_false, eq_self, Int.toNat_zero, Int.toNat_one, Int.reduceToNat, Int.natCast_add, Int.reduceAdd, Int.reduceNeg, Int.reduceSub, Int.cast_ofNat_Int, Nat.add_one_sub_one, dWs]
    simp only [Ch.d] at e1 e2 e3
    simp only [f_choice_words, g_choice_words, fnO, fnOf, oSeq, Out.then, Ch.d, List.map_cons, List.map_nil, List.length_cons, List.length_nil, Nat.reduceAdd, Nat.reduceSub, List.replicate_succ, List.replicate_zero, List.cons_append, List.nil_append, if_true, cw_s0, cw_s1 (f_choice_words m) (k := "table") (by decide), cw_s2 (f_choice_words m) (k := "table") (by decide), cw_s3 (f_choice_words m) (k := "table") (by decide), cw_s4 (f_choice_words m) (k := "table") (by decide), e1]
    simp only [List.cons_append, List.nil_append] at e2 e3
    simp only [e2, e3, Ch.w, List.cons_append, List.nil_append]
end K98

namespace K98
open PySem PySem.Spec PyProof.Rows L2 MV
theorem dWs_fz (ws : List Str) : (dWs ws).fz = true := rfl
theorem cw_parts (rc : List Dat → Rs Dat) (D w4 : Option Dat) : ∀ (cs : List Ch) (acc : List Str) (x : Option Dat), (∀ c ∈ cs, c.ok) → (∀ c ∈ cs, rc [c.d] = .ok (dWs c.w) []) → acc.length + cs.length * 3601 ≤ 1000000 →
    ∃ x', oForL [3] gNm (g_choice_words_1 rc) (cs.map Ch.d) [D, some (.str "split"), some (dWs acc), x, w4] = .nx [D, some (.str "split"), some (dWs (acc ++ wP cs)), x', w4]
  | [], acc, x, _, _, _ => ⟨x, by simp [oForL, wP]⟩
  | c :: cs, acc, x, h, hr, hl => by
    have h1 := h c (by simp)
    have w := hr c (by simp)
    have hg := Ch.w_len h1
    simp only [List.length_cons, Nat.succ_mul] at hl
    obtain ⟨x', ih⟩ := cw_parts rc D w4 cs (acc ++ (("part" : Str) :: c.w)) (some c.d) (fun z hz => h z (List.mem_cons_of_mem _ hz)) (fun z hz => hr z (List.mem_cons_of_mem _ hz)) (by simp; omega)
    refine ⟨x', ?_⟩
    rw [List.map_cons]
    have hz : c.d.fz = true := by cases c <;> rfl
    have step : g_choice_words_1 rc [D, some (.str "split"), some (dWs acc), some c.d, w4] = .nx [D, some (.str "split"), some (dWs (acc ++ (("part" : Str) :: c.w))), some c.d, w4] := by
      simp (disch := ((try simp only [List.length_append, List.length_map, List.length_cons, List.length_nil, wN_len]); omega)) only [g_choice_words_1, fnO, fnOf, oSeq, oSet, oIf, oRet, oRetN, oNil, oFor, oNever, oDrop, oAsg, oBk, oCt, Out.then, Rs.out, Rs.bind, Rs.of, mP, mFz, mOw, mMv, mVz, mO, sVar, sC, sBin, sUn, sNil, sCons, sArgs, sTup, sLstF, sTruB, sAnd, sOr, sNot, sIf, sF, sFn, pfn, sSeq, seqOf, sCat, sRep, sSl, sSlL, sPart, sNoP, sRevT, sRevL, sLC, wipeR, mSeqOf, mItA, sItA, gNm, gTp, gsNil, gsCons, setR, oget, dIx, L2.atI, L2.ixN, dEq, dNe, dAdd, dSub, dLt, dLe, dGt, dGe, dI0, dI2, dLen, dIs, dIsNot, Dat.isN, dNeg, sListOf, dTuple, dTup, sNotV, sAndV, sOrV, dJoin, mBin, mUn, mNil, mCons, mArgs, mLstF, mTru, mIf, mNot, mAnd, mOr, MV.cutD, HT.sIx, fz_non, fz_bl, fz_int, fz_str, fz_tup, fz_lst, fz_frl, fz_mls, fz_obj, str_beq, str_lit, List.map_cons, List.map_nil, List.length_cons, List.length_nil, List.length_map, List.replicate_succ, List.replicate_zero, List.cons_append, List.nil_append, List.getElem?_cons_zero, List.getElem?_cons_succ, List.set_cons_zero, List.set_cons_succ, Option.bind_some, Option.bind_none, Option.map_some, Option.map_none, if_true, if_false, Nat.reduceAdd, Nat.reduceSub, Nat.reduceLT, Nat.reduceLeDiff, Nat.reduceEqDiff, reduceIte, reduceCtorEq, decide_true, decide_false, Bool.not_true, Bool.not_false, Int.reduceLT, Int.reduceLE, String.reduceEq, Bool.false_eq_true, Bool.true_eq_false, eq_self, Int.toNat_zero, Int.toNat_one, Int.reduceToNat, Int.natCast_add, Int.reduceAdd, Int.reduceNeg, Int.reduceSub, Int.cast_ofNat_Int, Nat.add_one_sub_one, hz, w, dWs, if_pos, List.map_append, List.append_assoc]
    simp only [oForL, gNm, setR, List.set_cons_succ, List.set_cons_zero]
    rw [step]
    simp only []
    rw [ih]
    simp only [wP, List.flatMap_cons, List.append_assoc]
theorem split_ok (m : Nat) {cs : List Ch} (h : (∀ c ∈ cs, c.ok) ∧ cs.length ≤ 9) : f_choice_words (m + 2) [dSplit' cs] = .ok (dWs ([("split" : Str)] ++ wP cs)) [] := by
  obtain ⟨x', e⟩ := cw_parts (f_choice_words (m + 1)) (some (dSplit' cs)) none cs [("split" : Str)] none h.1 (fun c hc => choice_ok m (h.1 c hc)) (by have := h.2; simp; omega)
  have e1 : g_choice_words_s5 (f_choice_words (m + 1)) [some (dSplit' cs), some (.str "split"), none, none, none] = .nx [some (dSplit' cs), some (.str "split"), some (dWs [("split" : Str)]), none, none] := by
    simp only [g_choice_words_s5, fnO, fnOf, oSeq, oSet, oIf, oRet, oRetN, oNil, oFor, oNever, oDrop, oAsg, oBk, oCt, Out.then, Rs.out, Rs.bind, Rs.of, mP, mFz, mOw, mMv, mVz, mO, sVar, sC, sBin, sUn, sNil, sCons, sArgs, sTup, sLstF, sTruB, sAnd, sOr, sNot, sIf, sF, sFn, pfn, sSeq, seqOf, sCat, sRep, sSl, sSlL, sPart, sNoP, sRevT, sRevL, sLC, wipeR, mSeqOf, mItA, sItA, gNm, gTp, gsNil, gsCons, setR, oget, dIx, L2.atI, L2.ixN, dEq, dNe, dAdd, dSub, dLt, dLe, dGt, dGe, dI0, dI2, dLen, dIs, dIsNot, Dat.isN, dNeg, sListOf, dTuple, dTup, sNotV, sAndV, sOrV, dJoin, mBin, mUn, mNil, mCons, mArgs, mLstF, mTru, mIf, mNot, mAnd, mOr, MV.cutD, HT.sIx, fz_non, fz_bl, fz_int, fz_str, fz_tup, fz_lst, fz_frl, fz_mls, fz_obj, str_beq, str_lit, List.map_cons, List.map_nil, List.length_cons, List.length_nil, List.length_map, List.replicate_succ, List.replicate_zero, List.cons_append, List.nil_append, List.getElem?_cons_zero, List.getElem?_cons_succ, List.set_cons_zero, List.set_cons_succ, Option.bind_some, Option.bind_none, Option.map_some, Option.map_none, if_true, if_false, Nat.reduceAdd, Nat.reduceSub, Nat.reduceLT, Nat.reduceLeDiff, Nat.reduceEqDiff, reduceIte, reduceCtorEq, decide_true, decide_false, Bool.not_true, Bool.not_false, Int.reduceLT, Int.reduceLE, String.reduceEq, Bool.false_eq_true, Bool.true_eq_false, eq_self, Int.toNat_zero, Int.toNat_one, Int.reduceToNat, Int.natCast_add, Int.reduceAdd, Int.reduceNeg, Int.reduceSub, Int.cast_ofNat_Int, Nat.add_one_sub_one, dWs]
  have e2 : g_choice_words_s6 (f_choice_words (m + 1)) [some (dSplit' cs), some (.str "split"), some (dWs [("split" : Str)]), none, none] = .nx [some (dSplit' cs), some (.str "split"), some (dWs ([("split" : Str)] ++ wP cs)), x', none] := by
    rw [← e]
    simp only [g_choice_words_s6, fnO, fnOf, oSeq, oSet, oIf, oRet, oRetN, oNil, oFor, oNever, oDrop, oAsg, oBk, oCt, Out.then, Rs.out, Rs.bind, Rs.of, mP, mFz, mOw, mMv, mVz, mO, sVar, sC, sBin, sUn, sNil, sCons, sArgs, sTup, sLstF, sTruB, sAnd, sOr, sNot, sIf, sF, sFn, pfn, sSeq, seqOf, sCat, sRep, sSl, sSlL, sPart, sNoP, sRevT, sRevL, sLC, wipeR, mSeqOf, mItA, sItA, gNm, gTp, gsNil, gsCons, setR, oget, dIx, L2.atI, L2.ixN, dEq, dNe, dAdd, dSub, dLt, dLe, dGt, dGe, dI0, dI2, dLen, dIs, dIsNot, Dat.isN, dNeg, sListOf, dTuple, dTup, sNotV, sAndV, sOrV, dJoin, mBin, mUn, mNil, mCons, mArgs, mLstF, mTru, mIf, mNot, mAnd, mOr, MV.cutD, HT.sIx, fz_non, fz_bl, fz_int, fz_str, fz_tup, fz_lst, fz_frl, fz_mls, fz_obj, str_beq, str_lit, List.map_cons, List.map_nil, List.length_cons, List.length_nil, List.length_map, List.replicate_succ, List.replicate_zero, List.cons_append, List.nil_append, List.getElem?_cons_zero, List.getElem?_cons_succ, List.set_cons_zero, List.set_cons_succ, Option.bind_some, Option.bind_none, Option.map_some, Option.map_none, if_true, if_false, Nat.reduceAdd, Nat.reduceSub, Nat.reduceLT, Nat.reduceLeDiff, Nat.reduceEqDiff, reduceIte, reduceCtorEq, decide_true, decide_false, Bool.not_true, Bool.not_false, Int.reduceLT, Int.reduceLE, String.reduceEq, Bool.false_eq_true, Bool.true_eq_false, eq_self, Int.toNat_zero, Int.toNat_one, Int.reduceToNat, Int.natCast_add, Int.reduceAdd, Int.reduceNeg, Int.reduceSub, Int.cast_ofNat_Int, Nat.add_one_sub_one, dSplit']
  have e3 : g_choice_words_s7 (f_choice_words (m + 1)) [some (dSplit' cs), some (.str "split"), some (dWs ([("split" : Str)] ++ wP cs)), x', none] = .rt (dWs ([("split" : Str)] ++ wP cs)) [some (dSplit' cs), some (.str "split"), some (dWs ([("split" : Str)] ++ wP cs)), x', none] := by
    simp only [g_choice_words_s7, fnO, fnOf, oSeq, oSet, oIf, oRet, oRetN, oNil, oFor, oNever, oDrop, oAsg, oBk, oCt, Out.then, Rs.out, Rs.bind, Rs.of, mP, mFz, mOw, mMv, mVz, mO, sVar, sC, sBin, sUn, sNil, sCons, sArgs, sTup, sLstF, sTruB, sAnd, sOr, sNot, sIf, sF, sFn, pfn, sSeq, seqOf, sCat, sRep, sSl, sSlL, sPart, sNoP, sRevT, sRevL, sLC, wipeR, mSeqOf, mItA, sItA, gNm, gTp, gsNil, gsCons, setR, oget, dIx, L2.atI, L2.ixN, dEq, dNe, dAdd, dSub, dLt, dLe, dGt, dGe, dI0, dI2, dLen, dIs, dIsNot, Dat.isN, dNeg, sListOf, dTuple, dTup, sNotV, sAndV, sOrV, dJoin, mBin, mUn, mNil, mCons, mArgs, mLstF, mTru, mIf, mNot, mAnd, mOr, MV.cutD, HT.sIx, fz_non, fz_bl, fz_int, fz_str, fz_tup, fz_lst, fz_frl, fz_mls, fz_obj, str_beq, str_lit, List.map_cons, List.map_nil, List.length_cons, List.length_nil, List.length_map, List.replicate_succ, List.replicate_zero, List.cons_append, List.nil_append, List.getElem?_cons_zero, List.getElem?_cons_succ, List.set_cons_zero, List.set_cons_succ, Option.bind_some, Option.bind_none, Option.map_some, Option.map_none, if_true, if_false, Nat.reduceAdd, Nat.reduceSub, Nat.reduceLT, Nat.reduceLeDiff, Nat.reduceEqDiff, reduceIte, reduceCtorEq, decide_true, decide_false, Bool.not_true, Bool.not_false, Int.reduceLT, Int.reduceLE, String.reduceEq, Bool.false_eq_true, Bool.true_eq_false, eq_self, Int.toNat_zero, Int.toNat_one, Int.reduceToNat, Int.natCast_add, Int.reduceAdd, Int.reduceNeg, Int.reduceSub, Int.cast_ofNat_Int, Nat.add_one_sub_one, dWs]
  simp only [dSplit'] at e1 e2 e3
  rw [show f_choice_words (m + 2) = fnO 1 5 [] (g_choice_words (f_choice_words (m + 1))) from rfl]
  simp only [g_choice_words, fnO, fnOf, oSeq, Out.then, dSplit', List.map_cons, List.map_nil, List.length_cons, List.length_nil, Nat.reduceAdd, Nat.reduceSub, List.replicate_succ, List.replicate_zero, List.cons_append, List.nil_append, if_true, cw_s0, cw_s1 (f_choice_words (m + 1)) (k := "split") (by decide), cw_s2 (f_choice_words (m + 1)) (k := "split") (by decide), cw_s3 (f_choice_words (m + 1)) (k := "split") (by decide), cw_s4 (f_choice_words (m + 1)) (k := "split") (by decide), e1]
  try simp only [List.cons_append, List.nil_append] at e2 e3
  simp only [e2, e3]
theorem wN_ok3 {a b c : Int} (ha : N60 a) (hb : N60 b) (hc : N60 c) : okN [a, b, c] := ⟨fun n hn => by simp at hn; rcases hn with h | h | h <;> (subst h; assumption), by simp⟩
theorem wN_ok1 {a : Int} (ha : N60 a) : okN [a] := ⟨fun n hn => by simp at hn; subst hn; assumption, by simp⟩
theorem wN_ok0 : okN [] := ⟨fun n hn => by simp at hn, by simp⟩
/-- a deed that is no choice -/
theorem deed_flat {k : String} {ns : List Int} (hk : decide (k = "choose") = false) (h : okN ns) (h3 : ns.length ≤ 3) : f_deed_words [.tup (.str k :: ns.map Dat.int)] = .ok (dWs ([(k : Str)] ++ wN ns)) [] := by
  have w := words_of_ok h
  have e1 : g_deed_words_s0 [some (.tup (.str k :: ns.map Dat.int))] = .nx [some (.tup (.str k :: ns.map Dat.int))] := by
    simp only [g_deed_words_s0, fnO, fnOf, oSeq, oSet, oIf, oRet, oRetN, oNil, oFor, oNever, oDrop, oAsg, oBk, oCt, Out.then, Rs.out, Rs.bind, Rs.of, mP, mFz, mOw, mMv, mVz, mO, sVar, sC, sBin, sUn, sNil, sCons, sArgs, sTup, sLstF, sTruB, sAnd, sOr, sNot, sIf, sF, sFn, pfn, sSeq, seqOf, sCat, sRep, sSl, sSlL, sPart, sNoP, sRevT, sRevL, sLC, wipeR, mSeqOf, mItA, sItA, gNm, gTp, gsNil, gsCons, setR, oget, dIx, L2.atI, L2.ixN, dEq, dNe, dAdd, dSub, dLt, dLe, dGt, dGe, dI0, dI2, dLen, dIs, dIsNot, Dat.isN, dNeg, sListOf, dTuple, dTup, sNotV, sAndV, sOrV, dJoin, mBin, mUn, mNil, mCons, mArgs, mLstF, mTru, mIf, mNot, mAnd, mOr, MV.cutD, HT.sIx, fz_non, fz_bl, fz_int, fz_str, fz_tup, fz_lst, fz_frl, fz_mls, fz_obj, str_beq, str_lit, List.map_cons, List.map_nil, List.length_cons, List.length_nil, List.length_map, List.replicate_succ, List.replicate_zero, List.cons_append, List.nil_append, List.getElem?_cons_zero, List.getElem?_cons_succ, List.set_cons_zero, List.set_cons_succ, Option.bind_some, Option.bind_none, Option.map_some, Option.map_none, if_true, if_false, Nat.reduceAdd, Nat.reduceSub, Nat.reduceLT, Nat.reduceLeDiff, Nat.reduceEqDiff, reduceIte, reduceCtorEq, decide_true, decide_false, Bool.not_true, Bool.not_false, Int.reduceLT, Int.reduceLE, String.reduceEq, Bool.false_eq_true, Bool.true_eq_false, eq_self, Int.toNat_zero, Int.toNat_one, Int.reduceToNat, Int.natCast_add, Int.reduceAdd, Int.reduceNeg, Int.reduceSub, Int.cast_ofNat_Int, Nat.add_one_sub_one]
    have hk' : ¬ k = "choose" := of_decide_eq_false hk
    simp [L2.ixN, str_lit, hk']
  have e2 : (g_deed_words_s1 [some (.tup (.str k :: ns.map Dat.int))]).val = some (dWs ([(k : Str)] ++ wN ns)) := by
    have hs : MV.cutD (Dat.str k :: ns.map Dat.int) (some 1) none = ns.map Dat.int := by
      unfold MV.cutD HT.sIx
      simp [List.take_of_length_le]
    simp only [g_deed_words_s1, sCat, sF, sFn, sCons, sNil, sSl, sPart, sNoP, sC, sVar, sBin, oRet, mP, Rs.of, sLstF, List.getElem?_cons_zero, Dat.fz, if_true, Option.bind_some, Option.map_some, hs]
    simp only [dNs] at w
    simp [L2.atI, L2.ixN, dIx, pfn, w, dWs, Dat.fz, Rs.out, Out.val]
    rw [if_pos (by rw [wN_len]; omega)]
  obtain ⟨ρ, e2⟩ := Out.of_val e2
  simp only [f_deed_words, g_deed_words, fnO, fnOf, oSeq, Out.then, List.map_cons, List.map_nil, List.length_cons, List.length_nil, Nat.reduceAdd, Nat.reduceSub, List.replicate_zero, List.append_nil, if_true, e1, e2]

theorem deed_one {h : Int} {c : Ch} (hh : N60 h) (hc : c.ok) : f_deed_words [(De.one h c).d] = .ok (dWs (De.one h c).w) [] := by
  have w := choice_ok 7 hc
  have hl := Ch.w_len hc
  have hz : c.d.fz = true := by cases c <;> rfl
  have e1 : (g_deed_words_s0 [some (De.one h c).d]).val = some (dWs (De.one h c).w) := by
    simp (disch := ((try simp only [List.length_append, List.length_map, List.length_cons, List.length_nil, wN_len]); omega)) only [g_deed_words_s0, De.d, De.w, fnO, fnOf, oSeq, oSet, oIf, oRet, oRetN, oNil, oFor, oNever, oDrop, oAsg, oBk, oCt, Out.then, Rs.out, Rs.bind, Rs.of, mP, mFz, mOw, mMv, mVz, mO, sVar, sC, sBin, sUn, sNil, sCons, sArgs, sTup, sLstF, sTruB, sAnd, sOr, sNot, sIf, sF, sFn, pfn, sSeq, seqOf, sCat, sRep, sSl, sSlL, sPart, sNoP, sRevT, sRevL, sLC, wipeR, mSeqOf, mItA, sItA, gNm, gTp, gsNil, gsCons, setR, oget, dIx, L2.atI, L2.ixN, dEq, dNe, dAdd, dSub, dLt, dLe, dGt, dGe, dI0, dI2, dLen, dIs, dIsNot, Dat.isN, dNeg, sListOf, dTuple, dTup, sNotV, sAndV, sOrV, dJoin, mBin, mUn, mNil, mCons, mArgs, mLstF, mTru, mIf, mNot, mAnd, mOr, MV.cutD, HT.sIx, fz_non, fz_bl, fz_int, fz_str, fz_tup, fz_lst, fz_frl, fz_mls, fz_obj, str_beq, str_lit, List.map_cons, List.map_nil, List.length_cons, List.length_nil, List.length_map, List.replicate_succ, List.replicate_zero, List.cons_append, List.nil_append, List.getElem?_cons_zero, List.getElem?_cons_succ, List.set_cons_zero, List.set_cons_succ, Option.bind_some, Option.bind_none, Option.map_some, Option.map_none, if_true, if_false, Nat.reduceAdd, Nat.reduceSub, Nat.reduceLT, Nat.reduceLeDiff, Nat.reduceEqDiff, reduceIte, reduceCtorEq, decide_true, decide_false, Bool.not_true, Bool.not_false, Int.reduceLT, Int.reduceLE, String.reduceEq, Bool.false_eq_true, Bool.true_eq_false, eq_self, Int.toNat_zero, Int.toNat_one, Int.reduceToNat, Int.natCast_add, Int.reduceAdd, Int.reduceNeg, Int.reduceSub, Int.cast_ofNat_Int, Nat.add_one_sub_one, dStr_nt hh, hz, w, dWs, if_pos, List.map_append, List.append_assoc, Out.val]
  obtain ⟨ρ, e1⟩ := Out.of_val e1
  simp only [f_deed_words, g_deed_words, fnO, fnOf, oSeq, Out.then, List.map_cons, List.map_nil, List.length_cons, List.length_nil, Nat.reduceAdd, Nat.reduceSub, List.replicate_zero, List.append_nil, if_true, e1]
theorem deed_split {h : Int} {cs : List Ch} (hh : N60 h) (hc : (∀ c ∈ cs, c.ok) ∧ cs.length ≤ 9) : f_deed_words [(De.split h cs).d] = .ok (dWs (De.split h cs).w) [] := by
  have w := split_ok 6 hc
  have hl := wP_len hc
  have e1 : (g_deed_words_s0 [some (De.split h cs).d]).val = some (dWs (De.split h cs).w) := by
    simp only [dSplit'] at w
    simp (disch := ((try simp only [List.length_append, List.length_map, List.length_cons, List.length_nil, wN_len]); omega)) only [g_deed_words_s0, De.d, dSplit', De.w, fnO, fnOf, oSeq, oSet, oIf, oRet, oRetN, oNil, oFor, oNever, oDrop, oAsg, oBk, oCt, Out.then, Rs.out, Rs.bind, Rs.of, mP, mFz, mOw, mMv, mVz, mO, sVar, sC, sBin, sUn, sNil, sCons, sArgs, sTup, sLstF, sTruB, sAnd, sOr, sNot, sIf, sF, sFn, pfn, sSeq, seqOf, sCat, sRep, sSl, sSlL, sPart, sNoP, sRevT, sRevL, sLC, wipeR, mSeqOf, mItA, sItA, gNm, gTp, gsNil, gsCons, setR, oget, dIx, L2.atI, L2.ixN, dEq, dNe, dAdd, dSub, dLt, dLe, dGt, dGe, dI0, dI2, dLen, dIs, dIsNot, Dat.isN, dNeg, sListOf, dTuple, dTup, sNotV, sAndV, sOrV, dJoin, mBin, mUn, mNil, mCons, mArgs, mLstF, mTru, mIf, mNot, mAnd, mOr, MV.cutD, HT.sIx, fz_non, fz_bl, fz_int, fz_str, fz_tup, fz_lst, fz_frl, fz_mls, fz_obj, str_beq, str_lit, List.map_cons, List.map_nil, List.length_cons, List.length_nil, List.length_map, List.replicate_succ, List.replicate_zero, List.cons_append, List.nil_append, List.getElem?_cons_zero, List.getElem?_cons_succ, List.set_cons_zero, List.set_cons_succ, Option.bind_some, Option.bind_none, Option.map_some, Option.map_none, if_true, if_false, Nat.reduceAdd, Nat.reduceSub, Nat.reduceLT, Nat.reduceLeDiff, Nat.reduceEqDiff, reduceIte, reduceCtorEq, decide_true, decide_false, Bool.not_true, Bool.not_false, Int.reduceLT, Int.reduceLE, String.reduceEq, Bool.false_eq_true, Bool.true_eq_false, eq_self, Int.toNat_zero, Int.toNat_one, Int.reduceToNat, Int.natCast_add, Int.reduceAdd, Int.reduceNeg, Int.reduceSub, Int.cast_ofNat_Int, Nat.add_one_sub_one, dStr_nt hh, w, dWs, if_pos, List.map_append, List.append_assoc, Out.val]
  obtain ⟨ρ, e1⟩ := Out.of_val e1
  simp only [f_deed_words, g_deed_words, fnO, fnOf, oSeq, Out.then, List.map_cons, List.map_nil, List.length_cons, List.length_nil, Nat.reduceAdd, Nat.reduceSub, List.replicate_zero, List.append_nil, if_true, e1]
theorem deed_ok {d : De} (h : d.ok) : f_deed_words [d.d] = .ok (dWs d.w) [] := by
  cases d with
  | one k c => exact deed_one h.1 h.2
  | split k cs => exact deed_split h.1 h.2
  | offer a b c => exact deed_flat (k := "offer") (ns := [a, b, c]) (by decide) (wN_ok3 h.1 h.2.1 h.2.2) (by simp)
  | cancel a => exact deed_flat (k := "cancel") (ns := [a]) (by decide) (wN_ok1 h) (by simp)
  | undo => exact deed_flat (k := "undo") (ns := []) (by decide) wN_ok0 (by simp)
  | redo => exact deed_flat (k := "redo") (ns := []) (by decide) wN_ok0 (by simp)
end K98

namespace K98
open PySem PySem.Spec PyProof.Rows L2 MV
theorem lgroup_ok {gs : List Gr} (h : okG gs) : f__law_group_words [dGs gs] = .ok (dWs (wG gs)) [] := by
  obtain ⟨x', e⟩ := lgw_loop (dGs gs) gs [] none h.1 (by have := h.2; simp; omega)
  simp only [dGs, dWs, List.map_nil, List.nil_append] at e
  simp (disch := omega) only [f__law_group_words, g__law_group_words, g__law_group_words_s0, g__law_group_words_s1, g__law_group_words_s2, dGs, fnO, fnOf, oSeq, oSet, oIf, oRet, oRetN, oNil, oFor, oNever, oDrop, oAsg, oBk, oCt, Out.then, Rs.out, Rs.bind, Rs.of, mP, mFz, mOw, mMv, mVz, mO, sVar, sC, sBin, sUn, sNil, sCons, sArgs, sTup, sLstF, sTruB, sAnd, sOr, sNot, sIf, sF, sFn, pfn, sSeq, seqOf, sCat, sRep, sSl, sSlL, sPart, sNoP, sRevT, sRevL, sLC, wipeR, mSeqOf, mItA, sItA, gNm, gTp, gsNil, gsCons, setR, oget, dIx, L2.atI, L2.ixN, dEq, dNe, dAdd, dSub, dLt, dLe, dGt, dGe, dI0, dI2, dLen, dIs, dIsNot, Dat.isN, dNeg, sListOf, dTuple, dTup, sNotV, sAndV, sOrV, dJoin, mBin, mUn, mNil, mCons, mArgs, mLstF, mTru, mIf, mNot, mAnd, mOr, MV.cutD, HT.sIx, fz_non, fz_bl, fz_int, fz_str, fz_tup, fz_lst, fz_frl, fz_mls, fz_obj, str_beq, str_lit, List.map_cons, List.map_nil, List.length_cons, List.length_nil, List.length_map, List.replicate_succ, List.replicate_zero, List.cons_append, List.nil_append, List.getElem?_cons_zero, List.getElem?_cons_succ, List.set_cons_zero, List.set_cons_succ, Option.bind_some, Option.bind_none, Option.map_some, Option.map_none, if_true, if_false, Nat.reduceAdd, Nat.reduceSub, Nat.reduceLT, Nat.reduceLeDiff, Nat.reduceEqDiff, reduceIte, reduceCtorEq, decide_true, decide_false, Bool.not_true, Bool.not_false, Int.reduceLT, Int.reduceLE, String.reduceEq, Bool.false_eq_true, Bool.true_eq_false, eq_self, Int.toNat_zero, Int.toNat_one, Int.reduceToNat, Int.natCast_add, Int.reduceAdd, Int.reduceNeg, Int.reduceSub, Int.cast_ofNat_Int, Nat.add_one_sub_one, if_pos, e, dWs]
theorem ix0 {k : String} {l : List Dat} : L2.atI (Dat.str k :: l) 0 = some (Dat.str k) := atI_nat (k := 0) rfl rfl
theorem lw_s0 (rc : List Dat → Rs Dat) {k : String} {l : List Dat} {x b c : Option Dat} : g__law_choice_words_s0 rc [some (.tup (.str k :: l)), x, b, c] = .nx [some (.tup (.str k :: l)), some (dWs [(k : Str)]), b, c] := by
  simp only [g__law_choice_words_s0, oSet, mP, Rs.of, sF, sLstF, sCons, sBin, sVar, sC, sNil, dIx, ix0, List.getElem?_cons_zero, fz_tup, if_true, Option.bind_some, Option.map_some, List.length_cons, List.length_nil, Rs.out, dWs, List.map_cons, List.map_nil]
  rfl
theorem lw_s1 (rc : List Dat → Rs Dat) {k : String} {l : List Dat} {x b c : Option Dat} (h : decide (k = "split") = false) : g__law_choice_words_s1 rc [some (.tup (.str k :: l)), x, b, c] = .nx [some (.tup (.str k :: l)), x, b, c] := by
  have h' : ¬ k = "split" := of_decide_eq_false h
  simp only [g__law_choice_words_s1, oIf, mP, Rs.of, sTruB, sBin, sVar, sC, dIx, ix0, dEq, List.getElem?_cons_zero, fz_tup, if_true, Option.bind_some, Rs.out, str_beq, h, oNil, Bool.false_eq_true, if_false]
theorem lw_s2 (rc : List Dat → Rs Dat) {k : String} {l : List Dat} {x b c : Option Dat} (h : decide (k = "table") = false) : g__law_choice_words_s2 rc [some (.tup (.str k :: l)), x, b, c] = .nx [some (.tup (.str k :: l)), x, b, c] := by
  simp only [g__law_choice_words_s2, oIf, mP, Rs.of, sTruB, sBin, sVar, sC, dIx, ix0, dEq, List.getElem?_cons_zero, fz_tup, if_true, Option.bind_some, Rs.out, str_beq, h, oNil, Bool.false_eq_true, if_false]
theorem lw_s3 (rc : List Dat → Rs Dat) {k : String} {l : List Dat} {x b c : Option Dat} (h : decide (k = "caps") = false) : g__law_choice_words_s3 rc [some (.tup (.str k :: l)), x, b, c] = .nx [some (.tup (.str k :: l)), x, b, c] := by
  simp only [g__law_choice_words_s3, oIf, mP, Rs.of, sTruB, sBin, sVar, sC, dIx, ix0, dEq, List.getElem?_cons_zero, fz_tup, if_true, Option.bind_some, Rs.out, str_beq, h, oNil, Bool.false_eq_true, if_false]
theorem lw_rows (rc : List Dat → Rs Dat) (D b : Option Dat) : ∀ (rows : List (List Int)) (acc : List Str) (x : Option Dat), (∀ r ∈ rows, okN r ∧ r ≠ []) → acc.length + rows.length * 41 ≤ 1000000 →
    ∃ x', oForL [3] gNm (g__law_choice_words_2 rc) (rows.map dNs) [D, some (dWs acc), b, x] = .nx [D, some (dWs (acc ++ wR rows)), b, x']
  | [], acc, x, _, _ => ⟨x, by simp [oForL, wR]⟩
  | g :: gs, acc, x, h, hl => by
    obtain ⟨h1, _⟩ := h g (by simp)
    have hg := h1.2
    simp only [List.length_cons, Nat.succ_mul] at hl
    obtain ⟨x', ih⟩ := lw_rows rc D b gs (acc ++ (("row" : Str) :: wN g)) (some (dNs g)) (fun z hz => h z (List.mem_cons_of_mem _ hz)) (by simp [wN_len]; omega)
    refine ⟨x', ?_⟩
    rw [List.map_cons]
    have step : g__law_choice_words_2 rc [D, some (dWs acc), b, some (dNs g)] = .nx [D, some (dWs (acc ++ (("row" : Str) :: wN g))), b, some (dNs g)] := by
      have w := texts_ok h1
      simp only [dNs] at w
      simp (disch := ((try simp only [List.length_append, List.length_map, List.length_cons, List.length_nil, wN_len]); omega)) only [g__law_choice_words_2, fnO, fnOf, oSeq, oSet, oIf, oRet, oRetN, oNil, oFor, oNever, oDrop, oAsg, oBk, oCt, Out.then, Rs.out, Rs.bind, Rs.of, mP, mFz, mOw, mMv, mVz, mO, sVar, sC, sBin, sUn, sNil, sCons, sArgs, sTup, sLstF, sTruB, sAnd, sOr, sNot, sIf, sF, sFn, pfn, sSeq, seqOf, sCat, sRep, sSl, sSlL, sPart, sNoP, sRevT, sRevL, sLC, wipeR, mSeqOf, mItA, sItA, gNm, gTp, gsNil, gsCons, setR, oget, dIx, L2.atI, L2.ixN, dEq, dNe, dAdd, dSub, dLt, dLe, dGt, dGe, dI0, dI2, dLen, dIs, dIsNot, Dat.isN, dNeg, sListOf, dTuple, dTup, sNotV, sAndV, sOrV, dJoin, mBin, mUn, mNil, mCons, mArgs, mLstF, mTru, mIf, mNot, mAnd, mOr, MV.cutD, HT.sIx, fz_non, fz_bl, fz_int, fz_str, fz_tup, fz_lst, fz_frl, fz_mls, fz_obj, str_beq, str_lit, List.map_cons, List.map_nil, List.length_cons, List.length_nil, List.length_map, List.replicate_succ, List.replicate_zero, List.cons_append, List.nil_append, List.getElem?_cons_zero, List.getElem?_cons_succ, List.set_cons_zero, List.set_cons_succ, Option.bind_some, Option.bind_none, Option.map_some, Option.map_none, if_true, if_false, Nat.reduceAdd, Nat.reduceSub, Nat.reduceLT, Nat.reduceLeDiff, Nat.reduceEqDiff, reduceIte, reduceCtorEq, decide_true, decide_false, Bool.not_true, Bool.not_false, Int.reduceLT, Int.reduceLE, String.reduceEq, Bool.false_eq_true, Bool.true_eq_false, eq_self, Int.toNat_zero, Int.toNat_one, Int.reduceToNat, Int.natCast_add, Int.reduceAdd, Int.reduceNeg, Int.reduceSub, Int.cast_ofNat_Int, Nat.add_one_sub_one, dNs, w, dWs, if_pos, List.map_append, List.append_assoc]
    simp only [oForL, gNm, setR, List.set_cons_succ, List.set_cons_zero]
    rw [step]
    simp only []
    rw [ih]
    simp only [wR, List.flatMap_cons, List.append_assoc]
theorem lw_parts (rc : List Dat → Rs Dat) (D c : Option Dat) : ∀ (cs : List Ch) (acc : List Str) (x : Option Dat), (∀ c ∈ cs, c.ok) → (∀ c ∈ cs, rc [c.d] = .ok (dWs c.w) []) → acc.length + cs.length * 3601 ≤ 1000000 →
    ∃ x', oForL [2] gNm (g__law_choice_words_1 rc) (cs.map Ch.d) [D, some (dWs acc), x, c] = .nx [D, some (dWs (acc ++ wP cs)), x', c]
  | [], acc, x, _, _, _ => ⟨x, by simp [oForL, wP]⟩
  | k :: cs, acc, x, h, hr, hl => by
    have h1 := h k (by simp)
    have w := hr k (by simp)
    have hg := Ch.w_len h1
    simp only [List.length_cons, Nat.succ_mul] at hl
    obtain ⟨x', ih⟩ := lw_parts rc D c cs (acc ++ (("part" : Str) :: k.w)) (some k.d) (fun z hz => h z (List.mem_cons_of_mem _ hz)) (fun z hz => hr z (List.mem_cons_of_mem _ hz)) (by simp; omega)
    refine ⟨x', ?_⟩
    rw [List.map_cons]
    have hz : k.d.fz = true := by cases k <;> rfl
    have step : g__law_choice_words_1 rc [D, some (dWs acc), some k.d, c] = .nx [D, some (dWs (acc ++ (("part" : Str) :: k.w))), some k.d, c] := by
      simp (disch := ((try simp only [List.length_append, List.length_map, List.length_cons, List.length_nil, wN_len]); omega)) only [g__law_choice_words_1, fnO, fnOf, oSeq, oSet, oIf, oRet, oRetN, oNil, oFor, oNever, oDrop, oAsg, oBk, oCt, Out.then, Rs.out, Rs.bind, Rs.of, mP, mFz, mOw, mMv, mVz, mO, sVar, sC, sBin, sUn, sNil, sCons, sArgs, sTup, sLstF, sTruB, sAnd, sOr, sNot, sIf, sF, sFn, pfn, sSeq, seqOf, sCat, sRep, sSl, sSlL, sPart, sNoP, sRevT, sRevL, sLC, wipeR, mSeqOf, mItA, sItA, gNm, gTp, gsNil, gsCons, setR, oget, dIx, L2.atI, L2.ixN, dEq, dNe, dAdd, dSub, dLt, dLe, dGt, dGe, dI0, dI2, dLen, dIs, dIsNot, Dat.isN, dNeg, sListOf, dTuple, dTup, sNotV, sAndV, sOrV, dJoin, mBin, mUn, mNil, mCons, mArgs, mLstF, mTru, mIf, mNot, mAnd, mOr, MV.cutD, HT.sIx, fz_non, fz_bl, fz_int, fz_str, fz_tup, fz_lst, fz_frl, fz_mls, fz_obj, str_beq, str_lit, List.map_cons, List.map_nil, List.length_cons, List.length_nil, List.length_map, List.replicate_succ, List.replicate_zero, List.cons_append, List.nil_append, List.getElem?_cons_zero, List.getElem?_cons_succ, List.set_cons_zero, List.set_cons_succ, Option.bind_some, Option.bind_none, Option.map_some, Option.map_none, if_true, if_false, Nat.reduceAdd, Nat.reduceSub, Nat.reduceLT, Nat.reduceLeDiff, Nat.reduceEqDiff, reduceIte, reduceCtorEq, decide_true, decide_false, Bool.not_true, Bool.not_false, Int.reduceLT, Int.reduceLE, String.reduceEq, Bool.false_eq_true, Bool.true_eq_false, eq_self, Int.toNat_zero, Int.toNat_one, Int.reduceToNat, Int.natCast_add, Int.reduceAdd, Int.reduceNeg, Int.reduceSub, Int.cast_ofNat_Int, Nat.add_one_sub_one, hz, w, dWs, if_pos, List.map_append, List.append_assoc]
    simp only [oForL, gNm, setR, List.set_cons_succ, List.set_cons_zero]
    rw [step]
    simp only []
    rw [ih]
    simp only [wP, List.flatMap_cons, List.append_assoc]
/-- the last part: words, sells, texts of the last -/
theorem lw_s5 (rc : List Dat → Rs Dat) {l : List Dat} {ns : List Int} {ws : List Str} {b c : Option Dat} (hl : L2.atI l (-1) = some (dNs ns)) (hn : okN ns) (hw : ws.length ≤ 3600) : (g__law_choice_words_s5 rc [some (.tup l), some (dWs ws), b, c]).val = some (dWs (ws ++ [("sells" : Str)] ++ wN ns)) := by
  have w := texts_ok hn
  have b1 := hn.2
  simp only [dNs] at w hl
  simp (disch := ((try simp only [List.length_append, List.length_map, List.length_cons, List.length_nil, wN_len]); omega)) only [g__law_choice_words_s5, oRet, mP, sF, sCat, sVar, sLstF, sCons, sC, sNil, sFn, pfn, sBin, sUn, dNeg, dIx, hl, List.getElem?_cons_zero, List.getElem?_cons_succ, fz_tup, fz_lst, if_true, Option.bind_some, Option.map_some, List.length_cons, List.length_nil, Nat.reduceAdd, Rs.of, Rs.out, Out.val, w, dWs, if_pos, List.map_append, List.map_cons, List.map_nil, Int.reduceNeg, Nat.reduceLeDiff]
theorem lw_end (m : Nat) {k : String} {l : List Dat} {d : Dat} (e : (g__law_choice_words (f__law_choice_words m) [some (.tup (.str k :: l)), none, none, none]).val = some d) : f__law_choice_words (m + 1) [.tup (.str k :: l)] = .ok d [] := by
  obtain ⟨ρ, e⟩ := Out.of_val e
  simp only [f__law_choice_words, fnO, fnOf, List.map_cons, List.map_nil, List.length_cons, List.length_nil, Nat.reduceAdd, Nat.reduceSub, List.replicate_succ, List.replicate_zero, List.cons_append, List.nil_append, if_true, e]
theorem lchoice_ok (m : Nat) {c : Ch} (h : c.ok) : f__law_choice_words (m + 1) [c.d] = .ok (dWs c.w) [] := by
  cases c with
  | maker r b s =>
    obtain ⟨hr, hb, hs⟩ := h
    have b1 := hb.2
    have s1 := hs.2
    have wb := texts_ok hb
    simp only [dNs] at wb
    have e4 : g__law_choice_words_s4 (f__law_choice_words m) [some (Ch.maker r b s).d, some (dWs [("maker" : Str)]), none, none] = .nx [some (Ch.maker r b s).d, some (dWs ([("maker" : Str), nt r, "buys"] ++ wN b)), none, none] := by
      simp (disch := ((try simp only [List.length_append, List.length_map, List.length_cons, List.length_nil, wN_len]); omega)) only [g__law_choice_words_s4, Ch.d, fnO, fnOf, oSeq, oSet, oIf, oRet, oRetN, oNil, oFor, oNever, oDrop, oAsg, oBk, oCt, Out.then, Rs.out, Rs.bind, Rs.of, mP, mFz, mOw, mMv, mVz, mO, sVar, sC, sBin, sUn, sNil, sCons, sArgs, sTup, sLstF, sTruB, sAnd, sOr, sNot, sIf, sF, sFn, pfn, sSeq, seqOf, sCat, sRep, sSl, sSlL, sPart, sNoP, sRevT, sRevL, sLC, wipeR, mSeqOf, mItA, sItA, gNm, gTp, gsNil, gsCons, setR, oget, dIx, L2.atI, L2.ixN, dEq, dNe, dAdd, dSub, dLt, dLe, dGt, dGe, dI0, dI2, dLen, dIs, dIsNot, Dat.isN, dNeg, sListOf, dTuple, dTup, sNotV, sAndV, sOrV, dJoin, mBin, mUn, mNil, mCons, mArgs, mLstF, mTru, mIf, mNot, mAnd, mOr, MV.cutD, HT.sIx, fz_non, fz_bl, fz_int, fz_str, fz_tup, fz_lst, fz_frl, fz_mls, fz_obj, str_beq, str_lit, List.map_cons, List.map_nil, List.length_cons, List.length_nil, List.length_map, List.replicate_succ, List.replicate_zero, List.cons_append, List.nil_append, List.getElem?_cons_zero, List.getElem?_cons_succ, List.set_cons_zero, List.set_cons_succ, Option.bind_some, Option.bind_none, Option.map_some, Option.map_none, if_true, if_false, Nat.reduceAdd, Nat.reduceSub, Nat.reduceLT, Nat.reduceLeDiff, Nat.reduceEqDiff, reduceIte, reduceCtorEq, decide_true, decide_false, Bool.not_true, Bool.not_false, Int.reduceLT, Int.reduceLE, String.reduceEq, Bool.false_eq_true, Bool.true_eq_false, eq_self, Int.toNat_zero, Int.toNat_one, Int.reduceToNat, Int.natCast_add, Int.reduceAdd, Int.reduceNeg, Int.reduceSub, Int.cast_ofNat_Int, Nat.add_one_sub_one, dStr_nt hr, dNs, wb, dWs, if_pos, List.map_append, List.append_assoc]
    have e5 := lw_s5 (f__law_choice_words m) (l := [.str "maker", .int r, dNs b, dNs s]) (ns := s) (ws := [("maker" : Str), nt r, "buys"] ++ wN b) (b := none) (c := none) rfl hs (by simp [wN_len]; omega)
    refine lw_end m ?_
    simp only [Ch.d] at e4
    simp only [g__law_choice_words, oSeq, Out.then, lw_s0, lw_s1 (f__law_choice_words m) (k := "maker") (by decide), lw_s2 (f__law_choice_words m) (k := "maker") (by decide), lw_s3 (f__law_choice_words m) (k := "maker") (by decide), e4, e5, Ch.w]
  | sides r b p s =>
    obtain ⟨hr, hb, hp, hs⟩ := h
    have b1 := hb.2
    have s1 := hs.2
    have wb := texts_ok hb
    simp only [dNs] at wb
    have e4 : g__law_choice_words_s4 (f__law_choice_words m) [some (Ch.sides r b p s).d, some (dWs [("sides" : Str)]), none, none] = .nx [some (Ch.sides r b p s).d, some (dWs ([("sides" : Str), nt r, "buys"] ++ wN b ++ [nt p])), none, none] := by
      simp (disch := ((try simp only [List.length_append, List.length_map, List.length_cons, List.length_nil, wN_len]); omega)) only [g__law_choice_words_s4, Ch.d, fnO, fnOf, oSeq, oSet, oIf, oRet, oRetN, oNil, oFor, oNever, oDrop, oAsg, oBk, oCt, Out.then, Rs.out, Rs.bind, Rs.of, mP, mFz, mOw, mMv, mVz, mO, sVar, sC, sBin, sUn, sNil, sCons, sArgs, sTup, sLstF, sTruB, sAnd, sOr, sNot, sIf, sF, sFn, pfn, sSeq, seqOf, sCat, sRep, sSl, sSlL, sPart, sNoP, sRevT, sRevL, sLC, wipeR, mSeqOf, mItA, sItA, gNm, gTp, gsNil, gsCons, setR, oget, dIx, L2.atI, L2.ixN, dEq, dNe, dAdd, dSub, dLt, dLe, dGt, dGe, dI0, dI2, dLen, dIs, dIsNot, Dat.isN, dNeg, sListOf, dTuple, dTup, sNotV, sAndV, sOrV, dJoin, mBin, mUn, mNil, mCons, mArgs, mLstF, mTru, mIf, mNot, mAnd, mOr, MV.cutD, HT.sIx, fz_non, fz_bl, fz_int, fz_str, fz_tup, fz_lst, fz_frl, fz_mls, fz_obj, str_beq, str_lit, List.map_cons, List.map_nil, List.length_cons, List.length_nil, List.length_map, List.replicate_succ, List.replicate_zero, List.cons_append, List.nil_append, List.getElem?_cons_zero, List.getElem?_cons_succ, List.set_cons_zero, List.set_cons_succ, Option.bind_some, Option.bind_none, Option.map_some, Option.map_none, if_true, if_false, Nat.reduceAdd, Nat.reduceSub, Nat.reduceLT, Nat.reduceLeDiff, Nat.reduceEqDiff, reduceIte, reduceCtorEq, decide_true, decide_false, Bool.not_true, Bool.not_false, Int.reduceLT, Int.reduceLE, String.reduceEq, Bool.false_eq_true, Bool.true_eq_false, eq_self, Int.toNat_zero, Int.toNat_one, Int.reduceToNat, Int.natCast_add, Int.reduceAdd, Int.reduceNeg, Int.reduceSub, Int.cast_ofNat_Int, Nat.add_one_sub_one, dStr_nt hr, dStr_nt hp, dNs, wb, dWs, if_pos, List.map_append, List.append_assoc]
    have e5 := lw_s5 (f__law_choice_words m) (l := [.str "sides", .int r, dNs b, .int p, dNs s]) (ns := s) (ws := [("sides" : Str), nt r, "buys"] ++ wN b ++ [nt p]) (b := none) (c := none) rfl hs (by simp [wN_len]; omega)
    refine lw_end m ?_
    simp only [Ch.d] at e4
    simp only [g__law_choice_words, oSeq, Out.then, lw_s0, lw_s1 (f__law_choice_words m) (k := "sides") (by decide), lw_s2 (f__law_choice_words m) (k := "sides") (by decide), lw_s3 (f__law_choice_words m) (k := "sides") (by decide), e4, e5, Ch.w]
    simp only [List.append_assoc, List.cons_append, List.nil_append]
  | trader r t b s =>
    obtain ⟨hr, ht, hb, hs⟩ := h
    have b1 := hb.2
    have s1 := hs.2
    have wb := texts_ok hb
    simp only [dNs] at wb
    have e4 : g__law_choice_words_s4 (f__law_choice_words m) [some (Ch.trader r t b s).d, some (dWs [("trader" : Str)]), none, none] = .nx [some (Ch.trader r t b s).d, some (dWs ([("trader" : Str), nt r, nt t, "buys"] ++ wN b)), none, none] := by
      simp (disch := ((try simp only [List.length_append, List.length_map, List.length_cons, List.length_nil, wN_len]); omega)) only [g__law_choice_words_s4, Ch.d, fnO, fnOf, oSeq, oSet, oIf, oRet, oRetN, oNil, oFor, oNever, oDrop, oAsg, oBk, oCt, Out.then, Rs.out, Rs.bind, Rs.of, mP, mFz, mOw, mMv, mVz, mO, sVar, sC, sBin, sUn, sNil, sCons, sArgs, sTup, sLstF, sTruB, sAnd, sOr, sNot, sIf, sF, sFn, pfn, sSeq, seqOf, sCat, sRep, sSl, sSlL, sPart, sNoP, sRevT, sRevL, sLC, wipeR, mSeqOf, mItA, sItA, gNm, gTp, gsNil, gsCons, setR, oget, dIx, L2.atI, L2.ixN, dEq, dNe, dAdd, dSub, dLt, dLe, dGt, dGe, dI0, dI2, dLen, dIs, dIsNot, Dat.isN, dNeg, sListOf, dTuple, dTup, sNotV, sAndV, sOrV, dJoin, mBin, mUn, mNil, mCons, mArgs, mLstF, mTru, mIf, mNot, mAnd, mOr, MV.cutD, HT.sIx, fz_non, fz_bl, fz_int, fz_str, fz_tup, fz_lst, fz_frl, fz_mls, fz_obj, str_beq, str_lit, List.map_cons, List.map_nil, List.length_cons, List.length_nil, List.length_map, List.replicate_succ, List.replicate_zero, List.cons_append, List.nil_append, List.getElem?_cons_zero, List.getElem?_cons_succ, List.set_cons_zero, List.set_cons_succ, Option.bind_some, Option.bind_none, Option.map_some, Option.map_none, if_true, if_false, Nat.reduceAdd, Nat.reduceSub, Nat.reduceLT, Nat.reduceLeDiff, Nat.reduceEqDiff, reduceIte, reduceCtorEq, decide_true, decide_false, Bool.not_true, Bool.not_false, Int.reduceLT, Int.reduceLE, String.reduceEq, Bool.false_eq_true, Bool.true_eq_false, eq_self, Int.toNat_zero, Int.toNat_one, Int.reduceToNat, Int.natCast_add, Int.reduceAdd, Int.reduceNeg, Int.reduceSub, Int.cast_ofNat_Int, Nat.add_one_sub_one, dStr_nt hr, dStr_nt ht, dNs, wb, dWs, if_pos, List.map_append, List.append_assoc]
    have e5 := lw_s5 (f__law_choice_words m) (l := [.str "trader", .int r, .int t, dNs b, dNs s]) (ns := s) (ws := [("trader" : Str), nt r, nt t, "buys"] ++ wN b) (b := none) (c := none) rfl hs (by simp [wN_len]; omega)
    refine lw_end m ?_
    simp only [Ch.d] at e4
    simp only [g__law_choice_words, oSeq, Out.then, lw_s0, lw_s1 (f__law_choice_words m) (k := "trader") (by decide), lw_s2 (f__law_choice_words m) (k := "trader") (by decide), lw_s3 (f__law_choice_words m) (k := "trader") (by decide), e4, e5, Ch.w]
    simp only [List.append_assoc, List.cons_append, List.nil_append]
  | caps b g s k =>
    obtain ⟨hb, hg, hs, hk⟩ := h
    have b1 := hb.2
    have s1 := hs.2
    have g1 := wG_len hg
    have k1 := wG_len hk
    have wb := texts_ok hb
    have ws := texts_ok hs
    have wg := lgroup_ok hg
    have wk := lgroup_ok hk
    simp only [dNs, dGs] at wb ws wg wk
    have e3 : (g__law_choice_words_s3 (f__law_choice_words m) [some (Ch.caps b g s k).d, some (dWs [("caps" : Str)]), none, none]).val = some (dWs (Ch.caps b g s k).w) := by
      simp (disch := ((try simp only [List.length_append, List.length_map, List.length_cons, List.length_nil, wN_len]); omega)) only [g__law_choice_words_s3, Ch.d, Ch.w, fnO, fnOf, oSeq, oSet, oIf, oRet, oRetN, oNil, oFor, oNever, oDrop, oAsg, oBk, oCt, Out.then, Rs.out, Rs.bind, Rs.of, mP, mFz, mOw, mMv, mVz, mO, sVar, sC, sBin, sUn, sNil, sCons, sArgs, sTup, sLstF, sTruB, sAnd, sOr, sNot, sIf, sF, sFn, pfn, sSeq, seqOf, sCat, sRep, sSl, sSlL, sPart, sNoP, sRevT, sRevL, sLC, wipeR, mSeqOf, mItA, sItA, gNm, gTp, gsNil, gsCons, setR, oget, dIx, L2.atI, L2.ixN, dEq, dNe, dAdd, dSub, dLt, dLe, dGt, dGe, dI0, dI2, dLen, dIs, dIsNot, Dat.isN, dNeg, sListOf, dTuple, dTup, sNotV, sAndV, sOrV, dJoin, mBin, mUn, mNil, mCons, mArgs, mLstF, mTru, mIf, mNot, mAnd, mOr, MV.cutD, HT.sIx, fz_non, fz_bl, fz_int, fz_str, fz_tup, fz_lst, fz_frl, fz_mls, fz_obj, str_beq, str_lit, List.map_cons, List.map_nil, List.length_cons, List.length_nil, List.length_map, List.replicate_succ, List.replicate_zero, List.cons_append, List.nil_append, List.getElem?_cons_zero, List.getElem?_cons_succ, List.set_cons_zero, List.set_cons_succ, Option.bind_some, Option.bind_none, Option.map_some, Option.map_none, if_true, if_false, Nat.reduceAdd, Nat.reduceSub, Nat.reduceLT, Nat.reduceLeDiff, Nat.reduceEqDiff, reduceIte, reduceCtorEq, decide_true, decide_false, Bool.not_true, Bool.not_false, Int.reduceLT, Int.reduceLE, String.reduceEq, Bool.false_eq_true, Bool.true_eq_false, eq_self, Int.toNat_zero, Int.toNat_one, Int.reduceToNat, Int.natCast_add, Int.reduceAdd, Int.reduceNeg, Int.reduceSub, Int.cast_ofNat_Int, Nat.add_one_sub_one, dNs, dGs, wb, ws, wg, wk, dWs, if_pos, List.map_append, List.append_assoc, Out.val]
    obtain ⟨ρ, e3⟩ := Out.of_val e3
    refine lw_end m ?_
    simp only [Ch.d] at e3
    simp only [g__law_choice_words, oSeq, Out.then, lw_s0, lw_s1 (f__law_choice_words m) (k := "caps") (by decide), lw_s2 (f__law_choice_words m) (k := "caps") (by decide), e3, Out.val]
  | table rows =>
    obtain ⟨x', e⟩ := lw_rows (f__law_choice_words m) (some (Ch.table rows).d) none rows [("table" : Str)] none h.1 (by have := h.2; simp; omega)
    have e2 : (g__law_choice_words_s2 (f__law_choice_words m) [some (Ch.table rows).d, some (dWs [("table" : Str)]), none, none]).val = some (dWs (Ch.table rows).w) := by
      simp only [Ch.d] at e
      simp only [g__law_choice_words_s2, oIf, mP, Rs.of, sTruB, sBin, sVar, sC, dIx, ix0, dEq, Ch.d, List.getElem?_cons_zero, fz_tup, if_true, Option.bind_some, Rs.out, str_beq, decide_true, oSeq, oFor, mSeqOf, atI_nat (k := 1) (i := 1) rfl (l := [Dat.str "table", Dat.tup (rows.map dNs)]) rfl, Rs.bind, seqOf]
      rw [e]
      simp only [Out.then, oRet, mP, sVar, Rs.of, Rs.out, List.getElem?_cons_succ, List.getElem?_cons_zero, dWs, fz_lst, if_true, Out.val, Ch.w]
    obtain ⟨ρ, e2⟩ := Out.of_val e2
    refine lw_end m ?_
    simp only [Ch.d] at e2
    simp only [g__law_choice_words, oSeq, Out.then, lw_s0, lw_s1 (f__law_choice_words m) (k := "table") (by decide), e2, Out.val]
theorem lsplit_ok (m : Nat) {cs : List Ch} (h : (∀ c ∈ cs, c.ok) ∧ cs.length ≤ 9) : f__law_choice_words (m + 2) [dSplit' cs] = .ok (dWs ([("split" : Str)] ++ wP cs)) [] := by
  obtain ⟨x', e⟩ := lw_parts (f__law_choice_words (m + 1)) (some (dSplit' cs)) none cs [("split" : Str)] none h.1 (fun c hc => lchoice_ok m (h.1 c hc)) (by have := h.2; simp; omega)
  have e2 : (g__law_choice_words_s1 (f__law_choice_words (m + 1)) [some (dSplit' cs), some (dWs [("split" : Str)]), none, none]).val = some (dWs ([("split" : Str)] ++ wP cs)) := by
    simp only [dSplit'] at e
    simp only [g__law_choice_words_s1, oIf, mP, Rs.of, sTruB, sBin, sVar, sC, dIx, ix0, dEq, dSplit', List.getElem?_cons_zero, fz_tup, if_true, Option.bind_some, Rs.out, str_beq, decide_true, oSeq, oFor, mSeqOf, atI_nat (k := 1) (i := 1) rfl (l := [Dat.str "split", Dat.tup (cs.map Ch.d)]) rfl, Rs.bind, seqOf]
    rw [e]
    simp only [Out.then, oRet, mP, sVar, Rs.of, Rs.out, List.getElem?_cons_succ, List.getElem?_cons_zero, dWs, fz_lst, if_true, Out.val]
  obtain ⟨ρ, e2⟩ := Out.of_val e2
  refine lw_end (m + 1) ?_
  simp only [dSplit'] at e2
  simp only [g__law_choice_words, oSeq, Out.then, lw_s0, e2, Out.val]
end K98

namespace K98
open PySem PySem.Spec PyProof.Rows L2 MV
/-! ## lines -/
def T (ws : List Str) : Nat := (ws.map fun w => w.length + 1).sum
theorem T_eq (ws : List Str) (a : Str) (ha : a.length = 1) : (ws.map (·.length)).sum + ws.length * a.length = T ws := by
  unfold T
  rw [ha, Nat.mul_one]
  induction ws with
  | nil => rfl
  | cons w ws ih => simp only [List.map_cons, List.sum_cons, List.length_cons]; omega
theorem T_append (a b : List Str) : T (a ++ b) = T a + T b := by unfold T; rw [List.map_append, List.sum_append]
theorem T_cons (a : Str) (b : List Str) : T (a :: b) = a.length + 1 + T b := by unfold T; rw [List.map_cons, List.sum_cons]
theorem T_nil : T [] = 0 := rfl
def De.sm (d : De) : Prop := T d.w ≤ 19000
def De.line (d : De) : Str := Txt.join " " d.w
theorem join_le (ws : List Str) : (Txt.join " " ws).length ≤ T ws := by
  have h := StrLaws.join_length_le " " ws
  rw [T_eq ws " " (by decide +kernel)] at h
  show (PySem.Builtin.Str.glued " " ws).length ≤ _
  rw [StrLaws.glued_eq_join]
  exact h
theorem strsOf_map (ws : List Str) : strsOf (ws.map Dat.str) = some ws := by
  induction ws with
  | nil => rfl
  | cons w ws ih => simp only [List.map_cons, strsOf, ih, Option.map_some]
theorem dJoin_ws {ws : List Str} (h : T ws ≤ 19000) : dJoin (.str " ") (dWs ws) = some (.str (Txt.join " " ws)) := by
  unfold dJoin dWs
  simp only [strsOf_map, Option.bind_some]
  rw [if_pos (by rw [T_eq ws " " (by decide +kernel)]; omega)]
theorem ofFn1 {f : List Dat → Rs Dat} {d e : Dat} {o : Rho} (h : f [d] = .ok e o) (hz : e.fz = true) : pfn f [d] = some e := by
  unfold pfn; rw [h]; simp only [hz, if_true]
theorem De.dz (d : De) : d.d.fz = true := by cases d <;> rfl
theorem Ch.dz (d : Ch) : d.d.fz = true := by cases d <;> rfl
theorem line_flat {k : String} {ns : List Int} (hk : decide (k = "choose") = false) (h : okN ns) (h3 : ns.length ≤ 3) (hT : T ([(k : Str)] ++ wN ns) ≤ 19000) : f__law_line [.tup (.str k :: ns.map Dat.int)] = .ok (.str (Txt.join " " ([(k : Str)] ++ wN ns))) [] := by
  have w := texts_ok h
  have hk' : ¬ k = "choose" := of_decide_eq_false hk
  have e1 : (g__law_line_s0 [some (.tup (.str k :: ns.map Dat.int))]).val = some (.str (Txt.join " " ([(k : Str)] ++ wN ns))) := by
    have hs : MV.cutD (Dat.str k :: ns.map Dat.int) (some 1) none = ns.map Dat.int := by
      unfold MV.cutD HT.sIx
      simp [List.take_of_length_le]
    have w2 : pfn f__law_texts [dNs ns] = some (dWs (wN ns)) := ofFn1 w rfl
    simp only [dNs] at w2
    have hj := dJoin_ws hT
    simp only [dWs, List.map_append, List.map_cons, List.map_nil] at hj
    simp only [g__law_line_s0, oIf, mP, Rs.of, sTruB, sBin, sVar, sC, dIx, ix0, dNe, List.getElem?_cons_zero, fz_tup, if_true, Option.bind_some, Rs.out, str_beq, hk, Bool.not_false, oRet, sF, sCat, sLstF, sCons, sNil, sFn, sSl, sPart, sNoP, hs, List.length_cons, List.length_nil, Nat.reduceAdd, w2, dWs, Option.map_some]
    rw [if_pos (by omega)]
    simp only [Option.map_some, Option.bind_some]
    rw [if_pos (by simp [wN_len]; omega)]
    simp only [Option.map_some, Option.bind_some, hj, Rs.out, Out.val]
  obtain ⟨ρ, e1⟩ := Out.of_val e1
  simp only [f__law_line, g__law_line, fnO, fnOf, oSeq, Out.then, List.map_cons, List.map_nil, List.length_cons, List.length_nil, Nat.reduceAdd, Nat.reduceSub, List.replicate_zero, List.append_nil, if_true, e1]
theorem line_s0 {l : List Dat} : g__law_line_s0 [some (.tup (.str "choose" :: l))] = .nx [some (.tup (.str "choose" :: l))] := by
  simp only [g__law_line_s0, oIf, mP, Rs.of, sTruB, sBin, sVar, sC, dIx, atI_nat (k := 0) (i := 0) rfl (l := Dat.str "choose" :: l) rfl, dNe, List.getElem?_cons_zero, fz_tup, if_true, Option.bind_some, Rs.out, str_beq, decide_true, Bool.not_true, Bool.false_eq_true, if_false, oNil]
theorem line_choose {h : Int} {x : Dat} {ws : List Str} (hh : N60 h) (hx : x.fz = true) (w : f__law_choice_words 8 [x] = .ok (dWs ws) []) (hl : ws.length ≤ 40000) (hT : T ([("choose" : Str), nt h] ++ ws) ≤ 19000) : f__law_line [.tup [.str "choose", .int h, x]] = .ok (.str (Txt.join " " ([("choose" : Str), nt h] ++ ws))) [] := by
  have w2 := ofFn1 w (dWs_fz ws)
  have hj := dJoin_ws hT
  simp only [dWs, List.map_append, List.map_cons, List.map_nil] at hj
  have e1 : (g__law_line_s1 [some (.tup [.str "choose", .int h, x])]).val = some (.str (Txt.join " " ([("choose" : Str), nt h] ++ ws))) := by
    have i1 : L2.atI [Dat.str "choose", Dat.int h, x] 1 = some (.int h) := atI_nat (k := 1) rfl rfl
    have i2 : L2.atI [Dat.str "choose", Dat.int h, x] 2 = some x := atI_nat (k := 2) rfl rfl
    simp only [g__law_line_s1, oRet, mP, sBin, sC, sVar, sF, sCat, sLstF, sCons, sNil, sArgs, sFn, dIx, i1, i2, dStr_nt hh, List.getElem?_cons_zero, fz_tup, if_true, Option.bind_some, Option.map_some, List.length_cons, List.length_nil, Nat.reduceAdd, w2, dWs, Rs.of]
    rw [if_pos (by omega)]
    simp only [Option.map_some, Option.bind_some]
    rw [if_pos (by simp; omega)]
    simp only [Option.map_some, Option.bind_some, hj, Rs.out, Out.val, Rs.of]
  obtain ⟨ρ, e1⟩ := Out.of_val e1
  simp only [f__law_line, g__law_line, fnO, fnOf, oSeq, Out.then, List.map_cons, List.map_nil, List.length_cons, List.length_nil, Nat.reduceAdd, Nat.reduceSub, List.replicate_zero, List.append_nil, if_true, line_s0, e1]
theorem line_ok {d : De} (h : d.ok) (hs : d.sm) : f__law_line [d.d] = .ok (.str d.line) [] := by
  cases d with
  | one k c => exact line_choose h.1 (Ch.dz c) (lchoice_ok 7 h.2) (by have := Ch.w_len h.2; omega) hs
  | split k cs => exact line_choose h.1 rfl (lsplit_ok 6 h.2) (by have := wP_len h.2; simp; omega) hs
  | offer a b c => exact line_flat (k := "offer") (ns := [a, b, c]) (by decide) (wN_ok3 h.1 h.2.1 h.2.2) (by simp) hs
  | cancel a => exact line_flat (k := "cancel") (ns := [a]) (by decide) (wN_ok1 h) (by simp) hs
  | undo => exact line_flat (k := "undo") (ns := []) (by decide) wN_ok0 (by simp) hs
  | redo => exact line_flat (k := "redo") (ns := []) (by decide) wN_ok0 (by simp) hs
def De.ln (d : De) : Str := d.line ++ "\n"
theorem ln_len {d : De} (h : d.sm) : d.ln.length ≤ 19001 := by
  have := join_le d.w
  unfold De.sm at h
  unfold De.ln De.line
  rw [Str.length_append, show (Str.ofString "\n").length = 1 by decide +kernel]; omega
theorem dAdd_ln {d : De} (h : d.sm) : dAdd (.str d.line) (.str "\n") = some (.str d.ln) := by
  have := ln_len h
  unfold De.ln at this
  rw [Str.length_append] at this
  unfold dAdd
  simp only []
  rw [if_pos (by omega)]
  rfl
theorem lens_le {ds : List De} (h : ∀ d ∈ ds, d.sm) : ((ds.map De.ln).map (·.length)).sum ≤ ds.length * 19001 := by
  induction ds with
  | nil => simp
  | cons d ds ih =>
    have h1 := ln_len (h d (by simp))
    have h2 := ih fun z hz => h z (List.mem_cons_of_mem _ hz)
    simp only [List.map_cons, List.sum_cons, List.length_cons, Nat.succ_mul]; omega
theorem join_lns {ds : List De} (h : ∀ d ∈ ds, d.sm) (hl : ds.length ≤ 50) : dJoin (.str "") (dWs (ds.map De.ln)) = some (.str (Txt.join "" (ds.map De.ln))) := by
  unfold dJoin dWs
  simp only [strsOf_map, Option.bind_some]
  have := lens_le h
  rw [if_pos (by rw [show (Str.ofString "").length = 0 by decide +kernel]; omega)]
theorem write_ok {ds : List De} (ho : ∀ d ∈ ds, d.ok) (h : ∀ d ∈ ds, d.sm) (hl : ds.length ≤ 50) : f_write_journal [.tup (ds.map De.d)] = .ok (.str (Txt.join "" (ds.map De.ln))) [] := by
  have e : lcGo [some (.tup (ds.map De.d)), none] [1] gNm sYes g_write_journal_1 (ds.map De.d) = some (ds.map fun d => .str d.ln) := by
    refine lcGo_nm _ _ _ fun d hd => ?_
    have w := ofFn1 (deed_ok (ho d hd)) (dWs_fz d.w)
    simp only [g_write_journal_1, sBin, sC, sFn, sCons, sNil, sVar, List.set_cons_succ, List.set_cons_zero, List.getElem?_cons_succ, List.getElem?_cons_zero, De.dz, if_true, Option.bind_some, List.length_cons, List.length_nil, Nat.reduceAdd, w]
    rw [dJoin_ws (h d hd)]
    exact dAdd_ln (h d hd)
  have hj := join_lns h hl
  have e2 : (g_write_journal_s0 [some (.tup (ds.map De.d)), none]).val = some (.str (Txt.join "" (ds.map De.ln))) := by
    simp only [g_write_journal_s0, oRet, mP, sBin, sC, sF, sLC, wipeR, List.set_cons_succ, List.set_cons_zero, sSeq, sVar, List.getElem?_cons_zero, fz_tup, if_true, Option.bind_some, seqOf, e, Option.map_some]
    simp only [dWs, List.map_map] at hj
    simp only [Function.comp_def] at hj
    rw [hj]; rfl
  obtain ⟨ρ, e2⟩ := Out.of_val e2
  simp only [f_write_journal, g_write_journal, fnO, fnOf, List.map_cons, List.map_nil, List.length_cons, List.length_nil, Nat.reduceAdd, Nat.reduceSub, List.replicate_succ, List.replicate_zero, List.cons_append, List.nil_append, if_true, e2]
end K98

namespace K98
open PySem PySem.Spec PyProof.Rows L2 MV
/-! ## reading: numbers -/
theorem blsOf_map (bs : List Bool) : blsOf (bs.map Dat.bl) = some bs := by
  induction bs with
  | nil => rfl
  | cons b bs ih => simp only [List.map_cons, blsOf, ih, Option.map_some]
theorem read_numbers_ok {ns : List Int} (h : ∀ n ∈ ns, N60 n) : f_read_numbers [dWs (wN ns)] = .ok (dNs ns) [] := by
  have ew : dWs (wN ns) = .lst (ns.map fun n => .str (nt n)) := by unfold dWs wN; rw [List.map_map]; rfl
  have e0 : ∀ ρ : Rho, ρ.length = 2 → lcGo ρ [1] gNm sYes g_read_numbers_1 (ns.map fun n => .str (nt n)) = some (ns.map fun _ => .bl true) := by
    intro ρ hρ
    refine lcGo_nm _ _ _ fun n hn => ?_
    have w := ofFn1 (isint_nt (h n hn)) fz_bl
    match ρ, hρ with
    | [a, b], _ => simp only [g_read_numbers_1, sFn, sCons, sNil, sVar, List.set_cons_succ, List.set_cons_zero, List.getElem?_cons_succ, List.getElem?_cons_zero, fz_str, if_true, Option.bind_some, List.length_cons, List.length_nil, Nat.reduceAdd, w]
  have e1 : ∀ ρ : Rho, ρ.length = 2 → lcGo ρ [1] gNm sYes g_read_numbers_2 (ns.map fun n => .str (nt n)) = some (ns.map Dat.int) := by
    intro ρ hρ
    refine lcGo_nm _ _ _ fun n hn => ?_
    match ρ, hρ with
    | [a, b], _ => simp only [g_read_numbers_2, sArgs, sCons, sNil, sVar, List.set_cons_succ, List.set_cons_zero, List.getElem?_cons_succ, List.getElem?_cons_zero, fz_str, if_true, Option.bind_some, dInt_nt (h n hn)]
  have eb : dAll [.lst (ns.map fun _ => Dat.bl true)] = some (.bl true) := by
    have : (ns.map fun _ => Dat.bl true) = (ns.map fun _ => true).map Dat.bl := by rw [List.map_map]; rfl
    unfold dAll
    simp only [this, blsOf_map, Option.map_some]
    congr 2
    simp
  have s0 : g_read_numbers_s0 [some (dWs (wN ns)), none] = .nx [some (dWs (wN ns)), none] := by
    rw [ew]
    simp only [g_read_numbers_s0, oIf, mP, sNot, sTruB, sArgs, sCons, sNil, sF, sLC, wipeR, sSeq, sVar, List.set_cons_succ, List.set_cons_zero, List.getElem?_cons_zero, fz_lst, if_true, Option.bind_some, seqOf, e0 _ (show [some (Dat.lst (ns.map fun n => Dat.str (nt n))), none].length = 2 from rfl), Option.map_some, eb, Rs.of, Rs.out, Bool.not_true, Bool.false_eq_true, if_false, oNil]
  have s1 : (g_read_numbers_s1 [some (dWs (wN ns)), none]).val = some (dNs ns) := by
    rw [ew]
    simp only [g_read_numbers_s1, oRet, mP, sArgs, sCons, sNil, sF, sLC, wipeR, sSeq, sVar, List.set_cons_succ, List.set_cons_zero, List.getElem?_cons_zero, fz_lst, if_true, Option.bind_some, seqOf, e1 _ (show [some (Dat.lst (ns.map fun n => Dat.str (nt n))), none].length = 2 from rfl), Option.map_some, dTuple, Rs.of, Rs.out, Out.val, dNs]
  obtain ⟨ρ, s1⟩ := Out.of_val s1
  simp only [f_read_numbers, g_read_numbers, fnO, fnOf, oSeq, Out.then, List.map_cons, List.map_nil, List.length_cons, List.length_nil, Nat.reduceAdd, Nat.reduceSub, List.replicate_succ, List.replicate_zero, List.cons_append, List.nil_append, if_true, s0, s1]
/-! ## parts behind a mark -/
def mlW (ws : List Str) : Dat := .mls (ws.map Dat.str)
def mlP (ps : List (List Str)) : Dat := .mls (ps.map mlW)

def pb (m : Str) : List (List Str) → List Str → Option (List (List Str))
  | qs, [] => some qs
  | qs, w :: ws => if w = m then pb m (qs ++ [[]]) ws else match qs.getLast? with
    | some q => pb m (qs.dropLast ++ [q ++ [w]]) ws
    | none => none
theorem pb_word {m : Str} : ∀ (p : List Str) (init : List (List Str)) (q : List Str) (ws : List Str), m ∉ p → pb m (init ++ [q]) (p ++ ws) = pb m (init ++ [q ++ p]) ws
  | [], init, q, ws, _ => by simp
  | w :: p, init, q, ws, h => by
    have h1 : ¬ w = m := fun e => h (by simp [e])
    have ih := pb_word p init (q ++ [w]) ws fun e => h (List.mem_cons_of_mem _ e)
    simp only [List.cons_append, pb, h1, if_false, List.getLast?_append, List.getLast?_singleton, Option.some_or, List.dropLast_concat]
    rw [ih]; simp
theorem pb_parts {m : Str} : ∀ (ps : List (List Str)) (qs : List (List Str)), (∀ p ∈ ps, m ∉ p) → pb m qs (ps.flatMap fun p => m :: p) = some (qs ++ ps)
  | [], qs, _ => by simp [pb]
  | p :: ps, qs, h => by
    have h1 := h p (by simp)
    have ih := pb_parts ps (qs ++ [p]) fun z hz => h z (List.mem_cons_of_mem _ hz)
    simp only [List.flatMap_cons, List.cons_append, pb, if_true]
    rw [pb_word p qs [] _ h1, List.nil_append, ih]
    simp
theorem getLast_split {α : Type} : ∀ {l : List α} {x : α}, l.getLast? = some x → l = l.dropLast ++ [x] := fun {l x} h => by
  have hne : l ≠ [] := fun e => by rw [e] at h; cases h
  rw [List.getLast?_eq_some_getLast hne] at h
  cases h
  exact (List.dropLast_concat_getLast hne).symm
theorem pb_mark {W : Option Dat} {m : Str} {qs : List (List Str)} (hl : qs.length < 100000) : g_parts_behind_1 [W, some (.str m), some (mlP qs), some (.str m)] = .nx [W, some (.str m), some (mlP (qs ++ [[]])), some (.str m)] := by
  have hd : dApp (qs.map mlW) (.mls []) = some (mlP (qs ++ [[]])) := by
    unfold dApp
    rw [if_pos (by simp; omega)]
    unfold mlP mlW; simp
  simp only [g_parts_behind_1, oIf, mP, sTruB, sBin, sVar, List.getElem?_cons_succ, List.getElem?_cons_zero, fz_str, if_true, Option.bind_some, dEq, BEq.rfl, Rs.of, Rs.out, oAppM, mlP, mOw, sLstF, sNil, List.length_nil, Nat.zero_le, Rs.bind, plGet, Dat.at, hd, plPut, List.set_cons_succ, List.set_cons_zero, Dat.put]
theorem pb_other {W : Option Dat} {m w : Str} {init : List (List Str)} {q : List Str} (hw : ¬ w = m) (hl : init.length < 100000) (hq : q.length < 100000) : g_parts_behind_1 [W, some (.str m), some (mlP (init ++ [q])), some (.str w)] = .nx [W, some (.str m), some (mlP (init ++ [q ++ [w]])), some (.str w)] := by
  have hb : (w == m) = false := beq_eq_false_iff_ne.mpr hw
  have hd : dApp (q.map Dat.str) (.str w) = some (mlW (q ++ [w])) := by
    unfold dApp
    rw [if_pos (by simp; omega)]
    unfold mlW; simp
  have hk : ((init ++ [q]).map mlW)[init.length]? = some (mlW q) := by simp
  have hix : ixOf (.int (-1)) ((init ++ [q]).map mlW) = some init.length := by
    simp only [ixOf, L2.ixN, List.length_map, List.length_append, List.length_cons, List.length_nil]
    rw [if_neg (by omega), if_pos (by omega)]
    simp only [Option.bind_some]
    have : ((-1 : Int) + ((init.length + (0 + 1) : Nat) : Int)).toNat = init.length := by omega
    rw [this, if_pos (by omega)]
  have hput : ((init ++ [q]).map mlW).set init.length (mlW (q ++ [w])) = (init ++ [q ++ [w]]).map mlW := by
    simp only [List.map_append, List.map_cons, List.map_nil]
    rw [List.set_append_right _ _ (by simp)]
    simp
  simp only [g_parts_behind_1, oIf, mP, sTruB, sBin, sVar, List.getElem?_cons_succ, List.getElem?_cons_zero, fz_str, if_true, Option.bind_some, dEq, hb, Bool.false_eq_true, if_false, Rs.of, Rs.out, oApp, plIx, plVar, Rs.bind, plGet, Dat.at, mlP, sUn, sC, dNeg, hix, List.nil_append, hk, mlW]
  simp only [mlW] at hd
  simp only [hd, plPut, List.getElem?_cons_succ, List.getElem?_cons_zero, Dat.put]
  simp only [mlW] at hk hput
  simp only [hk, Dat.put, List.set_cons_succ, List.set_cons_zero, hput]
theorem pb_loop {W : Option Dat} {m : Str} : ∀ (ws : List Str) (qs rs : List (List Str)) (x : Option Dat), pb m qs ws = some rs → qs.length + ws.length < 100000 → (∀ q ∈ qs, q.length + ws.length < 100000) →
    ∃ y, oForL [3] gNm g_parts_behind_1 (ws.map Dat.str) [W, some (.str m), some (mlP qs), x] = .nx [W, some (.str m), some (mlP rs), y]
  | [], qs, rs, x, h, _, _ => by cases h; exact ⟨x, rfl⟩
  | w :: ws, qs, rs, x, h, hl, hq => by
    simp only [List.length_cons] at hl hq
    simp only [pb] at h
    by_cases hw : w = m
    · rw [if_pos hw] at h
      obtain ⟨y, ih⟩ := pb_loop (W := W) ws (qs ++ [[]]) rs (some (.str w)) h (by simp; omega) (fun q hq' => by
        rcases List.mem_append.mp hq' with z | z
        · have := hq q z; omega
        · simp at z; subst z; simp; omega)
      refine ⟨y, ?_⟩
      have st := pb_mark (W := W) (m := m) (qs := qs) (by omega)
      subst hw
      simp only [List.map_cons, oForL, gNm, setR, List.set_cons_succ, List.set_cons_zero, st]
      exact ih
    · rw [if_neg hw] at h
      cases e : qs.getLast? with
      | none => rw [e] at h; cases h
      | some q =>
        rw [e] at h
        simp only at h
        have es := getLast_split e
        have hq0 := hq q (by rw [es]; simp)
        have hl0 : qs.dropLast.length ≤ qs.length := by simp
        obtain ⟨y, ih⟩ := pb_loop (W := W) ws (qs.dropLast ++ [q ++ [w]]) rs (some (.str w)) h (by
          have := congrArg List.length es
          simp at this ⊢; omega) (fun z hz => by
          rcases List.mem_append.mp hz with z1 | z1
          · have := hq z (by rw [es]; exact List.mem_append_left _ z1); omega
          · simp at z1; subst z1; simp; omega)
        refine ⟨y, ?_⟩
        have st := pb_other (W := W) (m := m) (w := w) (init := qs.dropLast) (q := q) hw (by omega) (by omega)
        rw [← es] at st
        simp only [List.map_cons, oForL, gNm, setR, List.set_cons_succ, List.set_cons_zero, st]
        exact ih
theorem frz_mlW (q : List Str) : (mlW q).frz = dWs q := frz_mls (by simp [List.all_eq_true, Dat.fz])
theorem cln_mlW (q : List Str) : (mlW q).cln = true := by unfold mlW Dat.cln; exact clns_fz (by simp [List.all_eq_true, Dat.fz])
theorem clns_mlP (ps : List (List Str)) : Dat.clns (ps.map mlW) = true := by
  induction ps with
  | nil => rfl
  | cons p ps ih => simp only [List.map_cons, Dat.clns, cln_mlW, ih, Bool.and_self]
theorem frzs_mlP (ps : List (List Str)) : Dat.frzs (ps.map mlW) = ps.map dWs := by
  induction ps with
  | nil => rfl
  | cons p ps ih => simp only [List.map_cons, Dat.frzs, frz_mlW, ih]
theorem frz_mlP (ps : List (List Str)) : (mlP ps).frz = .lst (ps.map dWs) := by
  unfold mlP Dat.frz
  rw [if_pos (clns_mlP ps), frzs_mlP]
theorem cln_mlP (ps : List (List Str)) : (mlP ps).cln = true := by unfold mlP Dat.cln; exact clns_mlP ps
theorem parts_ok {m : Str} {ps : List (List Str)} (h : ∀ p ∈ ps, m ∉ p) (hl : (ps.flatMap fun p => m :: p).length < 90000) : f_parts_behind [dWs (ps.flatMap fun p => m :: p), .str m] = .ok (.lst (ps.map dWs)) [] := by
  obtain ⟨y, e⟩ := pb_loop (W := some (dWs (ps.flatMap fun p => m :: p))) (ps.flatMap fun p => m :: p) [] ps none (by rw [pb_parts ps [] h]; simp) (by simp at hl ⊢; omega) (fun q hq => by cases hq)
  have s0 : g_parts_behind_s0 [some (dWs (ps.flatMap fun p => m :: p)), some (.str m), none, none] = .nx [some (dWs (ps.flatMap fun p => m :: p)), some (.str m), none, none] := by
    cases ps with
    | nil => simp only [g_parts_behind_s0, fnO, fnOf, oSeq, oSet, oIf, oRet, oRetN, oNil, oFor, oNever, oDrop, oAsg, oBk, oCt, Out.then, Rs.out, Rs.bind, Rs.of, mP, mFz, mOw, mMv, mVz, mO, sVar, sC, sBin, sUn, sNil, sCons, sArgs, sTup, sLstF, sTruB, sAnd, sOr, sNot, sIf, sF, sFn, pfn, sSeq, seqOf, sCat, sRep, sSl, sSlL, sPart, sNoP, sRevT, sRevL, sLC, wipeR, mSeqOf, mItA, sItA, gNm, gTp, gsNil, gsCons, setR, oget, dIx, L2.atI, L2.ixN, dEq, dNe, dAdd, dSub, dLt, dLe, dGt, dGe, dI0, dI2, dLen, dIs, dIsNot, Dat.isN, dNeg, sListOf, dTuple, dTup, sNotV, sAndV, sOrV, dJoin, mBin, mUn, mNil, mCons, mArgs, mLstF, mTru, mIf, mNot, mAnd, mOr, MV.cutD, HT.sIx, fz_non, fz_bl, fz_int, fz_str, fz_tup, fz_lst, fz_frl, fz_mls, fz_obj, str_beq, str_lit, List.map_cons, List.map_nil, List.length_cons, List.length_nil, List.length_map, List.replicate_succ, List.replicate_zero, List.cons_append, List.nil_append, List.getElem?_cons_zero, List.getElem?_cons_succ, List.set_cons_zero, List.set_cons_succ, Option.bind_some, Option.bind_none, Option.map_some, Option.map_none, if_true, if_false, Nat.reduceAdd, Nat.reduceSub, Nat.reduceLT, Nat.reduceLeDiff, Nat.reduceEqDiff, reduceIte, reduceCtorEq, decide_true, decide_false, Bool.not_true, Bool.not_false, Int.reduceLT, Int.reduceLE, String.reduceEq, Bool.false_eq_true, Bool.true_eq_false, eq_self, Int.toNat_zero, Int.toNat_one, Int.reduceToNat, Int.natCast_add, Int.reduceAdd, Int.reduceNeg, Int.reduceSub, Int.cast_ofNat_Int, Nat.add_one_sub_one, dWs, List.flatMap_nil]
    | cons p ps =>
      have h0 : decide ((0 : Int) < ((p ++ ps.flatMap fun p => m :: p).length : Int) + 1) = true := decide_eq_true (by omega)
      have i0 : L2.atI (Dat.str m :: (p ++ ps.flatMap fun p => m :: p).map Dat.str) 0 = some (.str m) := atI_nat (k := 0) rfl rfl
      simp only [g_parts_behind_s0, oIf, mP, sAnd, sTruB, sBin, sArgs, sCons, sNil, sVar, sC, dGt, dI0, dNe, dIx, dLen, dWs, List.flatMap_cons, List.cons_append, List.map_cons, List.length_cons, List.length_map, List.getElem?_cons_zero, List.getElem?_cons_succ, fz_lst, fz_str, if_true, Option.bind_some, i0, BEq.rfl, Bool.not_true, Rs.of, Rs.out, oNil, Int.natCast_add, Int.cast_ofNat_Int, h0]
      simp only [Bool.false_eq_true, if_false]
  have s1 : g_parts_behind_s1 [some (dWs (ps.flatMap fun p => m :: p)), some (.str m), none, none] = .nx [some (dWs (ps.flatMap fun p => m :: p)), some (.str m), some (mlP []), none] := by
    simp only [g_parts_behind_s1, oSet, mOw, mP, sLstF, sNil, Option.bind_some, List.length_nil, Nat.zero_le, if_true, Rs.of, Rs.bind, Rs.out, List.set_cons_succ, List.set_cons_zero, mlP, List.map_nil]
  have s2 : g_parts_behind_s2 [some (dWs (ps.flatMap fun p => m :: p)), some (.str m), some (mlP []), none] = .nx [some (dWs (ps.flatMap fun p => m :: p)), some (.str m), some (mlP ps), y] := by
    rw [← e]
    simp only [g_parts_behind_s2, oFor, mSeqOf, mP, sVar, dWs, List.getElem?_cons_zero, fz_lst, if_true, Rs.of, Rs.bind, seqOf, Rs.out]
  have s3 : (g_parts_behind_s3 [some (dWs (ps.flatMap fun p => m :: p)), some (.str m), some (mlP ps), y]).val = some (.lst (ps.map dWs)) := by
    simp only [g_parts_behind_s3, oRet, mVz, List.getElem?_cons_succ, List.getElem?_cons_zero, cln_mlP, if_true, frz_mlP, Rs.out, Out.val]
  obtain ⟨ρ, s3⟩ := Out.of_val s3
  simp only [f_parts_behind, g_parts_behind, fnO, fnOf, oSeq, Out.then, List.map_cons, List.map_nil, List.length_cons, List.length_nil, Nat.reduceAdd, Nat.reduceSub, List.replicate_succ, List.replicate_zero, List.cons_append, List.nil_append, if_true, s0, s1, s2, s3]
end K98

namespace K98
open PySem PySem.Spec PyProof.Rows L2 MV
/-! ## keywords -/
def kw (k : String) : Prop := ∃ c cs, (Str.ofString k).cps.toList = c :: cs ∧ 57 < c
theorem nt_ne {n : Int} {k : String} (h : kw k) : nt n ≠ Str.ofString k := fun e => by
  obtain ⟨c, cs, h1, h2⟩ := h
  rw [← e] at h1
  by_cases h0 : 0 ≤ n
  · have := nt_pos h0; unfold TL.tl at this; rw [this] at h1
    have := TL.numL_digits n.natAbs c (by rw [h1]; simp)
    omega
  · have := nt_neg (show n < 0 by omega); unfold TL.tl at this; rw [this] at h1
    cases h1; omega
theorem kw_buys : kw "buys" := ⟨98, [117, 121, 115], by decide +kernel, by decide⟩
theorem kw_sells : kw "sells" := ⟨115, [101, 108, 108, 115], by decide +kernel, by decide⟩
theorem kw_row : kw "row" := ⟨114, [111, 119], by decide +kernel, by decide⟩
theorem kw_cap : kw "cap" := ⟨99, [97, 112], by decide +kernel, by decide⟩
theorem kw_part : kw "part" := ⟨112, [97, 114, 116], by decide +kernel, by decide⟩
theorem kw_wN {k : String} (h : kw k) (ns : List Int) : Str.ofString k ∉ wN ns := fun hm => by
  obtain ⟨n, _, e⟩ := List.mem_map.mp hm
  exact nt_ne h e
/-! ## deep comparisons -/
theorem ok_nt (n : Int) : PyData.strOk (nt n) = true := by
  unfold PyData.strOk
  rw [← Array.all_toList, List.all_eq_true]
  intro c hc
  have : c ≤ 57 := by
    by_cases h0 : 0 ≤ n
    · have e := nt_pos h0; unfold TL.tl at e; rw [e] at hc
      exact (TL.numL_digits _ c hc).2
    · have e := nt_neg (show n < 0 by omega); unfold TL.tl at e; rw [e] at hc
      rcases List.mem_cons.mp hc with z | z
      · omega
      · exact (TL.numL_digits _ c z).2
  exact decide_eq_true (by omega)
theorem pys_strs (ws : List Str) : Dat.pys (ws.map Dat.str) = ws.map PyData.str := by
  induction ws with
  | nil => rfl
  | cons w ws ih => simp only [List.map_cons, Dat.pys, Dat.py, ih]
theorem lay_strs {ws : List Str} (h : ∀ w ∈ ws, PyData.strOk w = true) : PyData.canLayAll0 (ws.map PyData.str) = true := by
  induction ws with
  | nil => rfl
  | cons w ws ih => simp only [List.map_cons, PyData.canLayAll0, PyData.canLay0, h w (by simp), ih fun z hz => h z (List.mem_cons_of_mem _ hz), Bool.and_self]
theorem dep_strs (ws : List Str) : PyData.depthAll (ws.map PyData.str) = 0 := by
  induction ws with
  | nil => rfl
  | cons w ws ih => simp only [List.map_cons, PyData.depthAll, PyData.depth, ih, Nat.max_self]
theorem py_dWs (ws : List Str) : (dWs ws).py = .list (ws.map PyData.str) := by unfold dWs Dat.py; rw [pys_strs]
theorem pys_dWs (ps : List (List Str)) : Dat.pys (ps.map dWs) = ps.map fun ws => .list (ws.map PyData.str) := by
  induction ps with
  | nil => rfl
  | cons w ws ih => simp only [List.map_cons, Dat.pys, py_dWs, ih]
theorem good_dWs {ws : List Str} (h : ∀ w ∈ ws, PyData.strOk w = true) : (dWs ws).good = true := by
  unfold Dat.good SeqAt.shaped
  rw [py_dWs]
  simp only [PyData.canLay0, lay_strs h, PyData.depth, dep_strs]
  rfl
theorem good_dPs {ps : List (List Str)} (h : ∀ p ∈ ps, ∀ w ∈ p, PyData.strOk w = true) : (Dat.lst (ps.map dWs)).good = true := by
  unfold Dat.good SeqAt.shaped Dat.py
  rw [pys_dWs]
  have h1 : PyData.canLayAll0 (ps.map fun ws => PyData.list (ws.map PyData.str)) = true := by
    induction ps with
    | nil => rfl
    | cons p ps ih => simp only [List.map_cons, PyData.canLayAll0, PyData.canLay0, lay_strs (h p (by simp)), ih fun z hz => h z (List.mem_cons_of_mem _ hz), Bool.and_self]
  have h2 : PyData.depthAll (ps.map fun ws => PyData.list (ws.map PyData.str)) ≤ 1 := by
    clear h h1
    induction ps with
    | nil => simp [PyData.depthAll]
    | cons p ps ih => simp only [List.map_cons, PyData.depthAll, PyData.depth, dep_strs]; omega
  simp only [PyData.canLay0, h1, PyData.depth, Bool.true_and]
  exact decide_eq_true (by omega)
theorem in_nil {ps : List (List Str)} (h : ∀ p ∈ ps, p ≠ [] ∧ ∀ w ∈ p, PyData.strOk w = true) : dIn false (.lst []) (.lst (ps.map dWs)) = some (.bl false) := by
  unfold dIn
  simp only []
  rw [if_neg (fun z => by have := z.1; cases this), if_pos ⟨by decide +kernel, good_dPs fun p hp => (h p hp).2⟩]
  simp only [Bool.false_eq_true, if_false]
  rw [pys_dWs]
  congr 2
  rw [List.any_eq_false]
  intro z hz
  obtain ⟨p, hp, rfl⟩ := List.mem_map.mp hz
  have hne := (h p hp).1
  cases p with
  | nil => exact absurd rfl hne
  | cons w ws => simp [Dat.py, Dat.pys, PyData.eqv, PyData.eqvAll]
/-- None in a list of tuples -/
theorem in_none {l : List Dat} (hg : (Dat.lst l).good = true) (ht : ∀ d ∈ l, ∃ xs, d = .tup xs) : dIn false .non (.lst l) = some (.bl false) := by
  unfold dIn
  simp only []
  by_cases h : Dat.non.flat = true ∧ l.all Dat.flat = true
  · rw [if_pos h]
    simp only [Bool.false_eq_true, if_false]
    congr 2
    rw [List.any_eq_false]
    intro z hz
    obtain ⟨xs, rfl⟩ := ht z hz
    have := List.all_eq_true.mp h.2 _ hz
    cases this
  · rw [if_neg h, if_pos ⟨by decide +kernel, hg⟩]
    simp only [Bool.false_eq_true, if_false]
    congr 2
    rw [List.any_eq_false]
    intro z hz
    have aux : ∀ (l : List Dat), (∀ d ∈ l, ∃ xs, d = .tup xs) → ∀ z ∈ Dat.pys l, ∃ xs, z = PyData.tuple xs := by
      intro l
      induction l with
      | nil => intro _ z hz; unfold Dat.pys at hz; cases hz
      | cons d l ih =>
        intro h z hz
        unfold Dat.pys at hz
        rcases List.mem_cons.mp hz with e | hz
        · obtain ⟨xs, rfl⟩ := h d (by simp)
          exact ⟨_, by rw [e]; unfold Dat.py; rfl⟩
        · exact ih (fun y hy => h y (List.mem_cons_of_mem _ hy)) z hz
    obtain ⟨xs, rfl⟩ := aux l ht z hz
    simp [Dat.py, PyData.eqv]
theorem good_lst_of {l : List Dat} (h : ∀ d ∈ l, PyData.canLay0 d.py = true ∧ d.py.depth ≤ 60) : (Dat.lst l).good = true := by
  unfold Dat.good SeqAt.shaped Dat.py
  have h1 : PyData.canLayAll0 (Dat.pys l) = true ∧ PyData.depthAll (Dat.pys l) ≤ 60 := by
    induction l with
    | nil => simp [Dat.pys, PyData.canLayAll0, PyData.depthAll]
    | cons d l ih =>
      have h2 := h d (by simp)
      have h3 := ih fun z hz => h z (List.mem_cons_of_mem _ hz)
      simp only [Dat.pys, PyData.canLayAll0, PyData.depthAll, h2.1, h3.1, Bool.and_self, true_and]
      omega
  simp only [PyData.canLay0, h1.1, PyData.depth, Bool.true_and]
  exact decide_eq_true (by omega)
theorem lay_dNs (ns : List Int) : PyData.canLay0 (dNs ns).py = true ∧ (dNs ns).py.depth ≤ 1 := by
  unfold dNs Dat.py
  simp only [PyData.canLay0, PyData.depth]
  induction ns with
  | nil => simp [Dat.pys, PyData.canLayAll0, PyData.depthAll]
  | cons n ns ih =>
    simp only [List.map_cons, Dat.pys, Dat.py, PyData.canLayAll0, PyData.canLay0, PyData.depthAll, PyData.depth, ih.1, Bool.and_self, true_and]
    omega
/-! ## tables -/
theorem table_ok {rows : List (List Int)} (h : (∀ r ∈ rows, okN r ∧ r ≠ []) ∧ rows.length ≤ 40) : f_read_table [dWs (wR rows)] = .ok (Ch.table rows).d [] := by
  have hp := parts_ok (m := Str.ofString "row") (ps := rows.map wN) (fun p hp => by obtain ⟨r, _, rfl⟩ := List.mem_map.mp hp; exact kw_wN kw_row r) (by
    have := wR_len h; unfold wR at this; simp only [List.flatMap_map]; omega)
  have hp2 : f_parts_behind [dWs (wR rows), .str "row"] = .ok (.lst ((rows.map wN).map dWs)) [] := by
    rw [← hp]; unfold wR; rw [List.flatMap_map]
  have w := hp2
  have s0 : g_read_table_s0 [some (dWs (wR rows)), none, none, none] = .nx [some (dWs (wR rows)), some (.lst ((rows.map wN).map dWs)), none, none] := by
    simp only [g_read_table_s0, oSet, mP, sFn, sCons, sNil, sVar, sC, List.getElem?_cons_zero, dWs_fz, if_true, Option.bind_some, List.length_cons, List.length_nil, Nat.reduceAdd, pfn, w, fz_lst, Rs.of, Rs.out, List.set_cons_succ, List.set_cons_zero]
  have s1 : g_read_table_s1 [some (dWs (wR rows)), some (.lst ((rows.map wN).map dWs)), none, none] = .nx [some (dWs (wR rows)), some (.lst ((rows.map wN).map dWs)), none, none] := by
    have hi := in_nil (ps := rows.map wN) (fun p hp => by
      obtain ⟨r, hr, rfl⟩ := List.mem_map.mp hp
      refine ⟨fun e => (h.1 r hr).2 (List.map_eq_nil_iff.mp e), fun w hw => ?_⟩
      obtain ⟨n, _, rfl⟩ := List.mem_map.mp hw
      exact ok_nt n)
    simp only [g_read_table_s1, oIf, mP, sOr, sTruB, sBin, sVar, sC, sF, sLstF, sNil, dIs, Dat.isN, List.getElem?_cons_succ, List.getElem?_cons_zero, fz_lst, if_true, Option.bind_some, Option.map_some, List.length_nil, Nat.zero_le, hi, Rs.of, Rs.out, Bool.false_eq_true, if_false, oNil]
  have e2 : lcGo [some (dWs (wR rows)), some (.lst ((rows.map wN).map dWs)), none, none] [3] gNm sYes g_read_table_1 ((rows.map wN).map dWs) = some (rows.map dNs) := by
    rw [List.map_map]
    refine lcGo_nm _ _ _ fun r hr => ?_
    have w := ofFn1 (read_numbers_ok (h.1 r hr).1.1) rfl
    simp only [Function.comp, g_read_table_1, sFn, sCons, sNil, sVar, List.set_cons_succ, List.set_cons_zero, List.getElem?_cons_succ, List.getElem?_cons_zero, dWs_fz, if_true, Option.bind_some, List.length_cons, List.length_nil, Nat.reduceAdd, w]
  have s2 : g_read_table_s2 [some (dWs (wR rows)), some (.lst ((rows.map wN).map dWs)), none, none] = .nx [some (dWs (wR rows)), some (.lst ((rows.map wN).map dWs)), some (.lst (rows.map dNs)), none] := by
    simp only [g_read_table_s2, oSet, mFz, mP, sLC, sSeq, sVar, wipeR, List.set_cons_succ, List.set_cons_zero, List.getElem?_cons_succ, List.getElem?_cons_zero, fz_lst, if_true, Option.bind_some, seqOf, e2, Rs.of, Rs.bind, Rs.out]
  have s3 : (g_read_table_s3 [some (dWs (wR rows)), some (.lst ((rows.map wN).map dWs)), some (.lst (rows.map dNs)), none]).val = some (Ch.table rows).d := by
    have hi := in_none (l := rows.map dNs) (good_lst_of fun d hd => by
      obtain ⟨r, _, rfl⟩ := List.mem_map.mp hd
      have := lay_dNs r
      exact ⟨this.1, by omega⟩) (fun d hd => by obtain ⟨r, _, rfl⟩ := List.mem_map.mp hd; exact ⟨_, rfl⟩)
    simp only [g_read_table_s3, oRet, mP, sIf, sTruB, sBin, sVar, sC, sTup, sCons, sNil, sArgs, dTuple, List.getElem?_cons_succ, List.getElem?_cons_zero, fz_lst, if_true, Option.bind_some, hi, Bool.false_eq_true, if_false, List.length_cons, List.length_nil, Nat.reduceAdd, Nat.reduceLeDiff, Rs.of, Rs.out, Out.val, Ch.d]
  obtain ⟨ρ, s3⟩ := Out.of_val s3
  simp only [f_read_table, g_read_table, fnO, fnOf, oSeq, Out.then, List.map_cons, List.map_nil, List.length_cons, List.length_nil, Nat.reduceAdd, Nat.reduceSub, List.replicate_succ, List.replicate_zero, List.cons_append, List.nil_append, if_true, s0, s1, s2, s3]
end K98

namespace K98
open PySem PySem.Spec PyProof.Rows L2 MV
/-! ## counting, finding, cutting -/
theorem flat_strs (ws : List Str) : (ws.map Dat.str).all Dat.flat = true := by rw [List.all_eq_true]; intro d hd; obtain ⟨w, _, rfl⟩ := List.mem_map.mp hd; rfl
theorem count_ws (ws : List Str) (k : Str) : dCount (dWs ws) (.str k) = some (.int (ws.count k : Nat)) := by
  unfold dCount dWs
  simp only []
  rw [if_pos ⟨rfl, flat_strs ws⟩, List.countP_map]
  rfl
theorem index_ws (a b : List Str) (k : Str) (h : k ∉ a) : dIndex (dWs (a ++ k :: b)) (.str k) = some (.int (a.length : Nat)) := by
  unfold dIndex dWs
  simp only []
  rw [if_pos ⟨rfl, flat_strs _⟩]
  have : ((a ++ k :: b).map Dat.str).findIdx? (fun z => Dat.eqf z (.str k)) = some a.length := by
    rw [List.findIdx?_map]
    have ef : ((fun z => Dat.eqf z (.str k)) ∘ Dat.str) = fun x => x == k := rfl
    rw [ef]
    clear ef
    induction a with
    | nil => simp [List.findIdx?_cons]
    | cons x a ih =>
      have h1 : ¬ x = k := fun e => h (by simp [e])
      have := ih fun e => h (List.mem_cons_of_mem _ e)
      simp only [List.cons_append, List.findIdx?_cons]
      rw [if_neg (by simpa using h1), this]
      simp
  rw [this]; rfl
theorem cut_nat {α : Type} (l : List α) (i j : Nat) (hi : i ≤ l.length) (hj : j ≤ l.length) : MV.cutD l (some (i : Int)) (some (j : Int)) = (l.drop i).take (j - i) := by
  unfold MV.cutD
  rw [HT.sIx_nat, HT.sIx_nat, Nat.min_eq_left hi, Nat.min_eq_left hj]
theorem cut_to {α : Type} (l : List α) (j : Nat) (hj : j ≤ l.length) : MV.cutD l none (some (j : Int)) = l.take j := by
  unfold MV.cutD
  rw [HT.sIx_none, HT.sIx_nat, Nat.min_eq_left hj]
  simp
theorem cut_from {α : Type} (l : List α) (i : Nat) (hi : i ≤ l.length) : MV.cutD l (some (i : Int)) none = l.drop i := by
  unfold MV.cutD
  rw [HT.sIx_none, HT.sIx_nat, Nat.min_eq_left hi]
  rw [List.take_of_length_le]; simp
/-! ## wishes -/
def wW (R B S : List Int) : List Str := wN R ++ Str.ofString "buys" :: (wN B ++ Str.ofString "sells" :: wN S)
theorem wW_b (R B S : List Int) : (wW R B S).count (Str.ofString "buys") = 1 := by
  have h1 := fun ns => List.count_eq_zero.mpr (kw_wN kw_buys ns)
  have h2 : (Str.ofString "sells" == Str.ofString "buys") = false := by rw [str_beq]; decide
  unfold wW
  simp only [List.count_append, List.count_cons, h1, h2, BEq.rfl]
  simp
theorem wW_s (R B S : List Int) : (wW R B S).count (Str.ofString "sells") = 1 := by
  have h1 := fun ns => List.count_eq_zero.mpr (kw_wN kw_sells ns)
  have h2 : (Str.ofString "buys" == Str.ofString "sells") = false := by rw [str_beq]; decide
  unfold wW
  simp only [List.count_append, List.count_cons, h1, h2, BEq.rfl]
  simp
theorem wW_ib (R B S : List Int) : dIndex (dWs (wW R B S)) (.str "buys") = some (.int (R.length : Nat)) := by
  have := index_ws (wN R) (wN B ++ Str.ofString "sells" :: wN S) _ (kw_wN kw_buys R)
  rw [wN_len] at this; exact this
theorem wW_is (R B S : List Int) : dIndex (dWs (wW R B S)) (.str "sells") = some (.int ((R.length + 1 + B.length : Nat) : Int)) := by
  have h : Str.ofString "sells" ∉ wN R ++ Str.ofString "buys" :: wN B := fun hm => by
    rcases List.mem_append.mp hm with z | z
    · exact kw_wN kw_sells R z
    · rcases List.mem_cons.mp z with z | z
      · exact absurd (ofString_inj z) (by decide)
      · exact kw_wN kw_sells B z
  have := index_ws (wN R ++ Str.ofString "buys" :: wN B) (wN S) _ h
  have e : wN R ++ Str.ofString "buys" :: wN B ++ Str.ofString "sells" :: wN S = wW R B S := by unfold wW; simp
  rw [e] at this
  rw [this]
  congr 3
  simp [wN_len]; omega
theorem wW_c1 (R B S : List Int) : MV.cutD ((wW R B S).map Dat.str) none (some ((R.length : Nat) : Int)) = (wN R).map Dat.str := by
  rw [cut_to _ _ (by simp [wW, wN_len])]
  unfold wW
  rw [List.map_append, List.take_append_of_le_length (by simp [wN_len]), List.take_of_length_le (by simp [wN_len])]
theorem wW_c2 (R B S : List Int) : MV.cutD ((wW R B S).map Dat.str) (some (((R.length + 1 : Nat)) : Int)) (some ((R.length + 1 + B.length : Nat) : Int)) = (wN B).map Dat.str := by
  rw [cut_nat _ _ _ (by simp [wW, wN_len]) (by simp [wW, wN_len]; omega)]
  have e : (wW R B S).map Dat.str = ((wN R).map Dat.str ++ [.str (Str.ofString "buys")]) ++ ((wN B).map Dat.str ++ .str (Str.ofString "sells") :: (wN S).map Dat.str) := by unfold wW; simp
  rw [e, List.drop_append_of_le_length (by simp [wN_len]), List.drop_of_length_le (by simp [wN_len]), List.nil_append, List.take_append_of_le_length (by simp [wN_len]), List.take_of_length_le (by simp [wN_len])]
theorem wW_c3 (R B S : List Int) : MV.cutD ((wW R B S).map Dat.str) (some ((R.length + 1 + B.length + 1 : Nat) : Int)) none = (wN S).map Dat.str := by
  rw [cut_from _ _ (by simp [wW, wN_len]; omega)]
  have e : (wW R B S).map Dat.str = ((wN R).map Dat.str ++ .str (Str.ofString "buys") :: ((wN B).map Dat.str ++ [.str (Str.ofString "sells")])) ++ (wN S).map Dat.str := by unfold wW; simp
  rw [e, List.drop_append_of_le_length (by simp [wN_len]; omega), List.drop_of_length_le (by simp [wN_len]; omega), List.nil_append]
theorem rn {ns : List Int} (h : ∀ n ∈ ns, N60 n) : pfn f_read_numbers [.lst ((wN ns).map Dat.str)] = some (dNs ns) := ofFn1 (read_numbers_ok h) rfl
/-- the values before the last tests -/
theorem wishes_mid {k : Str} {R B S : List Int} (hR : ∀ n ∈ R, N60 n) (hB : ∀ n ∈ B, N60 n) (hS : ∀ n ∈ S, N60 n) : ∃ ρ1 ρ2 ρ3 ρ4 ρ5 : Rho,
    g_read_wishes_s0 [some (.str k), some (dWs (wW R B S)), none, none, none, none, none] = .nx ρ1 ∧ g_read_wishes_s1 ρ1 = .nx ρ2 ∧ g_read_wishes_s2 ρ2 = .nx ρ3 ∧ g_read_wishes_s3 ρ3 = .nx ρ4 ∧ g_read_wishes_s4 ρ4 = .nx ρ5 ∧
    g_read_wishes_s5 ρ5 = .nx [some (.str k), some (dWs (wW R B S)), some (.int (R.length : Nat)), some (.int ((R.length + 1 + B.length : Nat) : Int)), some (dNs R), some (dNs B), some (dNs S)] := by
  have hlt : decide (((R.length + 1 + B.length : Nat) : Int) < ((R.length : Nat) : Int)) = false := decide_eq_false (by omega)
  have e1 : (((R.length : Nat) : Int) + 1) = ((R.length + 1 : Nat) : Int) := by omega
  have e2 : (((R.length + 1 + B.length : Nat) : Int) + 1) = ((R.length + 1 + B.length + 1 : Nat) : Int) := by omega
  refine ⟨[some (.str k), some (dWs (wW R B S)), none, none, none, none, none], [some (.str k), some (dWs (wW R B S)), some (.int (R.length : Nat)), none, none, none, none], [some (.str k), some (dWs (wW R B S)), some (.int (R.length : Nat)), some (.int ((R.length + 1 + B.length : Nat) : Int)), none, none, none], [some (.str k), some (dWs (wW R B S)), some (.int (R.length : Nat)), some (.int ((R.length + 1 + B.length : Nat) : Int)), some (dNs R), none, none], [some (.str k), some (dWs (wW R B S)), some (.int (R.length : Nat)), some (.int ((R.length + 1 + B.length : Nat) : Int)), some (dNs R), some (dNs B), none], ?_, ?_, ?_, ?_, ?_, ?_⟩
  · simp only [g_read_wishes_s0, oIf, mP, sOr, sTruB, sBin, sVar, sC, List.getElem?_cons_succ, List.getElem?_cons_zero, dWs_fz, if_true, Option.bind_some, count_ws, wW_b, wW_s, wW_ib, wW_is, dNe, dLt, dI0, hlt, Rs.of, Rs.out, oNil]
    simp
  · simp only [g_read_wishes_s1, oSet, mP, sBin, sVar, sC, List.getElem?_cons_succ, List.getElem?_cons_zero, dWs_fz, if_true, Option.bind_some, wW_ib, Rs.of, Rs.out, List.set_cons_succ, List.set_cons_zero]
  · simp only [g_read_wishes_s2, oSet, mP, sBin, sVar, sC, List.getElem?_cons_succ, List.getElem?_cons_zero, dWs_fz, if_true, Option.bind_some, wW_is, Rs.of, Rs.out, List.set_cons_succ, List.set_cons_zero]
  · simp only [g_read_wishes_s3, oSet, mP, sFn, sCons, sNil, sF, sSlL, sNoP, sPart, sVar, List.getElem?_cons_succ, List.getElem?_cons_zero, dWs, fz_lst, fz_int, if_true, Option.bind_some, Option.map_some, wW_c1, List.length_cons, List.length_nil, Nat.reduceAdd, rn hR, Rs.of, Rs.out, List.set_cons_succ, List.set_cons_zero]
  · simp only [g_read_wishes_s4, oSet, mP, sFn, sCons, sNil, sF, sSlL, sNoP, sPart, sBin, sC, dAdd, sVar, List.getElem?_cons_succ, List.getElem?_cons_zero, dWs, fz_lst, fz_int, if_true, Option.bind_some, Option.map_some, e1, wW_c2, List.length_cons, List.length_nil, Nat.reduceAdd, rn hB, Rs.of, Rs.out, List.set_cons_succ, List.set_cons_zero]
  · simp only [g_read_wishes_s5, oSet, mP, sFn, sCons, sNil, sF, sSlL, sNoP, sPart, sBin, sC, dAdd, sVar, List.getElem?_cons_succ, List.getElem?_cons_zero, dWs, fz_lst, fz_int, if_true, Option.bind_some, Option.map_some, e2, wW_c3, List.length_cons, List.length_nil, Nat.reduceAdd, rn hS, Rs.of, Rs.out, List.set_cons_succ, List.set_cons_zero]
end K98

namespace K98
open PySem PySem.Spec PyProof.Rows L2 MV
theorem wishes_s6 {k : String} {W a b : Option Dat} {R B S : List Int} (hn : R.length = 1 + (if decide (k = "trader") = true then 1 else 0)) : g_read_wishes_s6 [some (.str k), W, a, b, some (dNs R), some (dNs B), some (dNs S)] = .nx [some (.str k), W, a, b, some (dNs R), some (dNs B), some (dNs S)] := by
  have h : ((R.length : Int) == 1 + (if decide (k = "trader") = true then (1 : Int) else 0)) = true := by
    rw [hn]
    by_cases e : k = "trader" <;> simp [e]
  simp only [g_read_wishes_s6, oIf, mP, sOr, sTruB, sBin, sArgs, sCons, sNil, sVar, sC, List.getElem?_cons_succ, List.getElem?_cons_zero, dNs, fz_tup, fz_str, if_true, Option.bind_some, dIs, Dat.isN, dLen, List.length_map, dEq, str_beq, dInt, dAdd, dNe, h, Bool.not_true, Bool.false_eq_true, if_false, Rs.of, Rs.out, oNil]
theorem wishes_end {k : String} {R B S : List Int} {d : Dat} (hR : ∀ n ∈ R, N60 n) (hB : ∀ n ∈ B, N60 n) (hS : ∀ n ∈ S, N60 n) (hn : R.length = 1 + (if decide (k = "trader") = true then 1 else 0))
    (h : ∀ W a b, (oSeq g_read_wishes_s7 g_read_wishes_s8 [some (.str k), W, a, b, some (dNs R), some (dNs B), some (dNs S)]).val = some d) : f_read_wishes [.str k, dWs (wW R B S)] = .ok d [] := by
  obtain ⟨ρ1, ρ2, ρ3, ρ4, ρ5, e0, e1, e2, e3, e4, e5⟩ := wishes_mid (k := Str.ofString k) hR hB hS
  obtain ⟨ρ, h⟩ := Out.of_val (h (some (dWs (wW R B S))) (some (.int (R.length : Nat))) (some (.int ((R.length + 1 + B.length : Nat) : Int))))
  simp only [oSeq] at h
  simp only [f_read_wishes, g_read_wishes, fnO, fnOf, oSeq, Out.then, List.map_cons, List.map_nil, List.length_cons, List.length_nil, Nat.reduceAdd, Nat.reduceSub, List.replicate_succ, List.replicate_zero, List.cons_append, List.nil_append, if_true, e0, e1, e2, e3, e4, e5, wishes_s6 hn]
  simp only [Out.then] at h
  rw [h]
theorem wishes_plain {k : String} {R B S : List Int} (hk : decide (k = "sides") = false) (hR : ∀ n ∈ R, N60 n) (hB : ∀ n ∈ B, N60 n) (hS : ∀ n ∈ S, N60 n) (hn : R.length = 1 + (if decide (k = "trader") = true then 1 else 0)) :
    f_read_wishes [.str k, dWs (wW R B S)] = .ok (.tup (.str k :: (R.map Dat.int ++ [dNs B, dNs S]))) [] := by
  refine wishes_end hR hB hS hn fun W a b => ?_
  have hl : R.length ≤ 2 := by rw [hn]; split <;> omega
  simp only [oSeq, g_read_wishes_s7, oIf, mP, sTruB, sBin, sVar, sC, List.getElem?_cons_succ, List.getElem?_cons_zero, fz_str, if_true, Option.bind_some, dNe, str_beq, hk, Bool.not_false, Rs.of, Rs.out, oRet, sTup, sCons, sNil, dNs, fz_tup, dAdd, List.length_cons, List.length_nil, List.length_map, Nat.reduceAdd, Nat.reduceLeDiff]
  rw [if_pos (by omega)]
  simp only [Option.bind_some, List.length_append, List.length_cons, List.length_nil, List.length_map, Nat.reduceAdd]
  rw [if_pos (by omega)]
  simp only [Rs.of, Rs.out, Out.then, Out.val, List.cons_append, List.nil_append, List.append_assoc]
theorem wishes_sides {r p : Int} {B S : List Int} (hr : N60 r) (hB : ∀ n ∈ B, N60 n) (hp : N60 p) (hS : ∀ n ∈ S, N60 n) : f_read_wishes [.str "sides", dWs (wW [r] (B ++ [p]) S)] = .ok (Ch.sides r B p S).d [] := by
  refine wishes_end (k := "sides") (fun n hn => by simp at hn; subst hn; exact hr) (fun n hn => by
    rcases List.mem_append.mp hn with z | z
    · exact hB n z
    · simp at z; subst z; exact hp) hS (by simp) fun W a b => ?_
  have h0 : (((B ++ [p]).length : Int) == 0) = false := by simp; omega
  have i0 : L2.atI ([r].map Dat.int) 0 = some (.int r) := atI_nat (k := 0) rfl rfl
  have hc : MV.cutD ((B ++ [p]).map Dat.int) none (some (-1)) = B.map Dat.int := by
    unfold MV.cutD HT.sIx
    simp only [List.length_map, List.length_append, List.length_cons, List.length_nil]
    rw [if_pos (by omega)]
    have : ((-1 : Int) + ((B.length + (0 + 1) : Nat) : Int)).toNat - 0 = B.length := by omega
    rw [this, List.drop_zero, List.map_append, List.take_append_of_le_length (by simp), List.take_of_length_le (by simp)]
  have i1 : L2.atI ((B ++ [p]).map Dat.int) (-1) = some (.int p) := by
    unfold L2.atI L2.ixN
    simp only [List.length_map, List.length_append, List.length_cons, List.length_nil]
    rw [if_neg (by omega), if_pos (by omega)]
    have : ((-1 : Int) + ((B.length + (0 + 1) : Nat) : Int)).toNat = B.length := by omega
    rw [this]; simp
  simp only [oSeq, g_read_wishes_s7, g_read_wishes_s8, oIf, mP, sTruB, sBin, sVar, sC, List.getElem?_cons_succ, List.getElem?_cons_zero, fz_str, if_true, Option.bind_some, dNe, dEq, str_beq, decide_true, Bool.not_true, Bool.false_eq_true, if_false, Rs.of, Rs.out, oNil, Out.then, oRet, sIf, sTup, sCons, sNil, sArgs, dLen, dNs, fz_tup, List.length_map, h0, dIx, i0, hc, i1, sSl, sNoP, sPart, sUn, dNeg, List.length_cons, List.length_nil, Nat.reduceAdd, Nat.reduceLeDiff, Out.val, Ch.d]
/-! ## groups -/
theorem groups_step {W P x : Option Dat} {acc : List Gr} {g : Gr} (h : okN g.1 ∧ g.1 ≠ [] ∧ N60 g.2) (hl : acc.length < 1000) :
    g_read_groups_1 [W, P, some (.mls (acc.map dG)), some (dWs ([nt g.2, Str.ofString "of"] ++ wN g.1)), x] = .nx [W, P, some (.mls ((acc ++ [g]).map dG)), some (dWs ([nt g.2, Str.ofString "of"] ++ wN g.1)), some (dNs (g.2 :: g.1))] := by
  obtain ⟨h1, h2, h3⟩ := h
  have hg := h1.2
  have c1 : MV.cutD (([nt g.2, Str.ofString "of"] ++ wN g.1).map Dat.str) (some 1) (some 2) = [.str (Str.ofString "of")] := by
    have := cut_nat (([nt g.2, Str.ofString "of"] ++ wN g.1).map Dat.str) 1 2 (by simp) (by simp)
    simpa using this
  have c2 : MV.cutD (([nt g.2, Str.ofString "of"] ++ wN g.1).map Dat.str) none (some 1) = [.str (nt g.2)] := by
    have := cut_to (([nt g.2, Str.ofString "of"] ++ wN g.1).map Dat.str) 1 (by simp)
    simpa using this
  have c3 : MV.cutD (([nt g.2, Str.ofString "of"] ++ wN g.1).map Dat.str) (some 2) none = (wN g.1).map Dat.str := by
    have := cut_from (([nt g.2, Str.ofString "of"] ++ wN g.1).map Dat.str) 2 (by simp)
    simpa using this
  have e1 : dNe (.lst [.str (Str.ofString "of")]) (.lst [.str (Str.ofString "of")]) = some (.bl false) := by
    have hg : (Dat.lst [.str (Str.ofString "of")]).good = true := by decide +kernel
    unfold dNe
    simp only []
    rw [if_pos ⟨hg, hg⟩]
    have : PyData.eqv (Dat.lst [.str (Str.ofString "of")]).py (Dat.lst [.str (Str.ofString "of")]).py = true := by decide +kernel
    rw [this]; rfl
  have hne : g.1.length ≠ 0 := fun e => h2 (List.length_eq_zero_iff.mp e)
  have e2 : decide ((((g.1.length + 1 + 1 : Nat)) : Int) < 3) = false := decide_eq_false (by omega)
  have e3 : pfn f_read_numbers [.lst (.str (nt g.2) :: (wN g.1).map Dat.str)] = some (dNs (g.2 :: g.1)) := rn (ns := g.2 :: g.1) (fun n hn => by
    rcases List.mem_cons.mp hn with z | z
    · rw [z]; exact h3
    · exact h1.1 n z)
  have e4 : MV.cutD ((g.2 :: g.1).map Dat.int) (some 1) none = g.1.map Dat.int := by
    have := cut_from ((g.2 :: g.1).map Dat.int) 1 (by simp)
    simpa using this
  have e5 : L2.atI ((g.2 :: g.1).map Dat.int) 0 = some (.int g.2) := atI_nat (k := 0) rfl rfl
  have e6 : dApp (acc.map dG) (.tup [.tup (g.1.map Dat.int), .int g.2]) = some (.mls (acc.map dG ++ [dG g])) := by
    unfold dApp
    rw [if_pos (by simp; omega)]
    simp [dG, dNs]
  simp only [dNs] at e3
  simp only [g_read_groups_1, oSeq, oIf, mP, sOr, sTruB, sBin, sF, sSlL, sPart, sNoP, sC, sVar, sLstF, sCons, sNil, List.getElem?_cons_succ, List.getElem?_cons_zero, dWs, fz_lst, if_true, Option.bind_some, Option.map_some, c1, List.length_cons, List.length_nil, Nat.reduceAdd, Nat.reduceLeDiff, e1, sArgs, dLen, dLt, dI0, List.length_map, List.length_append, wN_len, List.map_append, List.map_cons, List.map_nil, List.cons_append, List.nil_append]
  simp only [List.map_append, List.map_cons, List.map_nil, List.cons_append, List.nil_append] at c1 c2 c3
  simp only [e1, e2, c1, c2, c3, Option.bind_some, Option.map_some, Bool.false_eq_true, if_false, Rs.of, Rs.out, oNil, Out.then, oSeq, oSet, sNoP, sPart, sC, sFn, sF, sCat, mP, sSlL, sVar, sCons, sNil, List.getElem?_cons_succ, List.getElem?_cons_zero, fz_lst, if_true, List.length_cons, List.length_nil, Nat.reduceAdd, List.length_map, wN_len]
  rw [if_pos (by omega)]
  simp only [dNs, oNil, oIf, mP, oRet, sTruB, Option.map_some, Option.bind_some, List.cons_append, List.nil_append, List.length_cons, List.length_nil, Nat.reduceAdd, if_true, e3, Rs.of, Rs.out, List.set_cons_succ, List.set_cons_zero, List.getElem?_cons_succ, List.getElem?_cons_zero, fz_tup, dIs, Dat.isN, Bool.false_eq_true, if_false, oApp, plVar, plGet, Dat.at, sTup, sCons, sSl, sPart, e4, sBin, dIx, e5, sNil, Nat.reduceLeDiff, e6, plPut, Dat.put, sVar, sC, sNoP]
end K98

namespace K98
open PySem PySem.Spec PyProof.Rows L2 MV
def wg (g : Gr) : List Str := [nt g.2, Str.ofString "of"] ++ wN g.1
theorem groups_loop {W P : Option Dat} : ∀ (gs acc : List Gr) (y x : Option Dat), (∀ g ∈ gs, okN g.1 ∧ g.1 ≠ [] ∧ N60 g.2) → acc.length + gs.length < 1000 → ∃ y' x', oForL [3] gNm g_read_groups_1 ((gs.map wg).map dWs) [W, P, some (.mls (acc.map dG)), y, x] = .nx [W, P, some (.mls ((acc ++ gs).map dG)), y', x']
  | [], acc, y, x, _, _ => ⟨y, x, by simp [oForL]⟩
  | g :: gs, acc, y, x, h, hl => by
    simp only [List.length_cons] at hl
    obtain ⟨y', x', ih⟩ := groups_loop (W := W) (P := P) gs (acc ++ [g]) (some (dWs (wg g))) (some (dNs (g.2 :: g.1))) (fun z hz => h z (List.mem_cons_of_mem _ hz)) (by simp; omega)
    refine ⟨y', x', ?_⟩
    have st := groups_step (W := W) (P := P) (x := x) (acc := acc) (g := g) (h g (by simp)) (by omega)
    simp only [List.map_cons, oForL, gNm, setR, List.set_cons_succ, List.set_cons_zero]
    rw [show dWs (wg g) = dWs ([nt g.2, Str.ofString "of"] ++ wN g.1) from rfl, st]
    simp only []
    rw [show dWs ([nt g.2, Str.ofString "of"] ++ wN g.1) = dWs (wg g) from rfl, ih]
    simp
theorem nols_dG (gs : List Gr) : Dat.nols (gs.map dG) = true := by
  have h1 : ∀ ns : List Int, Dat.nols (ns.map Dat.int) = true := by
    intro ns
    induction ns with
    | nil => rfl
    | cons n ns ih => simp only [List.map_cons, Dat.nols, Dat.nol, ih, Bool.and_self]
  induction gs with
  | nil => rfl
  | cons g gs ih => simp only [List.map_cons, Dat.nols, dG, dNs, Dat.nol, h1, ih, Bool.and_self]
theorem wg_cap {g : Gr} : Str.ofString "cap" ∉ wg g := fun hm => by
  unfold wg at hm
  rcases List.mem_append.mp hm with z | z
  · rcases List.mem_cons.mp z with z | z
    · exact nt_ne kw_cap z.symm
    · have z := List.mem_singleton.mp z
      exact absurd (ofString_inj z) (by decide)
  · exact kw_wN kw_cap _ z
theorem groups_ok {gs : List Gr} (h : okG gs) : f_read_groups [dWs (wG gs)] = .ok (dGs gs) [] := by
  have hp := parts_ok (m := Str.ofString "cap") (ps := gs.map wg) (fun p hp => by obtain ⟨r, _, rfl⟩ := List.mem_map.mp hp; exact wg_cap) (by
    have := wG_len h; unfold wG at this; simp only [List.flatMap_map]
    have e : (fun a : Gr => Str.ofString "cap" :: wg a) = fun g => [("cap" : Str), nt g.2, "of"] ++ wN g.1 := rfl
    rw [e]; omega)
  have w : f_parts_behind [dWs (wG gs), .str "cap"] = .ok (.lst ((gs.map wg).map dWs)) [] := by
    rw [← hp]; unfold wG; rw [List.flatMap_map]; rfl
  obtain ⟨y', x', e⟩ := groups_loop (W := some (dWs (wG gs))) (P := some (.lst ((gs.map wg).map dWs))) gs [] none none h.1 (by have := h.2; simp; omega)
  have s0 : g_read_groups_s0 [some (dWs (wG gs)), none, none, none, none] = .nx [some (dWs (wG gs)), some (.lst ((gs.map wg).map dWs)), none, none, none] := by
    simp only [g_read_groups_s0, oSet, mP, sFn, sCons, sNil, sVar, sC, List.getElem?_cons_zero, dWs_fz, if_true, Option.bind_some, List.length_cons, List.length_nil, Nat.reduceAdd, pfn, w, fz_lst, Rs.of, Rs.out, List.set_cons_succ, List.set_cons_zero]
  have s1 : g_read_groups_s1 [some (dWs (wG gs)), some (.lst ((gs.map wg).map dWs)), none, none, none] = .nx [some (dWs (wG gs)), some (.lst ((gs.map wg).map dWs)), none, none, none] := by
    simp only [g_read_groups_s1, oIf, mP, sTruB, sBin, sVar, sC, dIs, Dat.isN, List.getElem?_cons_succ, List.getElem?_cons_zero, fz_lst, if_true, Option.bind_some, Rs.of, Rs.out, Bool.false_eq_true, if_false, oNil]
  have s2 : g_read_groups_s2 [some (dWs (wG gs)), some (.lst ((gs.map wg).map dWs)), none, none, none] = .nx [some (dWs (wG gs)), some (.lst ((gs.map wg).map dWs)), some (.mls ([].map dG)), none, none] := by
    simp only [g_read_groups_s2, oSet, mOw, mP, sLstF, sNil, Option.bind_some, List.length_nil, Nat.zero_le, if_true, Rs.of, Rs.bind, Rs.out, List.set_cons_succ, List.set_cons_zero, List.map_nil]
  have s3 : g_read_groups_s3 [some (dWs (wG gs)), some (.lst ((gs.map wg).map dWs)), some (.mls ([].map dG)), none, none] = .nx [some (dWs (wG gs)), some (.lst ((gs.map wg).map dWs)), some (.mls (gs.map dG)), y', x'] := by
    rw [List.nil_append] at e
    rw [← e]
    simp only [g_read_groups_s3, oFor, mSeqOf, mP, sVar, List.getElem?_cons_succ, List.getElem?_cons_zero, fz_lst, if_true, Rs.of, Rs.bind, seqOf, Rs.out]
  have s4 : (g_read_groups_s4 [some (dWs (wG gs)), some (.lst ((gs.map wg).map dWs)), some (.mls (gs.map dG)), y', x']).val = some (dGs gs) := by
    have hz : (Dat.mls (gs.map dG)).frz = .lst (gs.map dG) := frz_mls (by rw [List.all_eq_true]; intro d hd; obtain ⟨g, _, rfl⟩ := List.mem_map.mp hd; rfl)
    simp only [g_read_groups_s4, oRet, mZ, frzR, List.map_cons, List.map_nil, Option.map_some, hz, sArgs, sCons, sNil, sVar, List.getElem?_cons_succ, List.getElem?_cons_zero, fz_lst, if_true, Option.bind_some, dTuple, Dat.nol, nols_dG, Rs.out, Out.val, dGs]
  obtain ⟨ρ, s4⟩ := Out.of_val s4
  simp only [f_read_groups, g_read_groups, fnO, fnOf, oSeq, Out.then, List.map_cons, List.map_nil, List.length_cons, List.length_nil, Nat.reduceAdd, Nat.reduceSub, List.replicate_succ, List.replicate_zero, List.cons_append, List.nil_append, if_true, s0, s1]
  simp only [List.map_nil] at s2 s3
  simp only [s2, s3, s4]
/-! ## one side of caps -/
theorem in_ws (ws : List Str) (k : Str) : dIn false (.str k) (dWs ws) = some (.bl (decide (k ∈ ws))) := by
  unfold dIn dWs
  simp only []
  rw [if_pos ⟨rfl, flat_strs ws⟩]
  simp only [Bool.false_eq_true, if_false]
  congr 2
  rw [List.any_map]
  induction ws with
  | nil => rfl
  | cons w ws ih =>
    rw [List.any_cons, ih]
    by_cases e : w = k
    · subst e; simp [Dat.eqf]
    · have e2 : ¬ k = w := fun z => e z.symm
      simp [Dat.eqf, e, e2]
theorem wG_cons (g : Gr) (gs : List Gr) : wG (g :: gs) = Str.ofString "cap" :: (wg g ++ wG gs) := by simp [wG, wg]
theorem side_ok {ns : List Int} {gs : List Gr} (h : okN ns) (hg : okG gs) : f_read_side [dWs (wN ns ++ wG gs)] = .ok (.tup [dNs ns, dGs gs]) [] := by
  have hl := h.2
  have s0 : g_read_side_s0 [some (dWs (wN ns ++ wG gs)), none, none, none] = .nx [some (dWs (wN ns ++ wG gs)), some (.int (ns.length : Nat)), none, none] := by
    cases gs with
    | nil =>
      have hn : decide (Str.ofString "cap" ∈ wN ns ++ wG []) = false := decide_eq_false (by simp [wG]; exact kw_wN kw_cap ns)
      simp only [g_read_side_s0, oSet, mP, sIf, sTruB, sBin, sVar, sC, sArgs, sCons, sNil, List.getElem?_cons_zero, dWs_fz, if_true, Option.bind_some, in_ws, hn, Bool.false_eq_true, if_false]
      simp only [dWs, dLen, Rs.of, Rs.out, List.set_cons_succ, List.set_cons_zero, List.length_map, List.length_append, wN_len, wG, List.flatMap_nil, List.length_nil, Nat.add_zero]
    | cons g gs =>
      have hn : decide (Str.ofString "cap" ∈ wN ns ++ wG (g :: gs)) = true := decide_eq_true (by rw [wG_cons]; simp)
      have hi := index_ws (wN ns) (wg g ++ wG gs) (Str.ofString "cap") (kw_wN kw_cap ns)
      rw [← wG_cons, wN_len] at hi
      simp only [g_read_side_s0, oSet, mP, sIf, sTruB, sBin, sVar, sC, sArgs, sCons, sNil, List.getElem?_cons_zero, dWs_fz, if_true, Option.bind_some, in_ws, hn, hi, Rs.of, Rs.out, List.set_cons_succ, List.set_cons_zero]
  have c1 : MV.cutD ((wN ns ++ wG gs).map Dat.str) none (some ((ns.length : Nat) : Int)) = (wN ns).map Dat.str := by
    rw [cut_to _ _ (by simp [wN_len]), List.map_append, List.take_append_of_le_length (by simp [wN_len]), List.take_of_length_le (by simp [wN_len])]
  have c2 : MV.cutD ((wN ns ++ wG gs).map Dat.str) (some ((ns.length : Nat) : Int)) none = (wG gs).map Dat.str := by
    rw [cut_from _ _ (by simp [wN_len]), List.map_append, List.drop_append_of_le_length (by simp [wN_len]), List.drop_of_length_le (by simp [wN_len]), List.nil_append]
  have s1 : g_read_side_s1 [some (dWs (wN ns ++ wG gs)), some (.int (ns.length : Nat)), none, none] = .nx [some (dWs (wN ns ++ wG gs)), some (.int (ns.length : Nat)), some (dNs ns), none] := by
    simp only [g_read_side_s1, oSet, mP, sFn, sCons, sNil, sF, sSlL, sNoP, sPart, sVar, List.getElem?_cons_succ, List.getElem?_cons_zero, dWs, fz_lst, fz_int, if_true, Option.bind_some, Option.map_some, c1, List.length_cons, List.length_nil, Nat.reduceAdd, rn h.1, Rs.of, Rs.out, List.set_cons_succ, List.set_cons_zero]
  have s2 : g_read_side_s2 [some (dWs (wN ns ++ wG gs)), some (.int (ns.length : Nat)), some (dNs ns), none] = .nx [some (dWs (wN ns ++ wG gs)), some (.int (ns.length : Nat)), some (dNs ns), some (dGs gs)] := by
    have w := ofFn1 (groups_ok hg) rfl
    simp only [dWs] at w
    simp only [g_read_side_s2, oSet, mP, sFn, sCons, sNil, sF, sSlL, sNoP, sPart, sVar, List.getElem?_cons_succ, List.getElem?_cons_zero, dWs, fz_lst, fz_int, if_true, Option.bind_some, Option.map_some, c2, List.length_cons, List.length_nil, Nat.reduceAdd, w, Rs.of, Rs.out, List.set_cons_succ, List.set_cons_zero]
  have s3 : (g_read_side_s3 [some (dWs (wN ns ++ wG gs)), some (.int (ns.length : Nat)), some (dNs ns), some (dGs gs)]).val = some (.tup [dNs ns, dGs gs]) := by
    simp only [g_read_side_s3, oRet, mP, sIf, sOr, sTruB, sBin, sVar, sC, dNs, dGs, dIs, Dat.isN, sTup, sCons, sNil, List.getElem?_cons_succ, List.getElem?_cons_zero, fz_tup, if_true, Option.bind_some, Bool.false_eq_true, if_false, List.length_cons, List.length_nil, Nat.reduceAdd, Nat.reduceLeDiff, Rs.of, Rs.out, Out.val]
  obtain ⟨ρ, s3⟩ := Out.of_val s3
  simp only [f_read_side, g_read_side, fnO, fnOf, oSeq, Out.then, List.map_cons, List.map_nil, List.length_cons, List.length_nil, Nat.reduceAdd, Nat.reduceSub, List.replicate_succ, List.replicate_zero, List.cons_append, List.nil_append, if_true, s0, s1, s2, s3]
end K98

namespace K98
open PySem PySem.Spec PyProof.Rows L2 MV
theorem kw_wG {k : String} (h : kw k) (h1 : decide (k = "cap") = false) (h2 : decide (k = "of") = false) (gs : List Gr) : Str.ofString k ∉ wG gs := fun hm => by
  unfold wG at hm
  obtain ⟨g, _, hm⟩ := List.mem_flatMap.mp hm
  rcases List.mem_append.mp hm with z | z
  · simp only [List.mem_cons, List.not_mem_nil, or_false] at z
    rcases z with z | z | z
    · exact of_decide_eq_false h1 (ofString_inj z)
    · exact nt_ne h z.symm
    · exact of_decide_eq_false h2 (ofString_inj z)
  · exact kw_wN h _ z
def wC (b : List Int) (g : List Gr) (s : List Int) (k : List Gr) : List Str := Str.ofString "buys" :: ((wN b ++ wG g) ++ Str.ofString "sells" :: (wN s ++ wG k))
theorem ne_lst1 (a b : String) (h1 : (Dat.lst [.str (Str.ofString a)]).good = true) (h2 : (Dat.lst [.str (Str.ofString b)]).good = true) : dNe (.lst [.str (Str.ofString a)]) (.lst [.str (Str.ofString b)]) = some (.bl (!decide (a = b))) := by
  unfold dNe
  simp only []
  rw [if_pos ⟨h1, h2⟩]
  congr 3
  simp [Dat.py, Dat.pys, PyData.eqv, PyData.eqvAll]
  exact str_beq _ _
theorem caps_ok {b s : List Int} {g k : List Gr} (hb : okN b) (hg : okG g) (hs : okN s) (hk : okG k) : f_read_caps [dWs (wC b g s k)] = .ok (Ch.caps b g s k).d [] := by
  have c1 : MV.cutD ((wC b g s k).map Dat.str) none (some 1) = [.str (Str.ofString "buys")] := by
    have := cut_to ((wC b g s k).map Dat.str) 1 (by simp [wC])
    simpa [wC] using this
  have n1 := ne_lst1 "buys" "buys" (by decide +kernel) (by decide +kernel)
  have cn : (wC b g s k).count (Str.ofString "sells") = 1 := by
    have h1 := fun ns => List.count_eq_zero.mpr (kw_wN kw_sells ns)
    have h3 := fun gs => List.count_eq_zero.mpr (kw_wG kw_sells (by decide) (by decide) gs)
    have h2 : (Str.ofString "buys" == Str.ofString "sells") = false := by rw [str_beq]; decide
    unfold wC
    simp only [List.count_append, List.count_cons, h1, h2, h3, BEq.rfl]
    simp
  have ix : dIndex (dWs (wC b g s k)) (.str "sells") = some (.int ((1 + (wN b ++ wG g).length : Nat) : Int)) := by
    have h : Str.ofString "sells" ∉ Str.ofString "buys" :: (wN b ++ wG g) := fun hm => by
      rcases List.mem_cons.mp hm with z | z
      · exact absurd (ofString_inj z) (by decide)
      · rcases List.mem_append.mp z with z | z
        · exact kw_wN kw_sells b z
        · exact kw_wG kw_sells (by decide) (by decide) g z
    have := index_ws (Str.ofString "buys" :: (wN b ++ wG g)) (wN s ++ wG k) _ h
    rw [show Str.ofString "buys" :: (wN b ++ wG g) ++ Str.ofString "sells" :: (wN s ++ wG k) = wC b g s k from rfl] at this
    rw [this]
    congr 3
    simp; omega
  have e1 : (((1 + (wN b ++ wG g).length : Nat) : Int) + 1) = ((1 + (wN b ++ wG g).length + 1 : Nat) : Int) := by omega
  have c2 : MV.cutD ((wC b g s k).map Dat.str) (some 1) (some ((1 + (wN b ++ wG g).length : Nat) : Int)) = (wN b ++ wG g).map Dat.str := by
    have := cut_nat ((wC b g s k).map Dat.str) 1 (1 + (wN b ++ wG g).length) (by simp [wC]) (by simp [wC]; omega)
    refine this.trans ?_
    have e : 1 + (wN b ++ wG g).length - 1 = (wN b ++ wG g).length := by omega
    rw [e]
    unfold wC
    rw [List.map_cons, List.drop_succ_cons, List.drop_zero, List.map_append, List.take_append_of_le_length (by simp), List.take_of_length_le (by simp)]
  have c3 : MV.cutD ((wC b g s k).map Dat.str) (some ((1 + (wN b ++ wG g).length + 1 : Nat) : Int)) none = (wN s ++ wG k).map Dat.str := by
    rw [cut_from _ _ (by simp [wC]; omega)]
    have e : (wC b g s k).map Dat.str = (.str (Str.ofString "buys") :: ((wN b ++ wG g).map Dat.str ++ [.str (Str.ofString "sells")])) ++ (wN s ++ wG k).map Dat.str := by unfold wC; simp
    rw [e, List.drop_append_of_le_length (by simp; omega), List.drop_of_length_le (by simp; omega), List.nil_append]
  have w1 := ofFn1 (side_ok hb hg) rfl
  have w2 := ofFn1 (side_ok hs hk) rfl
  simp only [dWs] at w1 w2
  have s0 : g_read_caps_s0 [some (dWs (wC b g s k)), none, none, none] = .nx [some (dWs (wC b g s k)), none, none, none] := by
    have cw := count_ws (wC b g s k) (Str.ofString "sells")
    rw [cn] at cw
    simp only [dWs] at cw
    simp only [g_read_caps_s0, oIf, mP, sOr, sTruB, sBin, sF, sSlL, sNoP, sPart, sC, sVar, sLstF, sCons, sNil, List.getElem?_cons_zero, dWs, fz_lst, if_true, Option.bind_some, Option.map_some, c1, List.length_cons, List.length_nil, Nat.reduceAdd, Nat.reduceLeDiff, n1, decide_true, Bool.not_true, Bool.false_eq_true, if_false, cw]
    simp only [dNe, Int.cast_ofNat_Int, BEq.rfl, Bool.not_true, Bool.false_eq_true, if_false, Rs.of, Rs.out, oNil, Option.bind_some]
  have s1 : g_read_caps_s1 [some (dWs (wC b g s k)), none, none, none] = .nx [some (dWs (wC b g s k)), some (.int ((1 + (wN b ++ wG g).length : Nat) : Int)), none, none] := by
    simp only [g_read_caps_s1, oSet, mP, sBin, sVar, sC, List.getElem?_cons_zero, dWs_fz, if_true, Option.bind_some, ix, Rs.of, Rs.out, List.set_cons_succ, List.set_cons_zero]
  have s2 : g_read_caps_s2 [some (dWs (wC b g s k)), some (.int ((1 + (wN b ++ wG g).length : Nat) : Int)), none, none] = .nx [some (dWs (wC b g s k)), some (.int ((1 + (wN b ++ wG g).length : Nat) : Int)), some (.tup [dNs b, dGs g]), none] := by
    simp only [g_read_caps_s2, oSet, mP, sFn, sCons, sNil, sF, sSlL, sNoP, sPart, sC, sVar, List.getElem?_cons_succ, List.getElem?_cons_zero, dWs, fz_lst, fz_int, if_true, Option.bind_some, Option.map_some, c2, List.length_cons, List.length_nil, Nat.reduceAdd, w1, Rs.of, Rs.out, List.set_cons_succ, List.set_cons_zero]
  have s3 : g_read_caps_s3 [some (dWs (wC b g s k)), some (.int ((1 + (wN b ++ wG g).length : Nat) : Int)), some (.tup [dNs b, dGs g]), none] = .nx [some (dWs (wC b g s k)), some (.int ((1 + (wN b ++ wG g).length : Nat) : Int)), some (.tup [dNs b, dGs g]), some (.tup [dNs s, dGs k])] := by
    simp only [g_read_caps_s3, oSet, mP, sFn, sCons, sNil, sF, sSlL, sNoP, sPart, sBin, sC, dAdd, sVar, List.getElem?_cons_succ, List.getElem?_cons_zero, dWs, fz_lst, fz_int, if_true, Option.bind_some, Option.map_some, e1, c3, List.length_cons, List.length_nil, Nat.reduceAdd, w2, Rs.of, Rs.out, List.set_cons_succ, List.set_cons_zero]
  have s4 : (g_read_caps_s4 [some (dWs (wC b g s k)), some (.int ((1 + (wN b ++ wG g).length : Nat) : Int)), some (.tup [dNs b, dGs g]), some (.tup [dNs s, dGs k])]).val = some (Ch.caps b g s k).d := by
    simp only [g_read_caps_s4, oRet, mP, sIf, sOr, sTruB, sBin, sVar, sC, dIs, Dat.isN, sTup, sCons, sNil, dAdd, List.getElem?_cons_succ, List.getElem?_cons_zero, fz_tup, if_true, Option.bind_some, Bool.false_eq_true, if_false, List.length_cons, List.length_nil, Nat.reduceAdd, Nat.reduceLeDiff, List.cons_append, List.nil_append, Rs.of, Rs.out, Out.val, Ch.d]
  obtain ⟨ρ, s4⟩ := Out.of_val s4
  simp only [f_read_caps, g_read_caps, fnO, fnOf, oSeq, Out.then, List.map_cons, List.map_nil, List.length_cons, List.length_nil, Nat.reduceAdd, Nat.reduceSub, List.replicate_succ, List.replicate_zero, List.cons_append, List.nil_append, if_true, s0, s1, s2, s3, s4]
/-! ## a part -/
theorem part_s0 {k : String} {ws : List Str} {x : Option Dat} : g_read_part_s0 [some (dWs (Str.ofString k :: ws)), x] = .nx [some (dWs (Str.ofString k :: ws)), some (.str k)] := by
  have i0 : L2.atI (Dat.str (Str.ofString k) :: ws.map Dat.str) 0 = some (.str (Str.ofString k)) := atI_nat (k := 0) rfl rfl
  have hl : decide ((0 : Int) < ((ws.length + 1 : Nat) : Int)) = true := decide_eq_true (by omega)
  simp only [g_read_part_s0, oSet, mP, sIf, sTruB, sBin, sArgs, sCons, sNil, sVar, sC, dLen, dGt, dI0, dIx, dWs, List.map_cons, List.getElem?_cons_zero, fz_lst, if_true, Option.bind_some, List.length_cons, List.length_map, hl, i0, Rs.of, Rs.out, List.set_cons_succ, List.set_cons_zero]
theorem cut_tail (w : Str) (ws : List Str) : MV.cutD ((w :: ws).map Dat.str) (some 1) none = ws.map Dat.str := by
  have := cut_from ((w :: ws).map Dat.str) 1 (by simp)
  simpa using this
theorem part_end {k : String} {ws : List Str} {d : Dat} (h : (oSeq g_read_part_s1 (oSeq g_read_part_s2 (oSeq g_read_part_s3 g_read_part_s4)) [some (dWs (Str.ofString k :: ws)), some (.str k)]).val = some d) : f_read_part [dWs (Str.ofString k :: ws)] = .ok d [] := by
  obtain ⟨ρ, h⟩ := Out.of_val h
  have e : g_read_part [some (dWs (Str.ofString k :: ws)), none] = .rt d ρ := by
    unfold g_read_part oSeq
    rw [part_s0]
    exact h
  simp only [f_read_part, fnO, fnOf, List.map_cons, List.map_nil, List.length_cons, List.length_nil, Nat.reduceAdd, Nat.reduceSub, List.replicate_succ, List.replicate_zero, List.cons_append, List.nil_append, if_true, e]
theorem part_wish {k : String} {ws : List Str} {d : Dat} (hk : decide (k = "table") = false) (hc : decide (k = "caps") = false) (hm : dIn false (.str k) (.tup [.str "maker", .str "sides", .str "trader"]) = some (.bl true)) (w : f_read_wishes [.str k, dWs ws] = .ok d []) (hz : d.fz = true) : f_read_part [dWs (Str.ofString k :: ws)] = .ok d [] := by
  refine part_end ?_
  have c := cut_tail (Str.ofString k) ws
  simp only [List.map_cons] at c
  simp only [dWs] at w
  simp only [oSeq, g_read_part_s1, g_read_part_s2, g_read_part_s3, oIf, mP, sTruB, sBin, sVar, sC, List.getElem?_cons_succ, List.getElem?_cons_zero, fz_str, if_true, Option.bind_some, dEq, str_beq, hk, hc, Bool.false_eq_true, if_false, Rs.of, Rs.out, oNil, Out.then, sTup, sCons, sNil, List.length_cons, List.length_nil, Nat.reduceAdd, Nat.reduceLeDiff, hm, oRet, sFn, sF, sSlL, sPart, sNoP, dWs, fz_lst, Option.map_some, c, pfn, w, hz, Out.val, List.map_cons]
theorem part_ok {c : Ch} (h : c.ok) : f_read_part [dWs c.w] = .ok c.d [] := by
  cases c with
  | maker r b s =>
    obtain ⟨hr, hb, hs⟩ := h
    have w := wishes_plain (k := "maker") (R := [r]) (B := b) (S := s) (by decide) (fun n hn => by simp at hn; subst hn; exact hr) hb.1 hs.1 (by simp)
    have e : (Ch.maker r b s).w = Str.ofString "maker" :: wW [r] b s := by simp [Ch.w, wW, wN]
    rw [e]
    exact part_wish (by decide) (by decide) (by simp [dIn, Dat.flat, Dat.eqf]) w rfl
  | sides r b p s =>
    obtain ⟨hr, hb, hp, hs⟩ := h
    have w := wishes_sides hr hb.1 hp hs.1
    have e : (Ch.sides r b p s).w = Str.ofString "sides" :: wW [r] (b ++ [p]) s := by simp [Ch.w, wW, wN]
    rw [e]
    exact part_wish (by decide) (by decide) (by simp [dIn, Dat.flat, Dat.eqf]) w rfl
  | trader r t b s =>
    obtain ⟨hr, ht, hb, hs⟩ := h
    have w := wishes_plain (k := "trader") (R := [r, t]) (B := b) (S := s) (by decide) (fun n hn => by simp at hn; rcases hn with z | z <;> (subst z; assumption)) hb.1 hs.1 (by simp)
    have e : (Ch.trader r t b s).w = Str.ofString "trader" :: wW [r, t] b s := by simp [Ch.w, wW, wN]
    rw [e]
    exact part_wish (by decide) (by decide) (by simp [dIn, Dat.flat, Dat.eqf]) w rfl
  | caps b g s k =>
    obtain ⟨hb, hg, hs, hk⟩ := h
    have w := ofFn1 (caps_ok hb hg hs hk) rfl
    have e : (Ch.caps b g s k).w = Str.ofString "caps" :: wC b g s k := by simp [Ch.w, wC]
    rw [e]
    refine part_end ?_
    have c := cut_tail (Str.ofString "caps") (wC b g s k)
    simp only [List.map_cons] at c
    simp only [dWs] at w
    simp only [oSeq, g_read_part_s1, g_read_part_s2, oIf, mP, sTruB, sBin, sVar, sC, List.getElem?_cons_succ, List.getElem?_cons_zero, fz_str, if_true, Option.bind_some, dEq, str_beq, decide_true, String.reduceEq, decide_false, Bool.false_eq_true, if_false, Rs.of, Rs.out, oNil, Out.then, sCons, sNil, List.length_cons, List.length_nil, Nat.reduceAdd, oRet, sFn, sF, sSlL, sPart, sNoP, dWs, fz_lst, Option.map_some, c, w, Out.val, List.map_cons]
  | table rows =>
    have w := ofFn1 (table_ok h) rfl
    have e : (Ch.table rows).w = Str.ofString "table" :: wR rows := by simp [Ch.w]
    rw [e]
    refine part_end ?_
    have c := cut_tail (Str.ofString "table") (wR rows)
    simp only [List.map_cons] at c
    simp only [dWs] at w
    simp only [oSeq, g_read_part_s1, oIf, mP, sTruB, sBin, sVar, sC, List.getElem?_cons_succ, List.getElem?_cons_zero, fz_str, if_true, Option.bind_some, dEq, str_beq, decide_true, Rs.of, Rs.out, oNil, Out.then, sCons, sNil, List.length_cons, List.length_nil, Nat.reduceAdd, oRet, sFn, sF, sSlL, sPart, sNoP, dWs, fz_lst, Option.map_some, c, w, Out.val, List.map_cons]
end K98

namespace K98
open PySem PySem.Spec PyProof.Rows L2 MV
theorem cut_head (w : Str) (ws : List Str) : MV.cutD ((w :: ws).map Dat.str) none (some 1) = [.str w] := by
  have := cut_to ((w :: ws).map Dat.str) 1 (by simp)
  simpa using this
theorem choice_one {k : String} {ws : List Str} {d : Dat} (hk : decide (k = "split") = false) (hg : (Dat.lst [.str (Str.ofString k)]).good = true) (w : f_read_part [dWs (Str.ofString k :: ws)] = .ok d []) (hz : d.fz = true) : f_read_choice [dWs (Str.ofString k :: ws)] = .ok d [] := by
  have n1 := ne_lst1 k "split" hg (by decide +kernel)
  have c := cut_head (Str.ofString k) ws
  simp only [List.map_cons] at c
  simp only [dWs, List.map_cons] at w
  have s0 : (g_read_choice_s0 [some (dWs (Str.ofString k :: ws)), none, none, none]).val = some d := by
    simp only [g_read_choice_s0, oIf, mP, sTruB, sBin, sF, sSlL, sNoP, sPart, sC, sVar, sLstF, sCons, sNil, List.getElem?_cons_zero, dWs, List.map_cons, fz_lst, if_true, Option.bind_some, Option.map_some, c, List.length_cons, List.length_nil, Nat.reduceAdd, Nat.reduceLeDiff, n1, hk, Bool.not_false, Rs.of, Rs.out, oRet, sFn, pfn, w, hz, Out.val]
  obtain ⟨ρ, s0⟩ := Out.of_val s0
  simp only [f_read_choice, g_read_choice, fnO, fnOf, oSeq, Out.then, List.map_cons, List.map_nil, List.length_cons, List.length_nil, Nat.reduceAdd, Nat.reduceSub, List.replicate_succ, List.replicate_zero, List.cons_append, List.nil_append, if_true, s0]
theorem rchoice_ok {c : Ch} (h : c.ok) : f_read_choice [dWs c.w] = .ok c.d [] := by
  have w := part_ok h
  cases c with
  | maker r b s => exact choice_one (k := "maker") (by decide) (by decide +kernel) w rfl
  | sides r b p s => exact choice_one (k := "sides") (by decide) (by decide +kernel) w rfl
  | trader r t b s => exact choice_one (k := "trader") (by decide) (by decide +kernel) w rfl
  | caps b g s k => exact choice_one (k := "caps") (by decide) (by decide +kernel) w rfl
  | table rows => exact choice_one (k := "table") (by decide) (by decide +kernel) w rfl
theorem str_ne {a b : String} (h : decide (a = b) = false) : ¬ Str.ofString a = Str.ofString b := fun e => of_decide_eq_false h (ofString_inj e)
theorem part_nin (c : Ch) : Str.ofString "part" ∉ c.w := by
  intro hm
  have hN := kw_wN kw_part
  have hG := kw_wG kw_part (by decide) (by decide)
  have nn : ∀ n, ¬ Str.ofString "part" = nt n := fun n e => nt_ne kw_part e.symm
  cases c with
  | maker r b s =>
    simp only [Ch.w, List.mem_append, List.mem_cons, List.not_mem_nil, or_false] at hm
    rcases hm with (((z | z | z) | z) | z) | z
    · exact str_ne (by decide) z
    · exact nn _ z
    · exact str_ne (by decide) z
    · exact hN _ z
    · exact str_ne (by decide) z
    · exact hN _ z
  | sides r b p s =>
    simp only [Ch.w, List.mem_append, List.mem_cons, List.not_mem_nil, or_false] at hm
    rcases hm with (((z | z | z) | z) | z | z) | z
    · exact str_ne (by decide) z
    · exact nn _ z
    · exact str_ne (by decide) z
    · exact hN _ z
    · exact nn _ z
    · exact str_ne (by decide) z
    · exact hN _ z
  | trader r t b s =>
    simp only [Ch.w, List.mem_append, List.mem_cons, List.not_mem_nil, or_false] at hm
    rcases hm with ((((z | z | z) | z) | z) | z) | z
    · exact str_ne (by decide) z
    · exact nn _ z
    · exact nn _ z
    · exact str_ne (by decide) z
    · exact hN _ z
    · exact str_ne (by decide) z
    · exact hN _ z
  | caps b g s k =>
    simp only [Ch.w, List.mem_append, List.mem_cons, List.not_mem_nil, or_false] at hm
    rcases hm with (((((z | z) | z) | z) | z) | z) | z
    · exact str_ne (by decide) z
    · exact str_ne (by decide) z
    · exact hN _ z
    · exact hG _ z
    · exact str_ne (by decide) z
    · exact hN _ z
    · exact hG _ z
  | table rows =>
    simp only [Ch.w, wR, List.mem_append, List.mem_cons, List.not_mem_nil, or_false, List.mem_flatMap] at hm
    rcases hm with z | ⟨r, _, z | z⟩
    · exact str_ne (by decide) z
    · exact str_ne (by decide) z
    · exact hN _ z
theorem lay_tup {l : List Dat} {n : Nat} (h : ∀ d ∈ l, PyData.canLay0 d.py = true ∧ d.py.depth ≤ n) : PyData.canLay0 (Dat.tup l).py = true ∧ (Dat.tup l).py.depth ≤ n + 1 := by
  unfold Dat.py
  simp only [PyData.canLay0, PyData.depth]
  have h1 : PyData.canLayAll0 (Dat.pys l) = true ∧ PyData.depthAll (Dat.pys l) ≤ n := by
    induction l with
    | nil => simp [Dat.pys, PyData.canLayAll0, PyData.depthAll]
    | cons d l ih =>
      have h2 := h d (by simp)
      have h3 := ih fun z hz => h z (List.mem_cons_of_mem _ hz)
      simp only [Dat.pys, PyData.canLayAll0, PyData.depthAll, h2.1, h3.1, Bool.and_self, true_and]
      omega
  exact ⟨h1.1, by omega⟩
theorem lay_int (i : Int) : PyData.canLay0 (Dat.int i).py = true ∧ (Dat.int i).py.depth ≤ 0 := by unfold Dat.py; simp [PyData.canLay0, PyData.depth]
theorem lay_up {d : Dat} {m n : Nat} (h : PyData.canLay0 d.py = true ∧ d.py.depth ≤ m) (hm : m ≤ n) : PyData.canLay0 d.py = true ∧ d.py.depth ≤ n := ⟨h.1, by omega⟩
theorem lay_dGs (gs : List Gr) : PyData.canLay0 (dGs gs).py = true ∧ (dGs gs).py.depth ≤ 3 := lay_tup (n := 2) fun d hd => by
  obtain ⟨g, _, rfl⟩ := List.mem_map.mp hd
  refine lay_tup (n := 1) fun d hd => ?_
  simp only [List.mem_cons, List.not_mem_nil, or_false] at hd
  rcases hd with rfl | rfl
  · exact lay_dNs _
  · exact lay_up (lay_int _) (by omega)
theorem lay_kw {k : String} (h : PyData.strOk (Str.ofString k) = true) : PyData.canLay0 (Dat.str (Str.ofString k)).py = true ∧ (Dat.str (Str.ofString k)).py.depth ≤ 0 := by
  unfold Dat.py; exact ⟨h, Nat.le_refl _⟩
theorem lay_Ch (c : Ch) : PyData.canLay0 c.d.py = true ∧ c.d.py.depth ≤ 4 := by
  cases c with
  | maker r b s =>
    refine lay_tup (n := 3) fun d hd => ?_
    simp only [List.mem_cons, List.not_mem_nil, or_false] at hd
    rcases hd with rfl | rfl | rfl | rfl
    · exact lay_up (lay_kw (by decide +kernel)) (by omega)
    · exact lay_up (lay_int _) (by omega)
    · exact lay_up (lay_dNs _) (by omega)
    · exact lay_up (lay_dNs _) (by omega)
  | sides r b p s =>
    refine lay_tup (n := 3) fun d hd => ?_
    simp only [List.mem_cons, List.not_mem_nil, or_false] at hd
    rcases hd with rfl | rfl | rfl | rfl | rfl
    · exact lay_up (lay_kw (by decide +kernel)) (by omega)
    · exact lay_up (lay_int _) (by omega)
    · exact lay_up (lay_dNs _) (by omega)
    · exact lay_up (lay_int _) (by omega)
    · exact lay_up (lay_dNs _) (by omega)
  | trader r t b s =>
    refine lay_tup (n := 3) fun d hd => ?_
    simp only [List.mem_cons, List.not_mem_nil, or_false] at hd
    rcases hd with rfl | rfl | rfl | rfl | rfl
    · exact lay_up (lay_kw (by decide +kernel)) (by omega)
    · exact lay_up (lay_int _) (by omega)
    · exact lay_up (lay_int _) (by omega)
    · exact lay_up (lay_dNs _) (by omega)
    · exact lay_up (lay_dNs _) (by omega)
  | caps b g s k =>
    refine lay_tup (n := 3) fun d hd => ?_
    simp only [List.mem_cons, List.not_mem_nil, or_false] at hd
    rcases hd with rfl | rfl | rfl | rfl | rfl
    · exact lay_up (lay_kw (by decide +kernel)) (by omega)
    · exact lay_up (lay_dNs _) (by omega)
    · exact lay_up (lay_dGs _) (by omega)
    · exact lay_up (lay_dNs _) (by omega)
    · exact lay_up (lay_dGs _) (by omega)
  | table rows =>
    refine lay_tup (n := 3) fun d hd => ?_
    simp only [List.mem_cons, List.not_mem_nil, or_false] at hd
    rcases hd with rfl | rfl
    · exact lay_up (lay_kw (by decide +kernel)) (by omega)
    · refine lay_up (lay_tup (n := 1) fun d hd => ?_) (by omega)
      obtain ⟨r, _, rfl⟩ := List.mem_map.mp hd
      exact lay_dNs r
theorem rsplit_ok {cs : List Ch} (h : (∀ c ∈ cs, c.ok) ∧ cs.length ≤ 9) : f_read_choice [dWs ([("split" : Str)] ++ wP cs)] = .ok (dSplit' cs) [] := by
  have hp := parts_ok (m := Str.ofString "part") (ps := cs.map Ch.w) (fun p hp => by obtain ⟨c, _, rfl⟩ := List.mem_map.mp hp; exact part_nin c) (by
    have := wP_len h; unfold wP at this; simp only [List.flatMap_map]; omega)
  have w : f_parts_behind [dWs (wP cs), .str "part"] = .ok (.lst ((cs.map Ch.w).map dWs)) [] := by
    rw [← hp]; unfold wP; rw [List.flatMap_map]
  have n1 := ne_lst1 "split" "split" (by decide +kernel) (by decide +kernel)
  have c := cut_head (Str.ofString "split") (wP cs)
  have c2 := cut_tail (Str.ofString "split") (wP cs)
  simp only [List.map_cons] at c c2
  have s0 : g_read_choice_s0 [some (dWs ([("split" : Str)] ++ wP cs)), none, none, none] = .nx [some (dWs ([("split" : Str)] ++ wP cs)), none, none, none] := by
    simp only [g_read_choice_s0, oIf, mP, sTruB, sBin, sF, sSlL, sNoP, sPart, sC, sVar, sLstF, sCons, sNil, List.getElem?_cons_zero, dWs, List.cons_append, List.nil_append, List.map_cons, fz_lst, if_true, Option.bind_some, Option.map_some, c, List.length_cons, List.length_nil, Nat.reduceAdd, Nat.reduceLeDiff, n1, decide_true, Bool.not_true, Bool.false_eq_true, if_false, Rs.of, Rs.out, oNil]
  have s1 : g_read_choice_s1 [some (dWs ([("split" : Str)] ++ wP cs)), none, none, none] = .nx [some (dWs ([("split" : Str)] ++ wP cs)), some (.lst ((cs.map Ch.w).map dWs)), none, none] := by
    simp only [dWs] at w
    simp only [g_read_choice_s1, oSet, mP, sFn, sCons, sNil, sF, sSlL, sNoP, sPart, sC, sVar, List.getElem?_cons_zero, dWs, List.cons_append, List.nil_append, List.map_cons, fz_lst, if_true, Option.bind_some, Option.map_some, c2, List.length_cons, List.length_nil, Nat.reduceAdd, pfn, w, Rs.of, Rs.out, List.set_cons_succ, List.set_cons_zero]
  have s2 : g_read_choice_s2 [some (dWs ([("split" : Str)] ++ wP cs)), some (.lst ((cs.map Ch.w).map dWs)), none, none] = .nx [some (dWs ([("split" : Str)] ++ wP cs)), some (.lst ((cs.map Ch.w).map dWs)), none, none] := by
    simp only [g_read_choice_s2, oIf, mP, sTruB, sBin, sVar, sC, dIs, Dat.isN, List.getElem?_cons_succ, List.getElem?_cons_zero, fz_lst, if_true, Option.bind_some, Rs.of, Rs.out, Bool.false_eq_true, if_false, oNil]
  have e3 : lcGo [some (dWs ([("split" : Str)] ++ wP cs)), some (.lst ((cs.map Ch.w).map dWs)), none, none] [3] gNm sYes g_read_choice_1 ((cs.map Ch.w).map dWs) = some (cs.map Ch.d) := by
    rw [List.map_map]
    refine lcGo_nm _ _ _ fun x hx => ?_
    have w := ofFn1 (part_ok (h.1 x hx)) (Ch.dz x)
    simp only [Function.comp, g_read_choice_1, sFn, sCons, sNil, sVar, List.set_cons_succ, List.set_cons_zero, List.getElem?_cons_succ, List.getElem?_cons_zero, dWs_fz, if_true, Option.bind_some, List.length_cons, List.length_nil, Nat.reduceAdd, w]
  have s3 : g_read_choice_s3 [some (dWs ([("split" : Str)] ++ wP cs)), some (.lst ((cs.map Ch.w).map dWs)), none, none] = .nx [some (dWs ([("split" : Str)] ++ wP cs)), some (.lst ((cs.map Ch.w).map dWs)), some (.lst (cs.map Ch.d)), none] := by
    simp only [g_read_choice_s3, oSet, mFz, mP, sLC, sSeq, sVar, wipeR, List.set_cons_succ, List.set_cons_zero, List.getElem?_cons_succ, List.getElem?_cons_zero, fz_lst, if_true, Option.bind_some, seqOf, e3, Rs.of, Rs.bind, Rs.out]
  have s4 : (g_read_choice_s4 [some (dWs ([("split" : Str)] ++ wP cs)), some (.lst ((cs.map Ch.w).map dWs)), some (.lst (cs.map Ch.d)), none]).val = some (dSplit' cs) := by
    have hi := in_none (l := cs.map Ch.d) (good_lst_of fun d hd => by
      obtain ⟨r, _, rfl⟩ := List.mem_map.mp hd
      exact lay_up (lay_Ch r) (by omega)) (fun d hd => by obtain ⟨r, _, rfl⟩ := List.mem_map.mp hd; cases r <;> exact ⟨_, rfl⟩)
    simp only [g_read_choice_s4, oRet, mP, sIf, sTruB, sBin, sVar, sC, sTup, sCons, sNil, sArgs, dTuple, List.getElem?_cons_succ, List.getElem?_cons_zero, fz_lst, if_true, Option.bind_some, hi, Bool.false_eq_true, if_false, List.length_cons, List.length_nil, Nat.reduceAdd, Nat.reduceLeDiff, Rs.of, Rs.out, Out.val, dSplit']
  obtain ⟨ρ, s4⟩ := Out.of_val s4
  simp only [f_read_choice, g_read_choice, fnO, fnOf, oSeq, Out.then, List.map_cons, List.map_nil, List.length_cons, List.length_nil, Nat.reduceAdd, Nat.reduceSub, List.replicate_succ, List.replicate_zero, if_true]
  simp only [List.cons_append, List.nil_append] at s0 s1 s2 s3 s4 ⊢
  simp only [s0, s1, s2, s3, s4]
end K98

namespace K98
open PySem PySem.Spec PyProof.Rows L2 MV
/-! ## the signs of words -/
def cl (w : Str) : Prop := ∀ c ∈ TL.tl w, 32 < c
theorem cl_nt (n : Int) : cl (nt n) := fun c hc => by
  by_cases h0 : 0 ≤ n
  · rw [nt_pos h0] at hc
    have := TL.numL_digits _ c hc; omega
  · rw [nt_neg (show n < 0 by omega)] at hc
    rcases List.mem_cons.mp hc with z | z
    · omega
    · have := TL.numL_digits _ c z; omega
theorem cl_wN (ns : List Int) : ∀ w ∈ wN ns, cl w := fun w hw => by obtain ⟨n, _, rfl⟩ := List.mem_map.mp hw; exact cl_nt n
instance (w : Str) : Decidable (cl w) := by unfold cl; exact inferInstance
theorem cl_wG (gs : List Gr) : ∀ w ∈ wG gs, cl w := fun w hw => by
  unfold wG at hw
  obtain ⟨g, _, hw⟩ := List.mem_flatMap.mp hw
  rcases List.mem_append.mp hw with z | z
  · simp only [List.mem_cons, List.not_mem_nil, or_false] at z
    rcases z with rfl | rfl | rfl
    · decide +kernel
    · exact cl_nt _
    · decide +kernel
  · exact cl_wN _ w z
theorem cl_app {a b : List Str} (ha : ∀ w ∈ a, cl w) (hb : ∀ w ∈ b, cl w) : ∀ w ∈ a ++ b, cl w := fun w hw => (List.mem_append.mp hw).elim (ha w) (hb w)
theorem cl_cons {a : Str} {b : List Str} (ha : cl a) (hb : ∀ w ∈ b, cl w) : ∀ w ∈ a :: b, cl w := fun w hw => (List.mem_cons.mp hw).elim (fun e => e ▸ ha) (hb w)
theorem cl_nil : ∀ w ∈ ([] : List Str), cl w := fun w hw => by cases hw
theorem cl_wR (rows : List (List Int)) : ∀ w ∈ wR rows, cl w := fun w hw => by
  unfold wR at hw
  obtain ⟨r, _, hw⟩ := List.mem_flatMap.mp hw
  exact cl_cons (by decide +kernel) (cl_wN r) w hw
theorem cl_Ch (c : Ch) : ∀ w ∈ c.w, cl w := by
  cases c with
  | maker r b s => exact cl_app (cl_app (cl_app (cl_cons (by decide +kernel) (cl_cons (cl_nt _) (cl_cons (by decide +kernel) cl_nil))) (cl_wN _)) (cl_cons (by decide +kernel) cl_nil)) (cl_wN _)
  | sides r b p s => exact cl_app (cl_app (cl_app (cl_cons (by decide +kernel) (cl_cons (cl_nt _) (cl_cons (by decide +kernel) cl_nil))) (cl_wN _)) (cl_cons (cl_nt _) (cl_cons (by decide +kernel) cl_nil))) (cl_wN _)
  | trader r t b s => exact cl_app (cl_app (cl_app (cl_app (cl_cons (by decide +kernel) (cl_cons (cl_nt _) (cl_cons (cl_nt _) cl_nil))) (cl_cons (by decide +kernel) cl_nil)) (cl_wN _)) (cl_cons (by decide +kernel) cl_nil)) (cl_wN _)
  | caps b g s k => exact cl_app (cl_app (cl_app (cl_app (cl_app (cl_cons (by decide +kernel) (cl_cons (by decide +kernel) cl_nil)) (cl_wN _)) (cl_wG _)) (cl_cons (by decide +kernel) cl_nil)) (cl_wN _)) (cl_wG _)
  | table rows => exact cl_app (cl_cons (by decide +kernel) cl_nil) (cl_wR rows)
theorem cl_wP (cs : List Ch) : ∀ w ∈ wP cs, cl w := fun w hw => by
  unfold wP at hw
  obtain ⟨r, _, hw⟩ := List.mem_flatMap.mp hw
  exact cl_cons (by decide +kernel) (cl_Ch r) w hw
theorem cl_De (d : De) : ∀ w ∈ d.w, cl w := by
  cases d with
  | one h c => exact cl_app (cl_cons (by decide +kernel) (cl_cons (cl_nt _) cl_nil)) (cl_Ch c)
  | split h cs => exact cl_app (cl_cons (by decide +kernel) (cl_cons (cl_nt _) cl_nil)) (cl_app (cl_cons (by decide +kernel) cl_nil) (cl_wP cs))
  | offer a b c => exact cl_app (cl_cons (by decide +kernel) cl_nil) (cl_wN _)
  | cancel a => exact cl_app (cl_cons (by decide +kernel) cl_nil) (cl_wN _)
  | undo => exact cl_app (cl_cons (by decide +kernel) cl_nil) (cl_wN _)
  | redo => exact cl_app (cl_cons (by decide +kernel) cl_nil) (cl_wN _)
theorem De.w_ne (d : De) : d.w ≠ [] := by cases d <;> simp [De.w]
theorem tl_sp : TL.tl (Str.ofString " ") = [32] := by decide +kernel
theorem tl_nl : TL.tl (Str.ofString "\n") = [10] := by decide +kernel
theorem split_line (d : De) : Txt.split d.line (Str.ofString " ") = d.w := TL.split_join tl_sp (by decide +kernel) d.w_ne fun p hp hm => by
  have := cl_De d p hp 32 hm; omega
theorem joinL_mem {S : List Nat} {c : Nat} : ∀ {ps : List (List Nat)}, c ∈ TL.joinL S ps → c ∈ S ∨ ∃ p ∈ ps, c ∈ p
  | [], h => by cases h
  | [p], h => .inr ⟨p, by simp, h⟩
  | p :: q :: r, h => by
    unfold TL.joinL at h
    rcases List.mem_append.mp h with z | z
    · exact .inr ⟨p, by simp, z⟩
    · rcases List.mem_append.mp z with z | z
      · exact .inl z
      · rcases joinL_mem z with y | ⟨x, hx, y⟩
        · exact .inl y
        · exact .inr ⟨x, List.mem_cons_of_mem _ hx, y⟩
theorem line_nl (d : De) : 10 ∉ TL.tl d.line := fun hm => by
  unfold De.line at hm
  rw [TL.join_eq, TL.tl_join, tl_sp] at hm
  rcases joinL_mem hm with z | ⟨p, hp, z⟩
  · simp at z
  · obtain ⟨w, hw, rfl⟩ := List.mem_map.mp hp
    have := cl_De d w hw 10 z; omega
/-! ## a deed read -/
theorem deed_s0 {t : Str} {ws : List Str} (hs : Txt.split t (Str.ofString " ") = ws) (ht : t.length ≤ 1000000) : g_read_deed_s0 [some (.str t), none, none, none, none] = .nx [some (.str t), some (dWs ws), none, none, none] := by
  have h1 : 1 ≤ (Str.ofString " ").length ∧ t.length ≤ 1000000 := ⟨by decide +kernel, ht⟩
  simp only [g_read_deed_s0, oSet, mP, sF, sSplit, sVar, sC, List.getElem?_cons_zero, fz_str, if_true, Option.bind_some, hs]
  rw [if_pos h1]
  rfl
theorem deed_choose {t : Str} {h : Int} {ws : List Str} {x : Dat} (hs : Txt.split t (Str.ofString " ") = [Str.ofString "choose", nt h] ++ ws) (ht : t.length ≤ 1000000) (hh : N60 h) (w : f_read_choice [dWs ws] = .ok x []) (hz : x.fz = true) (hx : x.isN = false) : f_read_deed [.str t] = .ok (.tup [.str "choose", .int h, x]) [] := by
  have c1 : MV.cutD (([Str.ofString "choose", nt h] ++ ws).map Dat.str) (some 1) (some 2) = (wN [h]).map Dat.str := by
    have := cut_nat (([Str.ofString "choose", nt h] ++ ws).map Dat.str) 1 2 (by simp) (by simp)
    simpa [wN] using this
  have c2 : MV.cutD (([Str.ofString "choose", nt h] ++ ws).map Dat.str) (some 2) none = ws.map Dat.str := by
    have := cut_from (([Str.ofString "choose", nt h] ++ ws).map Dat.str) 2 (by simp)
    simpa using this
  have w1 := rn (ns := [h]) (fun n hn => by simp at hn; subst hn; exact hh)
  have i0 : L2.atI (([Str.ofString "choose", nt h] ++ ws).map Dat.str) 0 = some (.str (Str.ofString "choose")) := atI_nat (k := 0) rfl rfl
  have i1 : L2.atI ([h].map Dat.int) 0 = some (.int h) := atI_nat (k := 0) rfl rfl
  have dn : ∀ x : Dat, dIs x .non = some (.bl x.isN) := fun x => by cases x <;> rfl
  have tn : ∀ l : List Dat, (Dat.tup l).isN = false := fun l => rfl
  have w2 := ofFn1 w hz
  simp only [dWs] at w2
  have s1 : (g_read_deed_s1 [some (.str t), some (dWs ([Str.ofString "choose", nt h] ++ ws)), none, none, none]).val = some (.tup [.str "choose", .int h, x]) := by
    simp only [dNs] at w1
    simp only [g_read_deed_s1, oIf, mP, sTruB, sBin, sVar, sC, dIx, dEq, List.getElem?_cons_succ, List.getElem?_cons_zero, dWs, fz_lst, if_true, Option.bind_some, i0, BEq.rfl, Rs.of, Rs.out, oSeq, oSet, sFn, sCons, sNil, sF, sSlL, sPart, sNoP, Option.map_some, c1, c2, List.length_cons, List.length_nil, Nat.reduceAdd, w1, w2, Out.then, List.set_cons_succ, List.set_cons_zero, sOr, fz_tup, dn, tn, hx, Bool.false_eq_true, if_false, sArgs, dLen, List.map_cons, List.map_nil, hz, Int.cast_ofNat_Int, Int.reduceBEq]
    simp only [Option.bind_some, oNil, oRet, sTup, sCons, sNil, mP, sC, sBin, sVar, List.getElem?_cons_succ, List.getElem?_cons_zero, fz_tup, if_true, dIx, hz, List.length_cons, List.length_nil, Nat.reduceAdd, Nat.reduceLeDiff, Rs.of, Rs.out, Out.val, Bool.false_eq_true, if_false]
    simp only [List.map_cons, List.map_nil] at i1
    simp only [i1, Option.bind_some, List.length_cons, List.length_nil, Nat.reduceAdd, Nat.reduceLeDiff, if_true]
  obtain ⟨ρ, s1⟩ := Out.of_val s1
  simp only [f_read_deed, g_read_deed, fnO, fnOf, oSeq, Out.then, List.map_cons, List.map_nil, List.length_cons, List.length_nil, Nat.reduceAdd, Nat.reduceSub, List.replicate_succ, List.replicate_zero, if_true]
  simp only [List.cons_append, List.nil_append] at s1 hs ⊢
  simp only [deed_s0 hs ht, s1]
theorem deed_flat_r {t : Str} {k : String} {ns : List Int} (hs : Txt.split t (Str.ofString " ") = Str.ofString k :: wN ns) (ht : t.length ≤ 1000000) (hk : decide (k = "choose") = false) (hn : ∀ n ∈ ns, N60 n) (h1 : ks_NUMBERS.contains (Str.ofString k) = true) (h2 : tb_NUMBERS.lookup (Str.ofString k) = some (ns.length : Int)) (h3 : ns.length ≤ 3) : f_read_deed [.str t] = .ok (.tup (.str k :: ns.map Dat.int)) [] := by
  have c := cut_tail (Str.ofString k) (wN ns)
  simp only [List.map_cons] at c
  have i0 : L2.atI (Dat.str (Str.ofString k) :: (wN ns).map Dat.str) 0 = some (.str (Str.ofString k)) := atI_nat (k := 0) rfl rfl
  have w1 := rn hn
  simp only [dNs] at w1
  have s1 : g_read_deed_s1 [some (.str t), some (dWs (Str.ofString k :: wN ns)), none, none, none] = .nx [some (.str t), some (dWs (Str.ofString k :: wN ns)), none, none, none] := by
    simp only [g_read_deed_s1, oIf, mP, sTruB, sBin, sVar, sC, dIx, dEq, List.getElem?_cons_succ, List.getElem?_cons_zero, dWs, List.map_cons, fz_lst, if_true, Option.bind_some, i0, str_beq, hk, Rs.of, Rs.out, Bool.false_eq_true, if_false, oNil]
  have s2 : g_read_deed_s2 [some (.str t), some (dWs (Str.ofString k :: wN ns)), none, none, none] = .nx [some (.str t), some (dWs (Str.ofString k :: wN ns)), some (dNs ns), none, none] := by
    simp only [g_read_deed_s2, oSet, mP, sFn, sCons, sNil, sF, sSlL, sPart, sNoP, sC, sVar, List.getElem?_cons_succ, List.getElem?_cons_zero, dWs, List.map_cons, fz_lst, if_true, Option.bind_some, Option.map_some, c, List.length_cons, List.length_nil, Nat.reduceAdd, w1, Rs.of, Rs.out, List.set_cons_succ, List.set_cons_zero, dNs]
  have s3 : g_read_deed_s3 [some (.str t), some (dWs (Str.ofString k :: wN ns)), some (dNs ns), none, none] = .nx [some (.str t), some (dWs (Str.ofString k :: wN ns)), some (dNs ns), none, none] := by
    simp only [g_read_deed_s3, oIf, mP, sOr, sTruB, sBin, sUn, sArgs, sCons, sNil, sVar, sC, dIs, Dat.isN, dIx, dKdIn, dKdIx, dLen, dNe, List.getElem?_cons_succ, List.getElem?_cons_zero, dWs, List.map_cons, dNs, fz_lst, fz_tup, if_true, Option.bind_some, Option.map_some, i0, h1, h2, List.length_map, BEq.rfl, Bool.not_true, Bool.false_eq_true, if_false, Rs.of, Rs.out, oNil]
  have s4 : (g_read_deed_s4 [some (.str t), some (dWs (Str.ofString k :: wN ns)), some (dNs ns), none, none]).val = some (.tup (.str k :: ns.map Dat.int)) := by
    simp only [g_read_deed_s4, oRet, mP, sBin, sTup, sCons, sNil, sVar, sC, dIx, dAdd, List.getElem?_cons_succ, List.getElem?_cons_zero, dWs, List.map_cons, dNs, fz_lst, fz_tup, if_true, Option.bind_some, i0, List.length_cons, List.length_nil, Nat.reduceAdd, Nat.reduceLeDiff, List.length_map]
    rw [if_pos (by omega)]
    rfl
  obtain ⟨ρ, s4⟩ := Out.of_val s4
  simp only [f_read_deed, g_read_deed, fnO, fnOf, oSeq, Out.then, List.map_cons, List.map_nil, List.length_cons, List.length_nil, Nat.reduceAdd, Nat.reduceSub, List.replicate_succ, List.replicate_zero, List.cons_append, List.nil_append, if_true, deed_s0 hs ht, s1, s2, s3, s4]
theorem read_deed_ok {d : De} (h : d.ok) (hs : d.sm) : f_read_deed [.str d.line] = .ok d.d [] := by
  have ht : d.line.length ≤ 1000000 := by have := join_le d.w; unfold De.sm at hs; unfold De.line; omega
  have sp := split_line d
  cases d with
  | one k c => exact deed_choose sp ht h.1 (rchoice_ok h.2) (Ch.dz c) (by cases c <;> rfl)
  | split k cs => exact deed_choose sp ht h.1 (rsplit_ok h.2) rfl rfl
  | offer a b c => exact deed_flat_r (k := "offer") (ns := [a, b, c]) sp ht (by decide) (wN_ok3 h.1 h.2.1 h.2.2).1 (by decide +kernel) (show tb_NUMBERS.lookup (Str.ofString "offer") = some (3 : Int) by decide +kernel) (by simp)
  | cancel a => exact deed_flat_r (k := "cancel") (ns := [a]) sp ht (by decide) (wN_ok1 h).1 (by decide +kernel) (show tb_NUMBERS.lookup (Str.ofString "cancel") = some (1 : Int) by decide +kernel) (by simp)
  | undo => exact deed_flat_r (k := "undo") (ns := []) sp ht (by decide) wN_ok0.1 (by decide +kernel) (by decide +kernel) (by simp)
  | redo => exact deed_flat_r (k := "redo") (ns := []) sp ht (by decide) wN_ok0.1 (by decide +kernel) (by decide +kernel) (by simp)
end K98

namespace K98
open PySem PySem.Spec PyProof.Rows L2 MV
theorem joinL_nl : ∀ ls : List (List Nat), TL.joinL [] (ls.map fun a => a ++ [10]) = TL.joinL [10] (ls ++ [[]])
  | [] => rfl
  | [a] => by simp [TL.joinL]
  | a :: b :: r => by
    have ih := joinL_nl (b :: r)
    simp only [List.map_cons, List.cons_append] at ih ⊢
    unfold TL.joinL
    rw [ih]
    simp
def text (ds : List De) : Str := Txt.join "" (ds.map De.ln)
theorem text_nl (ds : List De) : text ds = Txt.join (Str.ofString "\n") (ds.map De.line ++ [Str.ofString ""]) := by
  refine TL.ext_tl ?_
  unfold text
  rw [TL.join_eq, TL.join_eq, TL.tl_join, TL.tl_join, tl_nl, show TL.tl (Str.ofString "") = [] by decide +kernel]
  have := joinL_nl ((ds.map De.line).map TL.tl)
  rw [List.map_append, List.map_cons, List.map_nil, show TL.tl (Str.ofString "") = [] by decide +kernel, ← this]
  congr 1
  simp only [List.map_map]
  refine List.map_congr_left fun d _ => ?_
  show TL.tl (d.line ++ Str.ofString "\n") = TL.tl d.line ++ [10]
  rw [TL.tl_append, tl_nl]
theorem text_split (ds : List De) : Txt.split (text ds) (Str.ofString "\n") = ds.map De.line ++ [Str.ofString ""] := by
  rw [text_nl]
  refine TL.split_join tl_nl (by decide +kernel) (by simp) fun p hp hm => ?_
  rcases List.mem_append.mp hp with z | z
  · obtain ⟨d, _, rfl⟩ := List.mem_map.mp z
    exact line_nl d hm
  · rw [List.mem_singleton.mp z] at hm
    rw [show TL.tl (Str.ofString "") = [] by decide +kernel] at hm
    cases hm
theorem text_len {ds : List De} (h : ∀ d ∈ ds, d.sm) (hl : ds.length ≤ 50) : (text ds).length ≤ 1000000 := by
  have h1 := lens_le h
  have h2 := StrLaws.join_length_le (Str.ofString "") (ds.map De.ln)
  have h3 : (text ds).length = (Str.join (Str.ofString "") (ds.map De.ln)).length := by unfold text; rw [TL.join_eq]
  rw [show (Str.ofString "").length = 0 by decide +kernel] at h2
  rw [h3]; omega
theorem jr_step {A B z : Option Dat} {acc : List De} {d : De} {i : Int} (h : d.ok) (hs : d.sm) (hl : acc.length < 1000) : g_read_journal_1 [A, B, some (.mls (acc.map De.d)), some (.int i), some (.str d.line), z] = .nx [A, B, some (.mls ((acc ++ [d]).map De.d)), some (.int i), some (.str d.line), some d.d] := by
  have w := ofFn1 (read_deed_ok h hs) (De.dz d)
  have dn : ∀ x : Dat, dIs x .non = some (.bl x.isN) := fun x => by cases x <;> rfl
  have hx : d.d.isN = false := by cases d <;> rfl
  have e6 : dApp (acc.map De.d) d.d = some (.mls ((acc ++ [d]).map De.d)) := by
    unfold dApp
    rw [if_pos (by simp; omega)]
    simp
  simp only [g_read_journal_1, oSeq, oSet, mP, sFn, sCons, sNil, sVar, List.getElem?_cons_succ, List.getElem?_cons_zero, fz_str, if_true, Option.bind_some, List.length_cons, List.length_nil, Nat.reduceAdd, w, Rs.of, Rs.out, List.set_cons_succ, List.set_cons_zero, Out.then, oIf, sTruB, sBin, sC, De.dz, dn, hx, Bool.false_eq_true, if_false, oNil, oApp, plVar, plGet, Dat.at, e6, plPut, Dat.put]
theorem jr_loop {A B : Option Dat} : ∀ (ds acc : List De) (k : Nat) (x y z : Option Dat), (∀ d ∈ ds, d.ok) → (∀ d ∈ ds, d.sm) → acc.length + ds.length < 1000 → ∃ x' y' z', oForL [3, 4] (gTp 2 (gsCons gNm (gsCons gNm gsNil))) g_read_journal_1 (((ds.map fun d => Dat.str d.line).zipIdx k).map fun p => .tup [.int (p.2 : Nat), p.1]) [A, B, some (.mls (acc.map De.d)), x, y, z] = .nx [A, B, some (.mls ((acc ++ ds).map De.d)), x', y', z']
  | [], acc, k, x, y, z, _, _, _ => ⟨x, y, z, by simp [oForL]⟩
  | d :: ds, acc, k, x, y, z, h, hs, hl => by
    simp only [List.length_cons] at hl
    obtain ⟨x', y', z', ih⟩ := jr_loop (A := A) (B := B) ds (acc ++ [d]) (k + 1) (some (.int (k : Nat))) (some (.str d.line)) (some d.d) (fun v hv => h v (List.mem_cons_of_mem _ hv)) (fun v hv => hs v (List.mem_cons_of_mem _ hv)) (by simp; omega)
    refine ⟨x', y', z', ?_⟩
    have st := jr_step (A := A) (B := B) (z := z) (acc := acc) (d := d) (i := (k : Nat)) (h d (by simp)) (hs d (by simp)) (by omega)
    simp only [List.map_cons, List.zipIdx_cons, oForL, gTp, gsCons, gNm, gsNil, List.length_cons, List.length_nil, Nat.reduceAdd, if_true, Option.bind_some, List.cons_append, List.nil_append, setR, List.set_cons_succ, List.set_cons_zero]
    rw [st]
    simp only []
    rw [ih]
    simp
theorem nol_dNs (ns : List Int) : (dNs ns).nol = true := by
  unfold dNs Dat.nol
  induction ns with
  | nil => rfl
  | cons n ns ih => simp only [List.map_cons, Dat.nols, Dat.nol, ih, Bool.and_self]
theorem nols_of {l : List Dat} (h : ∀ d ∈ l, d.nol = true) : Dat.nols l = true := by
  induction l with
  | nil => rfl
  | cons d l ih => simp only [Dat.nols, h d (by simp), ih fun z hz => h z (List.mem_cons_of_mem _ hz), Bool.and_self]
theorem nol_tup {l : List Dat} (h : ∀ d ∈ l, d.nol = true) : (Dat.tup l).nol = true := by unfold Dat.nol; exact nols_of h
theorem nol_dGs (gs : List Gr) : (dGs gs).nol = true := by unfold dGs Dat.nol; exact nols_dG gs
theorem nol_Ch (c : Ch) : c.d.nol = true := by
  cases c <;> refine nol_tup fun d hd => ?_ <;> simp only [List.mem_cons, List.not_mem_nil, or_false] at hd
  · rcases hd with rfl | rfl | rfl | rfl <;> first | exact nol_dNs _ | rfl
  · rcases hd with rfl | rfl | rfl | rfl | rfl <;> first | exact nol_dNs _ | rfl
  · rcases hd with rfl | rfl | rfl | rfl | rfl <;> first | exact nol_dNs _ | rfl
  · rcases hd with rfl | rfl | rfl | rfl | rfl <;> first | exact nol_dNs _ | exact nol_dGs _ | rfl
  · rcases hd with rfl | rfl
    · rfl
    · exact nol_tup fun d hd => by obtain ⟨r, _, rfl⟩ := List.mem_map.mp hd; exact nol_dNs r
theorem nol_De (d : De) : d.d.nol = true := by
  cases d <;> refine nol_tup fun d hd => ?_ <;> simp only [List.mem_cons, List.not_mem_nil, or_false] at hd
  · rcases hd with rfl | rfl | rfl <;> first | exact nol_Ch _ | rfl
  · rcases hd with rfl | rfl | rfl
    · rfl
    · rfl
    · refine nol_tup fun d hd => ?_
      simp only [List.mem_cons, List.not_mem_nil, or_false] at hd
      rcases hd with rfl | rfl
      · rfl
      · exact nol_tup fun d hd => by obtain ⟨r, _, rfl⟩ := List.mem_map.mp hd; exact nol_Ch r
  · rcases hd with rfl | rfl | rfl | rfl <;> rfl
  · rcases hd with rfl | rfl <;> rfl
  · rw [hd]; rfl
  · rw [hd]; rfl
theorem read_ok {ds : List De} (h : ∀ d ∈ ds, d.ok) (hs : ∀ d ∈ ds, d.sm) (hl : ds.length ≤ 50) : f_read_journal [.str (text ds)] = .ok (.tup (ds.map De.d)) [] := by
  have ht : 1 ≤ (Str.ofString "\n").length ∧ (text ds).length ≤ 1000000 := ⟨by decide +kernel, text_len hs hl⟩
  obtain ⟨x', y', z', e⟩ := jr_loop (A := some (.str (text ds))) (B := some (dWs (ds.map De.line ++ [Str.ofString ""]))) ds [] 0 none none none h hs (by simp; omega)
  have s0 : g_read_journal_s0 [some (.str (text ds)), none, none, none, none, none] = .nx [some (.str (text ds)), some (dWs (ds.map De.line ++ [Str.ofString ""])), none, none, none, none] := by
    simp only [g_read_journal_s0, oSet, mP, sF, sSplit, sVar, sC, List.getElem?_cons_zero, fz_str, if_true, Option.bind_some, text_split]
    rw [if_pos ht]
    rfl
  have s1 : g_read_journal_s1 [some (.str (text ds)), some (dWs (ds.map De.line ++ [Str.ofString ""])), none, none, none, none] = .nx [some (.str (text ds)), some (dWs (ds.map De.line ++ [Str.ofString ""])), some (.mls []), none, none, none] := by
    simp only [g_read_journal_s1, oSet, mOw, mP, sLstF, sNil, Option.bind_some, List.length_nil, Nat.zero_le, if_true, Rs.of, Rs.bind, Rs.out, List.set_cons_succ, List.set_cons_zero]
  have hc : MV.cutD ((ds.map De.line ++ [Str.ofString ""]).map Dat.str) none (some (-1)) = ds.map fun d => Dat.str d.line := by
    unfold MV.cutD HT.sIx
    simp only [List.length_map, List.length_append, List.length_cons, List.length_nil]
    rw [if_pos (by omega)]
    have : ((-1 : Int) + ((ds.length + (0 + 1) : Nat) : Int)).toNat - 0 = ds.length := by omega
    rw [this, List.drop_zero, List.map_append, List.take_append_of_le_length (by simp), List.take_of_length_le (by simp), List.map_map]
    rfl
  have s2 : g_read_journal_s2 [some (.str (text ds)), some (dWs (ds.map De.line ++ [Str.ofString ""])), some (.mls []), none, none, none] = .nx [some (.str (text ds)), some (dWs (ds.map De.line ++ [Str.ofString ""])), some (.mls (ds.map De.d)), x', y', z'] := by
    simp only [List.map_nil, List.nil_append] at e
    rw [← e]
    simp only [g_read_journal_s2, oFor, mItA, mCons, mNil, mP, sF, sSlL, sVar, sNoP, sPart, sUn, dNeg, sC, List.getElem?_cons_succ, List.getElem?_cons_zero, dWs, fz_lst, if_true, Option.bind_some, Option.map_some, hc, Rs.of, Rs.bind, enum1, enumL, Rs.out]
  have hi : L2.atI ((ds.map De.line ++ [Str.ofString ""]).map Dat.str) (-1) = some (.str (Str.ofString "")) := by
    unfold L2.atI L2.ixN
    simp only [List.length_map, List.length_append, List.length_cons, List.length_nil]
    rw [if_neg (by omega), if_pos (by omega)]
    have : ((-1 : Int) + ((ds.length + (0 + 1) : Nat) : Int)).toNat = ds.length := by omega
    rw [this]; simp
  have s3 : g_read_journal_s3 [some (.str (text ds)), some (dWs (ds.map De.line ++ [Str.ofString ""])), some (.mls (ds.map De.d)), x', y', z'] = .nx [some (.str (text ds)), some (dWs (ds.map De.line ++ [Str.ofString ""])), some (.mls (ds.map De.d)), x', y', z'] := by
    simp only [g_read_journal_s3, oIf, mP, sTruB, sBin, sUn, dNeg, sVar, sC, dIx, dNe, List.getElem?_cons_succ, List.getElem?_cons_zero, dWs, fz_lst, if_true, Option.bind_some, hi, BEq.rfl, Bool.not_true, Bool.false_eq_true, if_false, Rs.of, Rs.out, oNil]
  have s4 : (g_read_journal_s4 [some (.str (text ds)), some (dWs (ds.map De.line ++ [Str.ofString ""])), some (.mls (ds.map De.d)), x', y', z']).val = some (.tup (ds.map De.d)) := by
    have hz : (Dat.mls (ds.map De.d)).frz = .lst (ds.map De.d) := frz_mls (by rw [List.all_eq_true]; intro d hd; obtain ⟨g, _, rfl⟩ := List.mem_map.mp hd; exact De.dz g)
    have hn : (Dat.tup (ds.map De.d)).nol = true := nol_tup fun d hd => by obtain ⟨g, _, rfl⟩ := List.mem_map.mp hd; exact nol_De g
    simp only [g_read_journal_s4, oRet, mZ, frzR, List.map_cons, List.map_nil, Option.map_some, hz, sArgs, sCons, sNil, sVar, List.getElem?_cons_succ, List.getElem?_cons_zero, fz_lst, if_true, Option.bind_some, dTuple, hn, Rs.out, Out.val]
  obtain ⟨ρ, s4⟩ := Out.of_val s4
  simp only [f_read_journal, g_read_journal, fnO, fnOf, oSeq, Out.then, List.map_cons, List.map_nil, List.length_cons, List.length_nil, Nat.reduceAdd, Nat.reduceSub, List.replicate_succ, List.replicate_zero, List.cons_append, List.nil_append, if_true, s0, s1, s2, s3, s4]
end K98

namespace K98
open PySem PySem.Spec PyProof.Rows L2 MV
/-! ## the law's own comparison -/
inductive SmD : Nat → Dat → Prop where
  | str (n : Nat) (s : Str) : SmD n (.str s)
  | int (n : Nat) (i : Int) : SmD n (.int i)
  | tup (n : Nat) (l : List Dat) (h : ∀ d ∈ l, SmD n d) (hl : l.length ≤ 1000000) : SmD (n + 1) (.tup l)
theorem isi_str_str {s : Str} : dIsi "str" (.str s) = some (.bl true) := by
  have : kitB "str" "str" = some true := by decide +kernel
  simp only [dIsi, Dat.tyN, Option.bind_some, this, Option.map_some]
theorem isi_str_int {s : Int} : dIsi "str" (.int s) = some (.bl false) := by
  have : kitB "int" "str" = some false := by decide +kernel
  simp only [dIsi, Dat.tyN, Option.bind_some, this, Option.map_some]
theorem isi_str_tup {s : List Dat} : dIsi "str" (.tup s) = some (.bl false) := by
  have : kitB "tuple" "str" = some false := by decide +kernel
  simp only [dIsi, Dat.tyN, Option.bind_some, this, Option.map_some]
theorem isi_int_int {s : Int} : dIsi "int" (.int s) = some (.bl true) := by
  have : kitB "int" "int" = some true := by decide +kernel
  simp only [dIsi, Dat.tyN, Option.bind_some, this, Option.map_some]
theorem isi_int_tup {s : List Dat} : dIsi "int" (.tup s) = some (.bl false) := by
  have : kitB "tuple" "int" = some false := by decide +kernel
  simp only [dIsi, Dat.tyN, Option.bind_some, this, Option.map_some]
theorem isi_bool_int {s : Int} : dIsi "bool" (.int s) = some (.bl false) := by
  have : kitB "int" "bool" = some false := by decide +kernel
  simp only [dIsi, Dat.tyN, Option.bind_some, this, Option.map_some]
theorem isi_tup_tup {s : List Dat} : dIsi "tuple" (.tup s) = some (.bl true) := by
  have : kitB "tuple" "tuple" = some true := by decide +kernel
  simp only [dIsi, Dat.tyN, Option.bind_some, this, Option.map_some]
theorem same_leaf (m : Nat) {d : Dat} (h : (g__law_same (f__law_same m) [some d, some d, none]).val = some (.bl true)) : f__law_same (m + 1) [d, d] = .ok (.bl true) [] := by
  obtain ⟨ρ, h⟩ := Out.of_val h
  simp only [f__law_same, fnO, fnOf, List.map_cons, List.map_nil, List.length_cons, List.length_nil, Nat.reduceAdd, Nat.reduceSub, List.replicate_succ, List.replicate_zero, List.cons_append, List.nil_append, if_true, h]
theorem same_ok : ∀ (n : Nat) (d : Dat), SmD n d → f__law_same (n + 1) [d, d] = .ok (.bl true) [] := by
  intro n
  induction n with
  | zero =>
    intro d h
    refine same_leaf 0 ?_
    cases h with
    | str _ s => simp only [g__law_same, g__law_same_s0, g__law_same_s1, oSeq, oIf, mP, sTruB, sBin, sUn, sVar, sC, List.getElem?_cons_succ, List.getElem?_cons_zero, fz_str, if_true, Option.bind_some, dIs, Dat.isN, Rs.of, Rs.out, Bool.false_eq_true, if_false, oNil, Out.then, isi_str_str, oRet, sAndV, dEq, BEq.rfl, Out.val]
    | int _ s => simp only [g__law_same, g__law_same_s0, g__law_same_s1, g__law_same_s2, oSeq, oIf, mP, sTruB, sBin, sUn, sVar, sC, List.getElem?_cons_succ, List.getElem?_cons_zero, fz_int, if_true, Option.bind_some, dIs, Dat.isN, Rs.of, Rs.out, Bool.false_eq_true, if_false, oNil, Out.then, isi_str_int, isi_int_int, isi_bool_int, oRet, sAndV, sNotV, Bool.not_false, dEq, BEq.rfl, Out.val]
  | succ n ih =>
    intro d h
    refine same_leaf (n + 1) ?_
    cases h with
    | str _ s => simp only [g__law_same, g__law_same_s0, g__law_same_s1, oSeq, oIf, mP, sTruB, sBin, sUn, sVar, sC, List.getElem?_cons_succ, List.getElem?_cons_zero, fz_str, if_true, Option.bind_some, dIs, Dat.isN, Rs.of, Rs.out, Bool.false_eq_true, if_false, oNil, Out.then, isi_str_str, oRet, sAndV, dEq, BEq.rfl, Out.val]
    | int _ s => simp only [g__law_same, g__law_same_s0, g__law_same_s1, g__law_same_s2, oSeq, oIf, mP, sTruB, sBin, sUn, sVar, sC, List.getElem?_cons_succ, List.getElem?_cons_zero, fz_int, if_true, Option.bind_some, dIs, Dat.isN, Rs.of, Rs.out, Bool.false_eq_true, if_false, oNil, Out.then, isi_str_int, isi_int_int, isi_bool_int, oRet, sAndV, sNotV, Bool.not_false, dEq, BEq.rfl, Out.val]
    | tup _ l h hl =>
      have hlen : (((l.length : Nat) : Int) == ((l.length : Nat) : Int)) = true := BEq.rfl
      have lp : ∀ (ks : List Nat), (∀ k ∈ ks, k < l.length) → ∀ x : Option Dat, ∃ y, oForL [2] gNm (g__law_same_1 (f__law_same (n + 1))) (ks.map fun (k : Nat) => Dat.int (0 + (k : Int))) [some (.tup l), some (.tup l), x] = .nx [some (.tup l), some (.tup l), y] := by
        intro ks
        induction ks with
        | nil => intro _ x; exact ⟨x, rfl⟩
        | cons k ks ik =>
          intro hk x
          obtain ⟨y, e⟩ := ik (fun j hj => hk j (List.mem_cons_of_mem _ hj)) (some (.int (0 + (k : Int))))
          refine ⟨y, ?_⟩
          have hk0 := hk k (by simp)
          have ix : L2.atI l (0 + (k : Int)) = some l[k] := atI_nat (k := k) (by omega) (List.getElem?_eq_getElem hk0)
          have w := ofFn1 (f := fun _ => f__law_same (n + 1) [l[k], l[k]]) (d := .non) (ih l[k] (h _ (List.getElem_mem hk0))) fz_bl
          have w2 : pfn (f__law_same (n + 1)) [l[k], l[k]] = some (.bl true) := w
          simp only [List.map_cons, oForL, gNm, setR, List.set_cons_succ, List.set_cons_zero]
          have st : g__law_same_1 (f__law_same (n + 1)) [some (.tup l), some (.tup l), some (.int (0 + (k : Int)))] = .nx [some (.tup l), some (.tup l), some (.int (0 + (k : Int)))] := by
            simp only [g__law_same_1, oIf, mP, sNot, sTruB, sFn, sCons, sNil, sBin, sVar, dIx, List.getElem?_cons_succ, List.getElem?_cons_zero, fz_tup, fz_int, if_true, Option.bind_some, ix, List.length_cons, List.length_nil, Nat.reduceAdd, w2, Option.map_some, Bool.not_true, Rs.of, Rs.out, Bool.false_eq_true, if_false, oNil]
          rw [st]
          exact e
      obtain ⟨y, e⟩ := lp (List.range l.length) (fun k hk => List.mem_range.mp hk) none
      have e4 : g__law_same_s4 (f__law_same (n + 1)) [some (.tup l), some (.tup l), none] = .nx [some (.tup l), some (.tup l), y] := by
        rw [← e]
        simp only [g__law_same_s4, oFor, mItA, mCons, mNil, mP, sArgs, sCons, sNil, sVar, List.getElem?_cons_succ, List.getElem?_cons_zero, fz_tup, if_true, Option.bind_some, dLen, Rs.of, Rs.bind, rng1]
        rw [if_pos (by omega)]
        simp only [Rs.out, rng, Int.toNat_natCast]
      simp only [g__law_same, g__law_same_s0, g__law_same_s1, g__law_same_s2, g__law_same_s3, g__law_same_s5, oSeq, oIf, mP, sTruB, sBin, sUn, sOr, sNot, sArgs, sCons, sNil, sVar, sC, List.getElem?_cons_succ, List.getElem?_cons_zero, fz_tup, if_true, Option.bind_some, Option.map_some, dIs, Dat.isN, Rs.of, Rs.out, Bool.false_eq_true, if_false, oNil, Out.then, isi_str_tup, isi_int_tup, isi_tup_tup, Bool.not_true, dLen, dNe, hlen, e4, oRet, Out.val]
theorem SmD.up {n : Nat} : ∀ {m : Nat} {d : Dat}, SmD n d → n ≤ m → SmD m d := by
  intro m d h
  induction h generalizing m with
  | str n s => intro _; exact .str _ _
  | int n s => intro _; exact .int _ _
  | tup n l h hl ih =>
    intro hm
    obtain ⟨k, rfl⟩ : ∃ k, m = k + 1 := ⟨m - 1, by omega⟩
    exact .tup k l (fun d hd => ih d hd (by omega)) hl
theorem smd_Ns {ns : List Int} (h : okN ns) : SmD 1 (dNs ns) := .tup 0 _ (fun d hd => by obtain ⟨n, _, rfl⟩ := List.mem_map.mp hd; exact .int _ _) (by have := h.2; simp; omega)
theorem smd_Gs {gs : List Gr} (h : okG gs) : SmD 3 (dGs gs) := .tup 2 _ (fun d hd => by
  obtain ⟨g, hg, rfl⟩ := List.mem_map.mp hd
  refine .tup 1 _ (fun d hd => ?_) (by simp)
  simp only [List.mem_cons, List.not_mem_nil, or_false] at hd
  rcases hd with rfl | rfl
  · exact smd_Ns (h.1 g hg).1
  · exact .int _ _) (by have := h.2; simp; omega)
theorem smd_Ch {c : Ch} (h : c.ok) : SmD 4 c.d := by
  cases c with
  | maker r b s =>
    obtain ⟨_, h1, h2⟩ := h
    refine .tup 3 _ (fun d hd => ?_) (by simp)
    simp only [List.mem_cons, List.not_mem_nil, or_false] at hd
    rcases hd with rfl | rfl | rfl | rfl
    · exact .str _ _
    · exact .int _ _
    · exact (smd_Ns h1).up (by omega)
    · exact (smd_Ns h2).up (by omega)
  | sides r b p s =>
    obtain ⟨_, h1, _, h2⟩ := h
    refine .tup 3 _ (fun d hd => ?_) (by simp)
    simp only [List.mem_cons, List.not_mem_nil, or_false] at hd
    rcases hd with rfl | rfl | rfl | rfl | rfl
    · exact .str _ _
    · exact .int _ _
    · exact (smd_Ns h1).up (by omega)
    · exact .int _ _
    · exact (smd_Ns h2).up (by omega)
  | trader r t b s =>
    obtain ⟨_, _, h1, h2⟩ := h
    refine .tup 3 _ (fun d hd => ?_) (by simp)
    simp only [List.mem_cons, List.not_mem_nil, or_false] at hd
    rcases hd with rfl | rfl | rfl | rfl | rfl
    · exact .str _ _
    · exact .int _ _
    · exact .int _ _
    · exact (smd_Ns h1).up (by omega)
    · exact (smd_Ns h2).up (by omega)
  | caps b g s k =>
    obtain ⟨h1, h3, h2, h4⟩ := h
    refine .tup 3 _ (fun d hd => ?_) (by simp)
    simp only [List.mem_cons, List.not_mem_nil, or_false] at hd
    rcases hd with rfl | rfl | rfl | rfl | rfl
    · exact .str _ _
    · exact (smd_Ns h1).up (by omega)
    · exact smd_Gs h3
    · exact (smd_Ns h2).up (by omega)
    · exact smd_Gs h4
  | table rows =>
    refine .tup 3 _ (fun d hd => ?_) (by simp)
    simp only [List.mem_cons, List.not_mem_nil, or_false] at hd
    rcases hd with rfl | rfl
    · exact .str _ _
    · refine (SmD.tup 1 _ (fun d hd => ?_) (by have := h.2; simp; omega)).up (by omega)
      obtain ⟨r, hr, rfl⟩ := List.mem_map.mp hd
      exact smd_Ns (h.1 r hr).1
theorem smd_De {d : De} (h : d.ok) : SmD 7 d.d := by
  cases d with
  | one k c =>
    refine .tup 6 _ (fun d hd => ?_) (by simp)
    simp only [List.mem_cons, List.not_mem_nil, or_false] at hd
    rcases hd with rfl | rfl | rfl
    · exact .str _ _
    · exact .int _ _
    · exact (smd_Ch h.2).up (by omega)
  | split k cs =>
    refine .tup 6 _ (fun d hd => ?_) (by simp)
    simp only [List.mem_cons, List.not_mem_nil, or_false] at hd
    rcases hd with rfl | rfl | rfl
    · exact .str _ _
    · exact .int _ _
    · refine .tup 5 _ (fun d hd => ?_) (by simp)
      simp only [List.mem_cons, List.not_mem_nil, or_false] at hd
      rcases hd with rfl | rfl
      · exact .str _ _
      · refine .tup 4 _ (fun d hd => ?_) (by have := h.2.2; simp; omega)
        obtain ⟨c, hc, rfl⟩ := List.mem_map.mp hd
        exact smd_Ch (h.2.1 c hc)
  | offer a b c =>
    refine .tup 6 _ (fun d hd => ?_) (by simp)
    simp only [List.mem_cons, List.not_mem_nil, or_false] at hd
    rcases hd with rfl | rfl | rfl | rfl <;> first | exact .str _ _ | exact .int _ _
  | cancel a =>
    refine .tup 6 _ (fun d hd => ?_) (by simp)
    simp only [List.mem_cons, List.not_mem_nil, or_false] at hd
    rcases hd with rfl | rfl <;> first | exact .str _ _ | exact .int _ _
  | undo =>
    refine .tup 6 _ (fun d hd => ?_) (by simp)
    simp only [List.mem_cons, List.not_mem_nil, or_false] at hd
    rw [hd]; exact .str _ _
  | redo =>
    refine .tup 6 _ (fun d hd => ?_) (by simp)
    simp only [List.mem_cons, List.not_mem_nil, or_false] at hd
    rw [hd]; exact .str _ _
theorem smd_Des {ds : List De} (h : ∀ d ∈ ds, d.ok) (hl : ds.length ≤ 50) : SmD 8 (.tup (ds.map De.d)) := .tup 7 _ (fun d hd => by obtain ⟨c, hc, rfl⟩ := List.mem_map.mp hd; exact smd_De (h c hc)) (by simp; omega)
/-- reading back what was written gives the deeds -/
theorem back_ok {ds : List De} (h : ∀ d ∈ ds, d.ok) (hs : ∀ d ∈ ds, d.sm) (hl : ds.length ≤ 50) : pfn (f__law_same 12) [.tup (ds.map De.d), .tup (ds.map De.d)] = some (.bl true) := by
  have w := same_ok 11 _ ((smd_Des h hl).up (by omega))
  unfold pfn; rw [w]; rfl
end K98

namespace K98
open PySem PySem.Spec PyProof.Rows L2 MV
/-! ## draws -/
def mlI (ds : List Int) : Dat := .mls (ds.map Dat.int)
theorem take_ok (ds : List Int) (m : Int) (hm : 0 < m) : ∃ r ds', f__law_take [mlI ds, .int m] = .ok (.int r) [some (mlI ds')] ∧ 0 ≤ r ∧ r < m := by
  have hz : (mlI ds).frz = .lst (ds.map Dat.int) := frz_mls (by rw [List.all_eq_true]; intro d hd; obtain ⟨g, _, rfl⟩ := List.mem_map.mp hd; rfl)
  have hzz : (ds.map Dat.int).all Dat.fz = true := by rw [List.all_eq_true]; intro d hd; obtain ⟨g, _, rfl⟩ := List.mem_map.mp hd; rfl
  rcases List.eq_nil_or_concat ds with e | ⟨init, x, e⟩
  · subst e
    refine ⟨0, [], ?_, by omega, hm⟩
    have s0 : g__law_take_s0 [some (mlI []), some (.int m)] = .rt (.int 0) [some (mlI []), some (.int m)] := by
      simp only [g__law_take_s0, oIf, mZT, frzR, List.map_cons, List.map_nil, Option.map_some, hz, sTruB, sBin, sArgs, sCons, sNil, sVar, sC, List.getElem?_cons_zero, fz_lst, if_true, Option.bind_some, dLen, List.length_nil, dEq, Int.cast_ofNat_Int, BEq.rfl, Rs.out, oRet, mP, Rs.of]
    simp only [f__law_take, g__law_take, fnO, fnOf, oSeq, Out.then, List.map_cons, List.map_nil, List.length_cons, List.length_nil, Nat.reduceAdd, Nat.reduceSub, List.replicate_zero, List.append_nil, if_true, s0, oget, List.getElem?_cons_zero]
  · subst e
    have hm' : decide (0 < m) = true := decide_eq_true hm
    refine ⟨x % m, init, ?_, Int.emod_nonneg _ (by omega), Int.emod_lt_of_pos _ hm⟩
    have hne : ((((init.concat x).length : Nat) : Int) == 0) = false := by simp; omega
    have s0 : g__law_take_s0 [some (mlI (init.concat x)), some (.int m)] = .nx [some (mlI (init.concat x)), some (.int m)] := by
      simp only [g__law_take_s0, oIf, mZT, frzR, List.map_cons, List.map_nil, Option.map_some, hz, sTruB, sBin, sArgs, sCons, sNil, sVar, sC, List.getElem?_cons_zero, fz_lst, if_true, Option.bind_some, dLen, List.length_map, dEq, hne, Rs.of, Rs.out, Bool.false_eq_true, if_false, oNil]
    have s1 : g__law_take_s1 [some (mlI (init.concat x)), some (.int m)] = .rt (.int (x % m)) [some (mlI init), some (.int m)] := by
      have hg : ((init.concat x).map Dat.int).getLast? = some (.int x) := by simp
      have hd : ((init.concat x).map Dat.int).dropLast = init.map Dat.int := by simp
      simp only [g__law_take_s1, oRet, mBin, mArgs, mCons, mNil, mPop, plVar, List.getElem?_cons_zero, Rs.bind, plGet, Dat.at, mlI, hzz, if_true, hg, hd, plPut, Dat.put, List.set_cons_zero, dInt, Rs.of, mP, sVar, List.getElem?_cons_succ, fz_int, dMod, dI2, hm, Rs.out]
    simp only [f__law_take, g__law_take, fnO, fnOf, oSeq, Out.then, List.map_cons, List.map_nil, List.length_cons, List.length_nil, Nat.reduceAdd, Nat.reduceSub, List.replicate_zero, List.append_nil, if_true, s0, s1, oget, List.getElem?_cons_zero]
theorem getset {ρ : Rho} {i : Nat} {x : Option Dat} (h : i < ρ.length) : (ρ.set i x)[i]? = some x := List.getElem?_set_self h
/-- a call of take: the draws in slot i -/
theorem call_take {ρ : Rho} {i : Nat} {ds : List Int} {m : Int} (h : ρ[i]? = some (some (mlI ds))) (hm : 0 < m) : ∃ r ds', mFn [0] 2 f__law_take (agSl i (agFr (mP (sC (.int m))) agNil)) ρ = .ok (.int r) (ρ.set i (some (mlI ds'))) ∧ 0 ≤ r ∧ r < m := by
  obtain ⟨r, ds', e, h1, h2⟩ := take_ok ds m hm
  refine ⟨r, ds', ?_, h1, h2⟩
  simp only [mFn, agSl, h, agFr, mP, sC, Rs.of, Rs.bind, agNil, List.length_cons, List.length_nil, Nat.reduceAdd, slsOf, ndB, conts, Option.bind_some, e]
  rfl
/-- a generator: script in slot 0, draws in slot 1 -/
def Gn (S : Dat) (P : Dat → Prop) (m : Rho → Rs Dat) : Prop := ∀ (ρ : Rho) (ds : List Int), ρ[0]? = some (some S) → ρ[1]? = some (some (mlI ds)) → ∃ d ds', m ρ = .ok d (ρ.set 1 (some (mlI ds'))) ∧ P d
theorem gn_take (S : Dat) (m : Int) (hm : 0 < m) : Gn S (fun d => ∃ r, d = .int r ∧ 0 ≤ r ∧ r < m) (mFn [0] 2 f__law_take (agSl 1 (agFr (mP (sC (.int m))) agNil))) := fun ρ ds h0 h1 => by
  obtain ⟨r, ds', e, a, b⟩ := call_take h1 hm
  exact ⟨_, ds', e, r, rfl, a, b⟩
theorem gn_o {S : Dat} {P : Dat → Prop} {m : Rho → Rs Dat} (h : Gn S P m) (hz : ∀ d, P d → d.fz = true) : Gn S P (mO m) := fun ρ ds h0 h1 => by
  obtain ⟨d, ds', e, p⟩ := h ρ ds h0 h1
  exact ⟨d, ds', by simp only [mO, e, Rs.bind, hz d p, if_true], p⟩
/-- a call of a generator with the script and the draws -/
theorem gn_call2 {S : Dat} (hS : S.fz = true) {P : Dat → Prop} {f : List Dat → Rs Dat} (h : ∀ ds, ∃ d ds', f [S, mlI ds] = .ok d [some (mlI ds')] ∧ P d) : Gn S P (mFn [1] 2 f (agFr (mP (sVar 0)) (agSl 1 agNil))) := fun ρ ds h0 h1 => by
  obtain ⟨d, ds', e, p⟩ := h ds
  refine ⟨d, ds', ?_, p⟩
  simp only [mFn, agSl, h0, h1, agFr, mP, sVar, hS, if_true, Rs.of, Rs.bind, agNil, List.length_cons, List.length_nil, Nat.reduceAdd, slsOf, ndB, conts, Option.bind_some, e]
  rfl
theorem gn_call3 {S : Dat} (hS : S.fz = true) {P : Dat → Prop} {f : List Dat → Rs Dat} {k : Int} (h : ∀ ds, ∃ d ds', f [S, mlI ds, .int k] = .ok d [some (mlI ds')] ∧ P d) : Gn S P (mFn [1] 3 f (agFr (mP (sVar 0)) (agSl 1 (agFr (mP (sC (.int k))) agNil)))) := fun ρ ds h0 h1 => by
  obtain ⟨d, ds', e, p⟩ := h ds
  refine ⟨d, ds', ?_, p⟩
  simp only [mFn, agSl, h0, h1, agFr, mP, sC, sVar, hS, if_true, Rs.of, Rs.bind, agNil, List.length_cons, List.length_nil, Nat.reduceAdd, slsOf, ndB, conts, Option.bind_some, e]
  rfl
/-- a comprehension over a generator -/
theorem gn_lc {S : Dat} {P : Dat → Prop} {te : Rho → Rs Dat} (h : Gn S P te) {j : Nat} (hj : 2 ≤ j) : ∀ (items : List Dat) (ρ : Rho) (ds : List Int), ρ[0]? = some (some S) → ρ[1]? = some (some (mlI ds)) → ∃ ys ds', lcGoM [j] [j] gNm mYes te items (wipeR ρ [j]) = .ok ys ((wipeR ρ [j]).set 1 (some (mlI ds'))) ∧ (∀ y ∈ ys, P y) ∧ ys.length = items.length
  | [], ρ, ds, h0, h1 => by
    refine ⟨[], ds, ?_, by simp, rfl⟩
    have : (wipeR ρ [j])[1]? = some (some (mlI ds)) := by rw [wipeR_get (by simp; omega)]; exact h1
    rw [set_self this]; rfl
  | x :: items, ρ, ds, h0, h1 => by
    have w0 : ((wipeR ρ [j]).set j (some x))[0]? = some (some S) := by
      rw [List.getElem?_set_ne (by omega), wipeR_get (by simp; omega)]; exact h0
    have w1 : ((wipeR ρ [j]).set j (some x))[1]? = some (some (mlI ds)) := by
      rw [List.getElem?_set_ne (by omega), wipeR_get (by simp; omega)]; exact h1
    obtain ⟨y, ds1, e, p⟩ := h _ ds w0 w1
    have hl : 1 < ρ.length := (List.getElem?_eq_some_iff.mp h1).1
    obtain ⟨ys, ds2, e2, p2, l2⟩ := gn_lc h hj items (ρ.set 1 (some (mlI ds1))) ds1 (by rw [List.getElem?_set_ne (by omega)]; exact h0) (List.getElem?_set_self hl)
    have ew : wipeR (((wipeR ρ [j]).set j (some x)).set 1 (some (mlI ds1))) [j] = wipeR (ρ.set 1 (some (mlI ds1))) [j] := by
      simp only [wipeR]
      rw [List.set_set, List.set_comm _ _ (by omega : 1 ≠ j), List.set_set, List.set_comm _ _ (by omega : j ≠ 1)]
    have ew2 : (wipeR (ρ.set 1 (some (mlI ds1))) [j]).set 1 (some (mlI ds2)) = (wipeR ρ [j]).set 1 (some (mlI ds2)) := by
      simp only [wipeR]
      rw [List.set_comm _ _ (by omega : 1 ≠ j), List.set_set]
    refine ⟨y :: ys, ds2, ?_, fun z hz => ?_, by simp [l2]⟩
    · simp only [lcGoM, gNm, mYes, setR, e]
      rw [ew, e2]
      simp only [ew2]
    · rcases List.mem_cons.mp hz with rfl | hz
      · exact p
      · exact p2 z hz
end K98

namespace K98
open PySem PySem.Spec PyProof.Rows L2 MV
def scr (ns : List Int) : Dat := .frl (ns.map Dat.int)
def PN (d : Dat) : Prop := ∃ i, d = .int i ∧ N60 i
theorem p60 : (10 : Int) ^ 60 = 1000000000000000000000000000000000000000000000000000000000000 := by decide +kernel
theorem n60_of {i : Int} (h : -(10 : Int) ^ 60 < i) (h2 : i < (10 : Int) ^ 60) : N60 i := by
  unfold N60
  have e : ((10 ^ 60 : Nat) : Int) = (10 : Int) ^ 60 := by decide +kernel
  omega
theorem n60_small {i : Int} (h : -1000 ≤ i) (h2 : i ≤ 1000) : N60 i := n60_of (by rw [p60]; omega) (by rw [p60]; omega)
theorem dPow60 : dPow (.int 10) (.int 60) = some (.int ((10 : Int) ^ 60)) := by
  have h : cPow 10 60 := by decide +kernel
  simp only [dPow, dI2, h, if_true]
  rfl
theorem dPow59 : dPow (.int 10) (.int 59) = some (.int ((10 : Int) ^ 59)) := by
  have h : cPow 10 59 := by decide +kernel
  simp only [dPow, dI2, h, if_true]
  rfl
theorem number_ok (ns : List Int) (ds : List Int) : ∃ d ds', f__law_number [scr ns, mlI ds] = .ok d [some (mlI ds')] ∧ PN d := by
  obtain ⟨k, d1, e1, k0, k1⟩ := call_take (ρ := [some (scr ns), some (mlI ds), none, none]) (i := 1) (ds := ds) (m := 8) rfl (by omega)
  obtain ⟨v, d2, e2, v0, v1⟩ := call_take (ρ := [some (scr ns), some (mlI d1), some (.int k), none]) (i := 1) (ds := d1) (m := 14) rfl (by omega)
  have s0 : g__law_number_s0 [some (scr ns), some (mlI ds), none, none] = .nx [some (scr ns), some (mlI d1), some (.int k), none] := by
    simp only [g__law_number_s0, oSet, e1, Rs.out, List.set_cons_succ, List.set_cons_zero]
  have s1 : g__law_number_s1 [some (scr ns), some (mlI d1), some (.int k), none] = .nx [some (scr ns), some (mlI d2), some (.int k), some (.int v)] := by
    simp only [g__law_number_s1, oSet, e2, Rs.out, List.set_cons_succ, List.set_cons_zero]
  -- the rest: only the value counts
  have fin : ∀ {d : Dat} {ρ : Rho}, (oSeq g__law_number_s2 (oSeq g__law_number_s3 (oSeq g__law_number_s4 g__law_number_s5)) [some (scr ns), some (mlI d2), some (.int k), some (.int v)]) = .rt d [some (scr ns), some (mlI d2), some (.int k), some (.int v)] → PN d → ∃ d ds', f__law_number [scr ns, mlI ds] = .ok d [some (mlI ds')] ∧ PN d := fun {d ρ} h p => by
    refine ⟨d, d2, ?_, p⟩
    have hg : g__law_number [some (scr ns), some (mlI ds), none, none] = .rt d [some (scr ns), some (mlI d2), some (.int k), some (.int v)] := by
      rw [← h]
      simp only [g__law_number, oSeq, Out.then, s0, s1]
    simp only [f__law_number, fnO, fnOf, List.map_cons, List.map_nil, List.length_cons, List.length_nil, Nat.reduceAdd, Nat.reduceSub, List.replicate_succ, List.replicate_zero, List.cons_append, List.nil_append, if_true, hg, oget, List.getElem?_cons_succ, List.getElem?_cons_zero]
  by_cases hk1 : k = 1
  · subst hk1
    refine fin (d := .int (-1 - v)) (ρ := []) ?_ ⟨_, rfl, n60_small (by omega) (by omega)⟩
    simp only [oSeq, Out.then, g__law_number_s2, oIf, mP, sTruB, sBin, sUn, sVar, sC, List.getElem?_cons_succ, List.getElem?_cons_zero, fz_int, if_true, Option.bind_some, dEq, BEq.rfl, Rs.of, Rs.out, oRet, dNeg, dSub, dI0]
  · have b1 : (k == 1) = false := beq_eq_false_iff_ne.mpr hk1
    have t2 : g__law_number_s2 [some (scr ns), some (mlI d2), some (.int k), some (.int v)] = .nx [some (scr ns), some (mlI d2), some (.int k), some (.int v)] := by
      simp only [g__law_number_s2, oIf, mP, sTruB, sBin, sVar, sC, List.getElem?_cons_succ, List.getElem?_cons_zero, fz_int, if_true, Option.bind_some, dEq, b1, Rs.of, Rs.out, Bool.false_eq_true, if_false, oNil]
    by_cases hk2 : k = 2
    · subst hk2
      have hx : ∃ x, L2.atI [Dat.int ((10 : Int) ^ 60 - 1), .int (1 - (10 : Int) ^ 60), .int 0, .int ((10 : Int) ^ 59)] (v % 4) = some (.int x) ∧ N60 x := by
        have h0 : 0 ≤ v % 4 := Int.emod_nonneg _ (by omega)
        have h4 : v % 4 < 4 := Int.emod_lt_of_pos _ (by omega)
        have h59 : (10 : Int) ^ 59 = 100000000000000000000000000000000000000000000000000000000000 := by decide +kernel
        rcases (by omega : v % 4 = 0 ∨ v % 4 = 1 ∨ v % 4 = 2 ∨ v % 4 = 3) with e | e | e | e
        · exact ⟨_, atI_nat (k := 0) e rfl, n60_of (by rw [p60]; omega) (by omega)⟩
        · exact ⟨_, atI_nat (k := 1) e rfl, n60_of (by rw [p60]; omega) (by rw [p60]; omega)⟩
        · exact ⟨_, atI_nat (k := 2) e rfl, n60_small (by omega) (by omega)⟩
        · exact ⟨_, atI_nat (k := 3) e rfl, n60_of (by rw [p60, h59]; omega) (by rw [p60, h59]; omega)⟩
      obtain ⟨x, hx, hN⟩ := hx
      refine fin (d := .int x) (ρ := []) ?_ ⟨_, rfl, hN⟩
      have h40 : (0 : Int) < 4 := by omega
      simp only [oSeq, t2, Out.then, g__law_number_s3, oIf, mP, sTruB, sBin, sVar, sC, List.getElem?_cons_succ, List.getElem?_cons_zero, fz_int, if_true, Option.bind_some, dEq, BEq.rfl, Rs.of, Rs.out, oRet, sF, sLstF, sCons, sNil, dPow60, dPow59, dSub, dI0, List.length_cons, List.length_nil, Nat.reduceAdd, Nat.reduceLeDiff, Option.map_some, sArgs, dInt, dMod, dI2, h40, dIx, hx]
    · have b2 : (k == 2) = false := beq_eq_false_iff_ne.mpr hk2
      have t3 : g__law_number_s3 [some (scr ns), some (mlI d2), some (.int k), some (.int v)] = .nx [some (scr ns), some (mlI d2), some (.int k), some (.int v)] := by
        simp only [g__law_number_s3, oIf, mP, sTruB, sBin, sVar, sC, List.getElem?_cons_succ, List.getElem?_cons_zero, fz_int, if_true, Option.bind_some, dEq, b2, Rs.of, Rs.out, Bool.false_eq_true, if_false, oNil]
      have t5 : g__law_number_s5 [some (scr ns), some (mlI d2), some (.int k), some (.int v)] = .rt (.int v) [some (scr ns), some (mlI d2), some (.int k), some (.int v)] := by
        simp only [g__law_number_s5, oRet, mP, sVar, List.getElem?_cons_succ, List.getElem?_cons_zero, fz_int, if_true, Rs.of, Rs.out]
      by_cases hk3 : k = 3 ∧ ns ≠ []
      · obtain ⟨hk3, hne⟩ := hk3
        subst hk3
        have hl : 0 < ns.length := List.length_pos_iff.mpr hne
        have hl1 : decide ((0 : Int) < ((ns.length : Nat) : Int)) = true := decide_eq_true (by omega)
        have hl2 : (0 : Int) < ((ns.length : Nat) : Int) := by omega
        have h60 : (0 : Int) < (10 : Int) ^ 60 := by rw [p60]; omega
        have hj0 : 0 ≤ v % ((ns.length : Nat) : Int) := Int.emod_nonneg _ (by omega)
        have hj1 : v % ((ns.length : Nat) : Int) < ((ns.length : Nat) : Int) := Int.emod_lt_of_pos _ hl2
        have hi : ∃ x, L2.atI (ns.map Dat.int) (v % ((ns.length : Nat) : Int)) = some (.int x) := by
          refine ⟨ns[(v % ((ns.length : Nat) : Int)).toNat]'(by omega), atI_nat (k := (v % ((ns.length : Nat) : Int)).toNat) (by omega) ?_⟩
          rw [List.getElem?_map, List.getElem?_eq_getElem (by omega)]; rfl
        obtain ⟨x, hi⟩ := hi
        refine fin (d := .int (x % (10 : Int) ^ 60)) (ρ := []) ?_ ⟨_, rfl, n60_of (by have := Int.emod_nonneg x (b := (10 : Int) ^ 60) (by omega); omega) (Int.emod_lt_of_pos _ h60)⟩
        simp only [oSeq, t2, t3, Out.then]
        simp only [g__law_number_s4, oIf, mP, sAnd, sTruB, sBin, sVar, sC, List.getElem?_cons_succ, List.getElem?_cons_zero, scr, fz_int, fz_frl, if_true, Option.bind_some, dEq, BEq.rfl, Rs.of, Rs.out, oRet, sCons, sNil, sArgs, dLen, List.length_map, dGt, dI0, hl1, dInt, dMod, dI2, hl2, dIx, hi, dPow60, h60, decide_true]
      · have t4 : g__law_number_s4 [some (scr ns), some (mlI d2), some (.int k), some (.int v)] = .nx [some (scr ns), some (mlI d2), some (.int k), some (.int v)] := by
          by_cases h3 : k = 3
          · have hn : ns = [] := by
              by_cases e : ns = []
              · exact e
              · exact absurd ⟨h3, e⟩ hk3
            subst h3 hn
            simp only [g__law_number_s4, oIf, mP, sAnd, sTruB, sBin, sVar, sC, sArgs, sCons, sNil, scr, List.map_nil, dLen, List.length_nil, dGt, dI0, List.getElem?_cons_succ, List.getElem?_cons_zero, fz_int, fz_frl, if_true, Option.bind_some, dEq, BEq.rfl, Rs.of, Rs.out, Int.cast_ofNat_Int, Int.reduceLT, decide_false, Bool.false_eq_true, if_false, oNil]
          · have b3 : (k == 3) = false := beq_eq_false_iff_ne.mpr h3
            simp only [g__law_number_s4, oIf, mP, sAnd, sTruB, sBin, sVar, sC, List.getElem?_cons_succ, List.getElem?_cons_zero, fz_int, if_true, Option.bind_some, dEq, b3, Rs.of, Rs.out, Bool.false_eq_true, if_false, oNil]
        refine fin (d := .int v) (ρ := []) ?_ ⟨_, rfl, n60_small (by omega) (by omega)⟩
        simp only [oSeq, t2, t3, t4, t5, Out.then]
theorem gn_number (ns : List Int) : Gn (scr ns) PN (mO (mFn [1] 2 f__law_number (agFr (mP (sVar 0)) (agSl 1 agNil)))) := gn_o (gn_call2 rfl (number_ok ns)) fun d ⟨i, e, _⟩ => by rw [e]; rfl
end K98

namespace K98
open PySem PySem.Spec PyProof.Rows L2 MV
theorem T_wN {ns : List Int} (h : ∀ n ∈ ns, N60 n) : T (wN ns) ≤ ns.length * 62 := by
  induction ns with
  | nil => simp [wN, T]
  | cons n ns ih =>
    have h1 := nt_len (h n (by simp))
    have h2 := ih fun z hz => h z (List.mem_cons_of_mem _ hz)
    simp only [wN, List.map_cons] at h2 ⊢
    rw [T_cons]
    simp only [List.length_cons, Nat.succ_mul]; omega
/-- a drawn list of numbers -/
def GL (l : List Int) : Prop := okN l ∧ T (wN l) ≤ 250
def PL (k : Int) (d : Dat) : Prop := ∃ l, d = dNs l ∧ GL l ∧ (0 < k → l ≠ [])
theorem PL_fz {k : Int} {d : Dat} (h : PL k d) : d.fz = true := by obtain ⟨l, rfl, _⟩ := h; rfl
def sq30 : List Int := (List.range 30).map fun k => ((k * k : Nat) : Int) % 41
theorem sq30_ok : GL sq30 := ⟨⟨fun n hn => by
  obtain ⟨k, _, rfl⟩ := List.mem_map.mp hn
  have h1 := Int.emod_nonneg ((k * k : Nat) : Int) (b := 41) (by omega)
  have h2 := Int.emod_lt_of_pos ((k * k : Nat) : Int) (b := 41) (by omega)
  exact n60_small (by omega) (by omega), by unfold sq30; rw [List.length_map, List.length_range]; omega⟩, by decide +kernel⟩
theorem ints_of {ys : List Dat} (h : ∀ y ∈ ys, PN y) : ∃ l : List Int, ys = l.map Dat.int ∧ ∀ n ∈ l, N60 n := by
  induction ys with
  | nil => exact ⟨[], rfl, by simp⟩
  | cons y ys ih =>
    obtain ⟨i, rfl, hi⟩ := h y (by simp)
    obtain ⟨l, rfl, hl⟩ := ih fun z hz => h z (List.mem_cons_of_mem _ hz)
    exact ⟨i :: l, rfl, fun n hn => by
      rcases List.mem_cons.mp hn with rfl | hn
      · exact hi
      · exact hl n hn⟩
theorem cMul_small {i j : Int} (h1 : -1000000000000000000 < i) (h2 : i < 1000000000000000000) : cMul i j := by
  have e : (2 : Int) ^ 64 = 18446744073709551616 := by decide +kernel
  unfold cMul
  rw [e]
  exact Or.inl (And.intro (by omega) (by omega))
theorem dMul_of {i j : Int} (h : cMul i j) : dMul (.int i) (.int j) = some (.int (i * j)) := if_pos h
theorem dMod_of {i j : Int} (h : 0 < j) : dMod (.int i) (.int j) = some (.int (i % j)) := if_pos h
theorem bin_of {g : Dat → Dat → Option Dat} {fa fb : Rho → Option Dat} {ρ : Rho} {x y : Dat} (h1 : fa ρ = some x) (h2 : fb ρ = some y) : sBin g fa fb ρ = g x y := by unfold sBin; rw [h1]; simp only [Option.bind_some, h2]
theorem arg1_of {g : List Dat → Option Dat} {fa : Rho → Option Dat} {ρ : Rho} {x : Dat} (h1 : fa ρ = some x) : sArgs g (sCons fa sNil) ρ = g [x] := by unfold sArgs sCons sNil; simp only [h1, Option.bind_some]
theorem x5 (a b c : Dat) {ρ : Rho} (h : sVar 4 ρ = some a) (h1 : dMul a a = some b) (h2 : dInt [b] = some c) {d : Dat} (h3 : dMod c (.int 41) = some d) : g__law_numbers_1 ρ = some d :=
  (bin_of (g := dMod) (x := c) (y := .int 41) ((arg1_of (g := dInt) (x := b) ((bin_of h h).trans h1)).trans h2) rfl).trans h3
theorem sq_one {k : Nat} (hk : k < 30) {ρ : Rho} (h : ρ[4]? = some (some (.int (k : Int)))) : g__law_numbers_1 ρ = some (.int (((k * k : Nat) : Int) % 41)) := by
  have hm : cMul (k : Int) (k : Int) := cMul_small (by omega) (by omega)
  have hv : sVar 4 ρ = some (.int (k : Int)) := by simp only [sVar, h, fz_int, if_true]
  have h41 : (0 : Int) < 41 := by omega
  have e := x5 (.int (k : Int)) (.int ((k : Int) * k)) (.int ((k : Int) * k)) hv (dMul_of hm) rfl (dMod_of h41)
  rw [e, Int.natCast_mul]
theorem sq_lc (ρ : Rho) (hρ : ρ.length = 5) : lcGo ρ [4] gNm sYes g__law_numbers_1 (rng 0 30) = some (sq30.map Dat.int) := by
  have h := lcGo_rng (ρ := ρ) (i := 4) (te := g__law_numbers_1) (fun k => .int (((k * k : Nat) : Int) % 41)) 30 (fun k hk => sq_one hk (List.getElem?_set_self (by omega)))
  rw [h]
  unfold sq30
  rw [List.map_map]
  rfl
theorem numbers_ok (ns : List Int) (k : Int) (hk0 : 0 ≤ k) (hk1 : k ≤ 1) (ds : List Int) : ∃ d ds', f__law_numbers [scr ns, mlI ds, .int k] = .ok d [some (mlI ds')] ∧ PL k d := by
  obtain ⟨r, d1, e1, r0, r1⟩ := call_take (ρ := [some (scr ns), some (mlI ds), some (.int k), none, none]) (i := 1) (ds := ds) (m := 4) rfl (by omega)
  obtain ⟨v, d2, e2, v0, v1⟩ := call_take (ρ := [some (scr ns), some (mlI d1), some (.int k), some (.int (k + r)), none]) (i := 1) (ds := d1) (m := 30) rfl (by omega)
  have hx : L2.atI [Dat.int 0, .int 1, .int 2, .int 3] r = some (.int r) := by
    rcases (by omega : r = 0 ∨ r = 1 ∨ r = 2 ∨ r = 3) with e | e | e | e <;> subst e
    · exact atI_nat (k := 0) rfl rfl
    · exact atI_nat (k := 1) rfl rfl
    · exact atI_nat (k := 2) rfl rfl
    · exact atI_nat (k := 3) rfl rfl
  have s0 : g__law_numbers_s0 [some (scr ns), some (mlI ds), some (.int k), none, none] = .nx [some (scr ns), some (mlI d1), some (.int k), some (.int (k + r)), none] := by
    simp only [g__law_numbers_s0, oSet, mBin, mP, sVar, sF, sLstF, sCons, sNil, sC, mO, List.getElem?_cons_succ, List.getElem?_cons_zero, fz_int, if_true, Rs.of, Rs.bind, Option.bind_some, Option.map_some, List.length_cons, List.length_nil, Nat.reduceAdd, Nat.reduceLeDiff, e1, dIx, hx, dAdd, Rs.out, List.set_cons_succ, List.set_cons_zero]
  by_cases hv : v = 7
  · subst hv
    have e3 := sq_lc
    have s1 : g__law_numbers_s1 [some (scr ns), some (mlI d1), some (.int k), some (.int (k + r)), none] = .rt (dNs sq30) [some (scr ns), some (mlI d2), some (.int k), some (.int (k + r)), none] := by
      have h30 : (30 : Int) ≤ 1000000 ∧ (-1000000 : Int) ≤ 30 := by omega
      simp only [g__law_numbers_s1, oIf, mTru, mBin, mO, e2, Rs.bind, fz_int, if_true, List.set_cons_succ, List.set_cons_zero, mP, sC, Rs.of, dEq, BEq.rfl, Rs.out, oRet, sArgs, sCons, sNil, sF, sLC, wipeR, sItA, Option.bind_some, rng1]
      rw [if_pos h30]
      simp only [Option.bind_some, Int.reduceToNat, e3 [some (scr ns), some (mlI d2), some (.int k), some (.int (k + r)), none] rfl, Option.map_some, dTuple, Rs.of, Rs.out, dNs]
    refine ⟨dNs sq30, d2, ?_, sq30, rfl, sq30_ok, fun _ e => by have := congrArg List.length e; unfold sq30 at this; rw [List.length_map, List.length_range] at this; cases this⟩
    simp only [f__law_numbers, g__law_numbers, fnO, fnOf, oSeq, Out.then, List.map_cons, List.map_nil, List.length_cons, List.length_nil, Nat.reduceAdd, Nat.reduceSub, List.replicate_succ, List.replicate_zero, List.cons_append, List.nil_append, if_true, s0, s1, oget, List.getElem?_cons_succ, List.getElem?_cons_zero]
  · have bv : (v == 7) = false := beq_eq_false_iff_ne.mpr hv
    have s1 : g__law_numbers_s1 [some (scr ns), some (mlI d1), some (.int k), some (.int (k + r)), none] = .nx [some (scr ns), some (mlI d2), some (.int k), some (.int (k + r)), none] := by
      simp only [g__law_numbers_s1, oIf, mTru, mBin, mO, e2, Rs.bind, fz_int, if_true, List.set_cons_succ, List.set_cons_zero, mP, sC, Rs.of, dEq, bv, Rs.out, Bool.false_eq_true, if_false, oNil]
    obtain ⟨ys, d3, e3, hP, hl⟩ := gn_lc (te := g__law_numbers_2) (j := 4) (gn_number ns) (by omega) (rng 0 (k + r).toNat) [some (scr ns), some (mlI d2), some (.int k), some (.int (k + r)), none] d2 rfl rfl
    obtain ⟨l, rfl, hN⟩ := ints_of hP
    simp only [wipeR, List.set_cons_succ, List.set_cons_zero] at e3
    have hlen : l.length = (k + r).toNat := by rw [rng_length] at hl; simpa using hl
    have s2 : g__law_numbers_s2 [some (scr ns), some (mlI d2), some (.int k), some (.int (k + r)), none] = .rt (dNs l) [some (scr ns), some (mlI d3), some (.int k), some (.int (k + r)), none] := by
      have hr : (k + r) ≤ 1000000 ∧ (-1000000 : Int) ≤ (k + r) := by omega
      simp only [g__law_numbers_s2, oRet, mArgs, mCons, mNil, mFz, mLC, mItA, mP, sVar, List.getElem?_cons_succ, List.getElem?_cons_zero, fz_int, if_true, Rs.of, Rs.bind, rng1]
      rw [if_pos hr]
      simp only [wipeR, List.set_cons_succ, List.set_cons_zero, e3, dTuple, Rs.of, Rs.out, dNs]
    refine ⟨dNs l, d3, ?_, l, rfl, ⟨⟨hN, by omega⟩, by have := T_wN hN; omega⟩, fun hp e => by subst e; simp at hlen; omega⟩
    simp only [f__law_numbers, g__law_numbers, fnO, fnOf, oSeq, Out.then, List.map_cons, List.map_nil, List.length_cons, List.length_nil, Nat.reduceAdd, Nat.reduceSub, List.replicate_succ, List.replicate_zero, List.cons_append, List.nil_append, if_true, s0, s1, s2, oget, List.getElem?_cons_succ, List.getElem?_cons_zero]
theorem gn_numbers (ns : List Int) (k : Int) (hk0 : 0 ≤ k) (hk1 : k ≤ 1) : Gn (scr ns) (PL k) (mO (mFn [1] 3 f__law_numbers (agFr (mP (sVar 0)) (agSl 1 (agFr (mP (sC (.int k))) agNil))))) := gn_o (gn_call3 rfl (numbers_ok ns k hk0 hk1)) fun d h => PL_fz h
end K98

namespace K98
open PySem PySem.Spec PyProof.Rows L2 MV
/-! ## several drawn things in a row -/
def GnL (S : Dat) (P : List Dat → Prop) (m : Rho → Rs (List Dat)) : Prop := ∀ (ρ : Rho) (ds : List Int), ρ[0]? = some (some S) → ρ[1]? = some (some (mlI ds)) → ∃ l ds', m ρ = .ok l (ρ.set 1 (some (mlI ds'))) ∧ P l
theorem gnl_nil (S : Dat) : GnL S (fun l => l = []) mNil := fun ρ ds h0 h1 => ⟨[], ds, by rw [set_self h1]; rfl, rfl⟩
theorem gnl_cons {S : Dat} {P : Dat → Prop} {Q : List Dat → Prop} {m : Rho → Rs Dat} {r : Rho → Rs (List Dat)} (h : Gn S P m) (g : GnL S Q r) : GnL S (fun l => ∃ d t, l = d :: t ∧ P d ∧ Q t) (mCons m r) := fun ρ ds h0 h1 => by
  obtain ⟨d, d1, e1, p⟩ := h ρ ds h0 h1
  have hl : 1 < ρ.length := (List.getElem?_eq_some_iff.mp h1).1
  obtain ⟨t, d2, e2, q⟩ := g (ρ.set 1 (some (mlI d1))) d1 (by rw [List.getElem?_set_ne (by omega)]; exact h0) (List.getElem?_set_self hl)
  refine ⟨d :: t, d2, ?_, d, t, rfl, p, q⟩
  simp only [mCons, e1, Rs.bind, e2, List.set_set]
theorem gn_args {S : Dat} {Q : List Dat → Prop} {P : Dat → Prop} {g : List Dat → Option Dat} {r : Rho → Rs (List Dat)} (h : GnL S Q r) (k : ∀ l, Q l → ∃ d, g l = some d ∧ P d) : Gn S P (mArgs g r) := fun ρ ds h0 h1 => by
  obtain ⟨l, d1, e1, q⟩ := h ρ ds h0 h1
  obtain ⟨d, e2, p⟩ := k l q
  exact ⟨d, d1, by simp only [mArgs, e1, Rs.bind, e2, Rs.of], p⟩
theorem gn_c (S : Dat) (d : Dat) : Gn S (fun x => x = d) (mP (sC d)) := fun ρ ds h0 h1 => ⟨d, ds, by rw [set_self h1]; rfl, rfl⟩
/-- a comprehension, as a frozen list -/
theorem gn_mlc {S : Dat} {P : Dat → Prop} {n : Int} (hn : 0 < n) (hn2 : n ≤ 1000) {te : Rho → Rs Dat} (h : Gn S P te) {j : Nat} (hj : 2 ≤ j) (ρ : Rho) (ds : List Int) (h0 : ρ[0]? = some (some S)) (h1 : ρ[1]? = some (some (mlI ds))) :
    ∃ ys ds', mLC [j] [j] (mItA rng1 (mCons (mO (mFn [0] 2 f__law_take (agSl 1 (agFr (mP (sC (.int n))) agNil)))) mNil)) gNm mYes te ρ = .ok ys ((wipeR ρ [j]).set 1 (some (mlI ds'))) ∧ (∀ y ∈ ys, P y) ∧ (ys.length : Int) < n := by
  obtain ⟨r, d1, e1, r0, r1⟩ := call_take h1 hn
  have hl : 1 < ρ.length := (List.getElem?_eq_some_iff.mp h1).1
  obtain ⟨ys, d2, e2, p, l⟩ := gn_lc h hj (rng 0 r.toNat) (ρ.set 1 (some (mlI d1))) d1 (by rw [List.getElem?_set_ne (by omega)]; exact h0) (List.getElem?_set_self hl)
  have ew : (wipeR (ρ.set 1 (some (mlI d1))) [j]).set 1 (some (mlI d2)) = (wipeR ρ [j]).set 1 (some (mlI d2)) := by
    simp only [wipeR]
    rw [List.set_comm _ _ (by omega : 1 ≠ j), List.set_set]
  refine ⟨ys, d2, ?_, p, ?_⟩
  · have hr : r ≤ 1000000 ∧ (-1000000 : Int) ≤ r := by omega
    simp only [mLC, mItA, mCons, mNil, mO, e1, Rs.bind, fz_int, if_true, Rs.of, rng1]
    rw [if_pos hr]
    simp only [e2, ew]
  · rw [rng_length] at l
    omega
/-! ## groups -/
def PG (d : Dat) : Prop := ∃ g : Gr, d = dG g ∧ GL g.1 ∧ g.1 ≠ [] ∧ N60 g.2
theorem gn_group (ns : List Int) : Gn (scr ns) PG g__law_caps_1 := gn_args (gnl_cons (gn_numbers ns 1 (by omega) (by omega)) (gnl_cons (gn_number ns) (gnl_nil _))) fun l h => by
  obtain ⟨_, _, rfl, ⟨l1, rfl, g1, g2⟩, _, _, rfl, ⟨i, rfl, hi⟩, rfl⟩ := h
  exact ⟨dG (l1, i), rfl, (l1, i), rfl, g1, g2 (by omega), hi⟩
def GG (gs : List Gr) : Prop := okG gs ∧ T (wG gs) ≤ 700
theorem groups_of : ∀ {ys : List Dat}, (∀ y ∈ ys, PG y) → ∃ gs : List Gr, ys = gs.map dG ∧ (∀ g ∈ gs, GL g.1 ∧ g.1 ≠ [] ∧ N60 g.2)
  | [], _ => ⟨[], rfl, by simp⟩
  | y :: ys, h => by
    obtain ⟨g, rfl, hg⟩ := h y (by simp)
    obtain ⟨gs, rfl, hgs⟩ := groups_of (ys := ys) fun z hz => h z (List.mem_cons_of_mem _ hz)
    exact ⟨g :: gs, rfl, fun x hx => by
      rcases List.mem_cons.mp hx with rfl | hx
      · exact hg
      · exact hgs x hx⟩
theorem T_wG {gs : List Gr} (h : ∀ g ∈ gs, GL g.1 ∧ g.1 ≠ [] ∧ N60 g.2) : T (wG gs) ≤ gs.length * 320 := by
  induction gs with
  | nil => simp [wG, T]
  | cons g gs ih =>
    have h1 := h g (by simp)
    have h2 := ih fun z hz => h z (List.mem_cons_of_mem _ hz)
    have h3 := nt_len h1.2.2
    have h4 := h1.1.2
    have c1 : (Str.ofString "cap").length = 3 := by decide +kernel
    have c2 : (Str.ofString "of").length = 2 := by decide +kernel
    have e : wG (g :: gs) = [Str.ofString "cap", nt g.2, Str.ofString "of"] ++ wN g.1 ++ wG gs := by simp [wG]
    rw [e, T_append, T_append, T_cons, T_cons, T_cons, T_nil, c1, c2]
    simp only [List.length_cons, Nat.succ_mul]; omega
theorem gg_of {gs : List Gr} (h : ∀ g ∈ gs, GL g.1 ∧ g.1 ≠ [] ∧ N60 g.2) (hl : gs.length ≤ 2) : GG gs := ⟨⟨fun g hg => ⟨(h g hg).1.1, (h g hg).2.1, (h g hg).2.2⟩, by omega⟩, by have := T_wG h; omega⟩
def PGs (d : Dat) : Prop := ∃ gs, d = dGs gs ∧ GG gs
theorem tuple_lc {m : Rho → Rs (List Dat)} {ρ ρ' : Rho} {ys : List Dat} (h : m ρ = .ok ys ρ') : mArgs dTuple (mCons (mFz m) mNil) ρ = .ok (.tup ys) ρ' := by
  simp only [mArgs, mCons, mFz, mNil, h, Rs.bind, dTuple, Rs.of]
theorem lcaps_ok (ns : List Int) (ds : List Int) : ∃ d ds', f__law_caps [scr ns, mlI ds] = .ok d [some (mlI ds')] ∧ PGs d := by
  obtain ⟨ys, d1, e, p, l⟩ := gn_mlc (n := 3) (by omega) (by omega) (gn_group ns) (j := 2) (by omega) [some (scr ns), some (mlI ds), none] ds rfl rfl
  obtain ⟨gs, rfl, hg⟩ := groups_of p
  simp only [wipeR, List.set_cons_succ, List.set_cons_zero] at e
  refine ⟨dGs gs, d1, ?_, gs, rfl, gg_of hg (by simp at l; omega)⟩
  have s0 : g__law_caps_s0 [some (scr ns), some (mlI ds), none] = .rt (dGs gs) [some (scr ns), some (mlI d1), none] := by
    have t := tuple_lc e
    unfold g__law_caps_s0 oRet
    rw [t]; rfl
  simp only [f__law_caps, g__law_caps, fnO, fnOf, List.map_cons, List.map_nil, List.length_cons, List.length_nil, Nat.reduceAdd, Nat.reduceSub, List.replicate_succ, List.replicate_zero, List.cons_append, List.nil_append, if_true, s0, oget, List.getElem?_cons_succ, List.getElem?_cons_zero]
theorem gn_caps (ns : List Int) : Gn (scr ns) PGs (mO (mFn [1] 2 f__law_caps (agFr (mP (sVar 0)) (agSl 1 agNil)))) := gn_o (gn_call2 rfl (lcaps_ok ns)) fun d ⟨gs, e, _⟩ => by rw [e]; rfl
end K98

namespace K98
open PySem PySem.Spec PyProof.Rows L2 MV
/-! ## a drawn part -/
def PC (d : Dat) : Prop := ∃ c : Ch, d = c.d ∧ c.ok ∧ T c.w ≤ 2100
theorem kwl : (Str.ofString "maker").length = 5 ∧ (Str.ofString "sides").length = 5 ∧ (Str.ofString "trader").length = 6 ∧ (Str.ofString "caps").length = 4 ∧ (Str.ofString "table").length = 5 ∧ (Str.ofString "buys").length = 4 ∧ (Str.ofString "sells").length = 5 ∧ (Str.ofString "row").length = 3 := by decide +kernel
theorem pc_maker {r : Int} {b s : List Int} (hr : N60 r) (hb : GL b) (hs : GL s) : PC (Ch.maker r b s).d := ⟨_, rfl, ⟨hr, hb.1, hs.1⟩, by
  have h1 := nt_len hr
  have h2 := hb.2
  have h3 := hs.2
  obtain ⟨k1, k2, k3, k4, k5, k6, k7, k8⟩ := kwl
  simp only [Ch.w, T_append, T_cons, T_nil, k1, k6, k7]; omega⟩
theorem pc_sides {r p : Int} {b s : List Int} (hr : N60 r) (hb : GL b) (hp : N60 p) (hs : GL s) : PC (Ch.sides r b p s).d := ⟨_, rfl, ⟨hr, hb.1, hp, hs.1⟩, by
  have h1 := nt_len hr
  have h4 := nt_len hp
  have h2 := hb.2
  have h3 := hs.2
  obtain ⟨k1, k2, k3, k4, k5, k6, k7, k8⟩ := kwl
  simp only [Ch.w, T_append, T_cons, T_nil, k2, k6, k7]; omega⟩
theorem pc_trader {r p : Int} {b s : List Int} (hr : N60 r) (hp : N60 p) (hb : GL b) (hs : GL s) : PC (Ch.trader r p b s).d := ⟨_, rfl, ⟨hr, hp, hb.1, hs.1⟩, by
  have h1 := nt_len hr
  have h4 := nt_len hp
  have h2 := hb.2
  have h3 := hs.2
  obtain ⟨k1, k2, k3, k4, k5, k6, k7, k8⟩ := kwl
  simp only [Ch.w, T_append, T_cons, T_nil, k3, k6, k7]; omega⟩
theorem pc_caps {b s : List Int} {g h : List Gr} (hb : GL b) (hg : GG g) (hs : GL s) (hh : GG h) : PC (Ch.caps b g s h).d := ⟨_, rfl, ⟨hb.1, hg.1, hs.1, hh.1⟩, by
  have h1 := hg.2
  have h4 := hh.2
  have h2 := hb.2
  have h3 := hs.2
  obtain ⟨k1, k2, k3, k4, k5, k6, k7, k8⟩ := kwl
  simp only [Ch.w, T_append, T_cons, T_nil, k4, k6, k7]; omega⟩
theorem T_wR {rows : List (List Int)} (h : ∀ r ∈ rows, GL r ∧ r ≠ []) : T (wR rows) ≤ rows.length * 254 := by
  induction rows with
  | nil => simp [wR, T]
  | cons g gs ih =>
    have h1 := (h g (by simp)).1.2
    have h2 := ih fun z hz => h z (List.mem_cons_of_mem _ hz)
    obtain ⟨k1, k2, k3, k4, k5, k6, k7, k8⟩ := kwl
    have e : wR (g :: gs) = Str.ofString "row" :: (wN g ++ wR gs) := by simp [wR]
    rw [e, T_cons, T_append, k8]
    simp only [List.length_cons, Nat.succ_mul]; omega
theorem pc_table {rows : List (List Int)} (h : ∀ r ∈ rows, GL r ∧ r ≠ []) (hl : rows.length ≤ 3) : PC (Ch.table rows).d := ⟨_, rfl, ⟨fun r hr => ⟨(h r hr).1.1, (h r hr).2⟩, by omega⟩, by
  have h1 := T_wR h
  obtain ⟨k1, k2, k3, k4, k5, k6, k7, k8⟩ := kwl
  simp only [Ch.w, T_append, T_cons, T_nil, k5]; omega⟩
theorem rows_of : ∀ {ys : List Dat}, (∀ y ∈ ys, PL 1 y) → ∃ rows : List (List Int), ys = rows.map dNs ∧ (∀ r ∈ rows, GL r ∧ r ≠ [])
  | [], _ => ⟨[], rfl, by simp⟩
  | y :: ys, h => by
    obtain ⟨g, rfl, hg, hn⟩ := h y (by simp)
    obtain ⟨gs, rfl, hgs⟩ := rows_of (ys := ys) fun z hz => h z (List.mem_cons_of_mem _ hz)
    exact ⟨g :: gs, rfl, fun x hx => by
      rcases List.mem_cons.mp hx with rfl | hx
      · exact ⟨hg, hn (by omega)⟩
      · exact hgs x hx⟩
theorem lpart_ok (ns : List Int) (ds : List Int) : ∃ d ds', f__law_part [scr ns, mlI ds] = .ok d [some (mlI ds')] ∧ PC d := by
  obtain ⟨k, d1, e1, k0, k1⟩ := call_take (ρ := [some (scr ns), some (mlI ds), none, none, none, none, none]) (i := 1) (ds := ds) (m := 5) rfl (by omega)
  obtain ⟨_, d2, e2, a, rfl, ha, _⟩ := gn_call3 (S := scr ns) rfl (numbers_ok ns 0 (by omega) (by omega)) [some (scr ns), some (mlI d1), some (.int k), none, none, none, none] d1 rfl rfl
  obtain ⟨_, d3, e3, b, rfl, hb, _⟩ := gn_call3 (S := scr ns) rfl (numbers_ok ns 0 (by omega) (by omega)) [some (scr ns), some (mlI d2), some (.int k), some (dNs a), none, none, none] d2 rfl rfl
  obtain ⟨_, d4, e4, r, rfl, hr⟩ := gn_call2 (S := scr ns) rfl (number_ok ns) [some (scr ns), some (mlI d3), some (.int k), some (dNs a), some (dNs b), none, none] d3 rfl rfl
  have s0 : g__law_part_s0 [some (scr ns), some (mlI ds), none, none, none, none, none] = .nx [some (scr ns), some (mlI d1), some (.int k), none, none, none, none] := by
    simp only [g__law_part_s0, oSet, e1, Rs.out, List.set_cons_succ, List.set_cons_zero]
  have s1 : g__law_part_s1 [some (scr ns), some (mlI d1), some (.int k), none, none, none, none] = .nx [some (scr ns), some (mlI d2), some (.int k), some (dNs a), none, none, none] := by
    simp only [g__law_part_s1, oSet, e2, Rs.out, List.set_cons_succ, List.set_cons_zero]
  have s2 : g__law_part_s2 [some (scr ns), some (mlI d2), some (.int k), some (dNs a), none, none, none] = .nx [some (scr ns), some (mlI d3), some (.int k), some (dNs a), some (dNs b), none, none] := by
    simp only [g__law_part_s2, oSet, e3, Rs.out, List.set_cons_succ, List.set_cons_zero]
  have s3 : g__law_part_s3 [some (scr ns), some (mlI d3), some (.int k), some (dNs a), some (dNs b), none, none] = .nx [some (scr ns), some (mlI d4), some (.int k), some (dNs a), some (dNs b), some (.int r), none] := by
    simp only [g__law_part_s3, oSet, e4, Rs.out, List.set_cons_succ, List.set_cons_zero]
  have fin : ∀ {d : Dat} {d5 : List Int}, (oSeq g__law_part_s4 (oSeq g__law_part_s5 (oSeq g__law_part_s6 (oSeq g__law_part_s7 g__law_part_s8))) [some (scr ns), some (mlI d4), some (.int k), some (dNs a), some (dNs b), some (.int r), none]) = .rt d [some (scr ns), some (mlI d5), some (.int k), some (dNs a), some (dNs b), some (.int r), none] → PC d → ∃ d ds', f__law_part [scr ns, mlI ds] = .ok d [some (mlI ds')] ∧ PC d := fun {d d5} h p => by
    refine ⟨d, d5, ?_, p⟩
    have hg : g__law_part [some (scr ns), some (mlI ds), none, none, none, none, none] = .rt d [some (scr ns), some (mlI d5), some (.int k), some (dNs a), some (dNs b), some (.int r), none] := by
      rw [← h]
      simp only [g__law_part, oSeq, Out.then, s0, s1, s2, s3]
    simp only [f__law_part, fnO, fnOf, List.map_cons, List.map_nil, List.length_cons, List.length_nil, Nat.reduceAdd, Nat.reduceSub, List.replicate_succ, List.replicate_zero, List.cons_append, List.nil_append, if_true, hg, oget, List.getElem?_cons_succ, List.getElem?_cons_zero]
  have fzN : ∀ l, (dNs l).fz = true := fun _ => rfl
  by_cases hk0 : k = 0
  · subst hk0
    refine fin (d := (Ch.maker r a b).d) (d5 := d4) ?_ (pc_maker hr ha hb)
    simp only [oSeq, Out.then, g__law_part_s4, oIf, mP, sTruB, sBin, sVar, sC, List.getElem?_cons_succ, List.getElem?_cons_zero, fz_int, fzN, if_true, Option.bind_some, dEq, BEq.rfl, Rs.of, Rs.out, oRet, sTup, sCons, sNil, List.length_cons, List.length_nil, Nat.reduceAdd, Nat.reduceLeDiff, Ch.d]
  have b0 : (k == 0) = false := beq_eq_false_iff_ne.mpr hk0
  have t4 : g__law_part_s4 [some (scr ns), some (mlI d4), some (.int k), some (dNs a), some (dNs b), some (.int r), none] = .nx [some (scr ns), some (mlI d4), some (.int k), some (dNs a), some (dNs b), some (.int r), none] := by
    simp only [g__law_part_s4, oIf, mP, sTruB, sBin, sVar, sC, List.getElem?_cons_succ, List.getElem?_cons_zero, fz_int, if_true, Option.bind_some, dEq, b0, Rs.of, Rs.out, Bool.false_eq_true, if_false, oNil]
  by_cases hk1 : k = 1
  · subst hk1
    obtain ⟨_, d5, e5, p, rfl, hp⟩ := gn_number ns [some (scr ns), some (mlI d4), some (.int 1), some (dNs a), some (dNs b), some (.int r), none] d4 rfl rfl
    refine fin (d := (Ch.sides r a p b).d) (d5 := d5) ?_ (pc_sides hr ha hp hb)
    simp only [oSeq, t4, Out.then, g__law_part_s5, oIf, mP, sTruB, sBin, sVar, sC, List.getElem?_cons_succ, List.getElem?_cons_zero, fz_int, fzN, if_true, Option.bind_some, dEq, BEq.rfl, Rs.of, Rs.out, Rs.bind, oRet, mArgs, mCons, mNil, e5, List.set_cons_succ, List.set_cons_zero, dTup, List.length_cons, List.length_nil, Nat.reduceAdd, Nat.reduceLeDiff, Ch.d]
  have b1 : (k == 1) = false := beq_eq_false_iff_ne.mpr hk1
  have t5 : g__law_part_s5 [some (scr ns), some (mlI d4), some (.int k), some (dNs a), some (dNs b), some (.int r), none] = .nx [some (scr ns), some (mlI d4), some (.int k), some (dNs a), some (dNs b), some (.int r), none] := by
    simp only [g__law_part_s5, oIf, mP, sTruB, sBin, sVar, sC, List.getElem?_cons_succ, List.getElem?_cons_zero, fz_int, if_true, Option.bind_some, dEq, b1, Rs.of, Rs.out, Bool.false_eq_true, if_false, oNil]
  by_cases hk2 : k = 2
  · subst hk2
    obtain ⟨_, d5, e5, p, rfl, hp⟩ := gn_number ns [some (scr ns), some (mlI d4), some (.int 2), some (dNs a), some (dNs b), some (.int r), none] d4 rfl rfl
    refine fin (d := (Ch.trader r p a b).d) (d5 := d5) ?_ (pc_trader hr hp ha hb)
    simp only [oSeq, t4, t5, Out.then, g__law_part_s6, oIf, mP, sTruB, sBin, sVar, sC, List.getElem?_cons_succ, List.getElem?_cons_zero, fz_int, fzN, if_true, Option.bind_some, dEq, BEq.rfl, Rs.of, Rs.out, Rs.bind, oRet, mArgs, mCons, mNil, e5, List.set_cons_succ, List.set_cons_zero, dTup, List.length_cons, List.length_nil, Nat.reduceAdd, Nat.reduceLeDiff, Ch.d]
  have b2 : (k == 2) = false := beq_eq_false_iff_ne.mpr hk2
  have t6 : g__law_part_s6 [some (scr ns), some (mlI d4), some (.int k), some (dNs a), some (dNs b), some (.int r), none] = .nx [some (scr ns), some (mlI d4), some (.int k), some (dNs a), some (dNs b), some (.int r), none] := by
    simp only [g__law_part_s6, oIf, mP, sTruB, sBin, sVar, sC, List.getElem?_cons_succ, List.getElem?_cons_zero, fz_int, if_true, Option.bind_some, dEq, b2, Rs.of, Rs.out, Bool.false_eq_true, if_false, oNil]
  by_cases hk3 : k = 3
  · subst hk3
    obtain ⟨_, d5, e5, g, rfl, hg⟩ := gn_caps ns [some (scr ns), some (mlI d4), some (.int 3), some (dNs a), some (dNs b), some (.int r), none] d4 rfl rfl
    obtain ⟨_, d6, e6, h, rfl, hh⟩ := gn_caps ns [some (scr ns), some (mlI d5), some (.int 3), some (dNs a), some (dNs b), some (.int r), none] d5 rfl rfl
    refine fin (d := (Ch.caps a g b h).d) (d5 := d6) ?_ (pc_caps ha hg hb hh)
    simp only [oSeq, t4, t5, t6, Out.then, g__law_part_s7, oIf, mP, sTruB, sBin, sVar, sC, List.getElem?_cons_succ, List.getElem?_cons_zero, fz_int, fzN, if_true, Option.bind_some, dEq, BEq.rfl, Rs.of, Rs.out, Rs.bind, oRet, mArgs, mCons, mNil, e5, e6, List.set_cons_succ, List.set_cons_zero, dTup, List.length_cons, List.length_nil, Nat.reduceAdd, Nat.reduceLeDiff, Ch.d]
  have b3 : (k == 3) = false := beq_eq_false_iff_ne.mpr hk3
  have t7 : g__law_part_s7 [some (scr ns), some (mlI d4), some (.int k), some (dNs a), some (dNs b), some (.int r), none] = .nx [some (scr ns), some (mlI d4), some (.int k), some (dNs a), some (dNs b), some (.int r), none] := by
    simp only [g__law_part_s7, oIf, mP, sTruB, sBin, sVar, sC, List.getElem?_cons_succ, List.getElem?_cons_zero, fz_int, if_true, Option.bind_some, dEq, b3, Rs.of, Rs.out, Bool.false_eq_true, if_false, oNil]
  obtain ⟨ys, d5, e5, p, l⟩ := gn_mlc (n := 4) (by omega) (by omega) (gn_numbers ns 1 (by omega) (by omega)) (j := 6) (by omega) [some (scr ns), some (mlI d4), some (.int k), some (dNs a), some (dNs b), some (.int r), none] d4 rfl rfl
  obtain ⟨rows, rfl, hrows⟩ := rows_of p
  simp only [wipeR, List.set_cons_succ, List.set_cons_zero] at e5
  refine fin (d := (Ch.table rows).d) (d5 := d5) ?_ (pc_table hrows (by simp at l; omega))
  have t := tuple_lc e5
  have t8 : g__law_part_s8 [some (scr ns), some (mlI d4), some (.int k), some (dNs a), some (dNs b), some (.int r), none] = .rt (Ch.table rows).d [some (scr ns), some (mlI d5), some (.int k), some (dNs a), some (dNs b), some (.int r), none] := by
    show oRet (mArgs dTup (mCons (mP (sC (.str "table"))) (mCons (mArgs dTuple (mCons (mFz (mLC [6] [6] (mItA rng1 (mCons (mO (mFn [0] 2 f__law_take (agSl 1 (agFr (mP (sC (.int 4))) agNil)))) mNil)) gNm mYes g__law_part_1)) mNil)) mNil))) _ = _
    have t' : mArgs dTuple (mCons (mFz (mLC [6] [6] (mItA rng1 (mCons (mO (mFn [0] 2 f__law_take (agSl 1 (agFr (mP (sC (.int 4))) agNil)))) mNil)) gNm mYes g__law_part_1)) mNil) [some (scr ns), some (mlI d4), some (.int k), some (dNs a), some (dNs b), some (.int r), none] = .ok (.tup (rows.map dNs)) [some (scr ns), some (mlI d5), some (.int k), some (dNs a), some (dNs b), some (.int r), none] := t
    generalize mArgs dTuple (mCons (mFz (mLC [6] [6] (mItA rng1 (mCons (mO (mFn [0] 2 f__law_take (agSl 1 (agFr (mP (sC (.int 4))) agNil)))) mNil)) gNm mYes g__law_part_1)) mNil) = m at t' ⊢
    simp only [oRet, mArgs, mCons, mNil, mP, sC, Rs.of, Rs.bind, t', dTup, List.length_cons, List.length_nil, Nat.reduceAdd, Nat.reduceLeDiff, if_true, Rs.out, Ch.d]
  simp only [oSeq, t4, t5, t6, t7, t8, Out.then]
theorem gn_part (ns : List Int) : Gn (scr ns) PC (mO (mFn [1] 2 f__law_part (agFr (mP (sVar 0)) (agSl 1 agNil)))) := gn_o (gn_call2 rfl (lpart_ok ns)) fun d ⟨c, e, _⟩ => by rw [e]; exact Ch.dz c
end K98

namespace K98
open PySem PySem.Spec PyProof.Rows L2 MV
/-! ## a drawn deed -/
def PD (d : Dat) : Prop := ∃ c : De, d = c.d ∧ c.ok ∧ c.sm
theorem T_wP {cs : List Ch} (h : ∀ c ∈ cs, c.ok ∧ T c.w ≤ 2100) : T (wP cs) ≤ cs.length * 2105 := by
  induction cs with
  | nil => simp [wP, T]
  | cons g gs ih =>
    have h1 := (h g (by simp)).2
    have h2 := ih fun z hz => h z (List.mem_cons_of_mem _ hz)
    have k : (Str.ofString "part").length = 4 := by decide +kernel
    have e : wP (g :: gs) = Str.ofString "part" :: (g.w ++ wP gs) := by simp [wP]
    rw [e, T_cons, T_append, k]
    simp only [List.length_cons, Nat.succ_mul]; omega
theorem kwl2 : (Str.ofString "choose").length = 6 ∧ (Str.ofString "split").length = 5 ∧ (Str.ofString "offer").length = 5 ∧ (Str.ofString "cancel").length = 6 ∧ (Str.ofString "undo").length = 4 ∧ (Str.ofString "redo").length = 4 := by decide +kernel
theorem sm_one {h : Int} {c : Ch} (hh : N60 h) (hc : T c.w ≤ 2100) : (De.one h c).sm := by
  have h1 := nt_len hh
  obtain ⟨k1, k2, k3, k4, k5, k6⟩ := kwl2
  unfold De.sm
  simp only [De.w, T_append, T_cons, T_nil, k1]; omega
theorem sm_split {h : Int} {cs : List Ch} (hh : N60 h) (hc : ∀ c ∈ cs, c.ok ∧ T c.w ≤ 2100) (hl : cs.length ≤ 8) : (De.split h cs).sm := by
  have h1 := nt_len hh
  have h2 := T_wP hc
  obtain ⟨k1, k2, k3, k4, k5, k6⟩ := kwl2
  unfold De.sm
  simp only [De.w, T_append, T_cons, T_nil, k1, k2]; omega
theorem parts_of : ∀ {ys : List Dat}, (∀ y ∈ ys, PC y) → ∃ cs : List Ch, ys = cs.map Ch.d ∧ (∀ c ∈ cs, c.ok ∧ T c.w ≤ 2100)
  | [], _ => ⟨[], rfl, by simp⟩
  | y :: ys, h => by
    obtain ⟨g, rfl, hg⟩ := h y (by simp)
    obtain ⟨gs, rfl, hgs⟩ := parts_of (ys := ys) fun z hz => h z (List.mem_cons_of_mem _ hz)
    exact ⟨g :: gs, rfl, fun x hx => by
      rcases List.mem_cons.mp hx with rfl | hx
      · exact hg
      · exact hgs x hx⟩
theorem deed_drawn (ns : List Int) (ds : List Int) : ∃ d ds', f__law_any_deed [scr ns, mlI ds] = .ok d [some (mlI ds')] ∧ PD d := by
  obtain ⟨k, d1, e1, k0, k1⟩ := call_take (ρ := [some (scr ns), some (mlI ds), none, none, none, none]) (i := 1) (ds := ds) (m := 8) rfl (by omega)
  obtain ⟨ys, d2, e2, hP, hl⟩ := gn_lc (te := g__law_any_deed_1) (j := 5) (gn_number ns) (by omega) (rng 0 3) [some (scr ns), some (mlI d1), some (.int k), none, none, none] d1 rfl rfl
  obtain ⟨l, rfl, hN⟩ := ints_of hP
  have hl3 : l.length = 3 := by rw [rng_length] at hl; simpa using hl
  obtain ⟨a, b, c, rfl⟩ : ∃ a b c, l = [a, b, c] := by
    match l, hl3 with
    | [a, b, c], _ => exact ⟨a, b, c, rfl⟩
  have na : N60 a := hN a (by simp)
  have nb : N60 b := hN b (by simp)
  have nc : N60 c := hN c (by simp)
  simp only [wipeR, List.set_cons_succ, List.set_cons_zero, List.map_cons, List.map_nil] at e2
  have s0 : g__law_any_deed_s0 [some (scr ns), some (mlI ds), none, none, none, none] = .nx [some (scr ns), some (mlI d1), some (.int k), none, none, none] := by
    simp only [g__law_any_deed_s0, oSet, e1, Rs.out, List.set_cons_succ, List.set_cons_zero]
  have s1 : g__law_any_deed_s1 [some (scr ns), some (mlI d1), some (.int k), none, none, none] = .nx [some (scr ns), some (mlI d2), some (.int k), some (.lst [.int a, .int b, .int c]), none, none] := by
    have h3 : (3 : Int) ≤ 1000000 ∧ (-1000000 : Int) ≤ 3 := by omega
    simp only [g__law_any_deed_s1, oSet, mFz, mLC, mItA, mCons, mNil, mP, sC, Rs.of, Rs.bind, rng1]
    rw [if_pos h3]
    simp only [Int.reduceToNat, wipeR, List.set_cons_succ, List.set_cons_zero, e2, Rs.out]
  have fin : ∀ {d : Dat} {d5 : List Int} {x y : Option Dat}, (oSeq g__law_any_deed_s2 (oSeq g__law_any_deed_s3 (oSeq g__law_any_deed_s4 g__law_any_deed_s5)) [some (scr ns), some (mlI d2), some (.int k), some (.lst [.int a, .int b, .int c]), none, none]) = .rt d [some (scr ns), some (mlI d5), some (.int k), some (.lst [.int a, .int b, .int c]), x, y] → PD d → ∃ d ds', f__law_any_deed [scr ns, mlI ds] = .ok d [some (mlI ds')] ∧ PD d := fun {d d5 x y} h p => by
    refine ⟨d, d5, ?_, p⟩
    have hg : g__law_any_deed [some (scr ns), some (mlI ds), none, none, none, none] = .rt d [some (scr ns), some (mlI d5), some (.int k), some (.lst [.int a, .int b, .int c]), x, y] := by
      rw [← h]
      simp only [g__law_any_deed, oSeq, Out.then, s0, s1]
    simp only [f__law_any_deed, fnO, fnOf, List.map_cons, List.map_nil, List.length_cons, List.length_nil, Nat.reduceAdd, Nat.reduceSub, List.replicate_succ, List.replicate_zero, List.cons_append, List.nil_append, if_true, hg, oget, List.getElem?_cons_succ, List.getElem?_cons_zero]
  have i0 : L2.atI [Dat.int a, .int b, .int c] 0 = some (.int a) := atI_nat (k := 0) rfl rfl
  have i1 : L2.atI [Dat.int a, .int b, .int c] 1 = some (.int b) := atI_nat (k := 1) rfl rfl
  have i2 : L2.atI [Dat.int a, .int b, .int c] 2 = some (.int c) := atI_nat (k := 2) rfl rfl
  by_cases hk4 : k < 4
  · have hd4 : decide (k < 4) = true := decide_eq_true hk4
    obtain ⟨_, d3, e3, p, rfl, hp⟩ := gn_call2 (S := scr ns) rfl (lpart_ok ns) [some (scr ns), some (mlI d2), some (.int k), some (.lst [.int a, .int b, .int c]), none, none] d2 rfl rfl
    obtain ⟨v, d4, e4, v0, v1⟩ := call_take (ρ := [some (scr ns), some (mlI d3), some (.int k), some (.lst [.int a, .int b, .int c]), some p.d, none]) (i := 1) (ds := d3) (m := 4) rfl (by omega)
    by_cases hv : v = 1
    · subst hv
      obtain ⟨ys, d5, e5, q, l5⟩ := gn_mlc (n := 4) (by omega) (by omega) (gn_part ns) (j := 5) (by omega) [some (scr ns), some (mlI d4), some (.int k), some (.lst [.int a, .int b, .int c]), some p.d, none] d4 rfl rfl
      obtain ⟨cs, rfl, hcs⟩ := parts_of q
      have hcl : cs.length ≤ 3 := by simp at l5; omega
      simp only [wipeR, List.set_cons_succ, List.set_cons_zero] at e5
      have t' : mArgs dTuple (mCons (mFz (mLC [5] [5] (mItA rng1 (mCons (mO (mFn [0] 2 f__law_take (agSl 1 (agFr (mP (sC (.int 4))) agNil)))) mNil)) gNm mYes g__law_any_deed_2)) mNil) [some (scr ns), some (mlI d4), some (.int k), some (.lst [.int a, .int b, .int c]), some p.d, none] = .ok (.tup (cs.map Ch.d)) [some (scr ns), some (mlI d5), some (.int k), some (.lst [.int a, .int b, .int c]), some p.d, none] := tuple_lc e5
      refine fin (d := (De.split a cs).d) (d5 := d5) (x := some (dSplit' cs)) (y := none) ?_ ⟨_, rfl, ⟨na, fun c hc => (hcs c hc).1, by omega⟩, sm_split na hcs (by omega)⟩
      unfold g__law_any_deed_s2
      generalize mArgs dTuple (mCons (mFz (mLC [5] [5] (mItA rng1 (mCons (mO (mFn [0] 2 f__law_take (agSl 1 (agFr (mP (sC (.int 4))) agNil)))) mNil)) gNm mYes g__law_any_deed_2)) mNil) = m at t' ⊢
      have hz : (dSplit' cs).fz = true := rfl
      simp only [oSeq, oIf, mTru, mBin, mO, mP, sTruB, sBin, sVar, sC, List.getElem?_cons_succ, List.getElem?_cons_zero, fz_int, fz_lst, if_true, Option.bind_some, dLt, dI0, hd4, Rs.of, Rs.out, Rs.bind, oSet, e3, List.set_cons_succ, List.set_cons_zero, Out.then, e4, dEq, BEq.rfl, mArgs, mCons, mNil, t', dTup, List.length_cons, List.length_nil, Nat.reduceAdd, Nat.reduceLeDiff, oRet, sTup, sCons, sNil, dIx, i0, fz_tup, De.d, dSplit']
    · have bv : (v == 1) = false := beq_eq_false_iff_ne.mpr hv
      refine fin (d := (De.one a p).d) (d5 := d4) (x := some p.d) (y := none) ?_ ⟨_, rfl, ⟨na, hp.1⟩, sm_one na hp.2⟩
      simp only [g__law_any_deed_s2, oSeq, oIf, mTru, mBin, mO, mP, sTruB, sBin, sVar, sC, List.getElem?_cons_succ, List.getElem?_cons_zero, fz_int, fz_lst, if_true, Option.bind_some, dLt, dI0, hd4, Rs.of, Rs.out, Rs.bind, oSet, e3, List.set_cons_succ, List.set_cons_zero, Out.then, e4, dEq, bv, Bool.false_eq_true, if_false, oNil, oRet, sTup, sCons, sNil, dIx, i0, Ch.dz, List.length_cons, List.length_nil, Nat.reduceAdd, Nat.reduceLeDiff, De.d]
  have hd4 : decide (k < 4) = false := decide_eq_false hk4
  have t2 : g__law_any_deed_s2 [some (scr ns), some (mlI d2), some (.int k), some (.lst [.int a, .int b, .int c]), none, none] = .nx [some (scr ns), some (mlI d2), some (.int k), some (.lst [.int a, .int b, .int c]), none, none] := by
    simp only [g__law_any_deed_s2, oIf, mP, sTruB, sBin, sVar, sC, List.getElem?_cons_succ, List.getElem?_cons_zero, fz_int, if_true, Option.bind_some, dLt, dI0, hd4, Rs.of, Rs.out, Bool.false_eq_true, if_false, oNil]
  obtain ⟨k1', k2', k3', k4', k5', k6'⟩ := kwl2
  by_cases hk5 : k = 4
  · subst hk5
    refine fin (d := (De.offer a b c).d) (d5 := d2) (x := none) (y := none) ?_ ⟨_, rfl, ⟨na, nb, nc⟩, by
      have h1 := nt_len na
      have h2 := nt_len nb
      have h3 := nt_len nc
      unfold De.sm
      simp only [De.w, wN, List.map_cons, List.map_nil, T_append, T_cons, T_nil, k3']; omega⟩
    simp only [oSeq, t2, Out.then, g__law_any_deed_s3, oIf, mP, sTruB, sBin, sVar, sC, List.getElem?_cons_succ, List.getElem?_cons_zero, fz_int, fz_lst, if_true, Option.bind_some, dEq, BEq.rfl, Rs.of, Rs.out, oRet, sTup, sCons, sNil, dIx, i0, i1, i2, List.length_cons, List.length_nil, Nat.reduceAdd, Nat.reduceLeDiff, De.d]
  have b4 : (k == 4) = false := beq_eq_false_iff_ne.mpr hk5
  have t3 : g__law_any_deed_s3 [some (scr ns), some (mlI d2), some (.int k), some (.lst [.int a, .int b, .int c]), none, none] = .nx [some (scr ns), some (mlI d2), some (.int k), some (.lst [.int a, .int b, .int c]), none, none] := by
    simp only [g__law_any_deed_s3, oIf, mP, sTruB, sBin, sVar, sC, List.getElem?_cons_succ, List.getElem?_cons_zero, fz_int, if_true, Option.bind_some, dEq, b4, Rs.of, Rs.out, Bool.false_eq_true, if_false, oNil]
  by_cases hk6 : k = 5
  · subst hk6
    refine fin (d := (De.cancel a).d) (d5 := d2) (x := none) (y := none) ?_ ⟨_, rfl, na, by
      have h1 := nt_len na
      unfold De.sm
      simp only [De.w, wN, List.map_cons, List.map_nil, T_append, T_cons, T_nil, k4']; omega⟩
    simp only [oSeq, t2, t3, Out.then, g__law_any_deed_s4, oIf, mP, sTruB, sBin, sVar, sC, List.getElem?_cons_succ, List.getElem?_cons_zero, fz_int, fz_lst, if_true, Option.bind_some, dEq, BEq.rfl, Rs.of, Rs.out, oRet, sTup, sCons, sNil, dIx, i0, List.length_cons, List.length_nil, Nat.reduceAdd, Nat.reduceLeDiff, De.d]
  have b5 : (k == 5) = false := beq_eq_false_iff_ne.mpr hk6
  have t4 : g__law_any_deed_s4 [some (scr ns), some (mlI d2), some (.int k), some (.lst [.int a, .int b, .int c]), none, none] = .nx [some (scr ns), some (mlI d2), some (.int k), some (.lst [.int a, .int b, .int c]), none, none] := by
    simp only [g__law_any_deed_s4, oIf, mP, sTruB, sBin, sVar, sC, List.getElem?_cons_succ, List.getElem?_cons_zero, fz_int, if_true, Option.bind_some, dEq, b5, Rs.of, Rs.out, Bool.false_eq_true, if_false, oNil]
  rcases (by omega : k = 6 ∨ k = 7) with hk | hk <;> subst hk
  · refine fin (d := De.undo.d) (d5 := d2) (x := none) (y := none) ?_ ⟨_, rfl, trivial, by unfold De.sm; simp only [De.w, wN, List.map_nil, T_append, T_cons, T_nil, k5']; omega⟩
    have j : L2.atI [Dat.tup [.str "undo"], Dat.tup [.str "redo"]] 0 = some (.tup [.str "undo"]) := atI_nat (k := 0) rfl rfl
    simp only [oSeq, t2, t3, t4, Out.then, g__law_any_deed_s5, oRet, mP, sBin, sF, sLstF, sTup, sCons, sNil, sVar, sC, List.getElem?_cons_succ, List.getElem?_cons_zero, fz_int, if_true, Option.bind_some, Option.map_some, List.length_cons, List.length_nil, Nat.reduceAdd, Nat.reduceLeDiff, dSub, dI0, Int.reduceSub, dIx, j, Rs.of, Rs.out, De.d]
  · refine fin (d := De.redo.d) (d5 := d2) (x := none) (y := none) ?_ ⟨_, rfl, trivial, by unfold De.sm; simp only [De.w, wN, List.map_nil, T_append, T_cons, T_nil, k6']; omega⟩
    have j : L2.atI [Dat.tup [.str "undo"], Dat.tup [.str "redo"]] 1 = some (.tup [.str "redo"]) := atI_nat (k := 1) rfl rfl
    simp only [oSeq, t2, t3, t4, Out.then, g__law_any_deed_s5, oRet, mP, sBin, sF, sLstF, sTup, sCons, sNil, sVar, sC, List.getElem?_cons_succ, List.getElem?_cons_zero, fz_int, if_true, Option.bind_some, Option.map_some, List.length_cons, List.length_nil, Nat.reduceAdd, Nat.reduceLeDiff, dSub, dI0, Int.reduceSub, dIx, j, Rs.of, Rs.out, De.d]
theorem gn_deed (ns : List Int) : Gn (scr ns) PD (mO (mFn [1] 2 f__law_any_deed (agFr (mP (sVar 0)) (agSl 1 agNil)))) := gn_o (gn_call2 rfl (deed_drawn ns)) fun d ⟨c, e, _⟩ => by rw [e]; exact De.dz c
end K98

namespace K98
open PySem PySem.Spec PyProof.Rows L2 MV
/-! ## the draws -/
theorem allI (ds : List Int) : (ds.map Dat.int).all Dat.fz = true := by rw [List.all_eq_true]; intro d hd; obtain ⟨g, _, rfl⟩ := List.mem_map.mp hd; rfl
theorem frz_mlI (ds : List Int) : (mlI ds).frz = .lst (ds.map Dat.int) := frz_mls (allI ds)
theorem frz_int {i : Int} : (Dat.int i).frz = .int i := frz_fz rfl
theorem nol_int {i : Int} : (Dat.int i).nol = true := rfl
theorem dPow18 : dPow (.int 10) (.int 18) = some (.int 1000000000000000000) := by
  have h : cPow 10 18 := by decide +kernel
  simp only [dPow, dI2, h, if_true]
  have : (10 : Int) ^ (Int.toNat 18) = 1000000000000000000 := by decide +kernel
  rw [this]
theorem dDiv_of {i j : Int} (h : cDiv i j) : dDiv (.int i) (.int j) = some (.int (i / j)) := if_pos h
theorem cMul_small2 {i j : Int} (h1 : -1000000000000000000 < j) (h2 : j < 1000000000000000000) : cMul i j := by
  have e : (2 : Int) ^ 64 = 18446744073709551616 := by decide +kernel
  unfold cMul
  rw [e]
  exact Or.inr (And.intro (by omega) (by omega))
theorem ixI {l : List Int} {i : Int} (h0 : 0 ≤ i) (h1 : i < (l.length : Int)) : ∃ x, L2.atI (l.map Dat.int) i = some (.int x) := by
  refine ⟨l[i.toNat]'(by omega), atI_nat (k := i.toNat) (by omega) ?_⟩
  rw [List.getElem?_map, List.getElem?_eq_getElem (by omega)]; rfl
/-- the state of the loop -/
def dSt (S : Dat) (cs rs dd : List Int) (x y z : Option Dat) : Rho := [some S, some (.int 702), some (mlI cs), some (mlI rs), some (mlI dd), x, y, z, none]
theorem d_at (S : Dat) (cs rs dd : List Int) (k : Int) (y z : Option Dat) (hc : 0 < cs.length) : oSet 6 (mZ (sBin dMod (sVar 5) (sArgs dLen (sCons (sVar 2) sNil)))) (dSt S cs rs dd (some (.int k)) y z) = .nx (dSt S cs rs dd (some (.int k)) (some (.int (k % (cs.length : Int)))) z) := by
  have h : (0 : Int) < (cs.length : Int) := by omega
  have hm : dMod (.int k) (.int (cs.length : Int)) = some (.int (k % (cs.length : Int))) := dMod_of h
  have e : sBin dMod (sVar 5) (sArgs dLen (sCons (sVar 2) sNil)) (frzR (dSt S cs rs dd (some (.int k)) y z)) = some (.int (k % (cs.length : Int))) := by
    refine (bin_of (x := .int k) (y := .int (cs.length : Int)) ?_ ((arg1_of (x := .lst (cs.map Dat.int)) ?_).trans ?_)).trans hm
    · simp only [frzR, dSt, List.map_cons, List.map_nil, Option.map_some, frz_int, sVar, List.getElem?_cons_succ, List.getElem?_cons_zero, fz_int, if_true]
    · simp only [frzR, dSt, List.map_cons, List.map_nil, Option.map_some, frz_mlI, sVar, List.getElem?_cons_succ, List.getElem?_cons_zero, fz_lst, if_true]
    · simp only [dLen, List.length_map]
  simp only [oSet, mZ, e, nol_int, if_true, Rs.out]
  simp only [dSt, List.set_cons_succ, List.set_cons_zero]

theorem sArgs1 {g : List Dat → Option Dat} {fa : Rho → Option Dat} {ρ : Rho} {x y : Dat} (h1 : fa ρ = some x) (h2 : g [x] = some y) : sArgs g (sCons fa sNil) ρ = some y := (arg1_of h1).trans h2
theorem sBin1 {g : Dat → Dat → Option Dat} {fa fb : Rho → Option Dat} {ρ : Rho} {x y z : Dat} (h1 : fa ρ = some x) (h2 : fb ρ = some y) (h3 : g x y = some z) : sBin g fa fb ρ = some z := (bin_of h1 h2).trans h3
theorem sC1 {d : Dat} {ρ : Rho} : sC d ρ = some d := rfl
theorem mZ1 {f : Rho → Option Dat} {ρ : Rho} {i : Int} (h : f (frzR ρ) = some (.int i)) : mZ f ρ = .ok (.int i) ρ := by simp only [mZ, h, nol_int, if_true]
theorem uZ1 {f : Rho → Option Dat} {ρ : Rho} {i : Int} (h : f (frzR ρ) = some (.int i)) : uZ f ρ = some (.int i) := by simp only [uZ, h, nol_int, if_true]
theorem app_of {ρ : Rho} {i : Nat} {l : List Dat} {f : Rho → Option Dat} {d d' : Dat} (h : ρ[i]? = some (some (.mls l))) (hf : f ρ = some d) (hd : dApp l d = some d') : oApp (plVar i) f ρ = .nx (ρ.set i (some d')) := by
  have h1 : plVar i ρ = .ok (i, []) ρ := by simp only [plVar, h]
  have h2 : plGet ρ (i, []) = some (.mls l) := by simp only [plGet, h, Dat.at]
  simp only [oApp, h1, Rs.out, h2, hf, hd, plPut, h, Dat.put]
theorem d_step (S : Dat) (cs rs dd : List Int) (k : Nat) (y z : Option Dat) (hc : 0 < cs.length) (hr : rs.length = cs.length) (hd : dd.length < 1000) (hk : k < 702) : ∃ rs' dd' y' z', rs'.length = cs.length ∧ dd'.length = dd.length + 1 ∧ g__law_draws_2 (dSt S cs rs dd (some (.int (k : Int))) y z) = .nx (dSt S cs rs' dd' (some (.int (k : Int))) y' z') := by
  have a0 := Int.emod_nonneg (k : Int) (b := (cs.length : Int)) (by omega)
  have a1 := Int.emod_lt_of_pos (k : Int) (b := (cs.length : Int)) (by omega)
  have h0 := d_at S cs rs dd (k : Int) y z hc
  generalize (k : Int) % (cs.length : Int) = at_ at a0 a1 h0
  obtain ⟨c, hcx⟩ := ixI (l := cs) a0 a1
  obtain ⟨r, hrx⟩ := ixI (l := rs) a0 (by omega)
  have F2 : sVar 2 (frzR (dSt S cs rs dd (some (.int (k : Int))) (some (.int at_)) z)) = some (.lst (cs.map Dat.int)) := by
    simp only [frzR, dSt, List.map_cons, List.map_nil, Option.map_some, frz_mlI, sVar, List.getElem?_cons_succ, List.getElem?_cons_zero, fz_lst, if_true]
  have F3 : sVar 3 (frzR (dSt S cs rs dd (some (.int (k : Int))) (some (.int at_)) z)) = some (.lst (rs.map Dat.int)) := by
    simp only [frzR, dSt, List.map_cons, List.map_nil, Option.map_some, frz_mlI, sVar, List.getElem?_cons_succ, List.getElem?_cons_zero, fz_lst, if_true]
  have F5 : sVar 5 (frzR (dSt S cs rs dd (some (.int (k : Int))) (some (.int at_)) z)) = some (.int (k : Int)) := by
    simp only [frzR, dSt, List.map_cons, List.map_nil, Option.map_some, frz_int, sVar, List.getElem?_cons_succ, List.getElem?_cons_zero, fz_int, if_true]
  have F6 : sVar 6 (frzR (dSt S cs rs dd (some (.int (k : Int))) (some (.int at_)) z)) = some (.int at_) := by
    simp only [frzR, dSt, List.map_cons, List.map_nil, Option.map_some, frz_int, sVar, List.getElem?_cons_succ, List.getElem?_cons_zero, fz_int, if_true]
  have hC : sBin dIx (sVar 2) (sVar 6) (frzR (dSt S cs rs dd (some (.int (k : Int))) (some (.int at_)) z)) = some (.int c) := sBin1 F2 F6 hcx
  have hT : mZT (sTruB (sBin dGe (sBin dIx (sVar 2) (sVar 6)) (sBin dPow (sC (.int 10)) (sC (.int 18))))) (dSt S cs rs dd (some (.int (k : Int))) (some (.int at_)) z) = .ok (decide ((1000000000000000000 : Int) ≤ c)) (dSt S cs rs dd (some (.int (k : Int))) (some (.int at_)) z) := by
    have e : sBin dGe (sBin dIx (sVar 2) (sVar 6)) (sBin dPow (sC (.int 10)) (sC (.int 18))) (frzR (dSt S cs rs dd (some (.int (k : Int))) (some (.int at_)) z)) = some (.bl (decide ((1000000000000000000 : Int) ≤ c))) := sBin1 hC (sBin1 sC1 sC1 dPow18) rfl
    simp only [mZT, sTruB, e, Option.bind_some, Rs.of]
  by_cases hb : (1000000000000000000 : Int) ≤ c
  · -- the cell's own digits
    have hb' : decide ((1000000000000000000 : Int) ≤ c) = true := decide_eq_true hb
    have hR : sBin dIx (sVar 3) (sVar 6) (frzR (dSt S cs rs dd (some (.int (k : Int))) (some (.int at_)) z)) = some (.int r) := sBin1 F3 F6 hrx
    have u1 : uZ (sBin dMod (sArgs dInt (sCons (sBin dIx (sVar 3) (sVar 6)) sNil)) (sC (.int 1000))) (dSt S cs rs dd (some (.int (k : Int))) (some (.int at_)) z) = some (.int (r % 1000)) := uZ1 (sBin1 (sArgs1 hR rfl) sC1 (dMod_of (by omega)))
    have ap : oApp (plVar 4) (uZ (sBin dMod (sArgs dInt (sCons (sBin dIx (sVar 3) (sVar 6)) sNil)) (sC (.int 1000)))) (dSt S cs rs dd (some (.int (k : Int))) (some (.int at_)) z) = .nx (dSt S cs rs (dd ++ [r % 1000]) (some (.int (k : Int))) (some (.int at_)) z) := by
      have hd2 : dApp (dd.map Dat.int) (.int (r % 1000)) = some (mlI (dd ++ [r % 1000])) := by
        unfold dApp
        rw [if_pos (by simp; omega)]
        unfold mlI; simp
      exact app_of (ρ := dSt S cs rs dd (some (.int (k : Int))) (some (.int at_)) z) (i := 4) rfl u1 hd2
    have G3 : sVar 3 (frzR (dSt S cs rs (dd ++ [r % 1000]) (some (.int (k : Int))) (some (.int at_)) z)) = some (.lst (rs.map Dat.int)) := by
      simp only [frzR, dSt, List.map_cons, List.map_nil, Option.map_some, frz_mlI, sVar, List.getElem?_cons_succ, List.getElem?_cons_zero, fz_lst, if_true]
    have G6 : sVar 6 (frzR (dSt S cs rs (dd ++ [r % 1000]) (some (.int (k : Int))) (some (.int at_)) z)) = some (.int at_) := by
      simp only [frzR, dSt, List.map_cons, List.map_nil, Option.map_some, frz_int, sVar, List.getElem?_cons_succ, List.getElem?_cons_zero, fz_int, if_true]
    have m1 : mZ (sBin dDiv (sBin dIx (sVar 3) (sVar 6)) (sC (.int 1000))) (dSt S cs rs (dd ++ [r % 1000]) (some (.int (k : Int))) (some (.int at_)) z) = .ok (.int (r / 1000)) (dSt S cs rs (dd ++ [r % 1000]) (some (.int (k : Int))) (some (.int at_)) z) := mZ1 (sBin1 (sBin1 G3 G6 hrx) sC1 (dDiv_of (show cDiv r 1000 from ⟨by omega, by omega⟩)))
    have hix : ixOf (.int at_) (rs.map Dat.int) = some at_.toNat := by
      simp only [ixOf, L2.ixN, List.length_map]
      rw [if_pos a0, if_pos (by omega)]
      simp only [Option.bind_some]
      rw [if_pos (by omega)]
    have sa : oSetAt (uVar 3) (sVar 6) (mZ (sBin dDiv (sBin dIx (sVar 3) (sVar 6)) (sC (.int 1000)))) (dSt S cs rs (dd ++ [r % 1000]) (some (.int (k : Int))) (some (.int at_)) z) = .nx (dSt S cs (rs.set at_.toNat (r / 1000)) (dd ++ [r % 1000]) (some (.int (k : Int))) (some (.int at_)) z) := by
      simp only [oSetAt, m1, Rs.out]
      simp only [dSt, uVar, List.getElem?_cons_succ, List.getElem?_cons_zero, plGet, Dat.at, mlI, sVar, fz_int, if_true, hix, plPut, List.set_cons_succ, List.set_cons_zero, Dat.put, List.map_set]
    refine ⟨rs.set at_.toNat (r / 1000), dd ++ [r % 1000], some (.int at_), z, by simpa using hr, by simp, ?_⟩
    unfold g__law_draws_2
    simp only [oSeq, h0, Out.then, oIf, hT, Rs.out, hb', if_true, ap, sa]
  · have hb' : decide ((1000000000000000000 : Int) ≤ c) = false := decide_eq_false hb
    have o1 : mZ (sBin dMod (sArgs dInt (sCons (sBin dAdd (sBin dAdd (sBin dMul (sBin dIx (sVar 2) (sVar 6)) (sC (.int 48271))) (sBin dMul (sVar 5) (sC (.int 69621)))) (sC (.int 11))) sNil)) (sC (.int 2147483647))) (dSt S cs rs dd (some (.int (k : Int))) (some (.int at_)) z) = .ok (.int ((c * 48271 + (k : Int) * 69621 + 11) % 2147483647)) (dSt S cs rs dd (some (.int (k : Int))) (some (.int at_)) z) :=
      mZ1 (sBin1 (sArgs1 (sBin1 (sBin1 (sBin1 hC sC1 (dMul_of (cMul_small2 (by omega) (by omega)))) (sBin1 F5 sC1 (dMul_of (cMul_small2 (by omega) (by omega)))) rfl) sC1 rfl) rfl) sC1 (dMod_of (by omega)))
    have w0 := Int.emod_nonneg (c * 48271 + (k : Int) * 69621 + 11) (b := 2147483647) (by omega)
    have w1 := Int.emod_lt_of_pos (c * 48271 + (k : Int) * 69621 + 11) (b := 2147483647) (by omega)
    generalize (c * 48271 + (k : Int) * 69621 + 11) % 2147483647 = w at o1 w0 w1
    have H7 : sVar 7 (dSt S cs rs dd (some (.int (k : Int))) (some (.int at_)) (some (.int w))) = some (.int w) := by
      simp only [dSt, sVar, List.getElem?_cons_succ, List.getElem?_cons_zero, fz_int, if_true]
    have H5 : sVar 5 (dSt S cs rs dd (some (.int (k : Int))) (some (.int at_)) (some (.int w))) = some (.int (k : Int)) := by
      simp only [dSt, sVar, List.getElem?_cons_succ, List.getElem?_cons_zero, fz_int, if_true]
    have v1 : sBin dMod (sArgs dInt (sCons (sBin dAdd (sBin dAdd (sBin dMul (sVar 7) (sVar 7)) (sBin dMul (sC (.int 3)) (sVar 7))) (sVar 5)) sNil)) (sC (.int 1000003)) (dSt S cs rs dd (some (.int (k : Int))) (some (.int at_)) (some (.int w))) = some (.int ((w * w + 3 * w + (k : Int)) % 1000003)) :=
      sBin1 (sArgs1 (sBin1 (sBin1 (sBin1 H7 H7 (dMul_of (cMul_small (by omega) (by omega)))) (sBin1 sC1 H7 (dMul_of (cMul_small (by omega) (by omega)))) rfl) H5 rfl) rfl) sC1 (dMod_of (by omega))
    have ap : oApp (plVar 4) (sBin dMod (sArgs dInt (sCons (sBin dAdd (sBin dAdd (sBin dMul (sVar 7) (sVar 7)) (sBin dMul (sC (.int 3)) (sVar 7))) (sVar 5)) sNil)) (sC (.int 1000003))) (dSt S cs rs dd (some (.int (k : Int))) (some (.int at_)) (some (.int w))) = .nx (dSt S cs rs (dd ++ [(w * w + 3 * w + (k : Int)) % 1000003]) (some (.int (k : Int))) (some (.int at_)) (some (.int w))) := by
      have hd2 : dApp (dd.map Dat.int) (.int ((w * w + 3 * w + (k : Int)) % 1000003)) = some (mlI (dd ++ [(w * w + 3 * w + (k : Int)) % 1000003])) := by
        unfold dApp
        rw [if_pos (by simp; omega)]
        unfold mlI; simp
      exact app_of (ρ := dSt S cs rs dd (some (.int (k : Int))) (some (.int at_)) (some (.int w))) (i := 4) rfl v1 hd2
    have s7 : oSet 7 (mZ (sBin dMod (sArgs dInt (sCons (sBin dAdd (sBin dAdd (sBin dMul (sBin dIx (sVar 2) (sVar 6)) (sC (.int 48271))) (sBin dMul (sVar 5) (sC (.int 69621)))) (sC (.int 11))) sNil)) (sC (.int 2147483647)))) (dSt S cs rs dd (some (.int (k : Int))) (some (.int at_)) z) = .nx (dSt S cs rs dd (some (.int (k : Int))) (some (.int at_)) (some (.int w))) := by
      simp only [oSet, o1, Rs.out]
      simp only [dSt, List.set_cons_succ, List.set_cons_zero]
    refine ⟨rs, dd ++ [(w * w + 3 * w + (k : Int)) % 1000003], some (.int at_), some (.int w), hr, by simp, ?_⟩
    unfold g__law_draws_2
    simp only [oSeq, h0, Out.then, oIf, hT, Rs.out, hb', Bool.false_eq_true, if_false, s7, ap]
end K98

namespace K98
open PySem PySem.Spec PyProof.Rows L2 MV
theorem d_loop (S : Dat) (cs : List Int) (hc : 0 < cs.length) : ∀ (ks : List Nat) (rs dd : List Int) (x y z : Option Dat), (∀ k ∈ ks, k < 702) → rs.length = cs.length → dd.length + ks.length ≤ 1000 →
    ∃ rs' dd' x' y' z', oForL [5] gNm g__law_draws_2 (ks.map fun (k : Nat) => Dat.int (0 + (k : Int))) (dSt S cs rs dd x y z) = .nx (dSt S cs rs' dd' x' y' z')
  | [], rs, dd, x, y, z, _, _, _ => ⟨rs, dd, x, y, z, rfl⟩
  | k :: ks, rs, dd, x, y, z, hk, hr, hl => by
    simp only [List.length_cons] at hl
    obtain ⟨rs1, dd1, y1, z1, hr1, hl1, e⟩ := d_step S cs rs dd k y z hc hr (by omega) (hk k (by simp))
    obtain ⟨rs2, dd2, x2, y2, z2, ih⟩ := d_loop S cs hc ks rs1 dd1 (some (.int (k : Int))) y1 z1 (fun j hj => hk j (List.mem_cons_of_mem _ hj)) (by omega) (by omega)
    refine ⟨rs2, dd2, x2, y2, z2, ?_⟩
    have es : setR (dSt S cs rs dd x y z) [5] [Dat.int (0 + (k : Int))] = dSt S cs rs dd (some (.int (k : Int))) y z := by
      rw [Int.zero_add]
      simp only [setR, dSt, List.set_cons_succ, List.set_cons_zero]
    rw [List.map_cons]
    unfold oForL gNm
    simp only [es, e]
    exact ih
theorem draws_ok (ns : List Int) : ∃ dd, f__law_draws [scr ns, .int 702] = .ok (mlI dd) [] := by
  -- the cells
  have e0 : lcGo [some (scr ns), some (.int 702), none, none, none, none, none, none, none] [8] gNm sYes g__law_draws_1 (ns.map Dat.int) = some (ns.map Dat.int) := by
    refine lcGo_nm _ _ _ fun n hn => ?_
    simp only [g__law_draws_1, sArgs, sCons, sNil, sVar, List.set_cons_succ, List.set_cons_zero, List.getElem?_cons_succ, List.getElem?_cons_zero, fz_int, if_true, Option.bind_some, dInt]
  have s0 : g__law_draws_s0 [some (scr ns), some (.int 702), none, none, none, none, none, none, none] = .nx [some (scr ns), some (.int 702), some (mlI ns), none, none, none, none, none, none] := by
    simp only [scr] at e0
    simp only [g__law_draws_s0, oSet, mOw, mP, sLC, sSeq, sVar, wipeR, scr, List.set_cons_succ, List.set_cons_zero, List.getElem?_cons_zero, fz_frl, if_true, Option.bind_some, seqOf, e0, Rs.of, Rs.bind, Rs.out, mlI]
  have s1 : ∃ cs : List Int, 0 < cs.length ∧ g__law_draws_s1 [some (scr ns), some (.int 702), some (mlI ns), none, none, none, none, none, none] = .nx [some (scr ns), some (.int 702), some (mlI cs), none, none, none, none, none, none] := by
    have hF : sVar 2 (frzR [some (scr ns), some (.int 702), some (mlI ns), none, none, none, none, none, none]) = some (.lst (ns.map Dat.int)) := by
      simp only [frzR, List.map_cons, List.map_nil, Option.map_some, frz_mlI, sVar, List.getElem?_cons_succ, List.getElem?_cons_zero, fz_lst, if_true]
    have hL : sBin dEq (sArgs dLen (sCons (sVar 2) sNil)) (sC (.int 0)) (frzR [some (scr ns), some (.int 702), some (mlI ns), none, none, none, none, none, none]) = some (.bl (((ns.length : Nat) : Int) == 0)) := sBin1 (sArgs1 (y := .int (ns.length : Nat)) hF (by simp only [dLen, List.length_map])) sC1 rfl
    by_cases hn : ns = []
    · subst hn
      refine ⟨[0], by simp, ?_⟩
      have ap := app_of (ρ := [some (scr []), some (.int 702), some (mlI []), none, none, none, none, none, none]) (i := 2) (l := []) (f := sC (.int 0)) (d := .int 0) (d' := mlI [0]) rfl rfl rfl
      have hb : (((([] : List Int).length : Nat) : Int) == 0) = true := rfl
      simp only [g__law_draws_s1, oIf, mZT, sTruB, hL, Option.bind_some, hb, Rs.of, Rs.out, if_true, ap, List.set_cons_succ, List.set_cons_zero]
    · have hl : 0 < ns.length := List.length_pos_iff.mpr hn
      refine ⟨ns, hl, ?_⟩
      have hb : (((ns.length : Nat) : Int) == 0) = false := beq_eq_false_iff_ne.mpr (by omega)
      simp only [g__law_draws_s1, oIf, mZT, sTruB, hL, Option.bind_some, hb, Rs.of, Rs.out, Bool.false_eq_true, if_false, oNil]
  obtain ⟨cs, hc, s1⟩ := s1
  have nI : ∀ l : List Int, Dat.nols (l.map Dat.int) = true := fun l => nols_of fun d hd => by obtain ⟨n, _, rfl⟩ := List.mem_map.mp hd; rfl
  have s2 : g__law_draws_s2 [some (scr ns), some (.int 702), some (mlI cs), none, none, none, none, none, none] = .nx [some (scr ns), some (.int 702), some (mlI cs), some (mlI cs), none, none, none, none, none] := by
    have hF : sListOf (sCons (sVar 2) sNil) (frzR [some (scr ns), some (.int 702), some (mlI cs), none, none, none, none, none, none]) = some (cs.map Dat.int) := by
      simp only [sListOf, sCons, sNil, frzR, List.map_cons, List.map_nil, Option.map_some, frz_mlI, sVar, List.getElem?_cons_succ, List.getElem?_cons_zero, fz_lst, if_true, Option.bind_some]
    simp only [g__law_draws_s2, oSet, mOw, mZF, hF, nI, if_true, Rs.bind, Rs.out, List.set_cons_succ, List.set_cons_zero]
    rfl
  have s3 : g__law_draws_s3 [some (scr ns), some (.int 702), some (mlI cs), some (mlI cs), none, none, none, none, none] = .nx (dSt (scr ns) cs cs [] none none none) := by
    simp only [g__law_draws_s3, oSet, mOw, mP, sLstF, sNil, Option.bind_some, List.length_nil, Nat.zero_le, if_true, Rs.of, Rs.bind, Rs.out, List.set_cons_succ, List.set_cons_zero, dSt, mlI, List.map_nil]
  obtain ⟨rs', dd', x', y', z', e4⟩ := d_loop (scr ns) cs hc (List.range 702) cs [] none none none (fun k hk => List.mem_range.mp hk) rfl (by simp)
  have s4 : g__law_draws_s4 (dSt (scr ns) cs cs [] none none none) = .nx (dSt (scr ns) cs rs' dd' x' y' z') := by
    have h7 : (702 : Int) ≤ 1000000 ∧ (-1000000 : Int) ≤ 702 := by omega
    have hv : sVar 1 (dSt (scr ns) cs cs [] none none none) = some (.int 702) := rfl
    rw [← e4]
    simp only [g__law_draws_s4, oFor, mItA, mCons, mNil, mP, hv, Rs.of, Rs.bind, rng1]
    rw [if_pos h7]
    rfl
  have s5 : g__law_draws_s5 (dSt (scr ns) cs rs' dd' x' y' z') = .nx (dSt (scr ns) cs rs' dd'.reverse x' y' z') := by
    have h1 : plVar 4 (dSt (scr ns) cs rs' dd' x' y' z') = .ok (4, []) (dSt (scr ns) cs rs' dd' x' y' z') := rfl
    have h2 : plGet (dSt (scr ns) cs rs' dd' x' y' z') (4, []) = some (.mls (dd'.map Dat.int)) := rfl
    simp only [g__law_draws_s5, oRev, h1, Rs.out, h2, allI, if_true]
    simp only [dSt, plPut, List.getElem?_cons_succ, List.getElem?_cons_zero, Dat.put, List.set_cons_succ, List.set_cons_zero, mlI, List.map_reverse]
  have s6 : (g__law_draws_s6 (dSt (scr ns) cs rs' dd'.reverse x' y' z')).val = some (mlI dd'.reverse) := by
    simp only [g__law_draws_s6, oRet, mMv, dSt, List.getElem?_cons_succ, List.getElem?_cons_zero, Rs.out, Out.val]
  obtain ⟨ρ, s6⟩ := Out.of_val s6
  refine ⟨dd'.reverse, ?_⟩
  simp only [f__law_draws, g__law_draws, fnO, fnOf, oSeq, Out.then, List.map_cons, List.map_nil, List.length_cons, List.length_nil, Nat.reduceAdd, Nat.reduceSub, List.replicate_succ, List.replicate_zero, List.cons_append, List.nil_append, if_true, s0, s1, s2, s3, s4, s5, s6]
end K98

namespace K98
open PySem PySem.Spec PyProof.Rows L2 MV
/-! ## many parts -/
def mpC (t : Int) (k : Nat) : Ch := .caps [t + (k : Int)] [([(k : Int), 7], (k : Int))] [(k : Int), 99] [([(k : Int), 8], 3), ([5], (k : Int))]
def mpG (t : Int) (k : Nat) : Gr := ([(k : Int), (k : Int) + t], 40 - 3 * (k : Int))
def mpR (t : Int) (k : Nat) : List Int := [(k : Int) * t % 9, 9 + (k : Int)]
theorem mp1 {t : Int} {k : Nat} {ρ : Rho} (h0 : sVar 0 ρ = some (.int t)) (h6 : sVar 6 ρ = some (.int (k : Int))) : g__law_many_parts_1 ρ = some (mpC t k).d := by
  have e : sBin dAdd (sVar 0) (sVar 6) ρ = some (.int (t + (k : Int))) := sBin1 h0 h6 rfl
  simp only [g__law_many_parts_1, sTup, sCons, sNil, e, h6, sC, Option.bind_some, List.length_cons, List.length_nil, Nat.reduceAdd, Nat.reduceLeDiff, if_true]
  rfl
theorem mp2 {t : Int} {k : Nat} {ρ : Rho} (h0 : sVar 0 ρ = some (.int t)) (h6 : sVar 6 ρ = some (.int (k : Int))) : g__law_many_parts_2 ρ = some (dG (mpG t k)) := by
  have e : sBin dAdd (sVar 6) (sVar 0) ρ = some (.int ((k : Int) + t)) := sBin1 h6 h0 rfl
  have e2 : sBin dSub (sC (.int 40)) (sBin dMul (sC (.int 3)) (sVar 6)) ρ = some (.int (40 - 3 * (k : Int))) := sBin1 sC1 (sBin1 sC1 h6 (dMul_of (cMul_small (by omega) (by omega)))) rfl
  simp only [g__law_many_parts_2, sTup, sCons, sNil, e, e2, h6, Option.bind_some, List.length_cons, List.length_nil, Nat.reduceAdd, Nat.reduceLeDiff, if_true]
  rfl
theorem mp3 {t : Int} {k : Nat} (hk : k < 100) {ρ : Rho} (h0 : sVar 0 ρ = some (.int t)) (h6 : sVar 6 ρ = some (.int (k : Int))) : g__law_many_parts_3 ρ = some (dNs (mpR t k)) := by
  have e : sBin dMod (sArgs dInt (sCons (sBin dMul (sVar 6) (sVar 0)) sNil)) (sC (.int 9)) ρ = some (.int ((k : Int) * t % 9)) := sBin1 (sArgs1 (sBin1 h6 h0 (dMul_of (cMul_small (by omega) (by omega)))) rfl) sC1 (dMod_of (by omega))
  have e2 : sBin dAdd (sC (.int 9)) (sVar 6) ρ = some (.int (9 + (k : Int))) := sBin1 sC1 h6 rfl
  simp only [g__law_many_parts_3, sTup, sCons, sNil, e, e2, Option.bind_some, List.length_cons, List.length_nil, Nat.reduceAdd, Nat.reduceLeDiff, if_true]
  rfl

def mpD (t : Int) : List De := [.split t ((List.range 9).map (mpC t)), .one t (.caps [3, 1, 2] ((List.range 20).map (mpG t)) [] ((List.range 20).map (mpG t)).reverse), .one t (.table ((List.range 40).map (mpR t)))]
theorem many_ok (t : Int) : f__law_many_parts [.int t] = .ok (.lst ((mpD t).map De.d)) [] := by
  have c1 : ∀ ρ : Rho, ρ.length = 7 → sVar 0 ρ = some (.int t) → lcGo ρ [6] gNm sYes g__law_many_parts_1 (rng 0 9) = some (((List.range 9).map (mpC t)).map Ch.d) := fun ρ hl h0 => by
    rw [List.map_map]
    refine lcGo_rng (fun k => (mpC t k).d) 9 fun k hk => mp1 ?_ ?_
    · have : (ρ.set 6 (some (.int (k : Int))))[0]? = ρ[0]? := List.getElem?_set_ne (by omega)
      unfold sVar at h0 ⊢; rw [this]; exact h0
    · have : (ρ.set 6 (some (.int (k : Int))))[6]? = some (some (.int (k : Int))) := List.getElem?_set_self (by omega)
      simp only [sVar, this, fz_int, if_true]
  have c2 : ∀ ρ : Rho, ρ.length = 7 → sVar 0 ρ = some (.int t) → lcGo ρ [6] gNm sYes g__law_many_parts_2 (rng 0 20) = some (((List.range 20).map (mpG t)).map dG) := fun ρ hl h0 => by
    rw [List.map_map]
    refine lcGo_rng (fun k => dG (mpG t k)) 20 fun k hk => mp2 ?_ ?_
    · have : (ρ.set 6 (some (.int (k : Int))))[0]? = ρ[0]? := List.getElem?_set_ne (by omega)
      unfold sVar at h0 ⊢; rw [this]; exact h0
    · have : (ρ.set 6 (some (.int (k : Int))))[6]? = some (some (.int (k : Int))) := List.getElem?_set_self (by omega)
      simp only [sVar, this, fz_int, if_true]
  have c3 : ∀ ρ : Rho, ρ.length = 7 → sVar 0 ρ = some (.int t) → lcGo ρ [6] gNm sYes g__law_many_parts_3 (rng 0 40) = some (((List.range 40).map (mpR t)).map dNs) := fun ρ hl h0 => by
    rw [List.map_map]
    refine lcGo_rng (fun k => dNs (mpR t k)) 40 fun k hk => mp3 (by omega) ?_ ?_
    · have : (ρ.set 6 (some (.int (k : Int))))[0]? = ρ[0]? := List.getElem?_set_ne (by omega)
      unfold sVar at h0 ⊢; rw [this]; exact h0
    · have : (ρ.set 6 (some (.int (k : Int))))[6]? = some (some (.int (k : Int))) := List.getElem?_set_self (by omega)
      simp only [sVar, this, fz_int, if_true]
  have r9 : rng1 [.int 9] = some (rng 0 9) := by unfold rng1; simp only []; rw [if_pos (by omega)]; rfl
  have r20 : rng1 [.int 20] = some (rng 0 20) := by unfold rng1; simp only []; rw [if_pos (by omega)]; rfl
  have r40 : rng1 [.int 40] = some (rng 0 40) := by unfold rng1; simp only []; rw [if_pos (by omega)]; rfl
  have s0 : g__law_many_parts_s0 [some (.int t), none, none, none, none, none, none] = .nx [some (.int t), some (.tup (((List.range 9).map (mpC t)).map Ch.d)), none, none, none, none, none] := by
    have c := c1 [some (.int t), none, none, none, none, none, none] rfl rfl
    simp only [g__law_many_parts_s0, oSet, mP, sArgs, sF, sLC, sItA, sCons, sNil, sC, Option.bind_some, r9, wipeR, List.set_cons_succ, List.set_cons_zero, c, Option.map_some, dTuple, Rs.of, Rs.out]
  generalize hA : ((List.range 9).map (mpC t)).map Ch.d = A at s0
  have s1 : g__law_many_parts_s1 [some (.int t), some (.tup A), none, none, none, none, none] = .nx [some (.int t), some (.tup A), some (.tup (((List.range 20).map (mpG t)).map dG)), none, none, none, none] := by
    have c := c2 [some (.int t), some (.tup A), none, none, none, none, none] rfl rfl
    simp only [g__law_many_parts_s1, oSet, mP, sArgs, sF, sLC, sItA, sCons, sNil, sC, Option.bind_some, r20, wipeR, List.set_cons_succ, List.set_cons_zero, c, Option.map_some, dTuple, Rs.of, Rs.out]
  generalize hB : ((List.range 20).map (mpG t)).map dG = B at s1
  have s2 : g__law_many_parts_s2 [some (.int t), some (.tup A), some (.tup B), none, none, none, none] = .nx [some (.int t), some (.tup A), some (.tup B), some (.tup (((List.range 40).map (mpR t)).map dNs)), none, none, none] := by
    have c := c3 [some (.int t), some (.tup A), some (.tup B), none, none, none, none] rfl rfl
    simp only [g__law_many_parts_s2, oSet, mP, sArgs, sF, sLC, sItA, sCons, sNil, sC, Option.bind_some, r40, wipeR, List.set_cons_succ, List.set_cons_zero, c, Option.map_some, dTuple, Rs.of, Rs.out]
  generalize hC : ((List.range 40).map (mpR t)).map dNs = C at s2
  have s3 : g__law_many_parts_s3 [some (.int t), some (.tup A), some (.tup B), some (.tup C), none, none, none] = .nx [some (.int t), some (.tup A), some (.tup B), some (.tup C), some (.lst [.tup [.str "split", .tup A], .tup [.str "caps", dNs [3, 1, 2], .tup B, dNs [], .tup B.reverse], .tup [.str "table", .tup C]]), none, none] := by
    simp only [g__law_many_parts_s3, oSet, mP, sF, sLstF, sTup, sRevT, sCons, sNil, sVar, sC, List.getElem?_cons_succ, List.getElem?_cons_zero, fz_tup, if_true, Option.bind_some, Option.map_some, List.length_cons, List.length_nil, Nat.reduceAdd, Nat.reduceLeDiff, Nat.zero_le, Rs.of, Rs.out, List.set_cons_succ, List.set_cons_zero]
    rfl
  have s4 : (g__law_many_parts_s4 [some (.int t), some (.tup A), some (.tup B), some (.tup C), some (.lst [.tup [.str "split", .tup A], .tup [.str "caps", dNs [3, 1, 2], .tup B, dNs [], .tup B.reverse], .tup [.str "table", .tup C]]), none, none]).val = some (.lst ((mpD t).map De.d)) := by
    have hB' : B.reverse = ((List.range 20).map (mpG t)).reverse.map dG := by rw [← hB, List.map_reverse]
    have hm : (mpD t).map De.d = [.tup [.str "choose", .int t, .tup [.str "split", .tup A]], .tup [.str "choose", .int t, .tup [.str "caps", dNs [3, 1, 2], .tup B, dNs [], .tup B.reverse]], .tup [.str "choose", .int t, .tup [.str "table", .tup C]]] := by
      rw [hB', ← hA, ← hB, ← hC]; rfl
    rw [hm]
    simp only [g__law_many_parts_s4, oRet, mP, sF, sLC, sSeq, sVar, wipeR, List.set_cons_succ, List.set_cons_zero, List.getElem?_cons_succ, List.getElem?_cons_zero, fz_lst, if_true, Option.bind_some, seqOf, lcGo, gNm, setR, sYes, g__law_many_parts_4, sTup, sCons, sNil, sC, fz_int, fz_tup, List.length_cons, List.length_nil, Nat.reduceAdd, Nat.reduceLeDiff, Option.map_some, Rs.of, Rs.out, Out.val]
  obtain ⟨ρ, s4⟩ := Out.of_val s4
  simp only [f__law_many_parts, g__law_many_parts, fnO, fnOf, oSeq, Out.then, List.map_cons, List.map_nil, List.length_cons, List.length_nil, Nat.reduceAdd, Nat.reduceSub, List.replicate_succ, List.replicate_zero, List.cons_append, List.nil_append, if_true, s0, s1, s2, s3]
  simp only [s4]
end K98

namespace K98
open PySem PySem.Spec PyProof.Rows L2 MV
theorem T_wPB {B : Nat} {cs : List Ch} (h : ∀ c ∈ cs, T c.w ≤ B) : T (wP cs) ≤ cs.length * (B + 5) := by
  induction cs with
  | nil => simp [wP, T]
  | cons g gs ih =>
    have h1 := h g (by simp)
    have h2 := ih fun z hz => h z (List.mem_cons_of_mem _ hz)
    have k : (Str.ofString "part").length = 4 := by decide +kernel
    have e : wP (g :: gs) = Str.ofString "part" :: (g.w ++ wP gs) := by simp [wP]
    rw [e, T_cons, T_append, k]
    simp only [List.length_cons, Nat.succ_mul]; omega
theorem okN_small {l : List Int} (h : ∀ n ∈ l, -1000 ≤ n ∧ n ≤ 1000) (hl : l.length ≤ 40) : okN l := ⟨fun n hn => n60_small (h n hn).1 (h n hn).2, hl⟩
theorem T_small {l : List Int} (h : okN l) : T (wN l) ≤ l.length * 62 := T_wN h.1
theorem mpC_ok {t : Int} (h1 : 1 ≤ t) (h2 : t ≤ 30) {k : Nat} (hk : k < 9) : (mpC t k).ok ∧ T (mpC t k).w ≤ 1500 := by
  have a1 : okN [t + (k : Int)] := okN_small (fun n hn => by simp at hn; omega) (by simp)
  have a2 : okN [(k : Int), 7] := okN_small (fun n hn => by simp at hn; omega) (by simp)
  have a3 : okN [(k : Int), 99] := okN_small (fun n hn => by simp at hn; omega) (by simp)
  have a4 : okN [(k : Int), 8] := okN_small (fun n hn => by simp at hn; omega) (by simp)
  have a5 : okN [5] := okN_small (fun n hn => by simp at hn; omega) (by simp)
  have nk : N60 (k : Int) := n60_small (by omega) (by omega)
  have n3 : N60 3 := n60_small (by omega) (by omega)
  refine ⟨⟨a1, ⟨fun g hg => ?_, by simp⟩, a3, ⟨fun g hg => ?_, by simp⟩⟩, ?_⟩
  · simp only [List.mem_cons, List.not_mem_nil, or_false] at hg
    subst hg
    exact ⟨a2, by simp, nk⟩
  · simp only [List.mem_cons, List.not_mem_nil, or_false] at hg
    rcases hg with rfl | rfl
    · exact ⟨a4, by simp, n3⟩
    · exact ⟨a5, by simp, nk⟩
  · have t1 := T_small a1
    have t2 := T_small a2
    have t3 := T_small a3
    have t4 := T_small a4
    have t5 := T_small a5
    have l1 := nt_len nk
    have l2 := nt_len n3
    obtain ⟨k1, k2, k3, k4, k5, k6, k7, k8⟩ := kwl
    have c1 : (Str.ofString "cap").length = 3 := by decide +kernel
    have c2 : (Str.ofString "of").length = 2 := by decide +kernel
    simp only [List.length_cons, List.length_nil] at t1 t2 t3 t4 t5
    simp only [mpC, Ch.w, wG, List.flatMap_cons, List.flatMap_nil, T_append, T_cons, T_nil, k4, k6, k7, c1, c2]
    omega
theorem T_gs (gs : List Gr) (h : ∀ g ∈ gs, okN g.1 ∧ N60 g.2 ∧ g.1.length = 2) : T (wG gs) ≤ gs.length * 200 := by
  induction gs with
  | nil => simp [wG, T]
  | cons g gs ih =>
    have h1 := h g (by simp)
    have h2 := ih fun z hz => h z (List.mem_cons_of_mem _ hz)
    have h3 := nt_len h1.2.1
    have h4 := T_small h1.1
    rw [h1.2.2] at h4
    have c1 : (Str.ofString "cap").length = 3 := by decide +kernel
    have c2 : (Str.ofString "of").length = 2 := by decide +kernel
    have e : wG (g :: gs) = [Str.ofString "cap", nt g.2, Str.ofString "of"] ++ wN g.1 ++ wG gs := by simp [wG]
    rw [e, T_append, T_append, T_cons, T_cons, T_cons, T_nil, c1, c2]
    simp only [List.length_cons, Nat.succ_mul]; omega

theorem mpG_ok {t : Int} (h1 : 1 ≤ t) (h2 : t ≤ 30) : ∀ g ∈ (List.range 20).map (mpG t), okN g.1 ∧ N60 g.2 ∧ g.1.length = 2 := fun g hg => by
  obtain ⟨k, hk, rfl⟩ := List.mem_map.mp hg
  have hk := List.mem_range.mp hk
  exact ⟨okN_small (fun n hn => by simp [mpG] at hn; omega) (by simp [mpG]), n60_small (by simp [mpG]; omega) (by simp [mpG]; omega), rfl⟩
theorem okG_of {gs : List Gr} (h : ∀ g ∈ gs, okN g.1 ∧ N60 g.2 ∧ g.1.length = 2) (hl : gs.length ≤ 40) : okG gs := ⟨fun g hg => ⟨(h g hg).1, (fun e => by have := (h g hg).2.2; rw [e] at this; cases this), (h g hg).2.1⟩, hl⟩
theorem mpR_ok {t : Int} (h1 : 1 ≤ t) (h2 : t ≤ 30) : ∀ r ∈ (List.range 40).map (mpR t), okN r ∧ r.length = 2 := fun r hr => by
  obtain ⟨k, hk, rfl⟩ := List.mem_map.mp hr
  have hk := List.mem_range.mp hk
  have m0 := Int.emod_nonneg ((k : Int) * t) (b := 9) (by omega)
  have m1 := Int.emod_lt_of_pos ((k : Int) * t) (b := 9) (by omega)
  refine ⟨okN_small (fun n hn => ?_) (by simp [mpR]), rfl⟩
  simp only [mpR, List.mem_cons, List.not_mem_nil, or_false] at hn
  rcases hn with rfl | rfl <;> omega
theorem T_rows (rows : List (List Int)) (h : ∀ r ∈ rows, okN r ∧ r.length = 2) : T (wR rows) ≤ rows.length * 130 := by
  induction rows with
  | nil => simp [wR, T]
  | cons g gs ih =>
    have h1 := h g (by simp)
    have h2 := ih fun z hz => h z (List.mem_cons_of_mem _ hz)
    have h4 := T_small h1.1
    rw [h1.2] at h4
    obtain ⟨k1, k2, k3, k4, k5, k6, k7, k8⟩ := kwl
    have e : wR (g :: gs) = Str.ofString "row" :: (wN g ++ wR gs) := by simp [wR]
    rw [e, T_cons, T_append, k8]
    simp only [List.length_cons, Nat.succ_mul]; omega
theorem mpD_ok {t : Int} (h1 : 1 ≤ t) (h2 : t ≤ 30) : ∀ d ∈ mpD t, d.ok ∧ d.sm := fun d hd => by
  have nt_ : N60 t := n60_small (by omega) (by omega)
  have lt_ := nt_len nt_
  obtain ⟨j1, j2, j3, j4, j5, j6⟩ := kwl2
  obtain ⟨k1, k2, k3, k4, k5, k6, k7, k8⟩ := kwl
  simp only [mpD, List.mem_cons, List.not_mem_nil, or_false] at hd
  rcases hd with rfl | rfl | rfl
  · have hc : ∀ c ∈ (List.range 9).map (mpC t), c.ok ∧ T c.w ≤ 1500 := fun c hc => by
      obtain ⟨k, hk, rfl⟩ := List.mem_map.mp hc
      exact mpC_ok h1 h2 (List.mem_range.mp hk)
    have hT := T_wPB (B := 1500) fun c hh => (hc c hh).2
    have hl : ((List.range 9).map (mpC t)).length = 9 := by rw [List.length_map, List.length_range]
    rw [hl] at hT
    refine ⟨⟨nt_, fun c hh => (hc c hh).1, by omega⟩, ?_⟩
    unfold De.sm
    simp only [De.w, T_append, T_cons, T_nil, j1, j2]; omega
  · have hg := mpG_ok h1 h2
    have hl : ((List.range 20).map (mpG t)).length = 20 := by rw [List.length_map, List.length_range]
    have hr : ∀ g ∈ ((List.range 20).map (mpG t)).reverse, okN g.1 ∧ N60 g.2 ∧ g.1.length = 2 := fun g hh => hg g (List.mem_reverse.mp hh)
    have t1 := T_gs _ hg
    have t2 := T_gs _ hr
    have a1 : okN [3, 1, 2] := okN_small (fun n hn => by simp at hn; omega) (by simp)
    have t3 := T_small a1
    rw [List.length_reverse] at t2
    rw [hl] at t1 t2
    simp only [List.length_cons, List.length_nil] at t3
    refine ⟨⟨nt_, a1, okG_of hg (by omega), wN_ok0, okG_of hr (by rw [List.length_reverse]; omega)⟩, ?_⟩
    unfold De.sm
    have t0 : T (wN []) = 0 := rfl
    simp only [De.w, Ch.w, T_append, T_cons, T_nil, j1, k4, k6, k7, t0]; omega
  · have hr := mpR_ok h1 h2
    have hl : ((List.range 40).map (mpR t)).length = 40 := by rw [List.length_map, List.length_range]
    have t1 := T_rows _ hr
    rw [hl] at t1
    refine ⟨⟨nt_, fun r hh => ⟨(hr r hh).1, fun e => by have := (hr r hh).2; rw [e] at this; cases this⟩, by omega⟩, ?_⟩
    unfold De.sm
    simp only [De.w, Ch.w, T_append, T_cons, T_nil, j1, k5]; omega
end K98

namespace K98
open PySem PySem.Spec PyProof.Rows L2 MV
/-! ## the law -/
def GD (ds : List De) : Prop := (∀ d ∈ ds, d.ok ∧ d.sm) ∧ ds.length ≤ 50
def dDs (ds : List De) : Dat := .lst (ds.map De.d)
theorem deeds_of : ∀ {ys : List Dat}, (∀ y ∈ ys, PD y) → ∃ ds : List De, ys = ds.map De.d ∧ (∀ d ∈ ds, d.ok ∧ d.sm)
  | [], _ => ⟨[], rfl, by simp⟩
  | y :: ys, h => by
    obtain ⟨g, rfl, hg⟩ := h y (by simp)
    obtain ⟨gs, rfl, hgs⟩ := deeds_of (ys := ys) fun z hz => h z (List.mem_cons_of_mem _ hz)
    exact ⟨g :: gs, rfl, fun x hx => by
      rcases List.mem_cons.mp hx with rfl | hx
      · exact hg
      · exact hgs x hx⟩
theorem law_s0 (ns : List Int) : ∃ dd, g_law_s0 [some (scr ns), none, none, none, none, none, none, none] = .nx [some (scr ns), some (mlI dd), none, none, none, none, none, none] := by
  obtain ⟨dd, e⟩ := draws_ok ns
  refine ⟨dd, ?_⟩
  have hS : (scr ns).fz = true := rfl
  simp only [g_law_s0, oSet, mFn, agFr, mP, sVar, sC, List.getElem?_cons_zero, hS, if_true, Rs.of, Rs.bind, agNil, List.length_cons, List.length_nil, Nat.reduceAdd, slsOf, ndB, conts, Option.bind_some, e]
  rfl
theorem law_s1 (ns dd : List Int) : ∃ ds dd', GD ds ∧ ds.length ≤ 8 ∧ g_law_s1 [some (scr ns), some (mlI dd), none, none, none, none, none, none] = .nx [some (scr ns), some (mlI dd'), some (dDs ds), none, none, none, none, none] := by
  obtain ⟨ys, d1, e, p, l⟩ := gn_mlc (n := 9) (by omega) (by omega) (gn_deed ns) (j := 6) (by omega) [some (scr ns), some (mlI dd), none, none, none, none, none, none] dd rfl rfl
  obtain ⟨ds, rfl, hd⟩ := deeds_of p
  simp only [wipeR, List.set_cons_succ, List.set_cons_zero] at e
  have hl : ds.length ≤ 8 := by simp at l; omega
  refine ⟨ds, d1, ⟨hd, by omega⟩, hl, ?_⟩
  have e' : mLC [6] [6] (mItA rng1 (mCons (mO (mFn [0] 2 f__law_take (agSl 1 (agFr (mP (sC (.int 9))) agNil)))) mNil)) gNm mYes g_law_1 [some (scr ns), some (mlI dd), none, none, none, none, none, none] = .ok (ds.map De.d) [some (scr ns), some (mlI d1), none, none, none, none, none, none] := e
  unfold g_law_s1 oSet mFz
  simp only [e', Rs.bind, Rs.out, List.set_cons_succ, List.set_cons_zero, dDs]

theorem law_s2 (ns dd : List Int) {ds : List De} (h : GD ds) (hl : ds.length ≤ 8) : ∃ ds' dd', GD ds' ∧ ds'.length ≤ 48 ∧ g_law_s2 [some (scr ns), some (mlI dd), some (dDs ds), none, none, none, none, none] = .nx [some (scr ns), some (mlI dd'), some (dDs ds'), none, none, none, none, none] := by
  obtain ⟨v, d1, e, v0, v1⟩ := call_take (ρ := [some (scr ns), some (mlI dd), some (dDs ds), none, none, none, none, none]) (i := 1) (ds := dd) (m := 8) rfl (by omega)
  by_cases hv : v = 3
  · subst hv
    have hr : sRep (sVar 2) (sC (.int 6)) [some (scr ns), some (mlI d1), some (dDs ds), none, none, none, none, none] = some (((List.replicate 6 ds).flatten).map De.d) := by
      have hg : (0 : Int) ≤ 6 ∧ (6 : Int) ≤ 1000 ∧ (ds.map De.d).length * Int.toNat 6 ≤ 1000000 := ⟨by omega, by omega, by rw [List.length_map]; show ds.length * 6 ≤ _; omega⟩
      simp only [sRep, sVar, sC, List.getElem?_cons_succ, List.getElem?_cons_zero, dDs, fz_lst, if_true, Option.bind_some]
      rw [if_pos hg, List.map_flatten, List.map_replicate]
      rfl
    refine ⟨(List.replicate 6 ds).flatten, d1, ⟨fun d hd => ?_, ?_⟩, ?_, ?_⟩
    · obtain ⟨l, hl, hd⟩ := List.mem_flatten.mp hd
      rw [List.eq_of_mem_replicate hl] at hd
      exact h.1 d hd
    · simp; omega
    · simp; omega
    · simp only [g_law_s2, oIf, mTru, mBin, mO, e, Rs.bind, fz_int, if_true, mP, sC, Rs.of, dEq, BEq.rfl, Rs.out, List.set_cons_succ, List.set_cons_zero, oSet]
      simp only [sF, hr, Option.map_some, Rs.of, Rs.out, List.set_cons_succ, List.set_cons_zero]
      rfl
  · have bv : (v == 3) = false := beq_eq_false_iff_ne.mpr hv
    refine ⟨ds, d1, h, by omega, ?_⟩
    simp only [g_law_s2, oIf, mTru, mBin, mO, e, Rs.bind, fz_int, if_true, mP, sC, Rs.of, dEq, bv, Rs.out, List.set_cons_succ, List.set_cons_zero, Bool.false_eq_true, if_false, oNil]

theorem cut2 (ds : List De) : MV.cutD (ds.map De.d) none (some 2) = (ds.take 2).map De.d := by
  unfold MV.cutD HT.sIx
  simp only [List.length_map, Nat.sub_zero, List.drop_zero]
  rw [if_neg (by omega), List.map_take]
  show List.take (min 2 ds.length) (ds.map De.d) = List.take 2 (ds.map De.d)
  rw [← List.take_take]
  congr 1
  rw [List.take_of_length_le (by simp)]
theorem law_s3 (ns dd : List Int) {ds : List De} (h : GD ds) : ∃ ds' dd', GD ds' ∧ g_law_s3 [some (scr ns), some (mlI dd), some (dDs ds), none, none, none, none, none] = .nx [some (scr ns), some (mlI dd'), some (dDs ds'), none, none, none, none, none] := by
  obtain ⟨v, d1, e, v0, v1⟩ := call_take (ρ := [some (scr ns), some (mlI dd), some (dDs ds), none, none, none, none, none]) (i := 1) (ds := dd) (m := 8) rfl (by omega)
  by_cases hv : v = 5
  · subst hv
    obtain ⟨t, d2, e2, t0, t1⟩ := call_take (ρ := [some (scr ns), some (mlI d1), some (dDs ds), none, none, none, none, none]) (i := 1) (ds := d1) (m := 30) rfl (by omega)
    have hm := many_ok (1 + t)
    have hc := cut2 ds
    refine ⟨mpD (1 + t) ++ ds.take 2, d2, ⟨fun d hd => ?_, ?_⟩, ?_⟩
    · rcases List.mem_append.mp hd with z | z
      · exact mpD_ok (by omega) (by omega) d z
      · exact h.1 d (List.mem_of_mem_take z)
    · simp [mpD]; omega
    · have hq : sF (sSlL (sVar 2) sNoP (sPart (sC (.int 2)))) [some (scr ns), some (mlI d2), some (dDs ds), none, none, none, none, none] = some (.lst ((ds.take 2).map De.d)) := by
        simp only [sF, sSlL, sVar, sNoP, sPart, sC, List.getElem?_cons_succ, List.getElem?_cons_zero, dDs, fz_lst, if_true, Option.bind_some, hc, Option.map_some]
      have hcat : cat2 (.lst ((mpD (1 + t)).map De.d)) (.lst ((ds.take 2).map De.d)) = some ((mpD (1 + t) ++ ds.take 2).map De.d) := by
        unfold cat2
        simp only []
        rw [if_pos (by simp [mpD]; omega), List.map_append]
      have b1 : mBin dAdd (mP (sC (.int 1))) (mO (mFn [0] 2 f__law_take (agSl 1 (agFr (mP (sC (.int 30))) agNil)))) [some (scr ns), some (mlI d1), some (dDs ds), none, none, none, none, none] = .ok (.int (1 + t)) [some (scr ns), some (mlI d2), some (dDs ds), none, none, none, none, none] := by
        simp only [mBin, mO, mP, sC, Rs.of, Rs.bind, e2, fz_int, if_true, dAdd, List.set_cons_succ, List.set_cons_zero]
      have b2 : mO (mFn [] 1 f__law_many_parts (agFr (mBin dAdd (mP (sC (.int 1))) (mO (mFn [0] 2 f__law_take (agSl 1 (agFr (mP (sC (.int 30))) agNil))))) agNil)) [some (scr ns), some (mlI d1), some (dDs ds), none, none, none, none, none] = .ok (.lst ((mpD (1 + t)).map De.d)) [some (scr ns), some (mlI d2), some (dDs ds), none, none, none, none, none] := by
        generalize mBin dAdd (mP (sC (.int 1))) (mO (mFn [0] 2 f__law_take (agSl 1 (agFr (mP (sC (.int 30))) agNil)))) = m at b1 ⊢
        simp only [mO, mFn, agFr, b1, Rs.bind, agNil, List.length_cons, List.length_nil, Nat.reduceAdd, slsOf, ndB, conts, Option.bind_some, hm, putO, fz_lst, if_true]
        rfl
      have b3 : mCat (mO (mFn [] 1 f__law_many_parts (agFr (mBin dAdd (mP (sC (.int 1))) (mO (mFn [0] 2 f__law_take (agSl 1 (agFr (mP (sC (.int 30))) agNil))))) agNil))) (mP (sF (sSlL (sVar 2) sNoP (sPart (sC (.int 2)))))) [some (scr ns), some (mlI d1), some (dDs ds), none, none, none, none, none] = .ok ((mpD (1 + t) ++ ds.take 2).map De.d) [some (scr ns), some (mlI d2), some (dDs ds), none, none, none, none, none] := by
        simp only [mCat, b2, Rs.bind, mP, hq, Rs.of, hcat]
      have b4 : mTru (mBin dEq (mO (mFn [0] 2 f__law_take (agSl 1 (agFr (mP (sC (.int 8))) agNil)))) (mP (sC (.int 5)))) [some (scr ns), some (mlI dd), some (dDs ds), none, none, none, none, none] = .ok true [some (scr ns), some (mlI d1), some (dDs ds), none, none, none, none, none] := by
        simp only [mTru, mBin, mO, e, Rs.bind, fz_int, if_true, mP, sC, Rs.of, dEq, BEq.rfl, List.set_cons_succ, List.set_cons_zero]
      simp only [g_law_s3, oIf, b4, Rs.out, if_true, oSet, mFz, b3, Rs.bind, List.set_cons_succ, List.set_cons_zero]
      rfl
  · have bv : (v == 5) = false := beq_eq_false_iff_ne.mpr hv
    refine ⟨ds, d1, h, ?_⟩
    simp only [g_law_s3, oIf, mTru, mBin, mO, e, Rs.bind, fz_int, if_true, mP, sC, Rs.of, dEq, bv, Rs.out, List.set_cons_succ, List.set_cons_zero, Bool.false_eq_true, if_false, oNil]
end K98

namespace K98
open PySem PySem.Spec PyProof.Rows L2 MV
def lSt (ns dd : List Int) (ds : List De) (x y z w : Option Dat) : Rho := [some (scr ns), some (mlI dd), some (dDs ds), x, y, z, w, none]
theorem law_s4 (ns dd : List Int) {ds : List De} (h : GD ds) : g_law_s4 (lSt ns dd ds none none none none) = .nx (lSt ns dd ds (some (dWs (ds.map De.ln))) none none none) := by
  have e : lcGo [some (scr ns), some (mlI dd), some (dDs ds), none, none, none, none, none] [7] gNm sYes g_law_2 (ds.map De.d) = some (ds.map fun d => .str d.ln) := by
    refine lcGo_nm _ _ _ fun d hd => ?_
    have w := ofFn1 (line_ok (h.1 d hd).1 (h.1 d hd).2) fz_str
    simp only [g_law_2, sBin, sC, sFn, sCons, sNil, sVar, List.set_cons_succ, List.set_cons_zero, List.getElem?_cons_succ, List.getElem?_cons_zero, De.dz, if_true, Option.bind_some, List.length_cons, List.length_nil, Nat.reduceAdd, w]
    exact dAdd_ln (h.1 d hd).2
  simp only [dDs] at e
  simp only [g_law_s4, lSt, oSet, mFz, mP, sLC, sSeq, sVar, wipeR, dDs, List.set_cons_succ, List.set_cons_zero, List.getElem?_cons_succ, List.getElem?_cons_zero, fz_lst, if_true, Option.bind_some, seqOf, e, Rs.of, Rs.bind, Rs.out]
  simp only [dWs, List.map_map]
  rfl

theorem cut2s (ws : List Str) : MV.cutD (ws.map Dat.str) none (some 2) = (ws.take 2).map Dat.str := by
  unfold MV.cutD HT.sIx
  simp only [List.length_map, Nat.sub_zero, List.drop_zero]
  rw [if_neg (by omega), List.map_take]
  show List.take (min 2 ws.length) (ws.map Dat.str) = List.take 2 (ws.map Dat.str)
  rw [← List.take_take]
  congr 1
  rw [List.take_of_length_le (by simp)]
theorem gd_sm {ds : List De} (h : GD ds) : ∀ d ∈ ds, d.sm := fun d hd => (h.1 d hd).2
theorem gd_ok {ds : List De} (h : GD ds) : ∀ d ∈ ds, d.ok := fun d hd => (h.1 d hd).1
theorem law_s5 (ns dd : List Int) {ds : List De} (h : GD ds) : ∃ ds', GD ds' ∧ g_law_s5 (lSt ns dd ds (some (dWs (ds.map De.ln))) none none none) = .nx (lSt ns dd ds' (some (dWs (ds'.map De.ln))) none none none) := by
  have hj := join_lns (gd_sm h) h.2
  have e : sBin dGt (sArgs dLen (sCons (sBin dJoin (sC (.str "")) (sVar 3)) sNil)) (sC (.int 20000)) (lSt ns dd ds (some (dWs (ds.map De.ln))) none none none) = some (.bl (decide ((20000 : Int) < (((text ds).length : Nat) : Int)))) :=
    sBin1 (sArgs1 (sBin1 sC1 rfl hj) rfl) sC1 rfl
  by_cases hb : (20000 : Int) < (((text ds).length : Nat) : Int)
  · have hd : decide ((20000 : Int) < (((text ds).length : Nat) : Int)) = true := decide_eq_true hb
    refine ⟨ds.take 2, ⟨fun d hd => h.1 d (List.mem_of_mem_take hd), by simp; omega⟩, ?_⟩
    have c1 := cut2 ds
    have c2 := cut2s (ds.map De.ln)
    simp only [g_law_s5, oIf, mP, sTruB, e, Option.bind_some, hd, Rs.of, Rs.out, if_true]
    simp only [lSt, oSeq, oSet, mP, sF, sSlL, sVar, sNoP, sPart, sC, dDs, dWs, List.getElem?_cons_succ, List.getElem?_cons_zero, fz_lst, if_true, Option.bind_some, c1, c2, Option.map_some, Rs.of, Rs.out, List.set_cons_succ, List.set_cons_zero, Out.then, List.map_take]
  · have hd : decide ((20000 : Int) < (((text ds).length : Nat) : Int)) = false := decide_eq_false hb
    refine ⟨ds, h, ?_⟩
    simp only [g_law_s5, oIf, mP, sTruB, e, Option.bind_some, hd, Rs.of, Rs.out, Bool.false_eq_true, if_false, oNil]
theorem law_s6 (ns dd : List Int) {ds : List De} (h : GD ds) : g_law_s6 (lSt ns dd ds (some (dWs (ds.map De.ln))) none none none) = .nx (lSt ns dd ds (some (dWs (ds.map De.ln))) (some (.str (text ds))) none none) := by
  have hj : sBin dJoin (sC (.str "")) (sVar 3) (lSt ns dd ds (some (dWs (ds.map De.ln))) none none none) = some (.str (text ds)) := sBin1 sC1 rfl (join_lns (gd_sm h) h.2)
  simp only [g_law_s6, oSet, mP, hj, Rs.of, Rs.out]
  simp only [lSt, List.set_cons_succ, List.set_cons_zero]
theorem law_s7 (ns dd : List Int) {ds : List De} (h : GD ds) : g_law_s7 (lSt ns dd ds (some (dWs (ds.map De.ln))) (some (.str (text ds))) none none) = .nx (lSt ns dd ds (some (dWs (ds.map De.ln))) (some (.str (text ds))) (some (.str (text ds))) none) := by
  have w := ofFn1 (write_ok (gd_ok h) (gd_sm h) h.2) fz_str
  have e : sFn 1 f_write_journal (sCons (sArgs dTuple (sCons (sVar 2) sNil)) sNil) (lSt ns dd ds (some (dWs (ds.map De.ln))) (some (.str (text ds))) none none) = some (.str (text ds)) := by
    have e1 : sArgs dTuple (sCons (sVar 2) sNil) (lSt ns dd ds (some (dWs (ds.map De.ln))) (some (.str (text ds))) none none) = some (.tup (ds.map De.d)) := sArgs1 (x := dDs ds) rfl rfl
    simp only [sFn, sCons, sNil] at e1 ⊢
    simp only [e1, Option.bind_some, List.length_cons, List.length_nil, Nat.reduceAdd, if_true, w]
    rfl
  simp only [g_law_s7, oSet, mP, e, Rs.of, Rs.out]
  simp only [lSt, List.set_cons_succ, List.set_cons_zero]

theorem fn1_of {f : List Dat → Rs Dat} {fa : Rho → Option Dat} {ρ : Rho} {x y : Dat} (h : fa ρ = some x) (w : pfn f [x] = some y) : sFn 1 f (sCons fa sNil) ρ = some y := by
  simp only [sFn, sCons, sNil, h, Option.bind_some, List.length_cons, List.length_nil, Nat.reduceAdd, if_true, w]
theorem fn2_of {f : List Dat → Rs Dat} {fa fb : Rho → Option Dat} {ρ : Rho} {x x2 y : Dat} (h : fa ρ = some x) (h2 : fb ρ = some x2) (w : pfn f [x, x2] = some y) : sFn 2 f (sCons fa (sCons fb sNil)) ρ = some y := by
  simp only [sFn, sCons, sNil, h, h2, Option.bind_some, List.length_cons, List.length_nil, Nat.reduceAdd, if_true, w]
theorem back {ds : List De} (h : GD ds) {ρ : Rho} {fa fb : Rho → Option Dat} (h1 : fa ρ = some (.str (text ds))) (h2 : fb ρ = some (.tup (ds.map De.d))) : sFn 2 (f__law_same 12) (sCons (sFn 1 f_read_journal (sCons fa sNil)) (sCons fb sNil)) ρ = some (.bl true) :=
  fn2_of (fn1_of h1 (ofFn1 (read_ok (gd_ok h) (gd_sm h) h.2) fz_tup)) h2 (back_ok (gd_ok h) (gd_sm h) h.2)
abbrev lEnd (ns dd : List Int) (ds : List De) (w : Option Dat) : Rho := lSt ns dd ds (some (dWs (ds.map De.ln))) (some (.str (text ds))) (some (.str (text ds))) w
theorem law_s8 (ns dd : List Int) {ds : List De} (h : GD ds) : g_law_s8 (lEnd ns dd ds none) = .nx (lEnd ns dd ds none) := by
  have e1 : sTruB (sUn (dIsi "str") (sVar 5)) (lEnd ns dd ds none) = some true := by
    have : sUn (dIsi "str") (sVar 5) (lEnd ns dd ds none) = dIsi "str" (.str (text ds)) := rfl
    simp only [sTruB, this, isi_str_str, Option.bind_some]
  have e2 : sTruB (sBin dNe (sVar 5) (sVar 4)) (lEnd ns dd ds none) = some false := by
    have : sBin dNe (sVar 5) (sVar 4) (lEnd ns dd ds none) = some (.bl (!(text ds == text ds))) := sBin1 rfl rfl rfl
    simp only [sTruB, this, Option.bind_some, BEq.rfl, Bool.not_true]
  have e3 := back h (ρ := lEnd ns dd ds none) (fa := sVar 4) (fb := sArgs dTuple (sCons (sVar 2) sNil)) rfl (sArgs1 (x := dDs ds) rfl rfl)
  simp only [g_law_s8, oIf, mP, sOr, sNot, e1, e2, Option.map_some, Option.bind_some, Bool.not_true, Bool.false_eq_true, if_false]
  have e4 : sTruB (sFn 2 (f__law_same 12) (sCons (sFn 1 f_read_journal (sCons (sVar 4) sNil)) (sCons (sArgs dTuple (sCons (sVar 2) sNil)) sNil))) (lEnd ns dd ds none) = some true := by
    simp only [sTruB, e3, Option.bind_some]
  simp only [e4, Option.map_some, Bool.not_true, Rs.of, Rs.out, Bool.false_eq_true, if_false, oNil]

theorem text_one (d : De) : text [d] = d.ln := by
  unfold text
  rw [TL.join_eq]; rfl
theorem law_loop (ns dd : List Int) {ds : List De} (h : GD ds) : ∀ (ks : List Nat), (∀ k ∈ ks, k < ds.length) → ∀ w : Option Dat, ∃ w', oForL [6] gNm g_law_3 (ks.map fun (k : Nat) => Dat.int (0 + (k : Int))) (lEnd ns dd ds w) = .nx (lEnd ns dd ds w')
  | [], _, w => ⟨w, rfl⟩
  | k :: ks, hk, w => by
    obtain ⟨w', ih⟩ := law_loop ns dd h ks (fun j hj => hk j (List.mem_cons_of_mem _ hj)) (some (.int (k : Int)))
    refine ⟨w', ?_⟩
    have hk0 := hk k (by simp)
    have es : setR (lEnd ns dd ds w) [6] [Dat.int (0 + (k : Int))] = lEnd ns dd ds (some (.int (k : Int))) := by
      rw [Int.zero_add]
      simp only [setR, lEnd, lSt, List.set_cons_succ, List.set_cons_zero]
    have g1 : GD [ds[k]] := ⟨fun d hd => by rw [List.mem_singleton.mp hd]; exact h.1 _ (List.getElem_mem hk0), by simp⟩
    have x1 : L2.atI ((ds.map De.ln).map Dat.str) (k : Int) = some (.str ds[k].ln) := atI_nat (k := k) rfl (by rw [List.getElem?_map, List.getElem?_map, List.getElem?_eq_getElem hk0]; rfl)
    have x2 : L2.atI (ds.map De.d) (k : Int) = some ds[k].d := atI_nat (k := k) rfl (by rw [List.getElem?_map, List.getElem?_eq_getElem hk0]; rfl)
    have i1 : sBin dIx (sVar 3) (sVar 6) (lEnd ns dd ds (some (.int (k : Int)))) = some (.str (text [ds[k]])) := by rw [text_one]; exact sBin1 (x := dWs (ds.map De.ln)) rfl rfl x1
    have i2 : sTup (sCons (sBin dIx (sVar 2) (sVar 6)) sNil) (lEnd ns dd ds (some (.int (k : Int)))) = some (.tup ([ds[k]].map De.d)) := by
      have : sBin dIx (sVar 2) (sVar 6) (lEnd ns dd ds (some (.int (k : Int)))) = some ds[k].d := sBin1 (x := dDs ds) rfl rfl x2
      simp only [sTup, sCons, sNil, this, Option.bind_some, List.length_cons, List.length_nil, Nat.reduceAdd, Nat.reduceLeDiff, if_true, List.map_cons, List.map_nil]
    have e := back g1 i1 i2
    have st : g_law_3 (lEnd ns dd ds (some (.int (k : Int)))) = .nx (lEnd ns dd ds (some (.int (k : Int)))) := by
      simp only [g_law_3, oIf, mP, sNot, sTruB, e, Option.bind_some, Option.map_some, Bool.not_true, Rs.of, Rs.out, Bool.false_eq_true, if_false, oNil]
    rw [List.map_cons]
    unfold oForL gNm
    simp only [es, st]
    exact ih

theorem args2_of {g : List Dat → Option Dat} {fa fb : Rho → Option Dat} {ρ : Rho} {x y : Dat} (h1 : fa ρ = some x) (h2 : fb ρ = some y) : sArgs g (sCons fa (sCons fb sNil)) ρ = g [x, y] := by
  unfold sArgs sCons sNil
  simp only [h1, h2, Option.bind_some]
theorem law_s9 (ns dd : List Int) {ds : List De} (h : GD ds) : ∃ w, g_law_s9 (lEnd ns dd ds none) = .nx (lEnd ns dd ds w) := by
  obtain ⟨w, e⟩ := law_loop ns dd h (List.range (min 8 ds.length)) (fun k hk => by have := List.mem_range.mp hk; omega) none
  refine ⟨w, ?_⟩
  have hm : sArgs dMin (sCons (sC (.int 8)) (sCons (sArgs dLen (sCons (sVar 2) sNil)) sNil)) (lEnd ns dd ds none) = some (.int ((min 8 ds.length : Nat) : Int)) := by
    have h2 : sArgs dLen (sCons (sVar 2) sNil) (lEnd ns dd ds none) = some (.int (ds.length : Nat)) := sArgs1 (x := dDs ds) rfl (by simp only [dLen, dDs, List.length_map])
    refine (args2_of (x := .int 8) (y := .int (ds.length : Nat)) rfl h2).trans ?_
    simp only [dMin]
    congr 2
    split <;> omega
  have hr : rng1 [.int ((min 8 ds.length : Nat) : Int)] = some (rng 0 (min 8 ds.length)) := by
    unfold rng1; simp only []; rw [if_pos (by omega), Int.toNat_natCast]
  rw [← e]
  simp only [g_law_s9, oFor, mItA, mCons, mNil, mP, hm, Rs.of, Rs.bind, hr, Rs.out]
  rfl
theorem law_s10 (ns dd : List Int) (ds : List De) (w : Option Dat) : (g_law_s10 (lEnd ns dd ds w)).val = some (.bl true) := by
  have g0 : GD [] := ⟨by simp, by simp⟩
  have t0 : text [] = Str.ofString "" := by unfold text; rw [TL.join_eq]; rfl
  have w0 := ofFn1 (write_ok (ds := []) (by simp) (by simp) (by simp)) fz_str
  have i0 : sTup sNil (lEnd ns dd ds w) = some (.tup []) := rfl
  have e1 : sBin dEq (sFn 1 f_write_journal (sCons (sTup sNil) sNil)) (sC (.str "")) (lEnd ns dd ds w) = some (.bl true) := by
    refine sBin1 (fn1_of i0 w0) sC1 ?_
    show some (Dat.bl (text [] == Str.ofString "")) = _
    rw [t0, BEq.rfl]
  have e2 := back g0 (ρ := lEnd ns dd ds w) (fa := sC (.str "")) (fb := sTup sNil) (by rw [t0]; rfl) i0
  simp only [g_law_s10, oRet, mP, sAndV, e1, e2, Option.bind_some, Rs.of, Rs.out, Out.val]
theorem law_true (ns : List Int) (_h : ns.length ≤ 63) : ∃ o, f_law [.frl (ns.map Dat.int)] = .ok (.bl true) o := by
  obtain ⟨d0, s0⟩ := law_s0 ns
  obtain ⟨ds1, d1, h1, l1, s1⟩ := law_s1 ns d0
  obtain ⟨ds2, d2, h2, _, s2⟩ := law_s2 ns d1 h1 l1
  obtain ⟨ds3, d3, h3, s3⟩ := law_s3 ns d2 h2
  have s4 := law_s4 ns d3 h3
  obtain ⟨ds5, h5, s5⟩ := law_s5 ns d3 h3
  have s6 := law_s6 ns d3 h5
  have s7 := law_s7 ns d3 h5
  have s8 := law_s8 ns d3 h5
  obtain ⟨w, s9⟩ := law_s9 ns d3 h5
  obtain ⟨ρ, s10⟩ := Out.of_val (law_s10 ns d3 ds5 w)
  have e : g_law [some (scr ns), none, none, none, none, none, none, none] = .rt (.bl true) ρ := by
    unfold lEnd at s8 s9 s10
    simp only [lSt] at s4 s5 s6 s7 s8 s9 s10
    simp only [g_law, oSeq, Out.then, s0, s1, s2, s3, s4, s5, s6, s7, s8, s9, s10]
  refine ⟨[], ?_⟩
  have e' : g_law [some (.frl (ns.map Dat.int)), none, none, none, none, none, none, none] = .rt (.bl true) ρ := e
  simp only [f_law, fnO, fnOf, List.map_cons, List.map_nil, List.length_cons, List.length_nil, Nat.reduceAdd, Nat.reduceSub, List.replicate_succ, List.replicate_zero, List.cons_append, List.nil_append, if_true, e']
end K98

open PySem PySem.W PySem.Calls PyProof.Rows
theorem PySem.Challenge.cw_nochaingains_k98_journals_written_and_re_holds : PySem.Challenge.rw_nochaingains_k98_journals_written_and_re.Holds := by
  w_on; o_law
  refine HandSHeadRun.head_any (r := OpenLaw.row PySem.Challenge.rw_nochaingains_k98_journals_written_and_re) (q := view (OpenLaw.row PySem.Challenge.rw_nochaingains_k98_journals_written_and_re).prog [39]) (H := K98.hk) (ob := K98.ob) (M := 3440) (loose := K98.loose) (d := HandSHeadRun.topDef (OpenLaw.row PySem.Challenge.rw_nochaingains_k98_journals_written_and_re).prog 39) (kwd := []) K98.ob_eq
    (by kernel_rfl) (fun s => by kernel_rfl) K98.run (by kernel_rfl) (by kernel_rfl) (by kernel_rfl) (by rfl) (by first | assumption | decide +kernel) (by decide +kernel) ⟨rfl, rfl, rfl, rfl, rfl, by decide +kernel⟩ ?hw ?hc
  case hw => w_witness2
  case hc =>
    refine L2.walk_ofE (l := PySem.Challenge.rw_nochaingains_k98_journals_written_and_re) (n := 63) (k := 14) (x := "_law_script") (CX := L2.CX0) rfl (by decide) (by kernel_rfl) ⟨rfl, by decide, by decide⟩ ?F (fun _ _ _ _ z => z)
    intro w mg fa h Y G hmg0
    obtain ⟨K, KX, c⟩ := Y
    have hmg : mg ("law" : PySem.Str) = some (.ref fa) := by
      have e : (HandSHeadRun.topDef (OpenLaw.row PySem.Challenge.rw_nochaingains_k98_journals_written_and_re).prog 39).name = ("law" : PySem.Str) := by kernel_rfl
      rw [← e]
      exact hmg0
    obtain ⟨fd, hb, hF⟩ := K98.facts (P := (PySem.Challenge.rw_nochaingains_k98_journals_written_and_re).prog) (w := w) KX G hmg c
    exact ⟨K, fd, _, KX, hb, fun H a ns hl _ hS => MV.sp_script (Nat.le_trans hl (by decide)) hS (K98.law_true ns hl), hF⟩
