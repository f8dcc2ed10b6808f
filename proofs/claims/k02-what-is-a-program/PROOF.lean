import PyProof.Rows.All
import Wide.All
import OpenK.AllK
import Wide.FinOn
import HandS.ForMost
import HandS.IsInst
import HandS.TupAny
import HandS.Style
import HandS.Wide
import HandS.RaiseMore
import HandS.More
import KE.SortData
import HandS.Set
import HandS.SetFor
import HandS.ExcInit
import HandS.ExcField
import HandS.ForExc
import HandS.HeadHook3
import PySem.Challenge.RW_forkspan_k02_whole_what_is_a_program
set_option Elab.async false
set_option linter.all false
set_option maxRecDepth 100000
set_option maxHeartbeats 4000000
/-! values as data, what stands for them in the heap, and the judgements: an expression comes to what a plain function of the environment says -/
namespace ML
open PySem PySem.Spec PyProof.Rows L2

inductive D where
  | non | bl (b : Bool) | int (i : Int) | str (s : Str) | lst (xs : List D) | tup (xs : List D) | ro (ns : List Int)

mutual
inductive Rp (K : PySem.W.Frag) (H : Hp) : V → D → Prop
  | non : Rp K H .non .non
  | bl (b : Bool) : Rp K H (.bl b) (.bl b)
  | int (i : Int) : Rp K H (.int i) (.int i)
  | str (x : Str) : Rp K H (.str x) (.str x)
  | lst {a : Addr} {xs : List V} {ds : List D} : H a = some (.lst xs) → RpA K H xs ds → Rp K H (.ref a) (.lst ds)
  | tup {a : Addr} {xs : List V} {ds : List D} : SqT K H a xs → RpA K H xs ds → Rp K H (.ref a) (.tup ds)
  | ro {a : Addr} {ns : List Int} : SqL K H a (ns.map V.int) → Rp K H (.ref a) (.ro ns)
inductive RpA (K : PySem.W.Frag) (H : Hp) : List V → List D → Prop
  | nil : RpA K H [] []
  | cons {v : V} {vs : List V} {d : D} {ds : List D} : Rp K H v d → RpA K H vs ds → RpA K H (v :: vs) (d :: ds)
end

section
variable {K : PySem.W.Frag} {H H' : Hp}
theorem rd_same {a : Addr} {u : HO} (e : Same H H') (h : Rd H a u) : Rd H' a u := by
  rcases h with h | ⟨o, h⟩
  · exact Or.inl (e a _ h)
  · exact Or.inr ⟨o, e a _ h⟩
theorem sqt_same {a : Addr} {xs : List V} (e : Same H H') (h : SqT K H a xs) : SqT K H' a xs := by
  rcases h with h | h
  · exact Or.inl (rd_same e h)
  · exact Or.inr h
mutual
theorem Rp.mono (e : Same H H') {v : V} {d : D} : Rp K H v d → Rp K H' v d
  | .non => .non
  | .bl b => .bl b
  | .int i => .int i
  | .str x => .str x
  | .lst h a => .lst (e _ _ h) (RpA.mono e a)
  | .tup h a => .tup (sqt_same e h) (RpA.mono e a)
  | .ro h => .ro (e.seq h)
theorem RpA.mono (e : Same H H') {vs : List V} {ds : List D} : RpA K H vs ds → RpA K H' vs ds
  | .nil => .nil
  | .cons h t => .cons (Rp.mono e h) (RpA.mono e t)
end
theorem RpA.length : ∀ {vs : List V} {ds : List D}, RpA K H vs ds → vs.length = ds.length
  | _, _, .nil => rfl
  | _, _, .cons _ t => congrArg Nat.succ (RpA.length t)
theorem RpA.append : ∀ {vs ws : List V} {ds es : List D}, RpA K H vs ds → RpA K H ws es → RpA K H (vs ++ ws) (ds ++ es)
  | _, _, _, _, .nil, s => s
  | _, _, _, _, .cons h t, s => .cons h (RpA.append t s)
theorem RpA.get : ∀ {vs : List V} {ds : List D} {i : Nat} {d : D}, RpA K H vs ds → ds[i]? = some d → ∃ v, vs[i]? = some v ∧ Rp K H v d
  | _, _, _, _, .nil, e => by simp at e
  | _, _, 0, _, .cons h _, e => by simp at e; subst e; exact ⟨_, rfl, h⟩
  | _, _, i + 1, d, .cons _ t, e => by
    obtain ⟨v, h1, h2⟩ := RpA.get (i := i) (d := d) t (by simpa using e)
    exact ⟨v, by simpa using h1, h2⟩
theorem RpA.getV : ∀ {vs : List V} {ds : List D} {i : Nat} {v : V}, RpA K H vs ds → vs[i]? = some v → ∃ d, ds[i]? = some d ∧ Rp K H v d
  | _, _, _, _, .nil, e => by simp at e
  | _, _, 0, _, .cons h _, e => by simp at e; subst e; exact ⟨_, rfl, h⟩
  | _, _, i + 1, d, .cons _ t, e => by
    obtain ⟨v, h1, h2⟩ := RpA.getV (i := i) (v := d) t (by simpa using e)
    exact ⟨v, by simpa using h1, h2⟩
theorem RpA.take : ∀ {vs : List V} {ds : List D} (n : Nat), RpA K H vs ds → RpA K H (vs.take n) (ds.take n)
  | _, _, 0, _ => .nil
  | _, _, _ + 1, .nil => .nil
  | _, _, n + 1, .cons h t => .cons h (RpA.take n t)
theorem RpA.drop : ∀ {vs : List V} {ds : List D} (n : Nat), RpA K H vs ds → RpA K H (vs.drop n) (ds.drop n)
  | _, _, 0, r => r
  | _, _, _ + 1, .nil => .nil
  | _, _, n + 1, .cons _ t => RpA.drop n t
theorem RpA.reverse : ∀ {vs : List V} {ds : List D}, RpA K H vs ds → RpA K H vs.reverse ds.reverse
  | _, _, .nil => .nil
  | _, _, .cons h t => by
    rw [List.reverse_cons, List.reverse_cons]
    exact (RpA.reverse t).append (.cons h .nil)
theorem RpA.strs : ∀ {vs : List V} {ss : List Str}, RpA K H vs (ss.map D.str) → vs = ss.map V.str
  | _, [], .nil => rfl
  | _, s :: ss, .cons h t => by
    cases h
    rw [RpA.strs t]
    rfl
theorem RpA.bls : ∀ {vs : List V} {bs : List Bool}, RpA K H vs (bs.map D.bl) → vs = bs.map V.bl
  | _, [], .nil => rfl
  | _, s :: ss, .cons h t => by
    cases h
    rw [RpA.bls t]
    rfl
theorem RpA.of_strs : ∀ (ss : List Str), RpA K H (ss.map V.str) (ss.map D.str)
  | [] => .nil
  | s :: ss => .cons (.str s) (RpA.of_strs ss)
theorem RpA.of_ints : ∀ (ss : List Int), RpA K H (ss.map V.int) (ss.map D.int)
  | [] => .nil
  | s :: ss => .cons (.int s) (RpA.of_ints ss)
end

/-- what is known grows from Hk to Hr while the heap goes from H to H2: all that stood stands; what is newly known is new -/
structure Step (Hk H Hr H2 : Hp) : Prop where
  ex : Same H H2
  kn : Same Hk Hr
  sub : Same Hr H2
  new : ∀ a o, Hr a = some o → Hk a = none → H a = none
theorem none_back {H H2 : Hp} {a : Addr} (e : Same H H2) (h : H2 a = none) : H a = none := e.free h
theorem Step.refl {Hk H : Hp} (h : Same Hk H) : Step Hk H Hk H := ⟨Same.refl _, Same.refl _, h, fun a o h1 h2 => by rw [h2] at h1; cases h1⟩
theorem Step.trans {Hk H Hr H2 Hs H3 : Hp} (a : Step Hk H Hr H2) (b : Step Hr H2 Hs H3) : Step Hk H Hs H3 :=
  ⟨a.ex.trans b.ex, a.kn.trans b.kn, b.sub, fun x o h1 h2 => by
    cases e : Hr x with
    | none => exact none_back a.ex (b.new x o h1 e)
    | some u => exact a.new x u e h2⟩
theorem same_new {H : Hp} {p : Addr} {o : HO} (h : H p = none) : Same H (upd H p o) := fun b u q => by rw [upd_ne (ne_of_none q h)]; exact q
theorem same_upd {H H2 : Hp} {p : Addr} {o : HO} (e : Same H H2) : Same (upd H p o) (upd H2 p o) := fun b u q => by
  by_cases hb : b = p
  · subst hb; rw [upd_same] at q ⊢; exact q
  · rw [upd_ne hb] at q ⊢; exact e b u q
/-- a change at an address that is not known -/
theorem same_mut {H H2 : Hp} {p : Addr} {o : HO} (e : Same H H2) (h : H p = none) : Same H (upd H2 p o) := fun b u q => by
  rw [upd_ne (ne_of_none q h)]; exact e b u q
theorem Step.alloc {Hk H Hr H2 : Hp} {p : Addr} {o : HO} (a : Step Hk H Hr H2) (h : H2 p = none) : Step Hk H (upd Hr p o) (upd H2 p o) :=
  ⟨a.ex.trans (same_new h), a.kn.trans (same_new (none_back a.sub h)), same_upd a.sub, fun x u h1 h2 => by
    by_cases hx : x = p
    · subst hx; exact none_back a.ex h
    · rw [upd_ne hx] at h1; exact a.new x u h1 h2⟩
/-- what was not known and stood is not known behind it -/
theorem Step.hid {Hk H Hr H2 : Hp} {p : Addr} {o : HO} (a : Step Hk H Hr H2) (h1 : H p = some o) (h2 : Hk p = none) : Hr p = none := by
  cases e : Hr p with
  | none => rfl
  | some u =>
    have q := a.new p u e h2
    rw [h1] at q; cases q

abbrev Env := List (Option D)
abbrev E := Env → Option D
abbrev Es := Env → Option (List D)
/-- the slots stand for the environment -/
structure Rel (K : PySem.W.Frag) (Hk : Hp) (σ : L2.St) (ρ : Env) : Prop where
  len : σ.length = ρ.length
  at_ : ∀ (i : Nat) (d : D), ρ[i]? = some (some d) → ∃ v : V, σ[i]? = some (some v) ∧ Rp K Hk v d
theorem Rel.mono {K : PySem.W.Frag} {Hk Hr : Hp} {σ : L2.St} {ρ : Env} (e : Same Hk Hr) (r : Rel K Hk σ ρ) : Rel K Hr σ ρ :=
  ⟨r.len, fun i d h => let ⟨v, h1, h2⟩ := r.at_ i d h; ⟨v, h1, h2.mono e⟩⟩
theorem Rel.set {K : PySem.W.Frag} {Hk : Hp} {σ : L2.St} {ρ : Env} {i : Nat} {v : V} {d : D} (r : Rel K Hk σ ρ) (h : Rp K Hk v d) : Rel K Hk (σ.set i (some v)) (ρ.set i (some d)) := by
  refine ⟨by rw [List.length_set, List.length_set]; exact r.len, fun j e hj => ?_⟩
  by_cases hji : i = j
  · subst hji
    have hl : i < ρ.length := by
      rcases Nat.lt_or_ge i ρ.length with h | h
      · exact h
      · rw [List.getElem?_eq_none (by rw [List.length_set]; exact h)] at hj; cases hj
    rw [List.getElem?_set_self hl] at hj
    cases hj
    exact ⟨v, by rw [List.getElem?_set_self (by rw [r.len]; exact hl)], h⟩
  · rw [List.getElem?_set_ne hji] at hj
    obtain ⟨w, h1, h2⟩ := r.at_ j e hj
    exact ⟨w, by rw [List.getElem?_set_ne hji]; exact h1, h2⟩

def SE (K : PySem.W.Frag) (te : TE) (m : E) : Prop := ∀ σ ρ Hk, Rel K Hk σ ρ → ∀ d, m ρ = some d → ∀ H, Same Hk H → ∀ Q : VK, (∀ v H2 Hr, Step Hk H Hr H2 → Rp K Hr v d → Q v H2) → te σ H Q
def SA (K : PySem.W.Frag) (ta : TA) (m : Es) : Prop := ∀ σ ρ Hk, Rel K Hk σ ρ → ∀ ds, m ρ = some ds → ∀ H, Same Hk H → ∀ Q : List V → Hp → Prop, (∀ vs H2 Hr, Step Hk H Hr H2 → RpA K Hr vs ds → Q vs H2) → ta σ H Q
def STt (K : PySem.W.Frag) (tt : TT) (m : E) : Prop := ∀ σ ρ Hk, Rel K Hk σ ρ → ∀ b, m ρ = some (.bl b) → ∀ H, Same Hk H → ∀ Q : Bool → Hp → Prop, (∀ H2 Hr, Step Hk H Hr H2 → Q b H2) → tt σ H Q
/-- a fresh list -/
def SL (K : PySem.W.Frag) (te : TE) (m : Es) : Prop := ∀ σ ρ Hk, Rel K Hk σ ρ → ∀ ds, m ρ = some ds → ∀ H, Same Hk H → ∀ Q : VK, (∀ p vs H2 Hr, Step Hk H Hr H2 → H p = none → Hr p = none → H2 p = some (.lst vs) → RpA K Hr vs ds → Q (.ref p) H2) → te σ H Q
structure ME (X : Cx) (K : PySem.W.Frag) (e : Expr) (te : TE) (m : E) : Prop where
  pe : PE X e te
  se : SE K te m
structure MA (X : Cx) (K : PySem.W.Frag) (es : List Expr) (ta : TA) (m : Es) : Prop where
  pa : PA X es ta
  sa : SA K ta m
structure MT (X : Cx) (K : PySem.W.Frag) (e : Expr) (tt : TT) (m : E) : Prop where
  pt : PT X e tt
  st : STt K tt m
structure MW (X : Cx) (K : PySem.W.Frag) (e : Expr) (tt : TT) (m : E) : Prop where
  pw : PW X e tt
  st : STt K tt m
structure ML (X : Cx) (K : PySem.W.Frag) (e : Expr) (te : TE) (m : Es) : Prop where
  pe : PE X e te
  sl : SL K te m
/-- operations on values -/
def SO (K : PySem.W.Frag) (r : R2) (g : D → D → Option D) : Prop := ∀ Hk x y dx dy d, Rp K Hk x dx → Rp K Hk y dy → g dx dy = some d → ∀ H, Same Hk H → ∀ Q : VK, (∀ v H2 Hr, Step Hk H Hr H2 → Rp K Hr v d → Q v H2) → r x y H Q
def SC (K : PySem.W.Frag) (r : List V → Hp → VK → Prop) (g : List D → Option D) : Prop := ∀ Hk vs ds d, RpA K Hk vs ds → g ds = some d → ∀ H, Same Hk H → ∀ Q : VK, (∀ v H2 Hr, Step Hk H Hr H2 → Rp K Hr v d → Q v H2) → r vs H Q

/-! ### the plain functions -/
def mVar (i : Nat) : E := fun ρ => (ρ[i]?).join
def mC (d : D) : E := fun _ => some d
def mOp (g : D → D → Option D) (a b : E) : E := fun ρ => (a ρ).bind fun x => (b ρ).bind fun y => g x y
def mNil : Es := fun _ => some []
def mCons (a : E) (as : Es) : Es := fun ρ => (a ρ).bind fun x => (as ρ).map fun xs => x :: xs
def mTup (as : Es) : E := fun ρ => (as ρ).map D.tup
def mLst (as : Es) : E := fun ρ => (as ρ).map D.lst
def mCall (g : List D → Option D) (as : Es) : E := fun ρ => (as ρ).bind g
def mAnd (a b : E) : E := fun ρ => match a ρ with
  | some (.bl true) => b ρ
  | some (.bl false) => some (.bl false)
  | _ => none
def mOr (a b : E) : E := fun ρ => match a ρ with
  | some (.bl true) => some (.bl true)
  | some (.bl false) => b ρ
  | _ => none
def mNot (a : E) : E := fun ρ => match a ρ with
  | some (.bl b) => some (.bl !b)
  | _ => none
def mChain (g g' : D → D → Option D) (a b c : E) : E := fun ρ => (a ρ).bind fun x => (b ρ).bind fun y => match g x y with
  | some (.bl true) => (c ρ).bind fun z => g' y z
  | some (.bl false) => some (.bl false)
  | _ => none

/-! ### expressions -/
section
variable {X : Cx} {K : PySem.W.Frag} {a b c e : Expr} {es : List Expr} {ta tb tc te : TE} {tt tu : TT} {ma mb mc m : E} {pos : Pos}
theorem me_var (i : Nat) {x : Str} {pos : Pos} (hN : X.N[i]? = some x := by rfl) (hv : Vis X.env.scope x := by first | exact Or.inl rfl | exact Or.inr (Or.inl rfl) | exact Or.inr (Or.inr rfl)) (hd : (x == ("__debug__" : Str)) = false := by decide)
    (hcd : (x == ("__classdict__" : Str)) = false := by decide) : ME X K (.Name x pos) (tVar i) (mVar i) :=
  ⟨pe_var hN hv hd hcd, fun σ ρ Hk r d h H e Q q => by
    have h' : ρ[i]? = some (some d) := by
      unfold mVar at h
      cases z : ρ[i]? with
      | none => rw [z] at h; cases h
      | some o => rw [z] at h; cases o with
        | none => cases h
        | some d' => cases h; rfl
    obtain ⟨v, h1, h2⟩ := r.at_ i d h'
    exact ⟨v, h1, q v H Hk (.refl e) h2⟩⟩
theorem se_c {v : V} {d : D} (h : ∀ H, Rp K H v d) : SE K (tC v) (mC d) := fun σ ρ Hk r d' h' H e Q q => by
  have e' : d = d' := Option.some.inj h'
  subst e'
  exact q v H Hk (.refl e) (h Hk)
theorem me_int {i j pos} : ME X K (.Constant (.int i) j pos) (tC (.int i)) (mC (.int i)) := ⟨pe_int, se_c fun _ => .int i⟩
theorem me_bl {i j pos} : ME X K (.Constant (.bool i) j pos) (tC (.bl i)) (mC (.bl i)) := ⟨pe_bl, se_c fun _ => .bl i⟩
theorem me_non {j pos} : ME X K (.Constant .none j pos) (tC .non) (mC .non) := ⟨pe_non, se_c fun _ => .non⟩
theorem me_str {x j pos} : ME X K (.Constant (.str x) j pos) (tC (.str x)) (mC (.str x)) := ⟨pe_str, se_c fun _ => .str x⟩
/-- a module's constant -/
theorem me_glob {x : Str} {v : V} {u : Value} {d : D} {pos : Pos} (hg : Gl X x) (hm : X.mg x = some u) (r : RelV v u) (h : ∀ H, Rp K H v d) (hd : (x == ("__debug__" : Str)) = false := by decide) : ME X K (.Name x pos) (tC v) (mC d) := ⟨pe_glob hg hm r hd, se_c h⟩
theorem se_op {r : R2} {g : D → D → Option D} (hs : SO K r g) (ha : SE K ta ma) (hb : SE K tb mb) : SE K (tOp r ta tb) (mOp g ma mb) := fun σ ρ Hk rl d h H e Q q => by
  unfold mOp at h
  cases h1 : ma ρ with
  | none => rw [h1] at h; cases h
  | some x =>
    rw [h1] at h
    cases h2 : mb ρ with
    | none => rw [Option.bind_some, h2] at h; cases h
    | some y =>
      rw [Option.bind_some, h2, Option.bind_some] at h
      refine ha σ ρ Hk rl x h1 H e _ fun v H2 Hr st rv => ?_
      refine hb σ ρ Hr (rl.mono st.kn) y h2 H2 st.sub _ fun u H3 Hs st2 ru => ?_
      exact hs Hs v u x y d (rv.mono st2.kn) ru h H3 st2.sub Q fun w H4 Ht st3 rw' => q w H4 Ht ((st.trans st2).trans st3) rw'
theorem me_op {op : Operator} {r : R2} {g : D → D → Option D} (ho : OpR X (binaryOp op) r) (hs : SO K r g) (ha : ME X K a ta ma) (hb : ME X K b tb mb) : ME X K (.BinOp a op b pos) (tOp r ta tb) (mOp g ma mb) :=
  ⟨pe_op ho ha.pe hb.pe, se_op hs ha.se hb.se⟩
theorem me_cmp {op : CmpOp} {r : R2} {g : D → D → Option D} (ho : OpR X (compareOp op) r) (hs : SO K r g) (ha : ME X K a ta ma) (hb : ME X K b tb mb) (hm : behindInMarks op b = false := by first | exact nomark _ | rfl) : ME X K (.Compare a [op] [b] pos) (tOp r ta tb) (mOp g ma mb) :=
  ⟨pe_cmpR ho ha.pe hb.pe hm, se_op hs ha.se hb.se⟩
theorem st_test (h : SE K te m) : STt K (tTest te) m := fun σ ρ Hk rl b hb H e Q q =>
  h σ ρ Hk rl _ hb H e _ fun v H2 Hr st r => by
    cases r
    exact ⟨b, rfl, q H2 Hr st⟩
theorem mt_cmp {op : CmpOp} {r : R2} {g : D → D → Option D} (ho : OpR X (compareOp op) r) (hs : SO K r g) (ha : ME X K a ta ma) (hb : ME X K b tb mb) (hm : behindInMarks op b = false := by first | exact nomark _ | rfl) : MT X K (.Compare a [op] [b] pos) (tTest (tOp r ta tb)) (mOp g ma mb) :=
  ⟨pt_cmpR ho ha.pe hb.pe hm, st_test (se_op hs ha.se hb.se)⟩
theorem se_chain {r r' : R2} {g g' : D → D → Option D} (hs : SO K r g) (hs' : SO K r' g') (ha : SE K ta ma) (hb : SE K tb mb) (hc : SE K tc mc) : SE K (tChain r r' ta tb tc) (mChain g g' ma mb mc) := fun σ ρ Hk rl d h H e Q q => by
  unfold mChain at h
  cases h1 : ma ρ with
  | none => rw [h1] at h; cases h
  | some x =>
    rw [h1] at h
    cases h2 : mb ρ with
    | none => rw [Option.bind_some, h2] at h; cases h
    | some y =>
      rw [Option.bind_some, h2, Option.bind_some] at h
      refine ha σ ρ Hk rl x h1 H e _ fun v H2 Hr st rv => ?_
      refine hb σ ρ Hr (rl.mono st.kn) y h2 H2 st.sub _ fun u H3 Hs st2 ru => ?_
      cases h3 : g x y with
      | none => rw [h3] at h; cases h
      | some z =>
        rw [h3] at h
        refine hs Hs v u x y z (rv.mono st2.kn) ru h3 H3 st2.sub _ fun w H4 Ht st3 rw' => ?_
        cases z with
        | bl k =>
          cases rw'
          refine ⟨k, rfl, ?_⟩
          cases k with
          | true =>
            simp only at h
            cases h4 : mc ρ with
            | none => rw [h4] at h; cases h
            | some zc =>
              rw [h4, Option.bind_some] at h
              show tc σ H4 _
              refine hc σ ρ Ht (rl.mono ((st.trans st2).trans st3).kn) zc h4 H4 st3.sub _ fun w5 H5 Hu st4 rw5 => ?_
              exact hs' Hu u w5 y zc d (ru.mono (st3.trans st4).kn) rw5 h H5 st4.sub Q fun w6 H6 Hv st5 r6 => q w6 H6 Hv ((((st.trans st2).trans st3).trans st4).trans st5) r6
          | false =>
            simp only at h
            cases h
            show Q (.bl false) H4
            exact q _ H4 Ht ((st.trans st2).trans st3) (.bl false)
        | _ => simp only at h; cases h
theorem me_chain {op op' : CmpOp} {r r' : R2} {g g' : D → D → Option D} (ho : OpR X (compareOp op) r) (ho' : OpR X (compareOp op') r') (hs : SO K r g) (hs' : SO K r' g') (ha : ME X K a ta ma) (hb : ME X K b tb mb) (hc : ME X K c tc mc)
    (hpe : ∀ {ta tb tc : TE}, PE X a ta → PE X b tb → PE X c tc → PE X (.Compare a [op, op'] [b, c] pos) (tChain r r' ta tb tc)) : ME X K (.Compare a [op, op'] [b, c] pos) (tChain r r' ta tb tc) (mChain g g' ma mb mc) :=
  ⟨hpe ha.pe hb.pe hc.pe, se_chain hs hs' ha.se hb.se hc.se⟩
theorem mt_chain {op op' : CmpOp} {r r' : R2} {g g' : D → D → Option D} {tk : TT} (hs : SO K r g) (hs' : SO K r' g') (ha : ME X K a ta ma) (hb : ME X K b tb mb) (hc : ME X K c tc mc)
    (hpt : PT X (.Compare a [op, op'] [b, c] pos) (tTest (tChain r r' ta tb tc))) : MT X K (.Compare a [op, op'] [b, c] pos) (tTest (tChain r r' ta tb tc)) (mChain g g' ma mb mc) :=
  ⟨hpt, st_test (se_chain hs hs' ha.se hb.se hc.se)⟩
/-- a test by its value -/
theorem mt_val (h : ME X K e te m) (he : ∀ whole, isTrue e X.env whole = (do let v ← whole; standAt e.pos; holding [v] (truthy v)) := by intro _; rfl) : MT X K e (tB te) m :=
  ⟨pt_val h.pe he, st_test h.se⟩
theorem st_not (h : STt K tt m) : STt K (tNot tt) (mNot m) := fun σ ρ Hk rl b hb H e Q q => by
  unfold mNot at hb
  cases h1 : m ρ with
  | none => rw [h1] at hb; cases hb
  | some d =>
    rw [h1] at hb
    cases d with
    | bl k =>
      simp only at hb
      cases hb
      exact h σ ρ Hk rl k h1 H e _ fun H2 Hr st => q H2 Hr st
    | _ => simp only at hb; cases hb
theorem mt_not (h : MT X K a tt m) : MT X K (.UnaryOp .Not a pos) (tNot tt) (mNot m) := ⟨pt_not h.pt, st_not h.st⟩
theorem st_and (h1 : STt K tt ma) (h2 : STt K tu mb) : STt K (tAnd tt tu) (mAnd ma mb) := fun σ ρ Hk rl b hb H e Q q => by
  unfold mAnd at hb
  cases z : ma ρ with
  | none => rw [z] at hb; cases hb
  | some d =>
    rw [z] at hb
    cases d with
    | bl k =>
      refine h1 σ ρ Hk rl k z H e _ fun H2 Hr st => ?_
      cases k with
      | true =>
        simp only at hb
        show tu σ H2 Q
        exact h2 σ ρ Hr (rl.mono st.kn) b hb H2 st.sub Q fun H3 Hs st2 => q H3 Hs (st.trans st2)
      | false =>
        simp only at hb
        cases hb
        show Q false H2
        exact q H2 Hr st
    | _ => simp only at hb; cases hb
theorem st_or (h1 : STt K tt ma) (h2 : STt K tu mb) : STt K (tOr tt tu) (mOr ma mb) := fun σ ρ Hk rl b hb H e Q q => by
  unfold mOr at hb
  cases z : ma ρ with
  | none => rw [z] at hb; cases hb
  | some d =>
    rw [z] at hb
    cases d with
    | bl k =>
      refine h1 σ ρ Hk rl k z H e _ fun H2 Hr st => ?_
      cases k with
      | false =>
        simp only at hb
        show tu σ H2 Q
        exact h2 σ ρ Hr (rl.mono st.kn) b hb H2 st.sub Q fun H3 Hs st2 => q H3 Hs (st.trans st2)
      | true =>
        simp only at hb
        cases hb
        show Q true H2
        exact q H2 Hr st
    | _ => simp only at hb; cases hb
variable {rest : List Expr}
theorem mw_and1 (h : MT X K a tt ma) : MW X K (.BoolOp .And [a] pos) tt ma := ⟨pw_and1 h.pt, h.st⟩
theorem mw_or1 (h : MT X K a tt ma) : MW X K (.BoolOp .Or [a] pos) tt ma := ⟨pw_or1 h.pt, h.st⟩
theorem mw_and (h1 : MT X K a tt ma) (h2 : MW X K (.BoolOp .And (b :: rest) pos) tu mb) : MW X K (.BoolOp .And (a :: b :: rest) pos) (tAnd tt tu) (mAnd ma mb) := ⟨pw_and h1.pt h2.pw, st_and h1.st h2.st⟩
theorem mw_or (h1 : MT X K a tt ma) (h2 : MW X K (.BoolOp .Or (b :: rest) pos) tu mb) : MW X K (.BoolOp .Or (a :: b :: rest) pos) (tOr tt tu) (mOr ma mb) := ⟨pw_or h1.pt h2.pw, st_or h1.st h2.st⟩
theorem MW.mt (h : MW X K e tt m) : MT X K e tt m := ⟨h.pw.pt, h.st⟩
/-- and, or, not as values -/
theorem me_one {op} (h : ME X K a te m) : ME X K (.BoolOp op [a] pos) te m := ⟨pe_one h.pe, h.se⟩
theorem me_and (ha : ME X K a ta ma) (hb : ME X K (.BoolOp .And (b :: rest) pos) tb mb) : ME X K (.BoolOp .And (a :: b :: rest) pos) (tAndV ta tb) (mAnd ma mb) :=
  ⟨pe_and ha.pe hb.pe, fun σ ρ Hk rl d h H e Q q => by
    unfold mAnd at h
    cases z : ma ρ with
    | none => rw [z] at h; cases h
    | some x =>
      rw [z] at h
      cases x with
      | bl k =>
        refine ha.se σ ρ Hk rl _ z H e _ fun v H2 Hr st r => ?_
        cases r
        refine ⟨k, rfl, ?_⟩
        cases k with
        | true =>
          simp only at h
          show tb σ H2 Q
          exact hb.se σ ρ Hr (rl.mono st.kn) d h H2 st.sub Q fun w H3 Hs st2 => q w H3 Hs (st.trans st2)
        | false =>
          simp only at h
          cases h
          show Q (.bl false) H2
          exact q _ H2 Hr st (.bl false)
      | _ => simp only at h; cases h⟩
theorem me_or (ha : ME X K a ta ma) (hb : ME X K (.BoolOp .Or (b :: rest) pos) tb mb) : ME X K (.BoolOp .Or (a :: b :: rest) pos) (tOrV ta tb) (mOr ma mb) :=
  ⟨pe_or ha.pe hb.pe, fun σ ρ Hk rl d h H e Q q => by
    unfold mOr at h
    cases z : ma ρ with
    | none => rw [z] at h; cases h
    | some x =>
      rw [z] at h
      cases x with
      | bl k =>
        refine ha.se σ ρ Hk rl _ z H e _ fun v H2 Hr st r => ?_
        cases r
        refine ⟨k, rfl, ?_⟩
        cases k with
        | false =>
          simp only at h
          show tb σ H2 Q
          exact hb.se σ ρ Hr (rl.mono st.kn) d h H2 st.sub Q fun w H3 Hs st2 => q w H3 Hs (st.trans st2)
        | true =>
          simp only at h
          cases h
          show Q (.bl true) H2
          exact q _ H2 Hr st (.bl true)
      | _ => simp only at h; cases h⟩
theorem me_not (ha : ME X K a ta ma) : ME X K (.UnaryOp .Not a pos) (tNotV ta) (mNot ma) :=
  ⟨pe_not ha.pe, fun σ ρ Hk rl d h H e Q q => by
    unfold mNot at h
    cases z : ma ρ with
    | none => rw [z] at h; cases h
    | some x =>
      rw [z] at h
      cases x with
      | bl k =>
        simp only at h
        cases h
        refine ha.se σ ρ Hk rl _ z H e _ fun v H2 Hr st r => ?_
        cases r
        exact ⟨k, rfl, q _ H2 Hr st (.bl _)⟩
      | _ => simp only at h; cases h⟩
/-! argument lists, displays, calls -/
theorem ma_nil : MA X K [] tNil mNil := ⟨pa_nil, fun σ ρ Hk rl ds h H e Q q => by cases h; exact q [] H Hk (.refl e) .nil⟩
theorem ma_cons {t : TA} {ms : Es} (ha : MA X K es t ms) (h : ME X K e te m) (hs : starEach (e :: es) X.env = (false, eval e X.env) :: starEach es X.env := by rfl) : MA X K (e :: es) (tCons te t) (mCons m ms) :=
  ⟨pa_cons h.pe ha.pa hs, fun σ ρ Hk rl ds h' H e' Q q => by
    unfold mCons at h'
    cases h1 : m ρ with
    | none => rw [h1] at h'; cases h'
    | some x =>
      rw [h1, Option.bind_some] at h'
      cases h2 : ms ρ with
      | none => rw [h2] at h'; cases h'
      | some xs =>
        rw [h2] at h'
        cases h'
        refine h.se σ ρ Hk rl x h1 H e' _ fun v H2 Hr st rv => ?_
        exact ha.sa σ ρ Hr (rl.mono st.kn) xs h2 H2 st.sub _ fun vs H3 Hs st2 rvs => q (v :: vs) H3 Hs (st.trans st2) (.cons (rv.mono st2.kn) rvs)⟩
theorem ma_len {t : TA} : ∀ {ρ : Env} {ds : List D}, mNil ρ = some ds → ds.length = 0 := fun h => by cases h; rfl
/-- how many come -/
def LenIs (ms : Es) (n : Nat) : Prop := ∀ ρ ds, ms ρ = some ds → ds.length = n
theorem len_nil : LenIs mNil 0 := fun ρ ds h => by cases h; rfl
theorem len_cons {m : E} {ms : Es} {n : Nat} (h : LenIs ms n) : LenIs (mCons m ms) (n + 1) := fun ρ ds h' => by
  unfold mCons at h'
  cases h1 : m ρ with
  | none => rw [h1] at h'; cases h'
  | some x =>
    rw [h1, Option.bind_some] at h'
    cases h2 : ms ρ with
    | none => rw [h2] at h'; cases h'
    | some xs => rw [h2] at h'; cases h'; exact congrArg Nat.succ (h ρ xs h2)
theorem me_tup {t : TA} {ms : Es} {x1 : Nat} {n : Nat} (h : MA X K es t ms) (hl : LenIs ms n) (hn : n ≤ sizeLine := by decide) : ME X K (.Tuple es x1 pos) (tTup t) (mTup ms) :=
  ⟨pe_tup h.pa, fun σ ρ Hk rl d h' H e Q q => by
    unfold mTup at h'
    cases h1 : ms ρ with
    | none => rw [h1] at h'; cases h'
    | some ds =>
      rw [h1] at h'
      cases h'
      refine h.sa σ ρ Hk rl ds h1 H e _ fun vs H2 Hr st rvs => ⟨by rw [rvs.length, hl ρ ds h1]; exact hn, fun p hp => ?_⟩
      exact q _ _ _ (st.alloc hp) (.tup (SqT.of upd_same) (rvs.mono (same_new (none_back st.sub hp))))⟩
theorem me_lst {t : TA} {ms : Es} {n : Nat} (h : MA X K es t ms) (hl : LenIs ms n) (hn : n ≤ sizeLine := by decide) : ME X K (.List es pos) (tLst t) (mLst ms) :=
  ⟨pe_lst h.pa, fun σ ρ Hk rl d h' H e Q q => by
    unfold mLst at h'
    cases h1 : ms ρ with
    | none => rw [h1] at h'; cases h'
    | some ds =>
      rw [h1] at h'
      cases h'
      refine h.sa σ ρ Hk rl ds h1 H e _ fun vs H2 Hr st rvs => ⟨by rw [rvs.length, hl ρ ds h1]; exact hn, fun p hp => ?_⟩
      exact q _ _ _ (st.alloc hp) (.lst upd_same (rvs.mono (same_new (none_back st.sub hp))))⟩
theorem ml_lst {t : TA} {ms : Es} {n : Nat} (h : MA X K es t ms) (hl : LenIs ms n) (hn : n ≤ sizeLine := by decide) : ML X K (.List es pos) (tLst t) ms :=
  ⟨pe_lst h.pa, fun σ ρ Hk rl ds h1 H e Q q =>
    h.sa σ ρ Hk rl ds h1 H e _ fun vs H2 Hr st rvs => ⟨by rw [rvs.length, hl ρ ds h1]; exact hn, fun p hp =>
      q p vs _ Hr ⟨st.ex.trans (same_new hp), st.kn, st.sub.trans (same_new hp), st.new⟩ (none_back st.ex hp) (none_back st.sub hp) upd_same rvs⟩⟩
theorem se_call {r : List V → Hp → VK → Prop} {g : List D → Option D} {t : TA} {ms : Es} (hs : SC K r g) (h : SA K t ms) : SE K (tCB r t) (mCall g ms) := fun σ ρ Hk rl d h' H e Q q => by
  unfold mCall at h'
  cases h1 : ms ρ with
  | none => rw [h1] at h'; cases h'
  | some ds =>
    rw [h1, Option.bind_some] at h'
    refine h σ ρ Hk rl ds h1 H e _ fun vs H2 Hr st rvs => ?_
    exact hs Hr vs ds d rvs h' H2 st.sub Q fun v H3 Hs st2 rv => q v H3 Hs (st.trans st2) rv
theorem me_callB {r : List V → Hp → VK → Prop} {g : List D → Option D} {t : TA} {ms : Es} {x : Str} {id : String} {p : Pos} (hc : CallR X (.builtin id) r) (hs : SC K r g) (hm : X.mg x = none) (hv : bootBuiltins x = some (.builtin id)) (ha : MA X K (e :: es) t ms) (hg : Gl X x := by rfl) (hn : x ≠ "__name__" := by decide) (hdb : (x == ("__debug__" : Str)) = false := by decide)
    (he : starEach (e :: es) X.env = (false, eval e X.env) :: starEach es X.env := by rfl) (hpl : (backTo pos (starEach es X.env)).any (·.1) = false := by rfl) : ME X K (.Call (.Name x p) (e :: es) [] pos) (tCB r t) (mCall g ms) :=
  ⟨pe_callB hc hg hm hv ha.pa hn hdb he hpl, se_call hs ha.sa⟩
theorem me_callTy {r : List V → Hp → VK → Prop} {g : List D → Option D} {t : TA} {ms : Es} {x : Str} {T : String} {p : Pos} (hc : CallR X (.type T) r) (hs : SC K r g) (hm : X.mg x = none) (hv : bootBuiltins x = some (.type T)) (ha : MA X K (e :: es) t ms) (hg : Gl X x := by rfl) (hn : x ≠ "__name__" := by decide) (hdb : (x == ("__debug__" : Str)) = false := by decide)
    (he : starEach (e :: es) X.env = (false, eval e X.env) :: starEach es X.env := by rfl) (hpl : (backTo pos (starEach es X.env)).any (·.1) = false := by rfl) : ME X K (.Call (.Name x p) (e :: es) [] pos) (tCB r t) (mCall g ms) :=
  ⟨pe_callTy hc hg hm hv ha.pa hn hdb he hpl, se_call hs ha.sa⟩
/-- the promise of a def by its mirror -/
def spM (K : PySem.W.Frag) (n : Nat) (g : List D → Option D) : Sp := fun vs H Q _ => ∃ Hk ds d, Same Hk H ∧ RpA K Hk vs ds ∧ ds.length = n ∧ g ds = some d ∧ ∀ v H2 Hr, Step Hk H Hr H2 → Rp K Hr v d → Q v H2
theorem se_fn {n : Nat} {g : List D → Option D} {t : TA} {ms : Es} {E : XK} (hl : LenIs ms n) (h : SA K t ms) : SE K (tCall (spM K n g) [] E t) (mCall g ms) := fun σ ρ Hk rl d h' H e Q q => by
  unfold mCall at h'
  cases h1 : ms ρ with
  | none => rw [h1] at h'; cases h'
  | some ds =>
    rw [h1, Option.bind_some] at h'
    refine h σ ρ Hk rl ds h1 H e _ fun vs H2 Hr st rvs => ?_
    rw [List.append_nil]
    exact ⟨Hr, ds, d, st.sub, rvs, hl ρ ds h1, h', fun v H3 Hs st2 rv => q v H3 Hs (st.trans st2) rv⟩
theorem me_call {n k : Nat} {g : List D → Option D} {t : TA} {ms : Es} {x : Str} {p : Pos} {f : Addr} {fd : FuncData} {ps : List Str} (F : FnOk X.prog X.w X.K X.mg X.base CX0 k f fd ps (spM K n g)) (hr : Room k X.A) (hm : X.mg x = some (.ref f)) (hk : PySem.W.keepIn X.K (.ref f) = true) (hb : Binds X.K fd ps []) (hl : LenIs ms n) (ha : MA X K (e :: es) t ms)
    (hg : Gl X x := by rfl) (hdb : (x == ("__debug__" : Str)) = false := by decide) (he : starEach (e :: es) X.env = (false, eval e X.env) :: starEach es X.env := by rfl) (hpl : (backTo pos (starEach es X.env)).any (·.1) = false := by rfl) :
    ME X K (.Call (.Name x p) (e :: es) [] pos) (tCall (spM K n g) [] E0 t) (mCall g ms) :=
  ⟨pe_call F hr hg hm hk hb .nil pass0 ha.pa hdb he hpl, se_fn hl ha.sa⟩
end
end ML
set_option Elab.async false
set_option linter.all false
set_option maxRecDepth 100000
set_option maxHeartbeats 4000000
/-! the operations -/
namespace ML
open PySem PySem.Spec PyProof.Rows L2

/-! ### + -/
def gAdd : D → D → Option D
  | .int a, .int b => some (.int (a + b))
  | .str a, .str b => if a.length + b.length ≤ sizeLine then some (.str (a ++ b)) else none
  | .lst a, .lst b => if a.length + b.length ≤ sizeLine then some (.lst (a ++ b)) else none
  | .tup a, .tup b => if a.length + b.length ≤ sizeLine then some (.tup (a ++ b)) else none
  | _, _ => none
def rAddM (K : PySem.W.Frag) : R2 := fun x y H Q => (∃ i j, x = .int i ∧ y = .int j ∧ Q (.int (i + j)) H) ∨ ((∃ i j, x = .str i ∧ y = .str j ∧ i.length + j.length ≤ sizeLine ∧ Q (.str (i ++ j)) H) ∨ (rCat x y H Q ∨ rCatA K x y H Q))
theorem op_addM {X : Cx} : OpR X (binaryOp .Add) (rAddM X.K) := op_add.or (op_add_str.or (op_cat.or op_catA))
theorem so_add {K : PySem.W.Frag} : SO K (rAddM K) gAdd := fun Hk x y dx dy d rx ry h H e Q q => by
  cases rx with
  | int i =>
    cases ry with
    | int j => cases h; exact .inl ⟨i, j, rfl, rfl, q _ H Hk (.refl e) (.int _)⟩
    | _ => cases h
  | str i =>
    cases ry with
    | str j =>
      unfold gAdd at h
      by_cases hz : i.length + j.length ≤ sizeLine
      · simp only [hz, if_true] at h
        cases h
        exact .inr (.inl ⟨i, j, rfl, rfl, hz, q _ H Hk (.refl e) (.str _)⟩)
      · simp only [hz, if_false] at h; cases h
    | _ => cases h
  | @lst a xs ds ha hd =>
    cases ry with
    | @lst b ys es hb he =>
      unfold gAdd at h
      by_cases hz : ds.length + es.length ≤ sizeLine
      · simp only [hz, if_true] at h
        cases h
        refine .inr (.inr (.inl ⟨a, b, xs, ys, rfl, rfl, e _ _ ha, e _ _ hb, by rw [hd.length, he.length]; exact hz, fun p hp => ?_⟩))
        exact q _ _ _ ((Step.refl e).alloc hp) (.lst upd_same ((hd.append he).mono (same_new (none_back e hp))))
      · simp only [hz, if_false] at h; cases h
    | _ => cases h
  | @tup a xs ds ha hd =>
    cases ry with
    | @tup b ys es hb he =>
      unfold gAdd at h
      by_cases hz : ds.length + es.length ≤ sizeLine
      · simp only [hz, if_true] at h
        cases h
        refine .inr (.inr (.inr ⟨a, b, xs, ys, rfl, rfl, sqt_same e ha, sqt_same e hb, by rw [hd.length, he.length]; exact hz, fun hx => ?_, fun hx hy => ?_, fun hx hy p hp => ?_⟩))
        · subst hx
          cases hd
          exact q _ H Hk (.refl e) (.tup hb he)
        · subst hy
          cases he
          exact q _ H Hk (.refl e) (.tup ha (by rw [List.append_nil]; exact hd))
        · exact q _ _ _ ((Step.refl e).alloc hp) (.tup (SqT.of upd_same) ((hd.append he).mono (same_new (none_back e hp))))
      · simp only [hz, if_false] at h; cases h
    | _ => cases h
  | _ => cases ry <;> cases h
/-- list + list, the fresh list -/
def mCat (a b : E) : Es := fun ρ => (a ρ).bind fun x => (b ρ).bind fun y => match x, y with
  | .lst xs, .lst ys => if xs.length + ys.length ≤ sizeLine then some (xs ++ ys) else none
  | _, _ => none
theorem ml_cat {X : Cx} {K : PySem.W.Frag} {a b : Expr} {ta tb : TE} {ma mb : E} {pos : Pos} (ha : ME X K a ta ma) (hb : ME X K b tb mb) : ML X K (.BinOp a .Add b pos) (tOp rCat ta tb) (mCat ma mb) :=
  ⟨pe_op op_cat ha.pe hb.pe, fun σ ρ Hk rl d h H e Q q => by
    unfold mCat at h
    cases h1 : ma ρ with
    | none => rw [h1] at h; cases h
    | some x =>
      rw [h1] at h
      cases h2 : mb ρ with
      | none => rw [Option.bind_some, h2] at h; cases h
      | some y =>
        rw [Option.bind_some, h2, Option.bind_some] at h
        refine ha.se σ ρ Hk rl x h1 H e _ fun v H2 Hr st rv => ?_
        refine hb.se σ ρ Hr (rl.mono st.kn) y h2 H2 st.sub _ fun u H3 Hs st2 ru => ?_
        cases rv with
        | @lst a xs ds hx hd =>
          cases ru with
          | @lst b ys es hy he =>
            simp only at h
            by_cases hz : ds.length + es.length ≤ sizeLine
            · simp only [hz, if_true] at h
              cases h
              have t := st.trans st2
              refine ⟨a, b, xs, ys, rfl, rfl, st2.sub _ _ (st2.kn _ _ hx), st2.sub _ _ hy, by rw [hd.length, he.length]; exact hz, fun p hp => ?_⟩
              exact q p _ _ Hs ⟨t.ex.trans (same_new hp), t.kn, t.sub.trans (same_new hp), t.new⟩ (none_back t.ex hp) (none_back t.sub hp) upd_same ((hd.mono st2.kn).append he)
            · simp only [hz, if_false] at h; cases h
          | _ => simp only at h; cases h
        | _ => simp only at h; cases h⟩
/-! ### arithmetic -/
def gSub : D → D → Option D
  | .int a, .int b => some (.int (a - b))
  | _, _ => none
def gDiv : D → D → Option D
  | .int a, .int b => if 0 < b ∧ b < 1000000000000000 then some (.int (a / b)) else none
  | _, _ => none
def gMod : D → D → Option D
  | .int a, .int b => if 0 < b then some (.int (a % b)) else none
  | _, _ => none
def gPow : D → D → Option D
  | .int a, .int b => if 0 ≤ b ∧ b ≤ 100 ∧ a.natAbs ≤ 100 then some (.int (a ^ b.toNat)) else none
  | _, _ => none
def gLt : D → D → Option D
  | .int a, .int b => some (.bl (decide (a < b)))
  | _, _ => none
def gLe : D → D → Option D
  | .int a, .int b => some (.bl (decide (a ≤ b)))
  | _, _ => none
def gGt : D → D → Option D
  | .int a, .int b => some (.bl (decide (b < a)))
  | _, _ => none
section
variable {K : PySem.W.Frag}
theorem so_sub : SO K (rI0 fun i j => .int (i - j)) gSub := fun Hk x y dx dy d rx ry h H e Q q => by
  cases rx <;> cases ry <;> cases h
  exact ⟨_, _, rfl, rfl, q _ H Hk (.refl e) (.int _)⟩
theorem so_lt : SO K (rI0 fun i j => .bl (decide (i < j))) gLt := fun Hk x y dx dy d rx ry h H e Q q => by
  cases rx <;> cases ry <;> cases h
  exact ⟨_, _, rfl, rfl, q _ H Hk (.refl e) (.bl _)⟩
theorem so_le : SO K (rI0 fun i j => .bl (decide (i ≤ j))) gLe := fun Hk x y dx dy d rx ry h H e Q q => by
  cases rx <;> cases ry <;> cases h
  exact ⟨_, _, rfl, rfl, q _ H Hk (.refl e) (.bl _)⟩
theorem so_gt : SO K (rI0 fun i j => .bl (decide (j < i))) gGt := fun Hk x y dx dy d rx ry h H e Q q => by
  cases rx <;> cases ry <;> cases h
  exact ⟨_, _, rfl, rfl, q _ H Hk (.refl e) (.bl _)⟩
theorem so_div : SO K (rI CDivW fun i j => .int (i / j)) gDiv := fun Hk x y dx dy d rx ry h H e Q q => by
  cases rx <;> cases ry <;> try (cases h; done)
  rename_i i j
  unfold gDiv at h
  by_cases hz : 0 < j ∧ j < 1000000000000000
  · simp only [hz, and_self, if_true] at h
    cases h
    refine ⟨_, _, rfl, rfl, wide_div (b := 64) hz.1 ?_ (by decide) (by decide), q _ H Hk (.refl e) (.int _)⟩
    have : (2 : Nat) ^ 64 = 18446744073709551616 := by decide
    omega
  · simp only [hz, if_false] at h; cases h
theorem so_mod : SO K (rI (fun _ j => 0 < j) fun i j => .int (i % j)) gMod := fun Hk x y dx dy d rx ry h H e Q q => by
  cases rx <;> cases ry <;> try (cases h; done)
  rename_i i j
  unfold gMod at h
  by_cases hz : 0 < j
  · simp only [hz, if_true] at h
    cases h
    exact ⟨_, _, rfl, rfl, hz, q _ H Hk (.refl e) (.int _)⟩
  · simp only [hz, if_false] at h; cases h
theorem so_pow : SO K (rI CPow fun i j => .int (i ^ j.toNat)) gPow := fun Hk x y dx dy d rx ry h H e Q q => by
  cases rx <;> cases ry <;> try (cases h; done)
  rename_i i j
  unfold gPow at h
  by_cases hz : 0 ≤ j ∧ j ≤ 100 ∧ i.natAbs ≤ 100
  · simp only [hz, and_self, if_true] at h
    cases h
    refine ⟨_, _, rfl, rfl, ⟨hz.1, by omega, ?_⟩, q _ H Hk (.refl e) (.int _)⟩
    have : (2 : Nat) ^ 64 = 18446744073709551616 := by decide
    omega
  · simp only [hz, if_false] at h; cases h
end
/-- *: of ints one of which is small, of a text and 0 or 1 -/
def gMul : D → D → Option D
  | .int a, .int b => if a.natAbs < 18446744073709551616 ∨ b.natAbs < 18446744073709551616 then some (.int (a * b)) else none
  | .str a, .int b => if b = 0 then some (.str Str.empty) else if b = 1 then some (.str a) else none
  | _, _ => none
def rMulM : R2 := fun x y H Q => rI CMul (fun i j => .int (i * j)) x y H Q ∨ ∃ a b, x = .str a ∧ y = .int b ∧ ((b = 0 ∧ Q (.str Str.empty) H) ∨ (b = 1 ∧ Q (.str a) H))
theorem op_mulS {X : Cx} : OpR X (binaryOp .Mult) (fun x y H Q => ∃ a b, x = .str a ∧ y = .int b ∧ ((b = 0 ∧ Q (.str Str.empty) H) ∨ (b = 1 ∧ Q (.str a) H))) := by
  intro pins s σ H x y v u Q I rx ry h
  obtain ⟨a, b, rfl, rfl, h⟩ := h
  obtain ⟨t, rfl⟩ := rx
  obtain ⟨t', rfl⟩ := ry
  rcases h with ⟨rfl, q⟩ | ⟨rfl, q⟩
  · exact PySem.P.mul_str_none (by decide) (by decide) ⟨.str _, H, I.tok _, ⟨_, rfl⟩, q⟩
  · refine PySem.P.mul_str (by decide) (fun _ h => by simp at h) (fun _ h => by simp at h) ?_
    rw [if_neg (by decide), if_pos (by simp)]
    exact ⟨.str a, H, I, ⟨t, rfl⟩, q⟩
theorem op_mulM {X : Cx} : OpR X (binaryOp .Mult) rMulM := op_mul.or op_mulS
theorem so_mul {K : PySem.W.Frag} : SO K rMulM gMul := fun Hk x y dx dy d rx ry h H e Q q => by
  have e64 : (2 : Int) ^ 64 = 18446744073709551616 := by decide
  cases rx with
  | int i =>
    cases ry with
    | int j =>
      unfold gMul at h
      by_cases hz : i.natAbs < 18446744073709551616 ∨ j.natAbs < 18446744073709551616
      · simp only [hz, if_true] at h
        cases h
        refine .inl ⟨i, j, rfl, rfl, ?_, q _ H Hk (.refl e) (.int _)⟩
        unfold CMul
        rw [e64]
        omega
      · simp only [hz, if_false] at h; cases h
    | _ => cases h
  | str a =>
    cases ry with
    | int b =>
      unfold gMul at h
      by_cases h0 : b = 0
      · simp only [h0, if_true] at h
        cases h
        exact .inr ⟨a, b, rfl, rfl, .inl ⟨h0, q _ H Hk (.refl e) (.str _)⟩⟩
      · by_cases h1 : b = 1
        · subst h1
          simp only [if_neg h0, if_true] at h
          cases h
          exact .inr ⟨a, 1, rfl, rfl, .inr ⟨rfl, q _ H Hk (.refl e) (.str _)⟩⟩
        · simp only [h0, h1, if_false] at h; cases h
    | _ => cases h
  | _ => cases ry <;> cases h
/-! ### ==, != of two of a kind -/
def gEq : D → D → Option D
  | .int a, .int b => some (.bl (decide (a = b)))
  | .bl a, .bl b => some (.bl (decide (a = b)))
  | .str a, .str b => some (.bl (decide (a = b)))
  | _, _ => none
def gNe : D → D → Option D
  | .int a, .int b => some (.bl (!decide (a = b)))
  | .bl a, .bl b => some (.bl (!decide (a = b)))
  | .str a, .str b => some (.bl (!decide (a = b)))
  | _, _ => none
theorem v_int {a b : Int} : decide (V.int a = V.int b) = decide (a = b) := by simp
theorem v_bl {a b : Bool} : decide (V.bl a = V.bl b) = decide (a = b) := by simp
theorem v_str {a b : Str} : decide (V.str a = V.str b) = decide (a = b) := by simp
theorem so_eq {K : PySem.W.Frag} : SO K rEq gEq := fun Hk x y dx dy d rx ry h H e Q q => by
  cases rx <;> cases ry <;> cases h
  · exact ⟨rfl, by rw [v_bl]; exact q _ H Hk (.refl e) (.bl _)⟩
  · exact ⟨rfl, by rw [v_int]; exact q _ H Hk (.refl e) (.bl _)⟩
  · exact ⟨rfl, by rw [v_str]; exact q _ H Hk (.refl e) (.bl _)⟩
theorem so_ne {K : PySem.W.Frag} : SO K rNe gNe := fun Hk x y dx dy d rx ry h H e Q q => by
  cases rx <;> cases ry <;> cases h
  · exact ⟨rfl, by rw [v_bl]; exact q _ H Hk (.refl e) (.bl _)⟩
  · exact ⟨rfl, by rw [v_int]; exact q _ H Hk (.refl e) (.bl _)⟩
  · exact ⟨rfl, by rw [v_str]; exact q _ H Hk (.refl e) (.bl _)⟩
/-! ### is None, is True, is False -/
def gIs : D → D → Option D
  | .bl a, .bl b => some (.bl (decide (a = b)))
  | x, .non => some (.bl (match x with | .non => true | _ => false))
  | _, _ => none
def rIsM : R2 := fun x y H Q => (y = .non ∧ Q (.bl (decide (x = .non))) H) ∨ rIsB x y H Q
theorem op_isM {X : Cx} : OpR X (compareOp .Is) rIsM := op_isN.or op_isBl
theorem so_is {K : PySem.W.Frag} : SO K rIsM gIs := fun Hk x y dx dy d rx ry h H e Q q => by
  cases ry with
  | non =>
    refine .inl ⟨rfl, ?_⟩
    cases rx <;> cases h <;> first
      | (rw [show decide (V.non = V.non) = true from by decide]; exact q _ H Hk (.refl e) (.bl _))
      | (rw [decide_eq_false (fun z => nomatch z)]; exact q _ H Hk (.refl e) (.bl _))
  | bl b =>
    cases rx <;> cases h
    exact .inr ⟨_, _, rfl, rfl, q _ H Hk (.refl e) (.bl _)⟩
  | _ => cases rx <;> cases h
/-! ### in, not in -/
def strs? : List D → Option (List Str)
  | [] => some []
  | .str s :: r => (strs? r).map fun ss => s :: ss
  | _ :: _ => none
theorem strs?_eq : ∀ {ds : List D} {ss : List Str}, strs? ds = some ss → ds = ss.map D.str
  | [], ss, h => by cases h; rfl
  | d :: r, ss, h => by
    cases d with
    | str s =>
      unfold strs? at h
      cases h1 : strs? r with
      | none => rw [h1] at h; cases h
      | some rs => rw [h1] at h; cases h; rw [strs?_eq h1]; rfl
    | _ => cases h
theorem strs?_map : ∀ ss : List Str, strs? (ss.map D.str) = some ss
  | [] => rfl
  | s :: ss => by
    show (strs? (ss.map D.str)).map _ = _
    rw [strs?_map ss]; rfl
def isIn (x : D) (ss : List Str) : Bool := match x with
  | .str s => decide (s ∈ ss)
  | _ => false
def gIn (neg : Bool) : D → D → Option D
  | .str s, .str z => match s.cps.toList with
    | [c] => some (.bl (neg != decide (c ∈ z.cps.toList)))
    | _ => none
  | x, .tup ds => (strs? ds).map fun ss => .bl (neg != isIn x ss)
  | x, .lst ds => (strs? ds).map fun ss => .bl (neg != isIn x ss)
  | _, _ => none
/-- a value that can be looked for among texts -/
def Seek (K : PySem.W.Frag) (x : V) (H : Hp) : Prop := flatV x = true ∨ ∃ a xs, x = .ref a ∧ (SqL K H a xs ∨ SqT K H a xs)
def isInV (x : V) (ss : List Str) : Bool := match x with
  | .str s => decide (s ∈ ss)
  | _ => false
def rInM (K : PySem.W.Frag) (neg : Bool) : R2 := fun x y H Q => ∃ p ss, y = .ref p ∧ (SqL K H p (ss.map V.str) ∨ SqT K H p (ss.map V.str)) ∧ Seek K x H ∧ Q (.bl (neg != isInV x ss)) H
def eqS (x : V) (u : Value) : Bool := match x, u with
  | .str s, .str z _ => z == s
  | _, _ => false
theorem any_eqS {x : V} : ∀ {ss : List Str} {us : List Value}, Vals (ss.map V.str) us → us.any (eqS x) = isInV x ss
  | [], _, .nil => by cases x <;> rfl
  | s :: ss, u :: us, .cons r t => by
    obtain ⟨k, rfl⟩ := r
    rw [List.any_cons, any_eqS t]
    cases x with
    | str z =>
      show (s == z || decide (z ∈ ss)) = decide (z ∈ s :: ss)
      rw [Bool.eq_iff_iff]
      simp only [Bool.or_eq_true, beq_iff_eq, decide_eq_true_eq, List.mem_cons]
      exact ⟨fun h => h.elim (fun h => .inl h.symm) .inr, fun h => h.elim (fun h => .inl h.symm) .inr⟩
    | _ => rfl
theorem mem_eqS {X : Cx} {pins : List (Addr × Obj)} {σ : L2.St} {H : Hp} {s : Shared} {A : Around} {x : V} {v : Value} (I : Inv X pins σ H s) (hu : A.units < cLine) (rx : RelV x v) (hx : Seek X.K x H) : ∀ {ss : List Str} {us : List Value}, Vals (ss.map V.str) us → ∀ u ∈ us, SeqAt.EqAt A s u v (eqS x u)
  | [], _, .nil => fun u hu => by cases hu
  | z :: ss, u :: us, .cons r t => fun u' hm => by
    rcases List.mem_cons.mp hm with e | hm
    · subst e
      obtain ⟨k, rfl⟩ := r
      rcases hx with hf | ⟨a, xs, rfl, hq⟩
      · have q := eqAt_V (A := A) (s := s) (y := .str z) (x := x) ⟨k, rfl⟩ rx rfl hf
        cases x <;> exact q
      · cases rx
        rcases hq with hq | hq
        · obtain ⟨its, _, pl, _⟩ := I.list hq
          exact SeqAt.EqAt.str_list z k pl.isList hu
        · obtain ⟨its, _, pl, _⟩ := I.tuple hq
          exact SeqAt.EqAt.str_tuple z k pl hu
    · exact mem_eqS I hu rx hx t u' hm
theorem op_inM {X : Cx} (hu : X.A.units + 1 < cLine) : OpR X (compareOp .In) (rInM X.K false) := by
  intro pins s σ H x y v u Q I rx ry h
  obtain ⟨p, ss, rfl, hq, hx, q⟩ := h
  cases ry
  have q' : Q (.bl (isInV x ss)) H := by simpa using q
  rcases hq with hq | hq
  · obtain ⟨its, r, pl, hz⟩ := I.list hq
    refine SeqAt.in_listAt (eqS x) pl.isList (fun w hw => mem_eqS I (by show X.A.units + 1 < cLine; exact hu) rx hx r w (by simpa using hw)) ⟨.bl _, H, I, rfl, ?_⟩
    rw [show its.toArray.any (eqS x) = its.any (eqS x) by simp, any_eqS r]
    exact q'
  · obtain ⟨its, r, pl, hz⟩ := I.tuple hq
    refine SeqAt.in_tupleAt (eqS x) pl (fun w hw => mem_eqS I (by show X.A.units + 1 < cLine; exact hu) rx hx r w (by simpa using hw)) ⟨.bl _, H, I, rfl, ?_⟩
    rw [show its.toArray.any (eqS x) = its.any (eqS x) by simp, any_eqS r]
    exact q'
theorem op_notInM {X : Cx} (hu : X.A.units + 1 < cLine) : OpR X (compareOp .NotIn) (rInM X.K true) := by
  intro pins s σ H x y v u Q I rx ry h
  obtain ⟨p, ss, rfl, hq, hx, q⟩ := h
  cases ry
  have q' : Q (.bl (!isInV x ss)) H := by simpa using q
  rcases hq with hq | hq
  · obtain ⟨its, r, pl, hz⟩ := I.list hq
    refine SeqAt.notIn_listAt (eqS x) pl.isList (fun w hw => mem_eqS I (by show X.A.units + 1 < cLine; exact hu) rx hx r w (by simpa using hw)) ⟨.bl _, H, I, rfl, ?_⟩
    rw [show its.toArray.any (eqS x) = its.any (eqS x) by simp, any_eqS r]
    exact q'
  · obtain ⟨its, r, pl, hz⟩ := I.tuple hq
    refine SeqAt.notIn_tupleAt (eqS x) pl (fun w hw => mem_eqS I (by show X.A.units + 1 < cLine; exact hu) rx hx r w (by simpa using hw)) ⟨.bl _, H, I, rfl, ?_⟩
    rw [show its.toArray.any (eqS x) = its.any (eqS x) by simp, any_eqS r]
    exact q'
def rInA (K : PySem.W.Frag) (neg : Bool) : R2 := fun x y H Q => (∃ (c : Nat) (z : Str), x = .str ⟨#[c]⟩ ∧ y = .str z ∧ Q (.bl (neg != decide (c ∈ z.cps.toList))) H) ∨ rInM K neg x y H Q
theorem op_inA {X : Cx} (hu : X.A.units + 1 < cLine) : OpR X (compareOp .In) (rInA X.K false) := by
  intro pins s σ H x y v u Q I rx ry h
  rcases h with ⟨c, z, e1, e2, q⟩ | h
  · exact op_in_sign pins s σ H x y v u Q I rx ry ⟨c, z, e1, e2, by simpa using q⟩
  · exact op_inM hu pins s σ H x y v u Q I rx ry h
theorem op_notInA {X : Cx} (hu : X.A.units + 1 < cLine) : OpR X (compareOp .NotIn) (rInA X.K true) := by
  intro pins s σ H x y v u Q I rx ry h
  rcases h with ⟨c, z, e1, e2, q⟩ | h
  · exact op_notIn_sign pins s σ H x y v u Q I rx ry ⟨c, z, e1, e2, by simpa using q⟩
  · exact op_notInM hu pins s σ H x y v u Q I rx ry h
theorem seek_of {K : PySem.W.Frag} {Hk H : Hp} {x : V} {d : D} (r : Rp K Hk x d) (e : Same Hk H) : Seek K x H := by
  cases r with
  | lst h _ => exact .inr ⟨_, _, rfl, .inl (SqL.of (e _ _ h))⟩
  | tup h _ => exact .inr ⟨_, _, rfl, .inr (sqt_same e h)⟩
  | ro h => exact .inr ⟨_, _, rfl, .inl (e.seq h)⟩
  | _ => exact .inl rfl
theorem isIn_eq {K : PySem.W.Frag} {Hk : Hp} {x : V} {d : D} (r : Rp K Hk x d) (ss : List Str) : isInV x ss = isIn d ss := by cases r <;> rfl
theorem so_in {K : PySem.W.Frag} {neg : Bool} : SO K (rInA K neg) (gIn neg) := fun Hk x y dx dy d rx ry h H e Q q => by
  have sk := seek_of rx e
  cases ry with
  | @lst a xs ds ha hd =>
    have h' : (strs? ds).map (fun ss => D.bl (neg != isIn dx ss)) = some d := by cases rx <;> exact h
    cases h1 : strs? ds with
    | none => rw [h1] at h'; cases h'
    | some ss =>
      rw [h1] at h'
      cases h'
      have e1 := strs?_eq h1
      subst e1
      rw [hd.strs] at ha
      exact .inr ⟨a, ss, rfl, .inl (SqL.of (e _ _ ha)), sk, by rw [isIn_eq rx]; exact q _ H Hk (.refl e) (.bl _)⟩
  | @tup a xs ds ha hd =>
    have h' : (strs? ds).map (fun ss => D.bl (neg != isIn dx ss)) = some d := by cases rx <;> exact h
    cases h1 : strs? ds with
    | none => rw [h1] at h'; cases h'
    | some ss =>
      rw [h1] at h'
      cases h'
      have e1 := strs?_eq h1
      subst e1
      rw [hd.strs] at ha
      exact .inr ⟨a, ss, rfl, .inr (sqt_same e ha), sk, by rw [isIn_eq rx]; exact q _ H Hk (.refl e) (.bl _)⟩
  | str z =>
    cases rx with
    | str s =>
      have h : (match s.cps.toList with | [c] => some (D.bl (neg != decide (c ∈ z.cps.toList))) | _ => none) = some d := h
      cases h1 : s.cps.toList with
      | nil => rw [h1] at h; cases h
      | cons c r =>
        rw [h1] at h
        cases r with
        | cons c2 r2 => cases h
        | nil =>
          cases h
          refine .inl ⟨c, z, ?_, rfl, q _ H Hk (.refl e) (.bl _)⟩
          obtain ⟨cps⟩ := s
          have e1 : cps = #[c] := by
            have : cps.toList = [c] := h1
            rw [← Array.toArray_toList (xs := cps), this]
          rw [e1]
    | _ => cases h
  | _ => cases rx <;> cases h
/-! ### a[i] -/
theorem RpA.atI {K : PySem.W.Frag} {H : Hp} {vs : List V} {ds : List D} {i : Int} {d : D} (r : RpA K H vs ds) (h : L2.atI ds i = some d) : ∃ v, L2.atI vs i = some v ∧ Rp K H v d := by
  unfold L2.atI at h ⊢
  rw [r.length]
  cases h1 : ixN ds.length i with
  | none => rw [h1] at h; cases h
  | some j =>
    rw [h1] at h
    obtain ⟨v, h2, h3⟩ := r.get (i := j) (by simpa using h)
    exact ⟨v, by simpa using h2, h3⟩
def gIx : D → D → Option D
  | .tup ds, .int i => L2.atI ds i
  | .lst ds, .int i => L2.atI ds i
  | .ro ns, .int i => (L2.atI ns i).map D.int
  | .str s, .int i => if s.length ≤ sizeLine then (L2.atI s.cps.toList i).map fun c => .str ⟨#[c]⟩ else none
  | _, _ => none
theorem atI_map {α β : Type} (f : α → β) (xs : List α) (i : Int) : L2.atI (xs.map f) i = (L2.atI xs i).map f := by
  unfold L2.atI
  rw [List.length_map]
  cases ixN xs.length i with
  | none => rfl
  | some j => simp
theorem so_ix {K : PySem.W.Frag} : SO K (rIx K) gIx := fun Hk x y dx dy d rx ry h H e Q q => by
  cases ry with
  | int i =>
    cases rx with
    | @tup a xs ds ha hd =>
      obtain ⟨v, h1, h2⟩ := hd.atI (show L2.atI ds i = some d from h)
      exact .inr (.inl ⟨a, xs, i, v, rfl, rfl, sqt_same e ha, h1, q v H Hk (.refl e) h2⟩)
    | @lst a xs ds ha hd =>
      obtain ⟨v, h1, h2⟩ := hd.atI (show L2.atI ds i = some d from h)
      exact .inl ⟨a, xs, i, v, rfl, rfl, SqL.of (e _ _ ha), h1, q v H Hk (.refl e) h2⟩
    | @ro a ns ha =>
      have h' : (L2.atI ns i).map D.int = some d := h
      cases h1 : L2.atI ns i with
      | none => rw [h1] at h'; cases h'
      | some n =>
        rw [h1] at h'
        cases h'
        exact .inl ⟨a, _, i, .int n, rfl, rfl, e.seq ha, by rw [atI_map, h1]; rfl, q _ H Hk (.refl e) (.int n)⟩
    | str s =>
      unfold gIx at h
      by_cases hz : s.length ≤ sizeLine
      · simp only [hz, if_true] at h
        cases h1 : L2.atI s.cps.toList i with
        | none => rw [h1] at h; cases h
        | some c =>
          rw [h1] at h
          cases h
          exact .inr (.inr ⟨s, i, c, rfl, rfl, hz, h1, q _ H Hk (.refl e) (.str _)⟩)
      · simp only [hz, if_false] at h; cases h
    | _ => cases h
  | _ => cases rx <;> cases h
theorem me_ix {X : Cx} {K : PySem.W.Frag} {a b : Expr} {ta tb : TE} {ma mb : E} {pos : Pos} (hK : X.K = K) (ha : ME X K a ta ma) (hb : ME X K b tb mb) (hs : PlainIx b := by exact fun _ _ => rfl) : ME X K (.Subscript a b pos) (tOp (rIx K) ta tb) (mOp gIx ma mb) := by
  subst hK
  exact ⟨pe_ix ix_seq ha.pe hb.pe hs, se_op so_ix ha.se hb.se⟩
/-! ### slices -/
def cutD (xs : List D) (lo hi : Option Int) : List D := (xs.drop (HT.sIx xs.length 0 lo)).take (HT.sIx xs.length xs.length hi - HT.sIx xs.length 0 lo)
theorem RpA.cut {K : PySem.W.Frag} {H : Hp} {vs : List V} {ds : List D} (r : RpA K H vs ds) (lo hi : Option Int) : RpA K H (cutV vs lo hi) (cutD ds lo hi) := by
  unfold cutV cutD
  rw [r.length]
  exact (r.drop _).take _
structure MO (X : Cx) (eo : Option Expr) (to : TO) (o : Option Int) : Prop where
  po : PO X eo to
  so : ∀ (σ : L2.St) (H : Hp) (Q : Option Int → Hp → Prop), Q o H → to σ H Q
theorem mo_none {X : Cx} : MO X none tNoPart none := ⟨po_none, fun _ _ _ q => q⟩
theorem mo_int {X : Cx} {i j pos} : MO X (some (.Constant (.int i) j pos)) (tPart (tC (.int i))) (some i) := ⟨po_some pe_int, fun _ _ _ q => ⟨i, rfl, q⟩⟩
theorem mo_neg {X : Cx} {i j pos pos'} : MO X (some (.UnaryOp .USub (.Constant (.int i) j pos) pos')) (tPart (tUn (rU fun i => .int (-i)) (tC (.int i)))) (some (-i)) := ⟨po_some (pe_un un_neg pe_int), fun _ _ _ q => ⟨i, rfl, -i, rfl, q⟩⟩
def gSl (lo hi : Option Int) : D → Option D
  | .tup ds => some (.tup (cutD ds lo hi))
  | .lst ds => some (.lst (cutD ds lo hi))
  | _ => none
def mUn (g : D → Option D) (a : E) : E := fun ρ => (a ρ).bind g
def rSlM (K : PySem.W.Frag) : V → Option Int → Option Int → Hp → VK → Prop := fun x lo hi H Q => rSlA K x lo hi H Q ∨ rSlL K x lo hi H Q
theorem me_sl {X : Cx} {K : PySem.W.Frag} {a : Expr} {lo hi : Option Expr} {ta : TE} {tl th : TO} {ma : E} {ol oh : Option Int} {p2 pos : Pos} (hK : X.K = K) (ha : ME X K a ta ma) (hl : MO X lo tl ol) (hh : MO X hi th oh) :
    ME X K (.Subscript a (.Slice lo hi none p2) pos) (tSl (rSlM K) ta tl th) (mUn (gSl ol oh) ma) := by
  subst hK
  refine ⟨pe_slice (sl_tupA.or sl_list) ha.pe hl.po hh.po, fun σ ρ Hk rl d h H e Q q => ?_⟩
  unfold mUn at h
  cases h1 : ma ρ with
  | none => rw [h1] at h; cases h
  | some x =>
    rw [h1, Option.bind_some] at h
    refine ha.se σ ρ Hk rl x h1 H e _ fun v H2 Hr st rv => hl.so _ _ _ (hh.so _ _ _ ?_)
    cases rv with
    | @tup a xs ds hx hd =>
      cases h
      refine .inl ⟨a, xs, rfl, sqt_same st.sub hx, fun hw => ?_, fun hw p hp => ?_⟩
      · refine q _ H2 Hr st (.tup hx ?_)
        have e1 : cutD ds ol oh = ds := by
          unfold cutD
          rw [hd.length] at hw
          rw [hw.1, hw.2, List.drop_zero, Nat.sub_zero, List.take_length]
        rw [e1]; exact hd
      · exact q _ _ _ (st.alloc hp) (.tup (SqT.of upd_same) ((hd.cut ol oh).mono (same_new (none_back st.sub hp))))
    | @lst a xs ds hx hd =>
      cases h
      exact .inr ⟨a, xs, rfl, SqL.of (st.sub _ _ hx), fun p hp => q _ _ _ (st.alloc hp) (.lst upd_same ((hd.cut ol oh).mono (same_new (none_back st.sub hp))))⟩
    | _ => cases h
/-! ### isinstance -/
def tyN : D → String
  | .non => "NoneType" | .bl _ => "bool" | .int _ => "int" | .str _ => "str" | .lst _ => "list" | .tup _ => "tuple" | .ro _ => "list"
def isKs (T n : String) : Bool := n == T || (T == "int" && n == "bool")
def isK (T : String) (d : D) : Bool := isKs T (tyN d)
theorem kit_names : ∀ T ∈ ["int", "bool", "str", "tuple", "list"], ∀ n ∈ ["NoneType", "bool", "int", "str", "list", "tuple"], kitB n T = some (isKs T n) := by decide +kernel
theorem kit_all {T : String} (hT : T ∈ ["int", "bool", "str", "tuple", "list"]) (d : D) : kitB (tyN d) T = some (isK T d) := kit_names T hT _ (by cases d <;> simp [tyN])
theorem tyx_of {K : PySem.W.Frag} {H : Hp} {v : V} {d : D} (r : Rp K H v d) : TyX K H v (.type (tyN d)) := by
  cases r with
  | non => exact .base .non
  | bl b => exact .base (.bl b)
  | int i => exact .base (.int i)
  | str x => exact .base (.str x)
  | lst h _ => exact .base (.lst h)
  | tup h _ =>
    rcases h with (h | ⟨o, h⟩) | ⟨o, its, n, hk, hc, _⟩
    · exact .base (.tup h)
    · exact .fTuple h
    · exact .kTuple hk hc
  | ro h =>
    rcases h with (h | ⟨o, h⟩) | ⟨o, its, n, hk, hc, _⟩
    · exact .base (.lst h)
    · exact .base (.frz h)
    · exact .kList hk hc
theorem me_isi {X : Cx} {K : PySem.W.Frag} {nT : Str} {a : Expr} {ta : TE} {ma : E} {p p2 pos : Pos} (hK : X.K = K) (T : String) (hm : X.mg "isinstance" = none) (hmT : X.mg nT = none) (ha : ME X K a ta ma)
    (hT : T ∈ ["int", "bool", "str", "tuple", "list"] := by decide) (hv : bootBuiltins nT = some (.type T) := by decide +kernel) (hg : Gl X "isinstance" := by rfl) (hgT : Gl X nT := by rfl) (hn : nT ≠ "__name__" := by decide) (hd : (nT == ("__debug__" : Str)) = false := by decide)
    (he1 : starEach [.Name nT p2] X.env = (false, eval (.Name nT p2) X.env) :: starEach [] X.env := by rfl)
    (he : starEach [a, .Name nT p2] X.env = (false, eval a X.env) :: starEach [.Name nT p2] X.env := by rfl) (hpl : (backTo pos (starEach [.Name nT p2] X.env)).any (·.1) = false := by rfl) :
    ME X K (.Call (.Name "isinstance" p) [a, .Name nT p2] [] pos) (tCB (rIsi K) (tCons ta (tCons (tC (.ty T)) tNil))) (mUn (fun d => some (.bl (isK T d))) ma) := by
  subst hK
  refine ⟨pe_callB call_isi hg hm (by decide +kernel) (pa_cons ha.pe (pa_cons (pe_bltn hgT hmT hv rfl hn hd) pa_nil he1) he) (by decide) (by decide) he hpl, fun σ ρ Hk rl d h H e Q q => ?_⟩
  unfold mUn at h
  cases h1 : ma ρ with
  | none => rw [h1] at h; cases h
  | some x =>
    rw [h1, Option.bind_some] at h
    cases h
    refine ha.se σ ρ Hk rl x h1 H e _ fun v H2 Hr st rv => ?_
    exact ⟨v, .ty T, .type (tyN x), .type T, isK T x, rfl, .ty T, tyx_of (rv.mono st.sub), kit_ty (kit_all hT x), q _ H2 Hr st (.bl _)⟩
/-! ### calls of built-ins -/
def gLen : List D → Option D
  | [.str s] => if s.length ≤ sizeLine then some (.int s.length) else none
  | [.tup ds] => some (.int ds.length)
  | [.lst ds] => some (.int ds.length)
  | [.ro ns] => some (.int ns.length)
  | _ => none
def rLenM (K : PySem.W.Frag) : List V → Hp → VK → Prop := fun xs H Q => ∃ x n, xs = [x] ∧ LenV K x H n ∧ Q (.int n) H
theorem RpA.one {K : PySem.W.Frag} {H : Hp} {vs : List V} {d : D} (r : RpA K H vs [d]) : ∃ v, vs = [v] ∧ Rp K H v d := by
  cases r with
  | cons h t => cases t; exact ⟨_, rfl, h⟩
theorem sc_len {K : PySem.W.Frag} : SC K (rLenM K) gLen := fun Hk vs ds d r h H e Q q => by
  unfold gLen at h
  split at h
  · rename_i s
    obtain ⟨v, rfl, rv⟩ := r.one
    cases rv
    by_cases hz : s.length ≤ sizeLine
    · simp only [hz, if_true] at h
      cases h
      exact ⟨_, s.length, rfl, ⟨hz, rfl⟩, q _ H Hk (.refl e) (.int _)⟩
    · simp only [hz, if_false] at h; cases h
  · rename_i es
    obtain ⟨v, rfl, rv⟩ := r.one
    cases rv with
    | tup hx hd =>
      cases h
      exact ⟨_, es.length, rfl, .inr ⟨_, sqt_same e hx, hd.length.symm⟩, q _ H Hk (.refl e) (.int _)⟩
  · rename_i es
    obtain ⟨v, rfl, rv⟩ := r.one
    cases rv with
    | lst hx hd =>
      cases h
      exact ⟨_, es.length, rfl, .inl ⟨_, SqL.of (e _ _ hx), hd.length.symm⟩, q _ H Hk (.refl e) (.int _)⟩
  · rename_i ns
    obtain ⟨v, rfl, rv⟩ := r.one
    cases rv with
    | ro hx =>
      cases h
      exact ⟨_, ns.length, rfl, .inl ⟨_, e.seq hx, (List.length_map _).symm⟩, q _ H Hk (.refl e) (.int _)⟩
  · cases h
def gInt : List D → Option D
  | [.int i] => some (.int i)
  | [.bl b] => some (.int (if b then 1 else 0))
  | _ => none
def rIntM : List V → Hp → VK → Prop := fun xs H Q => (∃ i, xs = [.int i] ∧ Q (.int i) H) ∨ ∃ k, xs = [.bl k] ∧ Q (.int (if k then 1 else 0)) H
theorem sc_int {K : PySem.W.Frag} : SC K rIntM gInt := fun Hk vs ds d r h H e Q q => by
  unfold gInt at h
  split at h
  · rename_i i
    obtain ⟨v, rfl, rv⟩ := r.one
    cases rv
    cases h
    exact .inl ⟨i, rfl, q _ H Hk (.refl e) (.int _)⟩
  · rename_i i
    obtain ⟨v, rfl, rv⟩ := r.one
    cases rv
    cases h
    exact .inr ⟨i, rfl, q _ H Hk (.refl e) (.int _)⟩
  · cases h
def gMax : List D → Option D
  | [.int i, .int j] => some (.int (if j > i then j else i))
  | _ => none
def rMaxM : List V → Hp → VK → Prop := fun xs H Q => ∃ i j, xs = [.int i, .int j] ∧ Q (.int (if j > i then j else i)) H
theorem sc_max {K : PySem.W.Frag} : SC K rMaxM gMax := fun Hk vs ds d r h H e Q q => by
  unfold gMax at h
  split at h
  · rename_i i j
    cases h
    cases r with
    | cons r1 r2 =>
      obtain ⟨v, rfl, rv⟩ := r2.one
      cases r1
      cases rv
      exact ⟨i, j, rfl, q _ H Hk (.refl e) (.int _)⟩
  · cases h
def bls? : List D → Option (List Bool)
  | [] => some []
  | .bl s :: r => (bls? r).map fun ss => s :: ss
  | _ :: _ => none
theorem bls?_eq : ∀ {ds : List D} {ss : List Bool}, bls? ds = some ss → ds = ss.map D.bl
  | [], ss, h => by cases h; rfl
  | d :: r, ss, h => by
    cases d with
    | bl s =>
      unfold bls? at h
      cases h1 : bls? r with
      | none => rw [h1] at h; cases h
      | some rs => rw [h1] at h; cases h; rw [bls?_eq h1]; rfl
    | _ => cases h
def gAll : List D → Option D
  | [.lst ds] => (bls? ds).map fun bs => .bl (bs.all id)
  | _ => none
theorem sc_all {K : PySem.W.Frag} : SC K (rAll K) gAll := fun Hk vs ds d r h H e Q q => by
  unfold gAll at h
  split at h
  · rename_i ds
    obtain ⟨v, rfl, rv⟩ := r.one
    cases rv with
    | lst hx hd =>
      cases h1 : bls? ds with
      | none => rw [h1] at h; cases h
      | some bs =>
        rw [h1] at h
        cases h
        have e1 := bls?_eq h1
        subst e1
        rw [hd.bls] at hx
        exact ⟨_, bs, rfl, SqL.of (e _ _ hx), q _ H Hk (.refl e) (.bl _)⟩
  · cases h
def gTuple : List D → Option D
  | [.lst ds] => some (.tup ds)
  | [.tup ds] => some (.tup ds)
  | _ => none
def rTupM (K : PySem.W.Frag) : List V → Hp → VK → Prop := fun xs H Q => ∃ p ys, xs = [.ref p] ∧ ((SqL K H p ys ∧ ∀ l, H l = none → Q (.ref l) (upd H l (.tup ys))) ∨ (SqT K H p ys ∧ Q (.ref p) H))
theorem sc_tuple {K : PySem.W.Frag} : SC K (rTupM K) gTuple := fun Hk vs ds d r h H e Q q => by
  unfold gTuple at h
  split at h
  · rename_i ds
    obtain ⟨v, rfl, rv⟩ := r.one
    cases h
    cases rv with
    | lst hx hd => exact ⟨_, _, rfl, .inl ⟨SqL.of (e _ _ hx), fun l hl => q _ _ _ ((Step.refl e).alloc hl) (.tup (SqT.of upd_same) (hd.mono (same_new (none_back e hl))))⟩⟩
  · rename_i ds
    obtain ⟨v, rfl, rv⟩ := r.one
    cases h
    cases rv with
    | tup hx hd => exact ⟨_, _, rfl, .inr ⟨sqt_same e hx, q _ H Hk (.refl e) (.tup hx hd)⟩⟩
  · cases h
def gList : List D → Option D
  | [.lst ds] => some (.lst ds)
  | [.tup ds] => some (.lst ds)
  | _ => none
def rLstM (K : PySem.W.Frag) : List V → Hp → VK → Prop := fun xs H Q => ∃ p ys, xs = [.ref p] ∧ (SqL K H p ys ∨ SqT K H p ys) ∧ ∀ l, H l = none → Q (.ref l) (upd H l (.lst ys))
theorem sc_list {K : PySem.W.Frag} : SC K (rLstM K) gList := fun Hk vs ds d r h H e Q q => by
  unfold gList at h
  split at h
  · rename_i ds
    obtain ⟨v, rfl, rv⟩ := r.one
    cases h
    cases rv with
    | lst hx hd => exact ⟨_, _, rfl, .inl (SqL.of (e _ _ hx)), fun l hl => q _ _ _ ((Step.refl e).alloc hl) (.lst upd_same (hd.mono (same_new (none_back e hl))))⟩
  · rename_i ds
    obtain ⟨v, rfl, rv⟩ := r.one
    cases h
    cases rv with
    | tup hx hd => exact ⟨_, _, rfl, .inr (sqt_same e hx), fun l hl => q _ _ _ ((Step.refl e).alloc hl) (.lst upd_same (hd.mono (same_new (none_back e hl))))⟩
  · cases h
/-- list(x), the fresh list -/
def mListOf (as : Es) : Es := fun ρ => (as ρ).bind fun
  | [.lst ds] => some ds
  | [.tup ds] => some ds
  | _ => none
theorem ml_list {X : Cx} {K : PySem.W.Frag} {a : Expr} {es : List Expr} {t : TA} {ms : Es} {p pos : Pos} (hK : X.K = K) (hm : X.mg "list" = none) (ha : MA X K (a :: es) t ms) (hg : Gl X "list" := by rfl)
    (he : starEach (a :: es) X.env = (false, eval a X.env) :: starEach es X.env := by rfl) (hpl : (backTo pos (starEach es X.env)).any (·.1) = false := by rfl) :
    ML X K (.Call (.Name "list" p) (a :: es) [] pos) (tCB (rLstM K) t) (mListOf ms) := by
  subst hK
  refine ⟨pe_callTy call_list_of hg hm (by decide +kernel) ha.pa (by decide) (by decide) he hpl, fun σ ρ Hk rl ds h H e Q q => ?_⟩
  unfold mListOf at h
  cases h1 : ms ρ with
  | none => rw [h1] at h; cases h
  | some xs =>
    rw [h1, Option.bind_some] at h
    refine ha.sa σ ρ Hk rl xs h1 H e _ fun vs H2 Hr st rvs => ?_
    split at h
    · cases h
      obtain ⟨v, rfl, rv⟩ := rvs.one
      cases rv with
      | lst hx hd => exact ⟨_, _, rfl, .inl (SqL.of (st.sub _ _ hx)), fun l hl => q l _ _ Hr ⟨st.ex.trans (same_new hl), st.kn, st.sub.trans (same_new hl), st.new⟩ (none_back st.ex hl) (none_back st.sub hl) upd_same hd⟩
    · cases h
      obtain ⟨v, rfl, rv⟩ := rvs.one
      cases rv with
      | tup hx hd => exact ⟨_, _, rfl, .inr (sqt_same st.sub hx), fun l hl => q l _ _ Hr ⟨st.ex.trans (same_new hl), st.kn, st.sub.trans (same_new hl), st.new⟩ (none_back st.ex hl) (none_back st.sub hl) upd_same hd⟩
    · cases h
def gStr : List D → Option D
  | [.str s] => some (.str s)
  | _ => none
def rStrM : List V → Hp → VK → Prop := fun xs H Q => ∃ a, xs = [.str a] ∧ Q (.str a) H
theorem sc_str {K : PySem.W.Frag} : SC K rStrM gStr := fun Hk vs ds d r h H e Q q => by
  unfold gStr at h
  split at h
  · obtain ⟨v, rfl, rv⟩ := r.one
    cases h
    cases rv
    exact ⟨_, rfl, q _ H Hk (.refl e) (.str _)⟩
  · cases h
end ML
set_option Elab.async false
set_option linter.all false
set_option maxRecDepth 100000
set_option maxHeartbeats 4000000
/-! tuples backwards, walks, comprehensions, statements, defs -/
namespace HT
open PySem PySem.Spec PyProof.Rows L2
section
variable {prog : Program} {w : World} {A : Around} {E : Value → Shared → Prop} {s : Shared}
theorem sliceApplied_rev {sl : Addr} {vk : Value} {n : Nat} {Q : Int × Int × Nat → Shared → Prop} (hs : s.heap.IsSliceOf sl .none .none vk) (pk : IsPart vk (some (-1)))
    (h : Q ((n : Int) - 1, -1, n) s) : wpAny (model prog w) A (Builtin.Slice.sliceApplied (.ref sl) (pure (n : Int))) Q E s := by
  obtain ⟨os, hos, hcs, hds⟩ := id hs
  unfold Builtin.Slice.sliceApplied Builtin.Slice.sliceFields
  refine wpAny_bind (wpAny_bind (wpAny_field hos hds (x := .none) rfl (wpAny_bind (wpAny_field hos hds (x := .none) rfl (wpAny_bind (wpAny_field hos hds (x := vk) rfl (wpAny_pure ?_)))))))
  refine wpAny_bind (slicePart_ pk ?_)
  show wpAny _ _ (if ((-1 : Int) == 0) = true then _ else _) _ _ s
  rw [if_neg (by decide)]
  refine wpAny_bind (slicePart_none (wpAny_bind (slicePart_none (wpAny_bind (wpAny_pure ?_)))))
  show wpAny _ _ (pure (((n : Int) - 1), (-1 : Int), Builtin.Slice.slicePlaces ((n : Int) - 1) (-1) (-1))) _ _ s
  have e : Builtin.Slice.slicePlaces ((n : Int) - 1) (-1) (-1) = n := by
    unfold Builtin.Slice.slicePlaces
    have h1 : ¬ ((-1 : Int) > 0) := by decide
    simp only [h1, if_false]
    rw [show (- -1 : Int) = 1 by decide, Int.ediv_one]
    split <;> omega
  rw [e]
  exact wpAny_pure h
theorem fm_congr {α β : Type} {f g : α → Option β} : ∀ (l : List α), (∀ a ∈ l, f a = g a) → l.filterMap f = l.filterMap g
  | [], _ => rfl
  | a :: l, h => by rw [List.filterMap_cons, List.filterMap_cons, h a List.mem_cons_self, fm_congr l fun b hb => h b (List.mem_cons_of_mem _ hb)]
theorem pick_rev (xs : Array Value) : ((List.range xs.size).filterMap fun (m : Nat) => xs[(((xs.size : Int) - 1) + (m : Int) * (-1)).toNat]?).toArray = xs.toList.reverse.toArray := by
  have h := PySem.W.krv_pick xs
  have e1 : slicePick xs none none (some (-1)) = ((sliceRange ((xs.size : Int) - 1) (-1) (-1)).filterMap (xs[·]?)).toArray := by
    unfold slicePick
    rw [PySem.W.krv_bounds]
  rw [e1, PySem.W.krv_sliceRange, List.filterMap_map] at h
  rw [← h]
  congr 1
  refine fm_congr _ fun m hm => ?_
  have hm := List.mem_range.mp hm
  show xs[(((xs.size : Int) - 1) + (m : Int) * (-1)).toNat]? = xs[xs.size - 1 - m]?
  have : (((xs.size : Int) - 1) + (m : Int) * (-1)).toNat = xs.size - 1 - m := by omega
  rw [this]
theorem getItem_tuple_rev {t sl : Addr} {items : Array Value} {vk : Value} {Q : Value → Shared → Prop} (ht : IsTup s.heap t items) (hs : s.heap.IsSliceOf sl .none .none vk) (pk : IsPart vk (some (-1)))
    (h : Q (.ref s.heap.objs.size) { s with heap := s.heap.push { cls := .type "tuple", data := .seq items.toList.reverse.toArray } })
    (hsz : items.size ≤ sizeLine) : wpAny (model prog w) A (getItem (.ref t) (.ref sl)) Q E s := by
  have htake : sizeOk (.seq items.toList.reverse.toArray) := by
    show items.toList.reverse.toArray.size ≤ sizeLine
    rw [List.size_toArray, List.length_reverse, Array.length_toList]
    exact hsz
  obtain ⟨os, hos, hcs, hds⟩ := id hs
  have hTs : s.TypeIs (.ref sl) "slice" := ⟨os, hos, hcs⟩
  unfold getItem
  try with_reducible refine wpAny_holding ?_
  first | refine wpAny_bind (wpAny_pure ?_) | skip
  refine wpAny_bind (wpAny_sequenceKey ht.typeIs (by decide) ?_)
  refine wpAny_bind (wpAny_callSpecial?_slot (name := Str.ofString "__getitem__") ht.typeIs PyProof.Rows.slot_tuple_getitem
    (wpAny_call_entry PyProof.Rows.slot_tuple_getitem ht.typeIs entry_tuple_getitem ?_ (args_tuple_getitem _ _)))
  show wpAny _ _ (Builtin.Tuple.tupleItemsOf (.ref t) >>= _) _ _ s
  refine wpAny_bind (tupleItemsOf_ ht ?_)
  refine wpAny_bind (wpAny_typeOf hTs ?_)
  rw [if_pos (by decide)]
  refine wpAny_bind (sliceApplied_rev hs pk ?_)
  have hno : ¬ ((((items.size : Int) - 1) == 0 && (-1 : Int) == 1 && items.size == items.size) = true) := by
    intro q
    rw [Bool.and_eq_true, Bool.and_eq_true] at q
    exact absurd q.1.2 (by decide)
  show wpAny _ _ (if (((items.size : Int) - 1) == 0 && (-1 : Int) == 1 && items.size == items.size) = true then _ else _) _ _ s
  rw [if_neg hno, pick_rev]
  first
    | exact wpAny_bind (m := Builtin.Tuple.tupleExact _) (wpAny_newObj_type (wpAny_pure ⟨_, rfl, wpAny_pure h⟩) htake)
    | exact wpAny_bind (m := Builtin.Tuple.tupleExact _) (wpAny_newObj_type (wpAny_bind (wpAny_pure (wpAny_pure ⟨_, rfl, wpAny_pure h⟩))) htake)
    | exact wpAny_bind (wpAny_bind (m := Builtin.Tuple.tupleExact _) (wpAny_newObj_type (wpAny_pure (wpAny_pure ⟨_, rfl, wpAny_pure h⟩)) htake))
    | exact wpAny_bind (wpAny_bind (m := Builtin.Tuple.tupleExact _) (wpAny_newObj_type (wpAny_pure ⟨_, rfl, wpAny_pure h⟩) htake))
end
end HT
namespace ML
open PySem PySem.Spec PyProof.Rows L2
/-! ### t[::-1] -/
def tRevT (K : PySem.W.Frag) (te : TE) : TE := fun σ H Q => te σ H fun x H1 => ∃ a xs, x = .ref a ∧ SqT K H1 a xs ∧ ∀ p, H1 p = none → Q (.ref p) (upd H1 p (.tup xs.reverse))
theorem pe_revT {X : Cx} {e : Expr} {te : TE} {k : Nat} {p1 p2 p3 pos : Pos} (he : PE X e te) : PE X (.Subscript e (.Slice none none (some (.UnaryOp .USub (.Constant (.int 1) k p1) p2)) p3) pos) (tRevT X.K te) := by
  refine ⟨fun pins s σ H Q I h => ?_⟩
  refine Subscript_ (thn (he.run pins s σ H _ I h) fun v s1 ⟨x, H1, I1, r1, q1⟩ => ?_)
  obtain ⟨a, xs, ex, hx, q⟩ := q1
  subst ex
  cases r1
  have hst : PO X (some (.UnaryOp .USub (.Constant (.int 1) k p1) p2)) (tPart (tUn (rU fun i => .int (-i)) (tC (.int 1)))) := po_some (pe_un un_neg pe_int)
  refine wpAny_Slice (thn (po_none.run pins s1 σ H1 (fun o H2 => o = none ∧ H2 = H1) I1 ⟨rfl, rfl⟩) fun vl s2 ⟨l, H2, I2, pl, el, e2⟩ => ?_)
  subst el e2
  refine thn (po_none.run pins s2 σ H2 (fun o H3 => o = none ∧ H3 = H2) I2 ⟨rfl, rfl⟩) fun vu s3 ⟨u, H3, I3, pu, eu, e3⟩ => ?_
  subst eu e3
  refine thn (hst.run pins s3 σ H3 (fun o H4 => o = some (-1) ∧ H4 = H3) I3 ⟨1, rfl, -1, rfl, rfl, rfl⟩) fun vs s4 ⟨o, H4, I4, ps, eo, e4⟩ => ?_
  subst eo e4
  cases pl
  cases pu
  have I5 : Inv X pins σ H4 { s4 with heap := s4.heap.push { cls := .type "slice", data := .fields #[.none, .none, vs] } } := I4.kept (t' := s4.toks) fun b ob q => Heap.get?_push_of_some _ q
  obtain ⟨its, r, ht, hz⟩ := I5.tuple hx
  have hlen := r.length
  show wpAny (model X.prog X.w) X.A (subscriptTail e (.Slice none none (some (.UnaryOp .USub (.Constant (.int 1) k p1) p2)) p3) (.ref a) (.ref s4.heap.objs.size)) (EP X pins σ Q) X.xe { s4 with heap := s4.heap.push { cls := .type "slice", data := .fields #[.none, .none, vs] } }
  refine tail_any (ops := [.ref a, .ref s4.heap.objs.size]) ht.typeIs (PyProof.Rows.slot_tuple_getitem.lookup) ?_ (by with_unfolding_all rfl)
  refine HT.getItem_tuple_rev ht (Heap.IsSliceOf.new _ .none .none vs) ps ?_ (by rw [List.size_toArray]; omega)
  refine ⟨.ref _, _, I5.laid (t' := s4.toks) (o := .tup xs.reverse) (fun b ob q => Heap.get?_push_of_some _ q) (Nat.le_refl _) ?_, rfl, q _ (I5.hok.fresh (Nat.le_refl _))⟩
  exact ⟨by rw [List.length_reverse]; exact hz, _, r.reverse, IsTup.new _ _⟩
def gRev : D → Option D
  | .tup ds => some (.tup ds.reverse)
  | _ => none
theorem me_revT {X : Cx} {K : PySem.W.Frag} {e : Expr} {te : TE} {m : E} {k : Nat} {p1 p2 p3 pos : Pos} (hK : X.K = K) (he : ME X K e te m) : ME X K (.Subscript e (.Slice none none (some (.UnaryOp .USub (.Constant (.int 1) k p1) p2)) p3) pos) (tRevT K te) (mUn gRev m) := by
  subst hK
  refine ⟨pe_revT he.pe, fun σ ρ Hk rl d h H e Q q => ?_⟩
  unfold mUn at h
  cases h1 : m ρ with
  | none => rw [h1] at h; cases h
  | some x =>
    rw [h1, Option.bind_some] at h
    refine he.se σ ρ Hk rl x h1 H e _ fun v H2 Hr st rv => ?_
    cases rv with
    | @tup a xs ds hx hd =>
      cases h
      exact ⟨a, xs, rfl, sqt_same st.sub hx, fun p hp => q _ _ _ (st.alloc hp) (.tup (SqT.of upd_same) (hd.reverse.mono (same_new (none_back st.sub hp))))⟩
    | _ => cases h
/-! ### what is walked -/
structure ItOk (K : PySem.W.Frag) (J : It) (Hk : Hp) (ds : List D) : Prop where
  go : ∀ i H, i < ds.length → Same Hk H → J.go i H
  stop : ∀ H, Same Hk H → J.stop ds.length H
  yld : ∀ i H x H', i < ds.length → Same Hk H → J.yld i H x H' → H' = H ∧ ∃ d, ds[i]? = some d ∧ Rp K Hk x d
def SI (K : PySem.W.Frag) (wi : TI) (src : Es) : Prop := ∀ σ ρ Hk, Rel K Hk σ ρ → ∀ ds, src ρ = some ds → ∀ H, Same Hk H → ∀ R : It → Hp → Prop, (∀ J H2 Hr, Step Hk H Hr H2 → ItOk K J Hr ds → R J H2) → wi σ H R
structure MI (X : Cx) (K : PySem.W.Frag) (tg iter : Expr) (wi : TI) (src : Es) : Prop where
  pi : PI X tg iter wi
  si : SI K wi src
def wLst (m : E) : Es := fun ρ => (m ρ).bind fun
  | .lst ds => some ds
  | _ => none
def wTup (m : E) : Es := fun ρ => (m ρ).bind fun
  | .tup ds => some ds
  | _ => none
def wStr (m : E) : Es := fun ρ => (m ρ).bind fun
  | .str s => some (s.cps.toList.map fun c => D.str ⟨#[c]⟩)
  | _ => none
def wRng (ms : Es) : Es := fun ρ => (ms ρ).bind fun
  | [.int n] => if -1000000000 ≤ n ∧ n ≤ 1000000000 then some ((List.range n.toNat).map fun (i : Nat) => D.int (i : Int)) else none
  | _ => none
section
variable {X : Cx} {K : PySem.W.Frag} {tg e : Expr} {te : TE} {m : E}
theorem mi_lst (hK : X.K = K) (h : ME X K e te m) : MI X K tg e (iList K te) (wLst m) := by
  subst hK
  refine ⟨pi_list h.pe, fun σ ρ Hk rl ds hd H e R q => ?_⟩
  unfold wLst at hd
  cases h1 : m ρ with
  | none => rw [h1] at hd; cases hd
  | some x =>
    rw [h1, Option.bind_some] at hd
    refine h.se σ ρ Hk rl x h1 H e _ fun v H2 Hr st rv => ?_
    cases rv with
    | @lst a xs es hx ha =>
      cases hd
      refine ⟨a, rfl, ⟨xs, SqL.of (st.sub _ _ hx)⟩, q _ H2 Hr st ⟨fun i H hi e => ?_, fun H e => ?_, fun i H x H' hi e y => ?_⟩⟩
      · obtain ⟨v, hv, _⟩ := ha.get (List.getElem?_eq_getElem hi)
        exact ⟨xs, v, SqL.of (e _ _ hx), hv⟩
      · exact ⟨xs, SqL.of (e _ _ hx), by rw [ha.length]; exact Nat.le_refl _⟩
      · obtain ⟨e1, y⟩ := y
        exact ⟨e1, ha.getV (y xs (SqL.of (e _ _ hx)))⟩
    | _ => cases hd
theorem mi_tup (hK : X.K = K) (h : ME X K e te m) : MI X K tg e (iTup K te) (wTup m) := by
  subst hK
  refine ⟨pi_tup h.pe, fun σ ρ Hk rl ds hd H e R q => ?_⟩
  unfold wTup at hd
  cases h1 : m ρ with
  | none => rw [h1] at hd; cases hd
  | some x =>
    rw [h1, Option.bind_some] at hd
    refine h.se σ ρ Hk rl x h1 H e _ fun v H2 Hr st rv => ?_
    cases rv with
    | @tup a xs es hx ha =>
      cases hd
      refine ⟨a, rfl, ⟨xs, sqt_same st.sub hx⟩, q _ H2 Hr st ⟨fun i H hi e => ?_, fun H e => ?_, fun i H x H' hi e y => ?_⟩⟩
      · obtain ⟨v, hv, _⟩ := ha.get (List.getElem?_eq_getElem hi)
        exact ⟨xs, v, sqt_same e hx, hv⟩
      · exact ⟨xs, sqt_same e hx, by rw [ha.length]; exact Nat.le_refl _⟩
      · obtain ⟨e1, y⟩ := y
        exact ⟨e1, ha.getV (y xs (sqt_same e hx))⟩
    | _ => cases hd
theorem mi_str (h : ME X K e te m) : MI X K tg e (iStr te) (wStr m) := by
  refine ⟨pi_str h.pe, fun σ ρ Hk rl ds hd H e R q => ?_⟩
  unfold wStr at hd
  cases h1 : m ρ with
  | none => rw [h1] at hd; cases hd
  | some x =>
    rw [h1, Option.bind_some] at hd
    refine h.se σ ρ Hk rl x h1 H e _ fun v H2 Hr st rv => ?_
    cases rv with
    | str s =>
      cases hd
      refine ⟨s, rfl, q _ H2 Hr st ⟨fun i H hi e => ?_, fun H e => ?_, fun i H x H' hi e y => ?_⟩⟩
      · show i < s.cps.size
        simpa using hi
      · show s.cps.size ≤ _
        simp
      · obtain ⟨e1, c, hc, e2⟩ := y
        subst e2
        refine ⟨e1, D.str ⟨#[c]⟩, ?_, .str _⟩
        rw [List.getElem?_map, Array.getElem?_toList, hc]
        rfl
    | _ => cases hd
theorem mi_rng {a : Expr} {ta : TA} {ms : Es} {p pos : Pos} (hm : X.mg "range" = none) (ha : MA X K [a] ta ms) (hg : Gl X "range" := by rfl) (hs : starEach [a] X.env = [(false, eval a X.env)] := by rfl) : MI X K tg (.Call (.Name "range" p) [a] [] pos) (iRng1 ta) (wRng ms) := by
  refine ⟨pi_range1 hg hm ha.pa hs, fun σ ρ Hk rl ds hd H e R q => ?_⟩
  unfold wRng at hd
  cases h1 : ms ρ with
  | none => rw [h1] at hd; cases hd
  | some xs =>
    rw [h1, Option.bind_some] at hd
    refine ha.sa σ ρ Hk rl xs h1 H e _ fun vs H2 Hr st rvs => ?_
    split at hd
    · rename_i n
      obtain ⟨v, rfl, rv⟩ := rvs.one
      cases rv
      by_cases hz : -1000000000 ≤ n ∧ n ≤ 1000000000
      · rw [if_pos hz] at hd
        cases hd
        refine ⟨n, rfl, by omega, by omega, q _ H2 Hr st ⟨fun i H hi e => ?_, fun H e => ?_, fun i H x H' hi e y => ?_⟩⟩
        · show i < n.toNat
          simpa using hi
        · show n.toNat ≤ _
          simp
        · obtain ⟨e1, e2⟩ := y
          subst e2
          have hi' : i < n.toNat := by simpa using hi
          refine ⟨e1, D.int (i : Int), ?_, ?_⟩
          · rw [List.getElem?_map, List.getElem?_range hi']
            rfl
          · rw [Int.zero_add]; exact .int _
      · rw [if_neg hz] at hd; cases hd
    · cases hd
end
/-! ### comprehensions -/
def mask : List Nat → Env → Env
  | [], ρ => ρ
  | j :: js, ρ => (mask js ρ).set j none
theorem mask_len : ∀ (own : List Nat) (ρ : Env), (mask own ρ).length = ρ.length
  | [], _ => rfl
  | j :: js, ρ => by unfold mask; rw [List.length_set, mask_len js ρ]
theorem mask_some : ∀ {own : List Nat} {ρ : Env} {i : Nat} {d : D}, (mask own ρ)[i]? = some (some d) → i ∉ own ∧ ρ[i]? = some (some d)
  | [], _, _, _, h => ⟨by simp, h⟩
  | j :: js, ρ, i, d, h => by
    unfold mask at h
    by_cases hj : j = i
    · subst hj
      by_cases hl : j < (mask js ρ).length
      · rw [List.getElem?_set_self hl] at h; cases h
      · rw [List.getElem?_eq_none (by rw [List.length_set]; omega)] at h; cases h
    · rw [List.getElem?_set_ne hj] at h
      obtain ⟨h1, h2⟩ := mask_some h
      exact ⟨by simp only [List.mem_cons, not_or]; exact ⟨fun e => hj e.symm, h1⟩, h2⟩
def lcLoop (j : Nat) (tm em : E) : List D → Env → Option (List D)
  | [], _ => some []
  | d :: ds, ρ => match tm (ρ.set j (some d)) with
    | some (.bl true) => (em (ρ.set j (some d))).bind fun y => (lcLoop j tm em ds ρ).map fun ys => y :: ys
    | some (.bl false) => lcLoop j tm em ds ρ
    | _ => none
def mLc (j : Nat) (src : Es) (tm em : E) : E := fun ρ => (src ρ).bind fun ds => if ds.length < sizeLine then (lcLoop j tm em ds (mask [j] ρ)).map D.lst else none
theorem st_yes {K : PySem.W.Frag} : STt K tYes (mC (.bl true)) := fun σ ρ Hk rl b hb H e Q q => by
  cases hb
  exact q H Hk (.refl e)
structure MTs (X : Cx) (K : PySem.W.Frag) (ifs : List Expr) (tt : TT) (m : E) : Prop where
  pts : PTs X ifs tt
  st : STt K tt m
theorem mts_nil {X : Cx} {K : PySem.W.Frag} : MTs X K [] tYes (mC (.bl true)) := ⟨pts_nil, st_yes⟩
theorem mts_one {X : Cx} {K : PySem.W.Frag} {c : Expr} {tt : TT} {m : E} (h : MT X K c tt m) : MTs X K [c] tt m := ⟨pts_one h.pt, h.st⟩
/-- where the comprehension stands behind k items -/
def LcAt (K : PySem.W.Frag) (Hk H1 : Hp) (Dl : Addr) (k : Nat) (whole : List D) (rest : Option (List D)) (H : Hp) : Prop :=
  ∃ Hk' acc accD r, Step Hk H1 Hk' H ∧ Hk' Dl = none ∧ H Dl = some (.lst acc) ∧ RpA K Hk' acc accD ∧ acc.length ≤ k ∧ rest = some r ∧ accD ++ r = whole
theorem se_lc {K : PySem.W.Frag} {wi : TI} {src : Es} {tt : TT} {te : TE} {tm em : E} {j : Nat} (hi : SI K wi src) (ht : STt K tt tm) (he : SE K te em) : SE K (tLc wi (gName j) tt te [j]) (mLc j src tm em) := fun σ ρ Hk rl d h H e Q q => by
  unfold mLc at h
  cases h1 : src ρ with
  | none => rw [h1] at h; cases h
  | some ds =>
    rw [h1, Option.bind_some] at h
    by_cases hz : ds.length < sizeLine
    · rw [if_pos hz] at h
      cases h2 : lcLoop j tm em ds (mask [j] ρ) with
      | none => rw [h2] at h; cases h
      | some whole =>
        rw [h2] at h
        cases h
        refine hi σ ρ Hk rl ds h1 H e _ fun J H1 Hr st ok => fun Dl hD => ?_
        have hDH : H Dl = none := none_back st.ex hD
        refine ⟨fun k mm H' => mm = ds.length - k ∧ k ≤ ds.length ∧ LcAt K Hr H1 Dl k whole (lcLoop j tm em (ds.drop k) (mask [j] ρ)) H', ⟨ds.length, by simp, Nat.zero_le _, Hr, [], [], whole, ⟨same_new hD, Same.refl _, st.sub.trans (same_new hD), fun a o z1 z2 => by rw [z2] at z1; cases z1⟩, none_back st.sub hD, upd_same, .nil, Nat.le_refl _, by rw [List.drop_zero]; exact h2, rfl⟩, ?_⟩
        rintro k mm H' ⟨rfl, hk, Hk', acc, accD, r, s1, n1, d1, ra, hl, hr, hw⟩
        have keep : Same Hr H' := s1.kn.trans s1.sub
        rcases Nat.lt_or_ge k ds.length with hlt | hge
        · refine .inr ⟨ok.go k H' hlt keep, fun H'' => LcAt K Hr H1 Dl (k + 1) whole (lcLoop j tm em (ds.drop (k + 1)) (mask [j] ρ)) H'', fun H'' p => ⟨ds.length - (k + 1), by omega, rfl, hlt, p⟩, fun x H2 y => ?_⟩
          obtain ⟨e2, dx, hdx, rx⟩ := ok.yld k H' x H2 hlt keep y
          subst e2
          have rl' : Rel K Hk' ((wipe σ [j]).set j (some x)) ((mask [j] ρ).set j (some dx)) := by
            have q1 : Rel K Hk' (wipe σ [j]) (mask [j] ρ) := by
              refine ⟨by rw [wipe_length, mask_len]; exact rl.len, fun i d hd => ?_⟩
              obtain ⟨h3, h4⟩ := mask_some hd
              obtain ⟨v, h5, h6⟩ := rl.at_ i d h4
              refine ⟨v, ?_, h6.mono (st.kn.trans s1.kn)⟩
              show (σ.set j none)[i]? = some (some v)
              rw [List.getElem?_set_ne (fun z => h3 (by rw [z]; exact List.mem_cons_self))]
              exact h5
            exact q1.set (rx.mono s1.kn)
          refine ⟨?_, ?_⟩
          · show (((σ.set j none).set j (some x)).set j none) = σ.set j none
            rw [List.set_set, List.set_set]
          have ed : ds.drop k = dx :: ds.drop (k + 1) := by
            have h3 := List.drop_eq_getElem_cons hlt
            rw [h3]
            congr 1
            rw [List.getElem?_eq_getElem hlt] at hdx
            exact Option.some.inj hdx
          rw [ed] at hr
          unfold lcLoop at hr
          cases ht1 : tm ((mask [j] ρ).set j (some dx)) with
          | none => rw [ht1] at hr; cases hr
          | some tv =>
            rw [ht1] at hr
            cases tv with
            | bl b =>
              refine ht _ _ Hk' rl' b ht1 _ s1.sub _ fun H3 Hs st3 => ?_
              cases b with
              | true =>
                simp only at hr
                show te _ H3 _
                cases he1 : em ((mask [j] ρ).set j (some dx)) with
                | none => rw [he1] at hr; cases hr
                | some yd =>
                  rw [he1, Option.bind_some] at hr
                  cases hr1 : lcLoop j tm em (ds.drop (k + 1)) (mask [j] ρ) with
                  | none => rw [hr1] at hr; cases hr
                  | some ys =>
                    rw [hr1] at hr
                    cases hr
                    refine he _ _ Hs (rl'.mono st3.kn) yd he1 H3 st3.sub _ fun v H4 Ht st4 rv => ?_
                    have t := st3.trans st4
                    have hid : Ht Dl = none := t.hid d1 n1
                    refine ⟨acc, t.ex _ _ d1, by omega, Ht, acc ++ [v], accD ++ [yd], ys, ?_, hid, upd_same, (ra.mono t.kn).append (.cons rv .nil), by rw [List.length_append, List.length_singleton]; omega, rfl, by rw [List.append_assoc]; exact hw⟩
                    have t2 := s1.trans t
                    exact ⟨same_mut t2.ex hD, t2.kn, same_mut t2.sub hid, t2.new⟩
              | false =>
                simp only at hr
                show LcAt K Hr H1 Dl (k + 1) whole _ H3
                have hid : Hs Dl = none := st3.hid d1 n1
                exact ⟨Hs, acc, accD, r, s1.trans st3, hid, st3.ex _ _ d1, ra.mono st3.kn, by omega, hr, hw⟩
            | _ => simp only at hr; cases hr
        · have ek : k = ds.length := by omega
          subst ek
          rw [List.drop_length] at hr
          cases hr
          rw [List.append_nil] at hw
          subst hw
          refine .inl ⟨ok.stop H' keep, ?_⟩
          refine q (.ref Dl) H' (upd Hk' Dl (.lst acc)) ?_ (.lst upd_same (ra.mono (same_new n1)))
          have t := st.trans s1
          refine ⟨t.ex, t.kn.trans (same_new n1), fun b u z => ?_, fun b u z1 z2 => ?_⟩
          · by_cases hb : b = Dl
            · subst hb; rw [upd_same] at z; cases z; exact d1
            · rw [upd_ne hb] at z; exact t.sub b u z
          · by_cases hb : b = Dl
            · subst hb; exact hDH
            · rw [upd_ne hb] at z1; exact t.new b u z1 z2
    · rw [if_neg hz] at h; cases h
theorem me_lc {X : Cx} {K : PySem.W.Frag} {elt iter : Expr} {ifs : List Expr} {scope : Scope} {x : Str} {j : Nat} {pos px : Pos} {wi : TI} {tt : TT} {te : TE} {src : Es} {tm em : E} (hc : X.calm = true) (hN : X.N.Nodup) (hi : MI X K (.Name x px) iter wi src) (ok : BlkOk X.N X.env.scope scope [(x, j)])
    (hg : ∀ (s : Shared) (H : Hp) (C : Addr) (cl : List (Str × Addr)) (fp : List Addr), PG (X.blk s H scope (compEnvC scope cl C X.env) fp) (.Name x px) (gName j)) (ht : ∀ (s : Shared) (H : Hp) (C : Addr) (cl : List (Str × Addr)) (fp : List Addr), MTs (X.blk s H scope (compEnvC scope cl C X.env) fp) K ifs tt tm)
    (he : ∀ (s : Shared) (H : Hp) (C : Addr) (cl : List (Str × Addr)) (fp : List Addr), ME (X.blk s H scope (compEnvC scope cl C X.env) fp) K elt te em) (hs : ∀ x, foldedSetIterable iter X.env x = pure x := by intro _; rfl) :
    ME X K (.ListComp elt [⟨.Name x px, iter, ifs, 0⟩] scope pos) (tLc wi (gName j) tt te [j]) (mLc j src tm em) :=
  ⟨pe_lc (own := [(x, j)]) hc hN hi.pi ok hg (fun s H C cl fp => (ht s H C cl fp).pts) (fun s H C cl fp => (he s H C cl fp).pe) hs,
    se_lc hi.si (by have h := (ht X.s_0 X.H_0 0 [] []).st; exact h) (by have h := (he X.s_0 X.H_0 0 [] []).se; exact h)⟩
end ML
set_option Elab.async false
set_option linter.all false
set_option maxRecDepth 100000
set_option maxHeartbeats 4000000
/-! statements and defs. own: the slots whose list this frame changes (no one else knows it) -/
namespace ML
open PySem PySem.Spec PyProof.Rows L2
inductive Out where
  | nx (ρ : Env) | rt (d : D)
abbrev S := Env → Option Out
mutual
def noL : D → Bool
  | .non => true | .bl _ => true | .int _ => true | .str _ => true
  | .lst _ => false | .ro _ => false
  | .tup xs => noLs xs
def noLs : List D → Bool
  | [] => true
  | x :: xs => noL x && noLs xs
end
def sNext : S := fun ρ => some (.nx ρ)
def sSeq (s t : S) : S := fun ρ => match s ρ with
  | some (.nx ρ') => t ρ'
  | o => o
def sRet (m : E) : S := fun ρ => (m ρ).map Out.rt
def sIf (m : E) (s t : S) : S := fun ρ => match m ρ with
  | some (.bl true) => s ρ
  | some (.bl false) => t ρ
  | _ => none
def sAsg (own : List Nat) (i : Nat) (m : E) : S := fun ρ => (m (mask own ρ)).map fun d => .nx (ρ.set i (some d))
def sAsgF (i : Nat) (m : E) : S := fun ρ => (m ρ).bind fun d => if noL d = true then some (.nx (ρ.set i (some d))) else none
def sOwn (own : List Nat) (i : Nat) (m : Es) : S := fun ρ => (m (mask own ρ)).map fun ds => .nx (ρ.set i (some (.lst ds)))
def sOwnF (i : Nat) (m : Es) : S := fun ρ => (m ρ).bind fun ds => if noLs ds = true then some (.nx (ρ.set i (some (.lst ds)))) else none
def sApp (own : List Nat) (i : Nat) (m : E) : S := fun ρ => match (ρ[i]?).join with
  | some (.lst ds) => (m (mask own ρ)).bind fun d => if ds.length < sizeLine then some (.nx (ρ.set i (some (.lst (ds ++ [d]))))) else none
  | _ => none
def sExt (own : List Nat) (i : Nat) (m : E) : S := fun ρ => match (ρ[i]?).join with
  | some (.lst ds) => (m (mask own ρ)).bind fun
    | .lst es => if ds.length + es.length ≤ sizeLine then some (.nx (ρ.set i (some (.lst (ds ++ es))))) else none
    | _ => none
  | _ => none
def loopS (i : Nat) (body : S) : List D → S
  | [] => fun ρ => some (.nx ρ)
  | d :: ds => fun ρ => match body (ρ.set i (some d)) with
    | some (.nx ρ') => loopS i body ds ρ'
    | o => o
def sFor (own : List Nat) (i : Nat) (src : Es) (body : S) : S := fun ρ => (src (mask own ρ)).bind fun ds => loopS i body ds ρ

def Live (ρ : Env) (i : Nat) : Prop := ∃ d, ρ[i]? = some (some d)
structure RS (K : PySem.W.Frag) (own : List Nat) (H0k H0 Hk : Hp) (σ : L2.St) (ρ : Env) (H : Hp) : Prop where
  len : σ.length = ρ.length
  step : Step H0k H0 Hk H
  at_ : ∀ (i : Nat) (d : D), i ∉ own → ρ[i]? = some (some d) → ∃ v : V, σ[i]? = some (some v) ∧ Rp K Hk v d
  ow : ∀ (i : Nat) (d : D), i ∈ own → ρ[i]? = some (some d) → ∃ (p : Addr) (vs : List V) (ds : List D), d = .lst ds ∧ σ[i]? = some (some (V.ref p)) ∧ H p = some (.lst vs) ∧ Hk p = none ∧ H0 p = none ∧ RpA K Hk vs ds
  apart : ∀ (i j : Nat) (p : Addr), i ∈ own → j ∈ own → i ≠ j → Live ρ i → Live ρ j → σ[i]? = some (some (V.ref p)) → σ[j]? = some (some (V.ref p)) → False
section
variable {K : PySem.W.Frag} {own : List Nat} {H0k H0 Hk H H2 Hr : Hp} {σ : L2.St} {ρ : Env}
theorem RS.rel (r : RS K own H0k H0 Hk σ ρ H) : Rel K Hk σ (mask own ρ) := ⟨by rw [mask_len]; exact r.len, fun i d h => let ⟨h1, h2⟩ := mask_some h; r.at_ i d h1 h2⟩
theorem RS.grow (r : RS K own H0k H0 Hk σ ρ H) (e : Same H H2) : RS K own H0k H0 Hk σ ρ H2 :=
  ⟨r.len, ⟨r.step.ex.trans e, r.step.kn, r.step.sub.trans e, r.step.new⟩, r.at_, fun i d h1 h2 => by
    obtain ⟨p, vs, ds, e1, e2, e3, e4, e5, e6⟩ := r.ow i d h1 h2
    exact ⟨p, vs, ds, e1, e2, e _ _ e3, e4, e5, e6⟩, r.apart⟩
/-- what is known grows -/
theorem RS.know (r : RS K own H0k H0 Hk σ ρ H) (st : Step Hk H Hr H2) : RS K own H0k H0 Hr σ ρ H2 :=
  ⟨r.len, r.step.trans st, fun i d h1 h2 => let ⟨v, h3, h4⟩ := r.at_ i d h1 h2; ⟨v, h3, h4.mono st.kn⟩, fun i d h1 h2 => by
    obtain ⟨p, vs, ds, e1, e2, e3, e4, e5, e6⟩ := r.ow i d h1 h2
    exact ⟨p, vs, ds, e1, e2, st.ex _ _ e3, st.hid e3 e4, e5, e6.mono st.kn⟩, r.apart⟩
theorem set_get {α : Type} {l : List (Option α)} {i j : Nat} {x y : α} (h : (l.set i (some x))[j]? = some (some y)) : (j = i ∧ x = y ∧ i < l.length) ∨ (j ≠ i ∧ l[j]? = some (some y)) := by
  by_cases hj : i = j
  · subst hj
    by_cases hl : i < l.length
    · rw [List.getElem?_set_self hl] at h
      cases h
      exact .inl ⟨rfl, rfl, hl⟩
    · rw [List.getElem?_eq_none (by rw [List.length_set]; omega)] at h; cases h
  · rw [List.getElem?_set_ne hj] at h
    exact .inr ⟨fun z => hj z.symm, h⟩
theorem live_set {i j : Nat} {d : D} (hj : j ≠ i) (h : Live (ρ.set i (some d)) j) : Live ρ j := by
  obtain ⟨e, h⟩ := h
  rcases set_get h with ⟨z, _⟩ | ⟨_, z⟩
  · exact absurd z hj
  · exact ⟨e, z⟩
/-- a slot that is not one's own is stored -/
theorem RS.store (r : RS K own H0k H0 Hk σ ρ H) {i : Nat} {v : V} {d : D} (hi : i ∉ own) (h : Rp K Hk v d) : RS K own H0k H0 Hk (σ.set i (some v)) (ρ.set i (some d)) H := by
  refine ⟨by rw [List.length_set, List.length_set]; exact r.len, r.step, fun j e hj h1 => ?_, fun j e hj h1 => ?_, fun j k p hj hk hjk l1 l2 e1 e2 => ?_⟩
  · rcases set_get h1 with ⟨rfl, rfl, hl⟩ | ⟨hne, h2⟩
    · exact ⟨v, List.getElem?_set_self (by rw [r.len]; exact hl), h⟩
    · obtain ⟨w, h3, h4⟩ := r.at_ j e hj h2
      exact ⟨w, by rw [List.getElem?_set_ne (Ne.symm hne)]; exact h3, h4⟩
  · have hne : i ≠ j := fun z => hi (z ▸ hj)
    rw [List.getElem?_set_ne hne] at h1 ⊢
    exact r.ow j e hj h1
  · have n1 : i ≠ j := fun z => hi (z ▸ hj)
    have n2 : i ≠ k := fun z => hi (z ▸ hk)
    rw [List.getElem?_set_ne n1] at e1
    rw [List.getElem?_set_ne n2] at e2
    exact r.apart j k p hj hk hjk (live_set (Ne.symm n1) l1) (live_set (Ne.symm n2) l2) e1 e2
/-- a slot of one's own gets a fresh list -/
theorem RS.take (r : RS K own H0k H0 Hk σ ρ H) {i : Nat} {p : Addr} {vs : List V} {ds : List D} (hi : i ∈ own) (hp : H p = some (.lst vs)) (hk : Hk p = none) (h0 : H0 p = none) (ha : RpA K Hk vs ds)
    (hne : ∀ j, j ∈ own → j ≠ i → Live ρ j → σ[j]? ≠ some (some (V.ref p))) : RS K own H0k H0 Hk (σ.set i (some (V.ref p))) (ρ.set i (some (.lst ds))) H := by
  refine ⟨by rw [List.length_set, List.length_set]; exact r.len, r.step, fun j e hj h1 => ?_, fun j e hj h1 => ?_, fun j k q hj hk' hjk l1 l2 e1 e2 => ?_⟩
  · have hne : i ≠ j := fun z => hj (z ▸ hi)
    rw [List.getElem?_set_ne hne] at h1 ⊢
    exact r.at_ j e hj h1
  · rcases set_get h1 with ⟨rfl, rfl, hl⟩ | ⟨hji, h2⟩
    · exact ⟨p, vs, ds, rfl, List.getElem?_set_self (by rw [r.len]; exact hl), hp, hk, h0, ha⟩
    · obtain ⟨q, ws, es, e1, e2, rest⟩ := r.ow j e hj h2
      exact ⟨q, ws, es, e1, by rw [List.getElem?_set_ne (Ne.symm hji)]; exact e2, rest⟩
  · rcases set_get e1 with ⟨z1, z, _⟩ | ⟨n1, f1⟩
    · cases z
      rcases set_get e2 with ⟨z2, _⟩ | ⟨n2, f2⟩
      · exact hjk (z1.trans z2.symm)
      · exact hne k hk' n2 (live_set n2 l2) f2
    · rcases set_get e2 with ⟨z2, z, _⟩ | ⟨n2, f2⟩
      · cases z
        exact hne j hj n1 (live_set n1 l1) f1
      · exact r.apart j k q hj hk' hjk (live_set n1 l1) (live_set n2 l2) f1 f2
/-- one's own list is changed -/
theorem RS.change (r : RS K own H0k H0 Hk σ ρ H) {i : Nat} {p : Addr} {ds : List D} {vs' : List V} {ds' : List D} (hi : i ∈ own) (hl : ρ[i]? = some (some (.lst ds))) (hs : σ[i]? = some (some (V.ref p))) (ha : RpA K Hk vs' ds') :
    RS K own H0k H0 Hk σ (ρ.set i (some (.lst ds'))) (upd H p (.lst vs')) := by
  obtain ⟨p', vs, ds1, z1, z2, hp, hk, h0, _⟩ := r.ow i _ hi hl
  rw [hs] at z2
  cases z2
  have hil : i < ρ.length := by
    rcases Nat.lt_or_ge i ρ.length with h | h
    · exact h
    · rw [List.getElem?_eq_none h] at hl; cases hl
  refine ⟨by rw [List.length_set]; exact r.len, ⟨same_mut r.step.ex h0, r.step.kn, same_mut r.step.sub hk, r.step.new⟩, fun j e hj h1 => ?_, fun j e hj h1 => ?_, fun j k q hj hk' hjk l1 l2 e1 e2 => ?_⟩
  · have hne : i ≠ j := fun z => hj (z ▸ hi)
    rw [List.getElem?_set_ne hne] at h1
    exact r.at_ j e hj h1
  · rcases set_get h1 with ⟨rfl, rfl, _⟩ | ⟨hji, h2⟩
    · exact ⟨p, vs', ds', rfl, hs, upd_same, hk, h0, ha⟩
    · obtain ⟨q, ws, es, e1, e2, e3, rest⟩ := r.ow j e hj h2
      refine ⟨q, ws, es, e1, e2, ?_, rest⟩
      rw [upd_ne (fun z => r.apart j i q hj hi hji ⟨_, h2⟩ ⟨_, hl⟩ e2 (by rw [z]; exact hs))]
      exact e3
  · have lv : ∀ {x : Nat}, Live (ρ.set i (some (.lst ds'))) x → Live ρ x := fun {x} l => by
      by_cases hx : x = i
      · exact ⟨_, by rw [hx]; exact hl⟩
      · exact live_set hx l
    exact r.apart j k q hj hk' hjk (lv l1) (lv l2) e1 e2
/-! everything known, one's own lists too -/
def OwnAt (own : List Nat) (σ : L2.St) (ρ : Env) (a : Addr) : Prop := ∃ i, i ∈ own ∧ Live ρ i ∧ σ[i]? = some (some (V.ref a))
open Classical in
noncomputable def frozen (own : List Nat) (σ : L2.St) (ρ : Env) (Hk H : Hp) : Hp := fun a => if OwnAt own σ ρ a then H a else Hk a
open Classical in
noncomputable def thaw (own : List Nat) (σ : L2.St) (ρ : Env) (Hr : Hp) : Hp := fun a => if OwnAt own σ ρ a then none else Hr a
theorem RS.own_at (r : RS K own H0k H0 Hk σ ρ H) {a : Addr} (h : OwnAt own σ ρ a) : (∃ vs, H a = some (.lst vs)) ∧ Hk a = none ∧ H0 a = none := by
  obtain ⟨i, hi, ⟨d, hd⟩, hs⟩ := h
  obtain ⟨p, vs, ds, e1, e2, e3, e4, e5, e6⟩ := r.ow i d hi hd
  rw [hs] at e2
  cases e2
  exact ⟨⟨vs, e3⟩, e4, e5⟩
theorem frozen_own {a : Addr} (h : OwnAt own σ ρ a) : frozen own σ ρ Hk H a = H a := by unfold frozen; rw [if_pos h]
theorem frozen_not {a : Addr} (h : ¬ OwnAt own σ ρ a) : frozen own σ ρ Hk H a = Hk a := by unfold frozen; rw [if_neg h]
theorem thaw_own {a : Addr} (h : OwnAt own σ ρ a) : thaw own σ ρ Hr a = none := by unfold thaw; rw [if_pos h]
theorem thaw_not {a : Addr} (h : ¬ OwnAt own σ ρ a) : thaw own σ ρ Hr a = Hr a := by unfold thaw; rw [if_neg h]
theorem RS.fr_kn (r : RS K own H0k H0 Hk σ ρ H) : Same Hk (frozen own σ ρ Hk H) := fun b o e => by
  by_cases h : OwnAt own σ ρ b
  · rw [(r.own_at h).2.1] at e; cases e
  · rw [frozen_not h]; exact e
theorem RS.fr_sub (r : RS K own H0k H0 Hk σ ρ H) : Same (frozen own σ ρ Hk H) H := fun b o e => by
  by_cases h : OwnAt own σ ρ b
  · rw [frozen_own h] at e; exact e
  · rw [frozen_not h] at e; exact r.step.sub b o e
theorem RS.fr_rel (r : RS K own H0k H0 Hk σ ρ H) : Rel K (frozen own σ ρ Hk H) σ ρ := ⟨r.len, fun i d h => by
  by_cases hi : i ∈ own
  · obtain ⟨p, vs, ds, e1, e2, e3, e4, e5, e6⟩ := r.ow i d hi h
    subst e1
    have ho : OwnAt own σ ρ p := ⟨i, hi, ⟨_, h⟩, e2⟩
    exact ⟨V.ref p, e2, .lst (by rw [frozen_own ho]; exact e3) (e6.mono r.fr_kn)⟩
  · obtain ⟨v, h1, h2⟩ := r.at_ i d hi h
    exact ⟨v, h1, h2.mono r.fr_kn⟩⟩
theorem RS.fr_new (r : RS K own H0k H0 Hk σ ρ H) {a : Addr} {o : HO} (h : frozen own σ ρ Hk H a = some o) (hn : H0k a = none) : H0 a = none := by
  by_cases ho : OwnAt own σ ρ a
  · exact (r.own_at ho).2.2
  · rw [frozen_not ho] at h; exact r.step.new a o h hn
theorem RS.fr_step (r : RS K own H0k H0 Hk σ ρ H) (st : Step (frozen own σ ρ Hk H) H Hr H2) : Step H0k H0 Hr H2 :=
  ⟨r.step.ex.trans st.ex, r.step.kn.trans (r.fr_kn.trans st.kn), st.sub, fun a o h hn => by
    cases e : frozen own σ ρ Hk H a with
    | none => exact none_back r.step.ex (st.new a o h e)
    | some u => exact r.fr_new e hn⟩
mutual
theorem Rp.thaw (hl : ∀ a, OwnAt own σ ρ a → ∃ vs, Hr a = some (.lst vs)) {v : V} {d : D} (hn : noL d = true) : Rp K Hr v d → Rp K (thaw own σ ρ Hr) v d
  | .non => .non
  | .bl b => .bl b
  | .int i => .int i
  | .str x => .str x
  | .lst _ _ => by cases hn
  | .tup h a => by
    refine .tup ?_ (RpA.thaw hl (by simpa [noL] using hn) a)
    rcases h with h | h
    · refine .inl ?_
      rcases h with h | ⟨o, h⟩
      · refine .inl ?_
        rw [thaw_not (fun z => by obtain ⟨vs, q⟩ := hl _ z; rw [q] at h; cases h)]; exact h
      · refine .inr ⟨o, ?_⟩
        rw [thaw_not (fun z => by obtain ⟨vs, q⟩ := hl _ z; rw [q] at h; cases h)]; exact h
    · exact .inr h
  | .ro _ => by cases hn
theorem RpA.thaw (hl : ∀ a, OwnAt own σ ρ a → ∃ vs, Hr a = some (.lst vs)) {vs : List V} {ds : List D} (hn : noLs ds = true) : RpA K Hr vs ds → RpA K (thaw own σ ρ Hr) vs ds
  | .nil => .nil
  | @RpA.cons _ _ v vs d ds h t => by
    have h1 : noL d = true ∧ noLs ds = true := by simpa [noLs] using hn
    exact .cons (Rp.thaw hl h1.1 h) (RpA.thaw hl h1.2 t)
end
/-- the step of the rest, one's own lists unknown again -/
theorem RS.thaw (r : RS K own H0k H0 Hk σ ρ H) (st : Step (frozen own σ ρ Hk H) H Hr H2) : RS K own H0k H0 (thaw own σ ρ Hr) σ ρ H2 := by
  have kn : Same Hk (ML.thaw own σ ρ Hr) := fun b o e => by
    have hb : ¬ OwnAt own σ ρ b := fun z => by rw [(r.own_at z).2.1] at e; cases e
    rw [thaw_not hb]
    exact st.kn b o (r.fr_kn b o e)
  have s1 := r.fr_step st
  refine ⟨r.len, ⟨s1.ex, r.step.kn.trans kn, fun b o e => ?_, fun b o e hn => ?_⟩, fun i d h1 h2 => ?_, fun i d h1 h2 => ?_, r.apart⟩
  · by_cases hb : OwnAt own σ ρ b
    · rw [thaw_own hb] at e; cases e
    · rw [thaw_not hb] at e; exact st.sub b o e
  · by_cases hb : OwnAt own σ ρ b
    · rw [thaw_own hb] at e; cases e
    · rw [thaw_not hb] at e; exact s1.new b o e hn
  · obtain ⟨v, h3, h4⟩ := r.at_ i d h1 h2
    exact ⟨v, h3, h4.mono kn⟩
  · obtain ⟨p, vs, ds, e1, e2, e3, e4, e5, e6⟩ := r.ow i d h1 h2
    exact ⟨p, vs, ds, e1, e2, st.ex _ _ e3, thaw_own ⟨i, h1, ⟨d, h2⟩, e2⟩, e5, e6.mono kn⟩
theorem RS.own_lst (r : RS K own H0k H0 Hk σ ρ H) (st : Step (frozen own σ ρ Hk H) H Hr H2) : ∀ a, OwnAt own σ ρ a → ∃ vs, Hr a = some (.lst vs) := fun a h => by
  obtain ⟨⟨vs, e⟩, _⟩ := r.own_at h
  exact ⟨vs, st.kn _ _ (by rw [frozen_own h]; exact e)⟩
end
/-! ### the statements' judgement -/
def OutOk (K : PySem.W.Frag) (own : List Nat) (H0k H0 Hk : Hp) (o : Out) (D' : Ends) : Prop := match o with
  | .nx ρ' => ∀ Hk' σ' H', Same Hk Hk' → RS K own H0k H0 Hk' σ' ρ' H' → D'.nx σ' H'
  | .rt d => ∀ v Hk' H', Step H0k H0 Hk' H' → Rp K Hk' v d → D'.rt v H'
theorem OutOk.mono {K : PySem.W.Frag} {own : List Nat} {H0k H0 Hk Hk2 : Hp} {o : Out} {D' : Ends} (h : OutOk K own H0k H0 Hk o D') (e : Same Hk Hk2) : OutOk K own H0k H0 Hk2 o D' := by
  cases o with
  | nx ρ' => exact fun Hk' σ' H' e2 r => h Hk' σ' H' (e.trans e2) r
  | rt d => exact h
def SS (K : PySem.W.Frag) (own : List Nat) (ts : TS) (s : S) : Prop := ∀ H0k H0 Hk σ ρ H, RS K own H0k H0 Hk σ ρ H → ∀ o, s ρ = some o → ∀ D' : Ends, OutOk K own H0k H0 Hk o D' → ts D' σ H
structure MS (X : Cx) (K : PySem.W.Frag) (own : List Nat) (st : Stmt) (ts : TS) (s : S) : Prop where
  ps : PS X st ts
  ss : SS K own ts s
structure MB (X : Cx) (K : PySem.W.Frag) (own : List Nat) (st : List Stmt) (ts : TS) (s : S) : Prop where
  ps : PSs X st ts
  ss : SS K own ts s
section
variable {X : Cx} {K : PySem.W.Frag} {own : List Nat} {st : Stmt} {rest : List Stmt} {ts tu : TS} {s t : S} {e : Expr} {te : TE} {m : E} {pos : Pos}
theorem mb_nil : MB X K own [] tNext sNext := ⟨pss_nil, fun H0k H0 Hk σ ρ H r o h D' k => by cases h; exact k Hk σ H (Same.refl _) r⟩
theorem mb_one (h : MS X K own st ts s) : MB X K own [st] ts s := ⟨pss_one h.ps, h.ss⟩
theorem ss_seq (h1 : SS K own ts s) (h2 : SS K own tu t) : SS K own (tSeq ts tu) (sSeq s t) := fun H0k H0 Hk σ ρ H r o h D' k => by
  unfold sSeq at h
  cases e1 : s ρ with
  | none => rw [e1] at h; cases h
  | some o1 =>
    rw [e1] at h
    cases o1 with
    | nx ρ' =>
      simp only at h
      exact h1 H0k H0 Hk σ ρ H r _ e1 _ fun Hk' σ' H' e2 r' => h2 H0k H0 Hk' σ' ρ' H' r' o h D' (k.mono e2)
    | rt d =>
      simp only at h
      cases h
      exact h1 H0k H0 Hk σ ρ H r _ e1 _ k
theorem mb_cons (h1 : MS X K own st ts s) (h2 : MB X K own rest tu t) : MB X K own (st :: rest) (tSeq ts tu) (sSeq s t) := ⟨pss_cons h1.ps h2.ps, ss_seq h1.ss h2.ss⟩
theorem ms_ret (h : ME X K e te m) : MS X K own (.Return (some e) pos) (tRet te) (sRet m) := ⟨ps_ret h.pe, fun H0k H0 Hk σ ρ H r o h1 D' k => by
  unfold sRet at h1
  cases e1 : m ρ with
  | none => rw [e1] at h1; cases h1
  | some d =>
    rw [e1] at h1
    cases h1
    exact h.se σ ρ _ r.fr_rel d e1 H r.fr_sub _ fun v H2 Hr st rv => k v Hr H2 (r.fr_step st) rv⟩
theorem ms_if {c : Expr} {a b : List Stmt} {tc : TT} (hc : MT X K c tc m) (ha : MB X K own a ts s) (hb : MB X K own b tu t) : MS X K own (.If c a b pos) (tIfS tc ts tu) (sIf m s t) := ⟨ps_if hc.pt ha.ps hb.ps, fun H0k H0 Hk σ ρ H r o h D' k => by
  unfold sIf at h
  cases e1 : m ρ with
  | none => rw [e1] at h; cases h
  | some d =>
    rw [e1] at h
    cases d with
    | bl c =>
      refine hc.st σ ρ _ r.fr_rel c e1 H r.fr_sub _ fun H2 Hr st => ?_
      cases c with
      | true =>
        simp only at h
        show ts D' σ H2
        exact ha.ss H0k H0 Hk σ ρ H2 (r.grow st.ex) o h D' k
      | false =>
        simp only at h
        show tu D' σ H2
        exact hb.ss H0k H0 Hk σ ρ H2 (r.grow st.ex) o h D' k
    | _ => simp only at h; cases h⟩
theorem ss_asg {i : Nat} (hi : i ∉ own) (h : SE K te m) : SS K own (tAsg te (gName i)) (sAsg own i m) := fun H0k H0 Hk σ ρ H r o h1 D' k => by
  unfold sAsg at h1
  cases e1 : m (mask own ρ) with
  | none => rw [e1] at h1; cases h1
  | some d =>
    rw [e1] at h1
    cases h1
    exact h σ _ Hk r.rel d e1 H r.step.sub _ fun v H2 Hr st rv => k Hr _ H2 st.kn ((r.know st).store hi rv)
theorem ms_asg {i : Nat} {x : Str} {pos' : Pos} (hN : X.N.Nodup) (h : ME X K e te m) (hi : i ∉ own := by decide) (hx : X.N[i]? = some x := by rfl) (hl : Loc X.env.scope x := by first | exact Or.inl rfl | exact Or.inr rfl) (hs : swapsWith e (some (.Name x pos')) pos.line X.env = pure false := by rfl)
    (hf : X.fn x = true ∨ X.env.scope.names.lookup x = some .local := by first | exact .inl rfl | exact .inr rfl | assumption) : MS X K own (.Assign [.Name x pos'] e pos) (tAsg te (gName i)) (sAsg own i m) := ⟨ps_set hN hx hl h.pe hs hf, ss_asg hi h.se⟩
theorem ss_asgF {i : Nat} (hi : i ∉ own) (h : SE K te m) : SS K own (tAsg te (gName i)) (sAsgF i m) := fun H0k H0 Hk σ ρ H r o h1 D' k => by
  unfold sAsgF at h1
  cases e1 : m ρ with
  | none => rw [e1] at h1; cases h1
  | some d =>
    rw [e1, Option.bind_some] at h1
    by_cases hn : noL d = true
    · rw [if_pos hn] at h1
      cases h1
      refine h σ ρ _ r.fr_rel d e1 H r.fr_sub _ fun v H2 Hr st rv => ?_
      have rt := r.thaw st
      exact k _ _ H2 (fun b o z => by
        have hb : ¬ OwnAt own σ ρ b := fun y => by rw [(r.own_at y).2.1] at z; cases z
        rw [thaw_not hb]; exact st.kn b o (r.fr_kn b o z)) (rt.store hi (rv.thaw (r.own_lst st) hn))
    · rw [if_neg hn] at h1; cases h1
theorem ms_asgF {i : Nat} {x : Str} {pos' : Pos} (hN : X.N.Nodup) (h : ME X K e te m) (hi : i ∉ own := by decide) (hx : X.N[i]? = some x := by rfl) (hl : Loc X.env.scope x := by first | exact Or.inl rfl | exact Or.inr rfl) (hs : swapsWith e (some (.Name x pos')) pos.line X.env = pure false := by rfl)
    (hf : X.fn x = true ∨ X.env.scope.names.lookup x = some .local := by first | exact .inl rfl | exact .inr rfl | assumption) : MS X K own (.Assign [.Name x pos'] e pos) (tAsg te (gName i)) (sAsgF i m) := ⟨ps_set hN hx hl h.pe hs hf, ss_asgF hi h.se⟩
theorem own_ne {H0k H0 Hk H : Hp} {σ : L2.St} {ρ : Env} (r : RS K own H0k H0 Hk σ ρ H) {p : Addr} (hp : H p = none) {i : Nat} : ∀ j, j ∈ own → j ≠ i → Live ρ j → σ[j]? ≠ some (some (V.ref p)) := fun j hj _ ⟨d, hd⟩ z => by
  obtain ⟨q, vs, ds, e1, e2, e3, _⟩ := r.ow j d hj hd
  rw [z] at e2
  cases e2
  rw [hp] at e3; cases e3
theorem ss_own {i : Nat} {ms : Es} (hi : i ∈ own) (h : SL K te ms) : SS K own (tAsg te (gName i)) (sOwn own i ms) := fun H0k H0 Hk σ ρ H r o h1 D' k => by
  unfold sOwn at h1
  cases e1 : ms (mask own ρ) with
  | none => rw [e1] at h1; cases h1
  | some d =>
    rw [e1] at h1
    cases h1
    refine h σ _ Hk r.rel d e1 H r.step.sub _ fun p vs H2 Hr st hp hr h2 ra => ?_
    exact k Hr _ H2 st.kn ((r.know st).take hi h2 hr (none_back r.step.ex hp) ra (own_ne r hp))
theorem ms_own {i : Nat} {x : Str} {pos' : Pos} {ms : Es} (hN : X.N.Nodup) (h : ML X K e te ms) (hi : i ∈ own := by decide) (hx : X.N[i]? = some x := by rfl) (hl : Loc X.env.scope x := by first | exact Or.inl rfl | exact Or.inr rfl) (hs : swapsWith e (some (.Name x pos')) pos.line X.env = pure false := by rfl)
    (hf : X.fn x = true ∨ X.env.scope.names.lookup x = some .local := by first | exact .inl rfl | exact .inr rfl | assumption) : MS X K own (.Assign [.Name x pos'] e pos) (tAsg te (gName i)) (sOwn own i ms) := ⟨ps_set hN hx hl h.pe hs hf, ss_own hi h.sl⟩
theorem ss_ownF {i : Nat} {ms : Es} (hi : i ∈ own) (h : SL K te ms) : SS K own (tAsg te (gName i)) (sOwnF i ms) := fun H0k H0 Hk σ ρ H r o h1 D' k => by
  unfold sOwnF at h1
  cases e1 : ms ρ with
  | none => rw [e1] at h1; cases h1
  | some d =>
    rw [e1, Option.bind_some] at h1
    by_cases hn : noLs d = true
    · rw [if_pos hn] at h1
      cases h1
      refine h σ ρ _ r.fr_rel d e1 H r.fr_sub _ fun p vs H2 Hr st hp hr h2 ra => ?_
      have rt := r.thaw st
      have hpo : ¬ OwnAt own σ ρ p := fun z => by
        obtain ⟨⟨ws, q⟩, _⟩ := r.own_at z
        rw [hp] at q; cases q
      exact k _ _ H2 (fun b o z => by
        have hb : ¬ OwnAt own σ ρ b := fun y => by rw [(r.own_at y).2.1] at z; cases z
        rw [thaw_not hb]; exact st.kn b o (r.fr_kn b o z)) (rt.take hi h2 (by rw [thaw_not hpo]; exact hr) (none_back r.step.ex hp) (ra.thaw (r.own_lst st) hn) (own_ne r hp))
    · rw [if_neg hn] at h1; cases h1
theorem ms_ownF {i : Nat} {x : Str} {pos' : Pos} {ms : Es} (hN : X.N.Nodup) (h : ML X K e te ms) (hi : i ∈ own := by decide) (hx : X.N[i]? = some x := by rfl) (hl : Loc X.env.scope x := by first | exact Or.inl rfl | exact Or.inr rfl) (hs : swapsWith e (some (.Name x pos')) pos.line X.env = pure false := by rfl)
    (hf : X.fn x = true ∨ X.env.scope.names.lookup x = some .local := by first | exact .inl rfl | exact .inr rfl | assumption) : MS X K own (.Assign [.Name x pos'] e pos) (tAsg te (gName i)) (sOwnF i ms) := ⟨ps_set hN hx hl h.pe hs hf, ss_ownF hi h.sl⟩
theorem join_some {ρ : Env} {i : Nat} {d : D} (h : (ρ[i]?).join = some d) : ρ[i]? = some (some d) := by
  cases z : ρ[i]? with
  | none => rw [z] at h; cases h
  | some o => rw [z] at h; cases o with
    | none => cases h
    | some d' => cases h; rfl
theorem ss_app {i : Nat} (hi : i ∈ own) (h : SE K te m) : SS K own (tDrop (tBM K "list" rAppend (tVar i) (tCons te tNil))) (sApp own i m) := fun H0k H0 Hk σ ρ H r o h1 D' k => by
  unfold sApp at h1
  cases e0 : (ρ[i]?).join with
  | none => rw [e0] at h1; cases h1
  | some x =>
    rw [e0] at h1
    cases x with
    | lst ds =>
      simp only at h1
      cases e1 : m (mask own ρ) with
      | none => rw [e1] at h1; cases h1
      | some d =>
        rw [e1, Option.bind_some] at h1
        by_cases hz : ds.length < sizeLine
        · rw [if_pos hz] at h1
          cases h1
          have hl := join_some e0
          obtain ⟨p, vs, ds', z1, z2, z3, z4, z5, z6⟩ := r.ow i _ hi hl
          cases z1
          refine ⟨V.ref p, z2, .inl ⟨rfl, vs, SqL.of z3⟩, h σ _ Hk r.rel d e1 H r.step.sub _ fun v H2 Hr st rv => ?_⟩
          refine ⟨p, vs, v, rfl, rfl, st.ex _ _ z3, by rw [z6.length]; exact hz, ?_⟩
          exact k Hr σ _ st.kn ((r.know st).change hi hl z2 ((z6.mono st.kn).append (.cons rv .nil)))
        · rw [if_neg hz] at h1; cases h1
    | _ => simp only at h1; cases h1
theorem ss_ext {i : Nat} (hi : i ∈ own) (h : SE K te m) : SS K own (tDrop (tBM K "list" rExtend (tVar i) (tCons te tNil))) (sExt own i m) := fun H0k H0 Hk σ ρ H r o h1 D' k => by
  unfold sExt at h1
  cases e0 : (ρ[i]?).join with
  | none => rw [e0] at h1; cases h1
  | some x =>
    rw [e0] at h1
    cases x with
    | lst ds =>
      simp only at h1
      cases e1 : m (mask own ρ) with
      | none => rw [e1] at h1; cases h1
      | some d =>
        rw [e1, Option.bind_some] at h1
        cases d with
        | lst es =>
          simp only at h1
          by_cases hz : ds.length + es.length ≤ sizeLine
          · rw [if_pos hz] at h1
            cases h1
            have hl := join_some e0
            obtain ⟨p, vs, ds', z1, z2, z3, z4, z5, z6⟩ := r.ow i _ hi hl
            cases z1
            refine ⟨V.ref p, z2, .inl ⟨rfl, vs, SqL.of z3⟩, h σ _ Hk r.rel _ e1 H r.step.sub _ fun v H2 Hr st rv => ?_⟩
            cases rv with
            | @lst b ys _ hb hd =>
              refine ⟨p, b, vs, ys, rfl, rfl, st.ex _ _ z3, st.sub _ _ hb, by rw [z6.length, hd.length]; exact hz, ?_⟩
              exact k Hr σ _ st.kn ((r.know st).change hi hl z2 ((z6.mono st.kn).append hd))
          · rw [if_neg hz] at h1; cases h1
        | _ => simp only at h1; cases h1
    | _ => simp only at h1; cases h1
theorem ms_app (hK : X.K = K) (i : Nat) {x : Str} {p apos cpos : Pos} (h : ME X K e te m) (hi : i ∈ own := by decide)
    (hv : PE X (.Name x p) (tVar i) := by exact pv _) 
    (hbase : attributeBase (.Name x p) "append" X.env (eval (.Name x p) X.env) = eval (.Name x p) X.env := by rfl)
    (hfew : ((backTo cpos (starEach [e] X.env)).all (fun x => !x.1) && (backToKw cpos (keywordEach [] X.env)).all (fun x => x.1.isSome) && decide ([e].length + ([] : List Keyword).length + (if ([] : List Keyword).isEmpty then 0 else 1) < 30)) = true := by rfl)
    (hline : (apos.endLine == cpos.line) = true := by rfl) (hs : starEach [e] X.env = (false, eval e X.env) :: starEach [] X.env := by rfl) (hplain : (backTo cpos (starEach [] X.env)).any (·.1) = false := by rfl) (hsw : swapsWith (.Call (.Attribute (.Name x p) "append" apos) [e] [] cpos) none pos.line X.env = pure false := by rfl) :
    MS X K own (.Expr (.Call (.Attribute (.Name x p) "append" apos) [e] [] cpos) pos) (tDrop (tBM K "list" rAppend (tVar i) (tCons te tNil))) (sApp own i m) := by
  subst hK
  exact ⟨ps_expr (pe_bm PySem.F.plainAttrs_list PySem.F.slot_list_append PySem.F.type_list_append mt_append hv (pa_cons h.pe pa_nil hs) hbase hfew hline hs hplain) hsw, ss_app hi h.se⟩
theorem ms_ext (hK : X.K = K) (i : Nat) {x : Str} {p apos cpos : Pos} (h : ME X K e te m) (hi : i ∈ own := by decide)
    (hv : PE X (.Name x p) (tVar i) := by exact pv _) 
    (hbase : attributeBase (.Name x p) "extend" X.env (eval (.Name x p) X.env) = eval (.Name x p) X.env := by rfl)
    (hfew : ((backTo cpos (starEach [e] X.env)).all (fun x => !x.1) && (backToKw cpos (keywordEach [] X.env)).all (fun x => x.1.isSome) && decide ([e].length + ([] : List Keyword).length + (if ([] : List Keyword).isEmpty then 0 else 1) < 30)) = true := by rfl)
    (hline : (apos.endLine == cpos.line) = true := by rfl) (hs : starEach [e] X.env = (false, eval e X.env) :: starEach [] X.env := by rfl) (hplain : (backTo cpos (starEach [] X.env)).any (·.1) = false := by rfl) (hsw : swapsWith (.Call (.Attribute (.Name x p) "extend" apos) [e] [] cpos) none pos.line X.env = pure false := by rfl) :
    MS X K own (.Expr (.Call (.Attribute (.Name x p) "extend" apos) [e] [] cpos) pos) (tDrop (tBM K "list" rExtend (tVar i) (tCons te tNil))) (sExt own i m) := by
  subst hK
  exact ⟨ps_expr (pe_bm PySem.F.plainAttrs_list PySem.F.slot_list_extend PySem.F.type_list_extend mt_extend hv (pa_cons h.pe pa_nil hs) hbase hfew hline hs hplain) hsw, ss_ext hi h.se⟩
theorem ss_for {wi : TI} {src : Es} {i : Nat} {tb : TS} {body : S} (hi : i ∉ own) (hw : SI K wi src) (hb : SS K own tb body) : SS K own (tFor wi (gName i) tb) (sFor own i src body) := fun H0k H0 Hk σ ρ H r o h D' k => by
  unfold sFor at h
  cases e1 : src (mask own ρ) with
  | none => rw [e1] at h; cases h
  | some ds =>
    rw [e1, Option.bind_some] at h
    refine hw σ _ Hk r.rel ds e1 H r.step.sub _ fun J H1 Hr st ok => ?_
    have k' := k.mono st.kn
    refine ⟨fun n mm σ' H' => mm = ds.length - n ∧ n ≤ ds.length ∧ ∃ Hk' ρ', Same Hr Hk' ∧ RS K own H0k H0 Hk' σ' ρ' H' ∧ loopS i body (ds.drop n) ρ' = some o, ⟨ds.length, by simp, Nat.zero_le _, Hr, ρ, Same.refl _, r.know st, by rw [List.drop_zero]; exact h⟩, ?_⟩
    rintro n mm σ' H' ⟨rfl, hn, Hk', ρ', e2, r', hl⟩
    have keep : Same Hr H' := e2.trans r'.step.sub
    rcases Nat.lt_or_ge n ds.length with hlt | hge
    · refine .inr ⟨ok.go n H' hlt keep, fun σ2 H2 => ∃ Hk2 ρ2, Same Hr Hk2 ∧ RS K own H0k H0 Hk2 σ2 ρ2 H2 ∧ loopS i body (ds.drop (n + 1)) ρ2 = some o, fun σ2 H2 p => ⟨ds.length - (n + 1), by omega, rfl, hlt, p⟩, fun x H2 y => ?_⟩
      obtain ⟨e3, dx, hdx, rx⟩ := ok.yld n H' x H2 hlt keep y
      subst e3
      have ed : ds.drop n = dx :: ds.drop (n + 1) := by
        have h3 := List.drop_eq_getElem_cons hlt
        rw [h3]
        congr 1
        rw [List.getElem?_eq_getElem hlt] at hdx
        exact Option.some.inj hdx
      rw [ed] at hl
      have hl : (match body (ρ'.set i (some dx)) with | some (.nx ρ'') => loopS i body (ds.drop (n + 1)) ρ'' | o => o) = some o := hl
      cases eb : body (ρ'.set i (some dx)) with
      | none => rw [eb] at hl; cases hl
      | some ob =>
        rw [eb] at hl
        refine hb H0k H0 Hk' _ _ _ (r'.store hi (rx.mono e2)) ob eb _ ?_
        cases ob with
        | nx ρ'' => exact fun Hk'' σ'' H'' e4 r'' => ⟨Hk'', ρ'', e2.trans e4, r'', hl⟩
        | rt d =>
          simp only at hl
          cases hl
          exact k
    · have en : n = ds.length := by omega
      subst en
      rw [List.drop_length] at hl
      have hl : some (Out.nx ρ') = some o := hl
      cases hl
      exact .inl ⟨ok.stop H' keep, k' Hk' σ' H' e2 r'⟩
theorem ms_for {wi : TI} {src : Es} {i : Nat} {x : Str} {px : Pos} {iter : Expr} {body : List Stmt} {tb : TS} (hp : PassesOwn (model X.prog X.w) X.A X.env X.xe) (hc : X.calm = true) (hN : X.N.Nodup) (hw : MI X K (.Name x px) iter wi src) (hb : MB X K own body tb s) (hi : i ∉ own := by decide) (hx : X.N[i]? = some x := by rfl)
    (hl : Loc X.env.scope x := by first | exact Or.inl rfl | exact Or.inr rfl) (hf : X.fn x = true ∨ X.env.scope.names.lookup x = some .local := by first | exact .inl rfl | exact .inr rfl | assumption) (hs : ∀ x, foldedSetIterable iter X.env x = pure x := by intro _; rfl) :
    MS X K own (.For (.Name x px) iter body [] pos) (tFor wi (gName i) tb) (sFor own i src s) := ⟨ps_for hp hc hw.pi (pg_name hN hx hl hf) hb.ps hs, ss_for hi hw.si hb.ss⟩
end
/-! ### defs -/
def mRun (n N : Nat) (body : S) : List D → Option D := fun ds => if ds.length = n then match body (ds.map some ++ List.replicate (N - n) none) with
    | some (.rt d) => some d
    | some (.nx _) => some .non
    | none => none
  else none
theorem start_rs {K : PySem.W.Frag} {own : List Nat} {Hk H : Hp} {N : List Str} {vs : List V} {ds : List D} (e : Same Hk H) (ra : RpA K Hk vs ds) (hown : ∀ i ∈ own, ds.length ≤ i) : RS K own Hk H Hk (L2.start N vs) (ds.map some ++ List.replicate (N.length - ds.length) none) H := by
  have inv : ∀ (i : Nat) (d : D), (ds.map some ++ List.replicate (N.length - ds.length) none)[i]? = some (some d) → i < ds.length ∧ ds[i]? = some d := fun i d h => by
    by_cases hi : i < ds.length
    · rw [List.getElem?_append_left (by simpa using hi), List.getElem?_map] at h
      cases z : ds[i]? with
      | none => rw [z] at h; cases h
      | some d' => rw [z] at h; cases h; exact ⟨hi, rfl⟩
    · rw [List.getElem?_append_right (by simpa using hi), List.getElem?_replicate] at h
      split at h <;> cases h
  refine ⟨?_, .refl e, fun i d hi h => ?_, fun i d hi h => ?_, fun i j p hi hj _ l1 _ _ _ => ?_⟩
  · unfold L2.start
    rw [List.length_append, List.length_append, List.length_map, List.length_map, List.length_replicate, List.length_replicate, ra.length]
  · obtain ⟨h1, h2⟩ := inv i d h
    obtain ⟨v, h3, h4⟩ := ra.get h2
    refine ⟨v, ?_, h4⟩
    unfold L2.start
    rw [List.getElem?_append_left (by rw [List.length_map, ra.length]; exact h1), List.getElem?_map, h3]
    rfl
  · exact absurd (inv i d h).1 (by have := hown i hi; omega)
  · obtain ⟨d, hd⟩ := l1
    exact absurd (inv i d hd).1 (by have := hown i hi; omega)
theorem ok_def {P : Program} {w : World} {K : PySem.W.Frag} {mg : Str → Option Value} {base : Heap} {x qual : Str} {st : Stmt} {f : Addr} {fd : FuncData} {N ps : List Str} {k : Nat} {own : List Nat} {body : S} (F : Fun K x qual st f fd) (Sc : FnScope N ps (defScope st)) (hown : ∀ i ∈ own, ps.length ≤ i)
    (hb : ∀ (cdv : Value) (A : Around) (outer : List PySem.Env) (s : Shared) (H : Hp) (E : XK), Room k (A.deeper (envOfC qual (defScope st) s.heap.objs.size f cdv)) → ∃ ts, MB (cxOf CX0 P w K mg base N qual (defScope st) f cdv A outer s H E).nox K own (defBody st) ts body) :
    FnOk P w K mg base CX0 (k + 1) f fd ps (spM K ps.length (mRun ps.length N.length body)) := by
  refine F.ok Sc (fun vs H Q E h => ?_) (fun cdv A outer s H vs Q E hr h => ?_)
  · obtain ⟨Hk, ds, d, _, ra, hl, _⟩ := h
    rw [ra.length, hl]
  obtain ⟨Hk, ds, d, e, ra, hl, hm, q⟩ := h
  obtain ⟨ts, B⟩ := hb cdv A outer s H E hr
  refine ⟨ts, B.ps, ?_⟩
  unfold mRun at hm
  rw [if_pos hl] at hm
  have rs := start_rs (N := N) e ra (own := own) (fun i hi => by rw [hl]; exact hown i hi)
  rw [hl] at rs
  cases hbd : body (ds.map some ++ List.replicate (N.length - ps.length) none) with
  | none => rw [hbd] at hm; cases hm
  | some o =>
    rw [hbd] at hm
    refine B.ss Hk H Hk _ _ H rs o hbd _ ?_
    cases o with
    | nx ρ' =>
      simp only at hm
      cases hm
      exact fun Hk' σ' H' e2 r' => q .non H' Hk' r'.step .non
    | rt d' =>
      simp only at hm
      cases hm
      exact fun v Hk' H' st rv => q v H' Hk' st rv
/-- nothing can be asked of it -/
theorem ok_none {P : Program} {w : World} {K : PySem.W.Frag} {mg : Str → Option Value} {base : Heap} {f : Addr} {fd : FuncData} {ps : List Str} {k n : Nat} : FnOk P w K mg base CX0 k f fd ps (spM K n fun _ => none) := by
  have no : ∀ vs H Q E, ¬ spM K n (fun _ => none) vs H Q E := fun vs H Q E h => by
    obtain ⟨_, _, _, _, _, _, h, _⟩ := h
    cases h
  exact ⟨fun vs H Q E h => absurd h (no vs H Q E), fun A outer s H args us vs Q E _ _ _ _ h => absurd h (no vs H Q E)⟩
end ML
set_option Elab.async false
set_option linter.all false
set_option maxRecDepth 100000
set_option maxHeartbeats 4000000
/-! the forms by name: what a term is made of -/
namespace ML
open PySem PySem.Spec PyProof.Rows L2
section
variable {X : Cx} {K : PySem.W.Frag} {a b c e : Expr} {es : List Expr} {ta tb tc te : TE} {ma mb mc m : E} {t : TA} {ms : Es} {pos p p2 : Pos}
theorem me_neg {i : Int} {j : Nat} {p1 : Pos} : ME X K (.UnaryOp .USub (.Constant (.int i) j p1) pos) (tUn (rU fun i => .int (-i)) (tC (.int i))) (mC (.int (-i))) :=
  ⟨pe_un un_neg pe_int, fun σ ρ Hk rl d h H e Q q => by cases h; exact ⟨i, rfl, q _ H Hk (.refl e) (.int _)⟩⟩
theorem me_add (hK : X.K = K) (ha : ME X K a ta ma) (hb : ME X K b tb mb) : ME X K (.BinOp a .Add b pos) (tOp (rAddM K) ta tb) (mOp gAdd ma mb) := by subst hK; exact me_op op_addM so_add ha hb
theorem me_sub (ha : ME X K a ta ma) (hb : ME X K b tb mb) : ME X K (.BinOp a .Sub b pos) (tOp (rI0 fun i j => .int (i - j)) ta tb) (mOp gSub ma mb) := me_op op_sub so_sub ha hb
theorem me_mul (ha : ME X K a ta ma) (hb : ME X K b tb mb) : ME X K (.BinOp a .Mult b pos) (tOp rMulM ta tb) (mOp gMul ma mb) := me_op op_mulM so_mul ha hb
theorem me_div (ha : ME X K a ta ma) (hb : ME X K b tb mb) : ME X K (.BinOp a .FloorDiv b pos) (tOp (rI CDivW fun i j => .int (i / j)) ta tb) (mOp gDiv ma mb) := me_op op_fdivW so_div ha hb
theorem me_mod (ha : ME X K a ta ma) (hb : ME X K b tb mb) : ME X K (.BinOp a .Mod b pos) (tOp (rI (fun _ j => 0 < j) fun i j => .int (i % j)) ta tb) (mOp gMod ma mb) := me_op op_mod so_mod ha hb
theorem me_pow (ha : ME X K a ta ma) (hb : ME X K b tb mb) : ME X K (.BinOp a .Pow b pos) (tOp (rI CPow fun i j => .int (i ^ j.toNat)) ta tb) (mOp gPow ma mb) := me_op op_pow so_pow ha hb
theorem me_clt (ha : ME X K a ta ma) (hb : ME X K b tb mb) : ME X K (.Compare a [.Lt] [b] pos) (tOp (rI0 fun i j => .bl (decide (i < j))) ta tb) (mOp gLt ma mb) := me_cmp op_lt so_lt ha hb (nomark _)
theorem mt_clt (ha : ME X K a ta ma) (hb : ME X K b tb mb) : MT X K (.Compare a [.Lt] [b] pos) (tTest (tOp (rI0 fun i j => .bl (decide (i < j))) ta tb)) (mOp gLt ma mb) := mt_cmp op_lt so_lt ha hb (nomark _)
theorem me_cgt (ha : ME X K a ta ma) (hb : ME X K b tb mb) : ME X K (.Compare a [.Gt] [b] pos) (tOp (rI0 fun i j => .bl (decide (j < i))) ta tb) (mOp gGt ma mb) := me_cmp op_gt so_gt ha hb (nomark _)
theorem mt_cgt (ha : ME X K a ta ma) (hb : ME X K b tb mb) : MT X K (.Compare a [.Gt] [b] pos) (tTest (tOp (rI0 fun i j => .bl (decide (j < i))) ta tb)) (mOp gGt ma mb) := mt_cmp op_gt so_gt ha hb (nomark _)
theorem me_ceq (ha : ME X K a ta ma) (hb : ME X K b tb mb) : ME X K (.Compare a [.Eq] [b] pos) (tOp rEq ta tb) (mOp gEq ma mb) := me_cmp op_eq so_eq ha hb (nomark _)
theorem mt_ceq (ha : ME X K a ta ma) (hb : ME X K b tb mb) : MT X K (.Compare a [.Eq] [b] pos) (tTest (tOp rEq ta tb)) (mOp gEq ma mb) := mt_cmp op_eq so_eq ha hb (nomark _)
theorem me_cne (ha : ME X K a ta ma) (hb : ME X K b tb mb) : ME X K (.Compare a [.NotEq] [b] pos) (tOp rNe ta tb) (mOp gNe ma mb) := me_cmp op_ne so_ne ha hb (nomark _)
theorem mt_cne (ha : ME X K a ta ma) (hb : ME X K b tb mb) : MT X K (.Compare a [.NotEq] [b] pos) (tTest (tOp rNe ta tb)) (mOp gNe ma mb) := mt_cmp op_ne so_ne ha hb (nomark _)
theorem me_cis (ha : ME X K a ta ma) (hb : ME X K b tb mb) : ME X K (.Compare a [.Is] [b] pos) (tOp rIsM ta tb) (mOp gIs ma mb) := me_cmp op_isM so_is ha hb (nomark _)
theorem mt_cis (ha : ME X K a ta ma) (hb : ME X K b tb mb) : MT X K (.Compare a [.Is] [b] pos) (tTest (tOp rIsM ta tb)) (mOp gIs ma mb) := mt_cmp op_isM so_is ha hb (nomark _)
theorem me_cin (hK : X.K = K) (hu : X.A.units + 1 < cLine) (ha : ME X K a ta ma) (hb : ME X K b tb mb) (hm : behindInMarks .In b = false := by rfl) : ME X K (.Compare a [.In] [b] pos) (tOp (rInA K false) ta tb) (mOp (gIn false) ma mb) := by subst hK; exact me_cmp (op_inA hu) so_in ha hb hm
theorem mt_cin (hK : X.K = K) (hu : X.A.units + 1 < cLine) (ha : ME X K a ta ma) (hb : ME X K b tb mb) (hm : behindInMarks .In b = false := by rfl) : MT X K (.Compare a [.In] [b] pos) (tTest (tOp (rInA K false) ta tb)) (mOp (gIn false) ma mb) := by subst hK; exact mt_cmp (op_inA hu) so_in ha hb hm
theorem me_cni (hK : X.K = K) (hu : X.A.units + 1 < cLine) (ha : ME X K a ta ma) (hb : ME X K b tb mb) (hm : behindInMarks .NotIn b = false := by rfl) : ME X K (.Compare a [.NotIn] [b] pos) (tOp (rInA K true) ta tb) (mOp (gIn true) ma mb) := by subst hK; exact me_cmp (op_notInA hu) so_in ha hb hm
theorem mt_cni (hK : X.K = K) (hu : X.A.units + 1 < cLine) (ha : ME X K a ta ma) (hb : ME X K b tb mb) (hm : behindInMarks .NotIn b = false := by rfl) : MT X K (.Compare a [.NotIn] [b] pos) (tTest (tOp (rInA K true) ta tb)) (mOp (gIn true) ma mb) := by subst hK; exact mt_cmp (op_notInA hu) so_in ha hb hm
theorem me_clelt (ha : ME X K a ta ma) (hb : ME X K b tb mb) (hc : ME X K c tc mc) (hm : lastMarks [.LtE, .Lt] [b, c] = false := by with_unfolding_all rfl) : ME X K (.Compare a [.LtE, .Lt] [b, c] pos) (tChain (rI0 fun i j => .bl (decide (i ≤ j))) (rI0 fun i j => .bl (decide (i < j))) ta tb tc) (mChain gLe gLt ma mb mc) :=
  ⟨pe_chain op_le op_lt ha.pe hb.pe hc.pe hm, se_chain so_le so_lt ha.se hb.se hc.se⟩
theorem mt_clelt (ha : ME X K a ta ma) (hb : ME X K b tb mb) (hc : ME X K c tc mc) (hm : lastMarks [.LtE, .Lt] [b, c] = false := by with_unfolding_all rfl) : MT X K (.Compare a [.LtE, .Lt] [b, c] pos) (tTest (tChain (rI0 fun i j => .bl (decide (i ≤ j))) (rI0 fun i j => .bl (decide (i < j))) ta tb tc)) (mChain gLe gLt ma mb mc) :=
  ⟨pt_chain op_le op_lt ha.pe hb.pe hc.pe hm, st_test (se_chain so_le so_lt ha.se hb.se hc.se)⟩
theorem mt_clele (ha : ME X K a ta ma) (hb : ME X K b tb mb) (hc : ME X K c tc mc) (hm : lastMarks [.LtE, .LtE] [b, c] = false := by with_unfolding_all rfl) : MT X K (.Compare a [.LtE, .LtE] [b, c] pos) (tTest (tChain (rI0 fun i j => .bl (decide (i ≤ j))) (rI0 fun i j => .bl (decide (i ≤ j))) ta tb tc)) (mChain gLe gLe ma mb mc) :=
  ⟨pt_chain op_le op_le ha.pe hb.pe hc.pe hm, st_test (se_chain so_le so_le ha.se hb.se hc.se)⟩
theorem me_len (hK : X.K = K) (hm : X.mg "len" = none) (ha : MA X K [e] t ms) (hg : Gl X "len" := by rfl) (he : starEach [e] X.env = (false, eval e X.env) :: starEach [] X.env := by rfl) (hpl : (backTo pos (starEach [] X.env)).any (·.1) = false := by rfl) : ME X K (.Call (.Name "len" p) [e] [] pos) (tCB (rLenM K) t) (mCall gLen ms) := by
  subst hK; exact me_callB call_len sc_len hm PySem.boot_len ha hg (by decide) (by decide) he hpl
theorem me_int1 (hm : X.mg "int" = none) (ha : MA X K [e] t ms) (hg : Gl X "int" := by rfl) (he : starEach [e] X.env = (false, eval e X.env) :: starEach [] X.env := by rfl) (hpl : (backTo pos (starEach [] X.env)).any (·.1) = false := by rfl) : ME X K (.Call (.Name "int" p) [e] [] pos) (tCB rIntM t) (mCall gInt ms) :=
  me_callTy call_int1 sc_int hm (by decide +kernel) ha hg (by decide) (by decide) he hpl
theorem me_str1 (hm : X.mg "str" = none) (ha : MA X K [e] t ms) (hg : Gl X "str" := by rfl) (he : starEach [e] X.env = (false, eval e X.env) :: starEach [] X.env := by rfl) (hpl : (backTo pos (starEach [] X.env)).any (·.1) = false := by rfl) : ME X K (.Call (.Name "str" p) [e] [] pos) (tCB rStrM t) (mCall gStr ms) :=
  me_callTy SkE.call_str_str sc_str hm (by decide +kernel) ha hg (by decide) (by decide) he hpl
theorem me_tuple (hK : X.K = K) (hm : X.mg "tuple" = none) (ha : MA X K [e] t ms) (hg : Gl X "tuple" := by rfl) (he : starEach [e] X.env = (false, eval e X.env) :: starEach [] X.env := by rfl) (hpl : (backTo pos (starEach [] X.env)).any (·.1) = false := by rfl) : ME X K (.Call (.Name "tuple" p) [e] [] pos) (tCB (rTupM K) t) (mCall gTuple ms) := by
  subst hK; exact me_callTy call_tuple_of sc_tuple hm (by decide +kernel) ha hg (by decide) (by decide) he hpl
theorem me_list (hK : X.K = K) (hm : X.mg "list" = none) (ha : MA X K [e] t ms) (hg : Gl X "list" := by rfl) (he : starEach [e] X.env = (false, eval e X.env) :: starEach [] X.env := by rfl) (hpl : (backTo pos (starEach [] X.env)).any (·.1) = false := by rfl) : ME X K (.Call (.Name "list" p) [e] [] pos) (tCB (rLstM K) t) (mCall gList ms) := by
  subst hK; exact me_callTy call_list_of sc_list hm (by decide +kernel) ha hg (by decide) (by decide) he hpl
theorem me_all (hK : X.K = K) (hc : X.calm = true) (hm : X.mg "all" = none) (ha : MA X K [e] t ms) (hg : Gl X "all" := by rfl) (he : starEach [e] X.env = (false, eval e X.env) :: starEach [] X.env := by rfl) (hpl : (backTo pos (starEach [] X.env)).any (·.1) = false := by rfl) : ME X K (.Call (.Name "all" p) [e] [] pos) (tCB (rAll K) t) (mCall gAll ms) := by
  subst hK; exact me_callB (cr_all hc) sc_all hm (by decide +kernel) ha hg (by decide) (by decide) he hpl
theorem me_max (hc : X.calm = true) (hm : X.mg "max" = none) (ha : MA X K [a, b] t ms) (hg : Gl X "max" := by rfl) (he : starEach [a, b] X.env = (false, eval a X.env) :: starEach [b] X.env := by rfl) (hpl : (backTo pos (starEach [b] X.env)).any (·.1) = false := by rfl) : ME X K (.Call (.Name "max" p) [a, b] [] pos) (tCB rMaxM t) (mCall gMax ms) :=
  me_callB (call_max2 hc) sc_max hm (by decide +kernel) ha hg (by decide) (by decide) he hpl
end
/-! ### a written table of numbers -/
def pLook (tbl : List (Str × Int)) (z : Str) : Option Int := tbl.lookup z
structure TabIs (K : PySem.W.Frag) (w : World) (d : Addr) (tbl : List (Str × Int)) : Prop where
  kd : ∃ es n, KDict K w d es n
  yes : ∀ z i, pLook tbl z = some i → ∃ t, PySem.W.nsIn K d z = some (some (.int i t))
  no : ∀ z, pLook tbl z = none → PySem.W.nsIn K d z = some none
def gNotTab (tbl : List (Str × Int)) : D → Option D
  | .str z => some (.bl (pLook tbl z).isNone)
  | _ => none
def gTab (tbl : List (Str × Int)) : D → Option D
  | .str z => (pLook tbl z).map D.int
  | _ => none
def rTabN (K : PySem.W.Frag) : R2 := fun x y H Q => ∃ (z : Str) (d : Addr) (r : Option Value), x = .str z ∧ y = .ref d ∧ PySem.W.nsIn K d z = some r ∧ Q (.bl (!r.isSome)) H
theorem mt_notTab {X : Cx} {K : PySem.W.Frag} {tbl : List (Str × Int)} {d : Addr} {x : Str} {a : Expr} {ta : TE} {ma : E} {p pos : Pos} (hK : X.K = K) (T : TabIs K X.w d tbl) (hm : X.mg x = some (.ref d)) (ha : ME X K a ta ma) (hg : Gl X x := by rfl) (hd : (x == ("__debug__" : Str)) = false := by decide) (hb : behindInMarks .NotIn (.Name x p) = false := by rfl) :
    MT X K (.Compare a [.NotIn] [.Name x p] pos) (tTest (tOp (fun x y H Q => ∃ (z : Str) (r : Option Value), x = .str z ∧ y = .ref d ∧ PySem.W.nsIn K d z = some r ∧ Q (.bl (!r.isSome)) H) ta (tC (.ref d)))) (mUn (gNotTab tbl) ma) := by
  subst hK
  obtain ⟨es, n, kd⟩ := T.kd
  refine ⟨pt_cmpR (op_notIn_kd kd) ha.pe (pe_glob hg hm rfl hd) hb, st_test fun σ ρ Hk rl v h H e Q q => ?_⟩
  unfold mUn at h
  cases h1 : ma ρ with
  | none => rw [h1] at h; cases h
  | some z =>
    rw [h1, Option.bind_some] at h
    refine ha.se σ ρ Hk rl z h1 H e _ fun v' H2 Hr st rv => ?_
    cases rv with
    | str s =>
      cases h
      cases hp : pLook tbl s with
      | none => exact ⟨s, none, rfl, rfl, T.no s hp, q _ H2 Hr st (by rw [hp]; exact .bl _)⟩
      | some i =>
        obtain ⟨t, ht⟩ := T.yes s i hp
        exact ⟨s, _, rfl, rfl, ht, q _ H2 Hr st (by rw [hp]; exact .bl _)⟩
    | _ => cases h
theorem me_tab {X : Cx} {K : PySem.W.Frag} {w : World} {tbl : List (Str × Int)} {d : Addr} {x : Str} {b : Expr} {tb : TE} {mb : E} {p pos : Pos} (hK : X.K = K) (hw : X.w = w) (T : TabIs K w d tbl) (hm : X.mg x = some (.ref d)) (hb : ME X K b tb mb) (hg : Gl X x := by rfl) (hd : (x == ("__debug__" : Str)) = false := by decide) (hs : PlainIx b := by exact fun _ _ => rfl) :
    ME X K (.Subscript (.Name x p) b pos) (tOp (rIxD K w) (tC (.ref d)) tb) (mUn (gTab tbl) mb) := by
  subst hK hw
  obtain ⟨es, n, kd⟩ := T.kd
  refine ⟨pe_ix ix_kdict (pe_glob hg hm rfl hd) hb.pe hs, fun σ ρ Hk rl v h H e Q q => ?_⟩
  unfold mUn at h
  cases h1 : mb ρ with
  | none => rw [h1] at h; cases h
  | some z =>
    rw [h1, Option.bind_some] at h
    refine hb.se σ ρ Hk rl z h1 H e _ fun v' H2 Hr st rv => ?_
    cases rv with
    | str s =>
      have h : (pLook tbl s).map D.int = some v := h
      cases hp : pLook tbl s with
      | none => rw [hp] at h; cases h
      | some i =>
        rw [hp] at h
        cases h
        obtain ⟨t, ht⟩ := T.yes s i hp
        exact ⟨d, s, .int i, rfl, rfl, ⟨es, n, _, kd.at_, kd.lit, ht, ⟨t, rfl⟩⟩, q _ H2 Hr st (.int i)⟩
    | _ => cases h
/-! ### sorted(texts), any number -/
def leS (a b : Str) : Bool := decide (a.cps.toList ≤ b.cps.toList)
def sortS (ss : List Str) : List Str := ss.mergeSort leS
def rSortT (K : PySem.W.Frag) : List V → Hp → VK → Prop := fun vs H Q => ∃ (a : Addr) (ss : List Str), vs = [V.ref a] ∧ SqL K H a (ss.map V.str) ∧ ∀ p, H p = none → Q (.ref p) (upd H p (.lst ((sortS ss).map V.str)))
theorem each_strs : ∀ {ss : List Str} {us : List Value}, Vals (ss.map V.str) us → PySem.W.EachIs (fun v b => RelV (.str b) v) us ss
  | [], _, .nil => .nil
  | s :: ss, _, .cons r t => .cons r (each_strs t)
theorem strs_each : ∀ {ss : List Str} {us : List Value}, PySem.W.EachIs (fun v b => RelV (.str b) v) us ss → Vals (ss.map V.str) us
  | _, _, .nil => .nil
  | _, _, .cons r t => .cons r (strs_each t)
theorem each_reads {h : Heap} {ss : List Str} {us : List Value} (r : PySem.W.EachIs (fun v b => RelV (.str b) v) us ss) : PySem.W.EachIs (fun v b => ∃ as, Reads h v (PyData.str b) as) us ss := by
  induction r with
  | nil => exact .nil
  | cons r _ ih =>
    obtain ⟨t, rfl⟩ := r
    exact .cons ⟨_, Reads.str _ t⟩ ih
theorem cr_sortT {X : Cx} (hu : X.A.units + 2 < cLine) : CallR X (.builtin "sorted") (rSortT X.K) := by
  intro pins s σ H vs us Q I r h
  obtain ⟨a, ss, rfl, hs, q⟩ := h
  obtain ⟨its, rv, hl, hz⟩ := I.list hs
  rw [Vals.ref1 r]
  have ev := each_strs rv
  rw [List.length_map] at hz
  refine PySem.W.sorted_data (enc := PyData.str) (bs := ss) hl.isList ev (each_reads ev) (PySem.W.AllAlike.of fun _ _ => rfl) (PySem.W.Sortable.others fun _ => ⟨(fun z => nomatch z), (fun _ z => nomatch z)⟩) hz (fun b _ => by show X.A.units + 2 + 0 < cLine; exact hu) fun out hlen he => ?_
  obtain ⟨ep, he'⟩ := PyProof.Rows.sortedAll_at s.heap its out.toArray
  have e1 : ss.mergeSort (PySem.W.dataLe false PyData.str) = sortS ss := by
    have := PySem.W.dataLe_str (fun b : Str => b)
    unfold sortS leS
    rw [← this]
  rw [e1] at he
  have rv' := strs_each he
  have hlen : ((sortS ss).map V.str).length ≤ sizeLine := by
    rw [List.length_map]
    unfold sortS
    rw [List.length_mergeSort]
    exact hz
  exact ⟨.ref _, upd H (s.heap.objs.size + 1) (.lst ((sortS ss).map V.str)), I.laid (t' := s.toks) (fun _ _ => PyProof.Rows.sortedAll_old) (Nat.le_succ _) ⟨hlen, out, ep, rv', he'⟩, rfl, q _ (I.hok.fresh (Nat.le_succ _))⟩
def gSort : List D → Option D
  | [.lst ds] => (strs? ds).map fun ss => .lst ((sortS ss).map D.str)
  | _ => none
theorem sc_sort {K : PySem.W.Frag} : SC K (rSortT K) gSort := fun Hk vs ds d r h H e Q q => by
  unfold gSort at h
  split at h
  · rename_i ds
    obtain ⟨v, rfl, rv⟩ := r.one
    cases rv with
    | lst hx hd =>
      cases h1 : strs? ds with
      | none => rw [h1] at h; cases h
      | some ss =>
        rw [h1] at h
        cases h
        have e1 := strs?_eq h1
        subst e1
        rw [hd.strs] at hx
        exact ⟨_, ss, rfl, SqL.of (e _ _ hx), fun p hp => q _ _ _ ((Step.refl e).alloc hp) (.lst upd_same (RpA.of_strs _))⟩
  · cases h
theorem me_sorted {X : Cx} {K : PySem.W.Frag} {e : Expr} {t : TA} {ms : Es} {p pos : Pos} (hK : X.K = K) (hu : X.A.units + 2 < cLine) (hm : X.mg "sorted" = none) (ha : MA X K [e] t ms) (hg : Gl X "sorted" := by rfl) (he : starEach [e] X.env = (false, eval e X.env) :: starEach [] X.env := by rfl) (hpl : (backTo pos (starEach [] X.env)).any (·.1) = false := by rfl) : ME X K (.Call (.Name "sorted" p) [e] [] pos) (tCB (rSortT K) t) (mCall gSort ms) := by
  subst hK; exact me_callB (cr_sortT hu) sc_sort hm (by decide +kernel) ha hg (by decide) (by decide) he hpl
/-! ### what the top has -/
structure TopD (K : PySem.W.Frag) (mg : Str → Option Value) (x : Str) (st : Stmt) (ps : List Str) (f : Addr) (fd : FuncData) : Prop where
  F : Fun K x x st f fd
  g : mg x = some (.ref f)
  b : Binds K fd ps []
structure Blt (mg : Str → Option Value) : Prop where
  isinstance : mg "isinstance" = none
  int : mg "int" = none
  bool : mg "bool" = none
  str : mg "str" = none
  tuple : mg "tuple" = none
  list : mg "list" = none
  len : mg "len" = none
  all : mg "all" = none
  max : mg "max" = none
  range : mg "range" = none
  sorted : mg "sorted" = none
  set : mg "set" = none
def tblS : List (Str × Int) := [("set", 3), ("add", 4), ("if", 4), ("fork", 2), ("each", 4), ("fold", 6), ("start", 3), ("await", 2)]
def tblP : List (Str × Int) := [("number", 2), ("word", 2), ("local", 2), ("do", 4)]
def noNames : List Str := ["if", "fork", "each", "fold", "start", "await", "max", "min"]
def opsA : List Str := ["+", "-", "*", "max", "min", "<", "="]
def opsB : List Str := ["+", "*", "max", "min"]
def opsC : List Str := ["+", "-", "*", "max", "min"]
def TupIs (K : PySem.W.Frag) (a : Addr) (ss : List Str) : Prop := ∀ H, Rp K H (.ref a) (.tup (ss.map D.str))
structure Cst (K : PySem.W.Frag) (w : World) (mg : Str → Option Value) : Prop where
  prime : ∃ t, mg "PRIME" = some (.int 1000003 t)
  letters : ∃ t, mg "LETTERS" = some (.str "abcdefghijklmnopqrstuvwxyz" t)
  mostL : ∃ t, mg "MOST_LETTERS" = some (.int 8 t)
  mostB : ∃ t, mg "MOST_BLOCKS" = some (.int 4 t)
  noN : ∃ a, mg "NO_NAMES" = some (.ref a) ∧ TupIs K a noNames
  ops : ∃ a, mg "OPS" = some (.ref a) ∧ TupIs K a opsA
  addOps : ∃ a, mg "ADD_OPS" = some (.ref a) ∧ TupIs K a opsB
  foldOps : ∃ a, mg "FOLD_OPS" = some (.ref a) ∧ TupIs K a opsC
  sizes : ∃ d, mg "SIZES" = some (.ref d) ∧ TabIs K w d tblS
  parts : ∃ d, mg "PARTS" = some (.ref d) ∧ TabIs K w d tblP
theorem hu2_of {A : Around} {k : Nat} (hr : Room k A) : A.units + 2 < cLine := Nat.lt_of_le_of_lt (Nat.add_le_add_left (by decide : 2 ≤ 64) _) hr.units
end ML
set_option Elab.async false
set_option linter.all false
set_option maxRecDepth 100000
set_option maxHeartbeats 8000000
/-! sorted(set(texts)): the set's members are known by their texts, its order stays open; sorted tells them in the one order -/
namespace ML
open PySem PySem.Spec PyProof.Rows L2
/-- each once -/
def dd : List Str → List Str
  | [] => []
  | s :: r => if s ∈ r then dd r else s :: dd r
theorem mem_dd {x : Str} : ∀ {l : List Str}, x ∈ dd l ↔ x ∈ l
  | [] => Iff.rfl
  | s :: r => by
    unfold dd
    by_cases h : s ∈ r
    · rw [if_pos h, mem_dd (l := r), List.mem_cons]
      exact ⟨.inr, fun z => z.elim (fun e => e ▸ h) id⟩
    · rw [if_neg h, List.mem_cons, List.mem_cons, mem_dd (l := r)]
theorem nd_dd : ∀ l : List Str, (dd l).Nodup
  | [] => List.nodup_nil
  | s :: r => by
    unfold dd
    by_cases h : s ∈ r
    · rw [if_pos h]; exact nd_dd r
    · rw [if_neg h]; exact List.nodup_cons.mpr ⟨fun z => h (mem_dd.mp z), nd_dd r⟩
theorem nd_len {α : Type} [DecidableEq α] : ∀ {l m : List α}, l.Nodup → (∀ x ∈ l, x ∈ m) → l.length ≤ m.length
  | [], m, _, _ => Nat.zero_le _
  | a :: l, m, hn, hs => by
    have h1 := (List.nodup_cons.mp hn)
    have h2 := nd_len (m := m.erase a) h1.2 fun x hx => (List.mem_erase_of_ne (fun e => h1.1 (by rw [← e]; exact hx))).mpr (hs x (List.mem_cons_of_mem _ hx))
    rw [List.length_erase_of_mem (hs a List.mem_cons_self)] at h2
    have h3 : 0 < m.length := List.length_pos_of_mem (hs a List.mem_cons_self)
    rw [List.length_cons]
    omega
/-- one entry: a text with its hash -/
def TxtE (w : World) (e : Int × Value) : Prop := ∃ x tk, e.2 = Value.str x tk ∧ e.1 = hashStr w x
def txtOf (e : Int × Value) : Str := match e.2 with
  | .str x _ => x
  | _ => Str.empty
/-- at a stands a set of the texts ks -/
def SetT (w : World) (h : Heap) (a : Addr) (ks : List Str) : Prop :=
  ∃ o es ep t, h.get? a = some o ∧ o.ExactSet ∧ o.data = .set es ep t ∧ (∀ e ∈ es.toList, TxtE w e) ∧ (es.toList.map txtOf).Nodup ∧ (∀ k, k ∈ ks ↔ k ∈ es.toList.map txtOf) ∧
    es.size < scanBound ∧ t.fits es.size = true ∧ Ris t.place.toList ∧ (w.params.followText "set-order" = true ∨ t.led = true)
section
variable {P : Program} {w : World} {A : Around} {E : Value → Shared → Prop} {s : Shared} {a : Addr} {ks : List Str}
theorem SetT.keep {h h' : Heap} (R : SetT w h a ks) (k : ∀ o, h.get? a = some o → h'.get? a = some o) : SetT w h' a ks :=
  let ⟨o, es, ep, t, ho, r⟩ := R; ⟨o, es, ep, t, k o ho, r⟩
theorem SetT.same {h : Heap} {ks' : List Str} (R : SetT w h a ks) (e : ∀ k, k ∈ ks' ↔ k ∈ ks) : SetT w h a ks' := by
  obtain ⟨o, es, ep, t, h1, h2, h3, h4, h5, h6, r⟩ := R
  exact ⟨o, es, ep, t, h1, h2, h3, h4, h5, fun k => (e k).trans (h6 k), r⟩
theorem txt_elems {l : List (Int × Value)} (g : ∀ e ∈ l, TxtE w e) : ElemsOf (strKind P w) l := fun e he => by
  obtain ⟨k, tk, h1, h2⟩ := g e he
  exact ⟨⟨k, by rw [h1]; exact strKind_is P w k tk, h2⟩, by rw [h1] <;> rfl⟩
theorem txt_is {e : Int × Value} (g : TxtE w e) (k : Str) : (strKind P w).is k e.2 = true ↔ txtOf e = k := by
  obtain ⟨x, tk, h1, _⟩ := g
  unfold txtOf
  rw [h1]
  show ((Value.isStrOf k (Value.str x tk)) = true) ↔ x = k
  simp [Value.isStrOf]
theorem txt_mem {l : List (Int × Value)} (g : ∀ e ∈ l, TxtE w e) (k : Str) : k ∈ l.map txtOf ↔ ∃ e ∈ l, (strKind P w).is k e.2 = true := by
  rw [List.mem_map]
  exact ⟨fun ⟨e, he, q⟩ => ⟨e, he, (txt_is (g e he) k).2 q⟩, fun ⟨e, he, q⟩ => ⟨e, he, (txt_is (g e he) k).1 q⟩⟩
/-- what is done once the new entry has its place -/
theorem setT_tail {g : Bool → Sem Unit} (hg : ∀ (b : Bool) (s₁ : Shared) (Q' : Unit → Shared → Prop), Q' () s₁ → wpAny (model P w) A (g b) Q' E s₁)
    {o : Obj} {es : Array (Int × Value)} {ep : Nat} {t : SetTable} (ho : s.heap.get? a = some o) (hex : o.ExactSet) (hd : o.data = .set es ep t)
    {es1 : Array (Int × Value)} {t2 : SetTable} (g1 : ∀ e ∈ es1.toList, TxtE w e) (nd1 : (es1.toList.map txtOf).Nodup) (m1 : ∀ k, k ∈ ks ↔ k ∈ es1.toList.map txtOf)
    (hb1 : es1.size < scanBound) (hf2 : t2.fits es1.size = true) (hr : Ris t2.place.toList) (hl : w.params.followText "set-order" = true ∨ t2.led = true) {wasDummy : Bool} {R : Option Bool → Shared → Prop}
    (hR : ∀ h', Heap.SameBut a s.heap h' → SetT w h' a ks → R (some true) { s with heap := h' }) :
    wpAny (model P w) A (do
        storeSet a es1 t2
        if (!wasDummy && t2.tooFull) = true then do
            g (relayAll t2 es1 (SetTable.grown es1.size)).2.2
            storeSet a (relayAll t2 es1 (SetTable.grown es1.size)).1 (relayAll t2 es1 (SetTable.grown es1.size)).2.1
            pure (some true)
          else pure (some true)) R E s := by
  have put : ∀ {h : Heap} {o : Obj} {es ex : Array (Int × Value)} {ep : Nat} {t tx : SetTable}, h.get? a = some o → o.data = .set es ep t → (h.update a (Obj.putSet ex tx)).get? a = some { o with data := .set ex (ep + 1) tx } := fun {h o es ex ep t tx} z y => by
    have q := Heap.get?_update_self (Obj.putSet ex tx) z (by rw [putSet_of ex tx y]; rfl)
    rw [putSet_of ex tx y] at q
    exact q
  refine wpAny_bind (wpAny_storeSet_of ho hd ?_ (fits_of_scanBound hb1))
  have o1 := put (ex := es1) (tx := t2) ho hd
  have b1 := Heap.SameBut.update s.heap a (Obj.putSet es1 t2)
  split
  · have pm := relayAll_perm t2 es1 (SetTable.grown es1.size)
    have f3 := relayAll_fits t2 es1 (SetTable.grown es1.size)
    have r3 := relayAll_ris t2 es1 (SetTable.grown es1.size)
    have l3 := relayAll_led t2 es1 (SetTable.grown es1.size)
    generalize relayAll t2 es1 (SetTable.grown es1.size) = Z at pm f3 r3 l3 ⊢
    obtain ⟨es2, t3, gave⟩ := Z
    dsimp only at pm f3 r3 l3 ⊢
    have z2 : es2.size = es1.size := by rw [← Array.length_toList, pm.length_eq, Array.length_toList]
    have hb2 : es2.size < scanBound := by rw [z2]; exact hb1
    refine wpAny_bind (hg _ _ _ (wpAny_bind (wpAny_storeSet_of o1 rfl ?_ (fits_of_scanBound hb2))))
    have o2 := put (ex := es2) (tx := t3) o1 rfl
    refine wpAny_pure (hR _ (b1.trans (Heap.SameBut.update _ a _)) ?_)
    exact ⟨_, es2, _, t3, o2, hex, rfl, fun e he => g1 e (pm.mem_iff.mp he), (pm.map txtOf).nodup_iff.mpr nd1, fun k => (m1 k).trans (pm.map txtOf).mem_iff.symm, hb2, f3, r3, hl.imp id fun z => by rw [l3]; exact z⟩
  · exact wpAny_pure (hR _ b1 ⟨_, es1, _, t2, o1, hex, rfl, g1, nd1, m1, hb1, hf2, hr, hl⟩)
/-- a text is added; lim bounds how many can be in it -/
theorem setT_add {k : Str} {tk : Tok} {Q : Bool → Shared → Prop} {lim : List Str} (R : SetT w s.heap a ks) (hlim : ∀ x ∈ ks, x ∈ lim) (room : lim.length + 1 < scanBound)
    (hQ : ∀ b h', Heap.SameBut a s.heap h' → SetT w h' a (ks ++ [k]) → Q b { s with heap := h' }) :
    wpAny (model P w) A (setAddHashed a (.str k tk) ((strKind P w).hash k)) Q E s := by
  obtain ⟨o, es, ep, t, ho, hex, hd, g, nd, hm, hb, hf, hr, hl⟩ := R
  have hkey : (strKind P w).is k (.str k tk) = true := strKind_is P w k tk
  have hsc : (Value.str k tk).scannable = true := rfl
  have hel : ElemsOf (strKind P w) es.toList := txt_elems g
  unfold setAddHashed setAddHashedIn
  refine wpAny_holding (wpAny_bind (wpAny_setState_of ho hd hf ?_))
  dsimp only
  rw [byScan_of hsc hb hel]
  simp only [↓reduceIte]
  unfold setAddByScan
  refine wpAny_bind (wpAny_bind (wpAny_rule (wpAny_bind (wpAny_setScan_of hkey ho hd hf hel ?_))))
  cases hfi : List.findIdx? (fun e => (strKind P w).is k e.2) es.toList with
  | some j =>
    dsimp only
    obtain ⟨hj, pj, _⟩ := List.findIdx?_eq_some_iff_getElem.mp hfi
    have hk : k ∈ ks := (hm k).2 ((txt_mem (P := P) (w := w) g k).2 ⟨es.toList[j], List.getElem_mem hj, pj⟩)
    refine wpAny_pure (wpAny_pure (hQ _ s.heap (Heap.SameBut.refl a s.heap) ⟨o, es, ep, t, ho, hex, hd, g, nd, fun i => ?_, hb, hf, hr, hl⟩))
    rw [← hm i, List.mem_append, List.mem_singleton]
    exact ⟨fun z => z.elim id (fun e => e ▸ hk), .inl⟩
  | none =>
    dsimp only
    have hnk : k ∉ es.toList.map txtOf := fun z => by
      obtain ⟨e, he, q⟩ := (txt_mem (P := P) (w := w) g k).1 z
      have c := List.findIdx?_eq_none_iff.mp hfi e he
      rw [q] at c
      cases c
    have hgw : ∀ (b : Bool) {s₁ : Shared} {Q' : Unit → Shared → Prop}, Q' () s₁ → wpAny (model P w) A (match b with | true => rule "set.scan.the-table-gave-way" | false => pure ()) Q' E s₁ :=
      fun b s₁ Q' q => by cases b <;> first | exact wpAny_pure q | exact wpAny_rule q
    have pm := layNew_perm t es ((strKind P w).hash k) (.str k tk)
    have f1 := layNew_fits t es ((strKind P w).hash k) (.str k tk)
    have r1 := layNew_ris t es ((strKind P w).hash k) (.str k tk) hr
    have l1 := layNew_led t es ((strKind P w).hash k) (.str k tk)
    generalize layNew t es ((strKind P w).hash k) (.str k tk) = Z at pm f1 r1 l1 ⊢
    obtain ⟨es1, t1, wasDummy, gave⟩ := Z
    dsimp only at pm f1 r1 l1 ⊢
    rw [Array.toList_push] at pm
    have pc : es1.toList.Perm (((strKind P w).hash k, Value.str k tk) :: es.toList) := pm.trans (List.perm_append_singleton _ _)
    have pk : (es1.toList.map txtOf).Perm (k :: es.toList.map txtOf) := pc.map txtOf
    have g1 : ∀ e ∈ es1.toList, TxtE w e := fun e he => by
      rcases List.mem_cons.mp (pc.mem_iff.mp he) with z | z
      · rw [z]; exact ⟨k, tk, rfl, rfl⟩
      · exact g e z
    have nd1 : (es1.toList.map txtOf).Nodup := pk.nodup_iff.mpr (List.nodup_cons.mpr ⟨hnk, nd⟩)
    have m1 : ∀ i, i ∈ ks ++ [k] ↔ i ∈ es1.toList.map txtOf := fun i => by
      rw [List.mem_append, List.mem_singleton, hm i, pk.mem_iff, List.mem_cons]
      exact Or.comm
    have z0 : es.size ≤ lim.length := by
      have := nd_len (m := lim) nd fun x hx => hlim x ((hm x).2 hx)
      rw [List.length_map, Array.length_toList] at this
      exact this
    have z1 : es1.size = es.size + 1 := by rw [← Array.length_toList, pc.length_eq, List.length_cons, Array.length_toList]
    have hb1 : es1.size < scanBound := by omega
    have hled : w.params.followText "set-order" = true ∨ t1.led = true := hl.imp id fun z => by rw [l1]; exact z
    refine wpAny_bind (hgw _ ?_)
    split
    · refine wpAny_bind ?_
      rw [hashByValue_scannable 8 hsc]
      refine wpAny_pure (setT_tail ?_ ho hex hd g1 nd1 m1 hb1 ?_ ?_ ?_ ?_)
      · intro b s₁ Q' q; cases b <;> first | exact wpAny_pure q | exact wpAny_rule q
      · first | (split <;> first | exact f1 | exact SetTable.fits_plain_off f1) | exact f1
      · first | (split <;> exact r1) | exact r1
      · first | (split <;> exact hled) | exact hled
      · intro h' sb r; dsimp only; exact wpAny_pure (hQ _ h' sb r)
    · refine wpAny_bind (wpAny_pure ?_)
      simp only [↓reduceIte]
      refine setT_tail ?_ ho hex hd g1 nd1 m1 hb1 f1 r1 hled ?_
      · intro b s₁ Q' q; cases b <;> first | exact wpAny_pure q | exact wpAny_rule q
      · intro h' sb r; dsimp only; exact wpAny_pure (hQ _ h' sb r)
theorem setT_loop {I : Addr} {fp wr : List Addr} {G : Array GenState → Array GenState → Prop} {n : Nat} {Pv : Nat → Value → Prop} {St : Nat → Shared → Prop} {R : Result → Shared → Prop}
    (W : WalksS P w A.in1 I fp wr G n Pv St) (Sa : Addr) (hSf : Sa ∉ fp) (ns : List Str) (hn : n = ns.length) (hb : (dd ns).length + 1 < scanBound) (hval : ∀ i v, Pv i v → ∃ k t, ns[i]? = some k ∧ v = .str k t) :
    ∀ (k i : Nat) (s : Shared), n - i = k → i ≤ n → St i s → SetT w s.heap Sa (ns.take i) →
      (∀ s', Moved (Sa :: wr) G s s' → SetT w s'.heap Sa ns → R (.ok (.ret .none)) s') →
      codeAny (model P w) A (.builtin "set.update.loop" ⟨[.ref Sa, .ref I], []⟩) R s := by
  have hSw : Sa ∉ wr := fun h => hSf (W.sub _ h)
  have hsub : ∀ b ∈ wr, b ∈ Sa :: wr := fun b hb => List.mem_cons_of_mem _ hb
  intro k
  induction k with
  | zero =>
    intro i s hk' hi hst hS hR
    obtain rfl : i = n := by omega
    refine codeAny_builtin F.entry_set_update_loop ?_
    rw [Around.under_plainId F.plain_set_update_loop _]
    show wpAny _ A.in1 (pyNext (.ref I) >>= _) _ _ s
    refine wpAny_bind (W.done s _ _ hst fun s' hm => ?_)
    show wpAny _ A.in1 (ret Value.none) _ _ s'
    rw [List.take_of_length_le (by omega)] at hS
    exact wpAny_pure (hR s' (hm.mono hsub) (hS.keep fun o e => hm.heap Sa o hSw e))
  | succ k ih =>
    intro i s hk' hi hst hS hR
    have hlt : i < n := by omega
    refine codeAny_builtin F.entry_set_update_loop ?_
    rw [Around.under_plainId F.plain_set_update_loop _]
    show wpAny _ A.in1 (pyNext (.ref I) >>= _) _ _ s
    refine wpAny_bind (W.item i s _ _ hlt hst fun v s' hP hst' hm => ?_)
    obtain ⟨z, t, hz, rfl⟩ := hval i v hP
    have hS' : SetT w s'.heap Sa (ns.take i) := hS.keep fun o e => hm.heap Sa o hSw e
    show wpAny _ A.in1 (holding [Value.str z t] (setAdd Sa (.str z t)) >>= _) _ _ s'
    refine wpAny_bind (wpAny_holding ?_)
    unfold setAdd
    refine wpAny_holding (wpAny_bind ((strKind P w).pyHash (k := z) (strKind_is _ _ _ _) ?_))
    refine setT_add (lim := dd ns) (s := { s' with toks := s'.toks + 1 }) hS' (fun x hx => mem_dd.mpr (List.mem_of_mem_take hx)) hb fun b h' hsb hS2 => ?_
    have hS3 : SetT w h' Sa (ns.take (i + 1)) := hS2.same fun x => by rw [List.take_add_one, hz]; rfl
    refine wpAny_pure ⟨plainId_quiet F.plain_set_update_loop _, ih (i + 1) _ (by omega) hlt (W.frame _ s' _ _ hst' (Nat.le_succ _) fun b hb o e => ?_) hS3 fun s'' hm'' hS'' => ?_⟩
    · rw [hsb.2 b (fun h : b = Sa => hSf (by rw [← h]; exact hb))]; exact e
    · refine hR s'' (Moved.trans W.gtrans ((hm.mono hsub).then_heap (Nat.le_succ _) fun b o hb e => ?_) hm'') hS''
      rw [hsb.2 b (fun h : b = Sa => hb (by rw [h]; exact List.mem_cons_self))]; exact e
/-- the object of a set just made -/
abbrev freshS (w : World) : Obj := { cls := .type "set", dict := none, data := .set #[] 0 (.fresh 0 0 (!w.params.followText "set-order")) }
theorem setT_fresh {h : Heap} (ho : h.get? a = some (freshS w)) : SetT w h a [] :=
  ⟨_, #[], 0, _, ho, ⟨rfl, rfl, rfl⟩, rfl, (fun e he => by simp at he), (by simp), (fun k => by simp), (by decide), (by rfl), List.Pairwise.nil, by
    show _ ∨ (!w.params.followText "set-order") = true
    cases w.params.followText "set-order"
    · exact .inr rfl
    · exact .inl rfl⟩
set_option maxRecDepth 100000 in
theorem set_of_list {l : Addr} {items : Array Value} (ns : List Str) {Q : Value → Shared → Prop} (hh : A.handled = none) (hl : s.heap.IsList l items) (hit : Vals (ns.map V.str) items.toList) (hb : (dd ns).length + 1 < scanBound)
    (h : ∀ (h' : Heap) (tk : Nat), SetT w h' s.heap.objs.size ns → (∀ b o, s.heap.get? b = some o → h'.get? b = some o) → Q (.ref s.heap.objs.size) { s with heap := h', toks := tk }) :
    wpAny (model P w) A (call (.type "set") [.ref l]) Q E s := by
  have hisz : items.size = ns.length := by
    have q : (ns.map V.str).length = items.toList.length := Paired.length hit
    simp only [List.length_map, Array.length_toList] at q
    exact q.symm
  obtain ⟨c, tl, hmro⟩ := F.called_set.mro
  have hmade := F.called_set.made
  have hsub := F.called_set.sub
  refine wpAny_call (codeAny_of_tree ?_)
  show wpAny _ _ (callAny (.type "set") _) _ _ _
  refine wpAny_pure ⟨Code.quiet_builtin _ (by decide +kernel), codeAny_builtin F.entry_type_call ?_⟩
  rw [Around.under_plain (weight_type_call_type "set" [.ref l] []) rfl]
  have h1 := F.called_set.notType
  have h2 := F.called_set.canCreate
  have hct := F.typeCall_set_1 (.ref l)
  repeat (any_goals (first | assumption | wp_step))
  refine codeAny_mono (code_set_led1 (.ref l) (E := E) (Q₁ := fun obj s₁ => obj = .ref s.heap.objs.size ∧ s₁ = { s with heap := s.heap.push (freshS w) }) ⟨rfl, rfl⟩) fun r s₁ hr => ?_
  cases r with
  | error e => exact hr
  | ok fl =>
    cases fl with
    | ret obj =>
      obtain ⟨rfl, rfl⟩ := hr
      have hS : (s.heap.push (freshS w)).get? s.heap.objs.size = some (freshS w) := Heap.get?_push_size _ rfl
      have hT : Shared.TypeIs { s with heap := s.heap.push (freshS w) } (.ref s.heap.objs.size) "set" := ⟨_, hS, rfl⟩
      have hli := F.called_set.init.lookup
      have hbi := F.called_set.init.bind (.ref s.heap.objs.size)
      repeat (any_goals (first | assumption | wp_step))
      refine codeAny_mono (codeAny_call_builtin (R := wants (fun r s₂ => r = .none ∧ ∃ h' tk, s₂ = { s with heap := h', toks := tk } ∧ SetT w h' s.heap.objs.size ns ∧
          (∀ b o, s.heap.get? b = some o → h'.get? b = some o)) E) F.called_set.init.plain F.entry_set_init (check_set_init_1 hT ?_)) fun r₂ s₂ hr₂ => ?_
      · obtain ⟨ol, hol, hcl, nl, hdl⟩ := hl
        obtain ⟨ocls, odict, odata, oslots⟩ := ol
        simp only at hcl hdl
        subst hcl; subst hdl
        have hol' : (s.heap.push (freshS w)).get? l = some { cls := .type "list", dict := odict, data := .seq items nl, slots := oslots } := Heap.get?_push_of_some _ hol
        have hsls := F.sub_list_set
        have hslf := F.sub_list_frozenset
        have hne : (Value.type "list" == Value.type "dict") = false := by decide
        have hl1 : (s.heap.push (freshS w)).IsList l items := ⟨_, hol', rfl, nl, rfl⟩
        unfold Builtin.«set.__init__» noKeywords Builtin.Frozenset.updateFrom
        generalize hPI : pyIter = PI
        wp_walk
        subst hPI
        refine wpAny_pyIter_list hl1 (wpAny_bind (wpAny_runValue ?_))
        have hlS : l < s.heap.objs.size := Heap.lt_size hol
        have hh3 : A.in1.in1.in1.handled = none := by simp [hh]
        have hz1 : (s.heap.push (freshS w)).objs.size = s.heap.objs.size + 1 := Heap.size_push ..
        have hneI : l ≠ (s.heap.push (freshS w)).objs.size := by
          rw [hz1]; exact Nat.ne_of_lt (Nat.lt_succ_of_lt hlS)
        have hSf : s.heap.objs.size ∉ [(s.heap.push (freshS w)).objs.size, l] := by
          rw [hz1]
          simp only [List.mem_cons, List.not_mem_nil, or_false, not_or]
          exact ⟨Nat.ne_of_lt (Nat.lt_succ_self _), Nat.ne_of_gt hlS⟩
        have hval : ∀ (i : Nat) (v : Value), items[i]? = some v → ∃ k t, ns[i]? = some k ∧ v = .str k t := fun i v hv => by
          have hi : i < ns.length := by rw [← hisz]; exact (Array.getElem?_eq_some_iff.mp hv).1
          obtain ⟨u, hu, t, ru⟩ := hit.get (i := i) (x := .str ns[i]) (by rw [List.getElem?_map, List.getElem?_eq_getElem hi]; rfl)
          rw [Array.getElem?_toList, hv] at hu
          cases hu
          exact ⟨ns[i], t, List.getElem?_eq_getElem hi, ru⟩
        refine setT_loop ((Walks.list hh3 _ l hneI items).toS) s.heap.objs.size hSf ns hisz hb hval (items.size - 0) 0 _ (by omega) (Nat.zero_le _)
          ⟨⟨_, Heap.get?_push_size _ rfl, rfl, rfl⟩, (hl1.push _)⟩ (setT_fresh (Heap.get?_push_of_some _ hS)) fun s' hm hS' => ?_
        obtain ⟨h', g2, d', tk', os'⟩ := s'
        have eg : g2 = s.gens := hm.gens
        have ed : d' = s.drawn := hm.drawn
        have eo : os' = s.os := hm.os
        subst eg; subst ed; subst eo
        show wpAny _ _ _ _ _ _
        refine wpAny_pure ?_
        show wpAny _ _ (ret Value.none) _ _ _
        refine wpAny_pure ⟨rfl, h', tk', rfl, hS', fun b o e => ?_⟩
        have hb0 : b < s.heap.objs.size := Heap.lt_size e
        refine hm.heap b o ?_ (Heap.get?_push_of_some _ (Heap.get?_push_of_some _ e))
        rw [hz1]
        simp only [List.mem_cons, List.not_mem_nil, or_false, not_or]
        exact ⟨Nat.ne_of_lt hb0, Nat.ne_of_lt (Nat.lt_succ_of_lt hb0)⟩
      · cases r₂ with
        | error e => exact hr₂
        | ok fl₂ =>
          cases fl₂ with
          | ret r =>
            obtain ⟨rfl, h', tk, rfl, hS', hk'⟩ := hr₂
            repeat (any_goals (first | assumption | wp_step))
            exact h _ _ hS' hk'
          | _ => exact hr₂.elim
    | _ => exact hr.elim
/-! the one sorted list -/
theorem leS_trans (a b c : Str) : leS a b = true → leS b c = true → leS a c = true := by
  unfold leS
  simp only [decide_eq_true_eq]
  exact fun h1 h2 => List.le_trans h1 h2
theorem leS_total (a b : Str) : (leS a b || leS b a) = true := by
  unfold leS
  simp only [Bool.or_eq_true, decide_eq_true_eq]
  exact List.le_total _ _
theorem leS_anti {a b : Str} (h1 : leS a b = true) (h2 : leS b a = true) : a = b := by
  unfold leS at h1 h2
  have h := List.le_antisymm (of_decide_eq_true h1) (of_decide_eq_true h2)
  cases a; cases b
  simp only [Str.mk.injEq]
  exact Array.toList_inj.mp h
theorem sort_pw (l : List Str) : (sortS l).Pairwise (fun a b => leS a b = true) := List.pairwise_mergeSort leS_trans leS_total l
theorem sorted_one : ∀ {l m : List Str}, l.Pairwise (fun a b => leS a b = true) → m.Pairwise (fun a b => leS a b = true) → l.Perm m → l = m
  | [], m, _, _, p => (List.perm_nil.mp p.symm).symm
  | a :: l, m, hl, hm, p => by
    cases m with
    | nil => exact absurd p.length_eq (by simp)
    | cons b m =>
      have e : a = b := by
        have h1 := p.mem_iff.mp (List.mem_cons_self (a := a) (l := l))
        have h2 := p.symm.mem_iff.mp (List.mem_cons_self (a := b) (l := m))
        rcases List.mem_cons.mp h1 with h1 | h1
        · exact h1
        · rcases List.mem_cons.mp h2 with h2 | h2
          · exact h2.symm
          · exact leS_anti ((List.pairwise_cons.mp hl).1 b h2) ((List.pairwise_cons.mp hm).1 a h1)
      subst e
      rw [sorted_one (List.pairwise_cons.mp hl).2 (List.pairwise_cons.mp hm).2 (List.perm_cons a |>.mp p)]
theorem sort_perm {l m : List Str} (p : l.Perm m) : sortS l = sortS m :=
  sorted_one (sort_pw l) (sort_pw m) ((List.mergeSort_perm l leS).trans (p.trans (List.mergeSort_perm m leS).symm))
theorem nd_perm : ∀ {l m : List Str}, l.Nodup → m.Nodup → (∀ x, x ∈ l ↔ x ∈ m) → l.Perm m
  | [], m, _, _, h => by
    cases m with
    | nil => exact List.Perm.refl _
    | cons b m => exact absurd ((h b).mpr List.mem_cons_self) (by simp)
  | a :: l, m, hl, hm, h => by
    have h1 := List.nodup_cons.mp hl
    have ha : a ∈ m := (h a).mp List.mem_cons_self
    have q := nd_perm (m := m.erase a) h1.2 (hm.erase a) fun x => by
      by_cases e : x = a
      · subst e
        exact ⟨fun z => absurd z h1.1, fun z => absurd z (fun z => by
          have := (List.Nodup.mem_erase_iff hm).mp z
          exact this.1 rfl)⟩
      · rw [List.mem_erase_of_ne e, ← h x, List.mem_cons]
        exact ⟨.inr, fun z => z.elim (fun y => absurd y e) id⟩
    exact (q.cons a).trans (List.perm_cons_erase ha).symm
theorem each_apart {h : Heap} {a : Addr} : ∀ {vs : List Value} {bs : List Str}, PySem.W.EachIs (fun v b => RelV (.str b) v) vs bs → PySem.W.EachIs (fun v b => ∃ as, Reads h v (PyData.str b) as ∧ a ∉ as) vs bs
  | _, _, .nil => .nil
  | _, _, .cons r t => .cons (by obtain ⟨tk, rfl⟩ := r; exact ⟨_, Reads.str _ tk, by simp⟩) (each_apart t)
theorem sorted_of_set {ns : List Str} {Q : Value → Shared → Prop} (hu : A.units + 3 < cLine) (R : SetT w s.heap a ns) (hh : A.handled = none)
    (hQ : ∀ s' p (out : List Value) (c : Nat), (∀ b o, s.heap.get? b = some o → s'.heap.get? b = some o) → s'.gens = s.gens → s'.os = s.os → s.heap.objs.size ≤ p →
      s'.heap.get? p = some (seqObj "list" out.toArray c) → Vals ((sortS (dd ns)).map V.str) out → Q (.ref p) s') :
    wpAny (model P w) A (call (.builtin "sorted") [.ref a]) Q E s := by
  obtain ⟨o, es, ep, t, ho, hex, hd, g, nd, hm, hb, hf, hr, hl⟩ := R
  refine Calls.call_function_entry kind_sorted plain_sorted entry_sorted (args_sorted1 _) ?_
  unfold Builtin.«sorted»
  refine wpAny_bind (m := checkCount "sorted" 1 1 _) (wpAny_pure ?_)
  refine wpAny_bind (collect_set (A := A.in1) hh ⟨o, ho, hex.1, hd⟩ hf hb hr hl fun s1 vs k1 hz g1 o1 pm => ?_)
  have ev : ∀ {l : List Value}, (∀ v ∈ l, ∃ x tk, v = Value.str x tk) → ∃ bs : List Str, PySem.W.EachIs (fun v b => RelV (.str b) v) l bs ∧ l.map (fun v => txtOf (0, v)) = bs := by
    intro l
    induction l with
    | nil => intro _; exact ⟨[], .nil, rfl⟩
    | cons v l ih =>
      intro h
      obtain ⟨x, tk, rfl⟩ := h v List.mem_cons_self
      obtain ⟨bs, h1, h2⟩ := ih fun u hu => h u (List.mem_cons_of_mem _ hu)
      exact ⟨x :: bs, .cons ⟨tk, rfl⟩ h1, by rw [List.map_cons, h2]; rfl⟩
  obtain ⟨bs, e1, e2⟩ := ev (l := vs) fun v hv => by
    obtain ⟨e, he, q⟩ := List.mem_map.mp (pm.mem_iff.mp hv)
    obtain ⟨k, tk, h1, _⟩ := g e he
    exact ⟨k, tk, by rw [← q]; exact h1⟩
  have pk : bs.Perm (dd ns) := by
    have q := pm.map (fun v => txtOf (0, v))
    rw [e2, List.map_map] at q
    have q2 : es.toList.map ((fun v => txtOf (0, v)) ∘ fun x => x.2) = es.toList.map txtOf := rfl
    rw [q2] at q
    exact q.trans (nd_perm nd (nd_dd ns) fun x => by rw [mem_dd, hm x])
  have hvz : vs.length ≤ sizeLine := by
    rw [pm.length_eq, List.length_map, Array.length_toList]
    exact fits_of_scanBound hb
  have hbz : bs.length = vs.length := e1.length.symm
  refine wpAny_bind (wpAny_newList ?_ hvz)
  have hoL : (s1.heap.push (seqObj "list" vs.toArray 0)).get? s1.heap.objs.size = some (seqObj "list" vs.toArray 0) := Heap.get?_push_size _ rfl
  have er := each_apart (h := s1.heap.push (seqObj "list" vs.toArray 0)) (a := s1.heap.objs.size) e1
  refine wpAny_bind (wpAny_holding (PySem.W.list_sort_data (enc := PyData.str) (bs := bs) hoL e1 er (PySem.W.AllAlike.of fun _ _ => rfl) (PySem.W.Sortable.others fun _ => ⟨(fun z => nomatch z), (fun _ z => nomatch z)⟩) (by rw [hbz]; exact hvz) (fun b _ => by show A.units + 1 + 1 + 0 < cLine; omega) fun out hlen he => ?_))
  obtain ⟨c, hc⟩ := sortedHeap_at (vs := vs) (out := out.toArray) hoL
  have e3 : bs.mergeSort (PySem.W.dataLe false PyData.str) = sortS (dd ns) := by
    have q := PySem.W.dataLe_str (fun b : Str => b)
    have q2 : bs.mergeSort (PySem.W.dataLe false PyData.str) = sortS bs := by
      unfold sortS leS
      rw [← q]
    rw [q2, sort_perm pk]
  rw [e3] at he
  refine wpAny_pure ⟨_, rfl, hQ _ s1.heap.objs.size out c (fun b u e => ?_) g1 o1 hz hc (strs_each he)⟩
  have q := k1 b u e
  have hlt := Heap.lt_size q
  show (sortedHeap (s1.heap.push (seqObj "list" vs.toArray 0)) s1.heap.objs.size vs out.toArray).get? b = some u
  rw [sortedHeap_old (Nat.ne_of_lt hlt) (by rw [size_push']; exact Nat.lt_succ_of_lt hlt)]
  exact Heap.get?_push_of_some _ q
end
end ML
set_option Elab.async false
set_option linter.all false
set_option maxRecDepth 100000
set_option maxHeartbeats 4000000
namespace ML
open PySem PySem.Spec PyProof.Rows L2
def topS (i : Nat) : Stmt := PySem.Challenge.pw_forkspan_k02_whole_what_is_a_program.main.body.getD i (.Pass ⟨0, 0, 0, 0⟩)
abbrev s_is_integer : Stmt := topS 8
abbrev s_is_value : Stmt := topS 9
abbrev s_is_word : Stmt := topS 10
abbrev s_is_name : Stmt := topS 11
abbrev s_is_one_of : Stmt := topS 19
abbrev s_begins_with_word : Stmt := topS 20
abbrev s_is_expression : Stmt := topS 21
abbrev s_is_set : Stmt := topS 22
abbrev s_is_statement : Stmt := topS 23
abbrev s_is_block : Stmt := topS 24
abbrev s_is_program : Stmt := topS 25
abbrev s_need_program : Stmt := topS 26
abbrev s_names_in_expression : Stmt := topS 27
abbrev s_names_in : Stmt := topS 28
abbrev s_words_of : Stmt := topS 29
abbrev s__law_draws : Stmt := topS 31
abbrev s__law_equal : Stmt := topS 32
abbrev s__law_pool : Stmt := topS 33
abbrev s__law_stream : Stmt := topS 34
abbrev s__law_expression : Stmt := topS 35
abbrev s__law_statement : Stmt := topS 36
abbrev s__law_block : Stmt := topS 37
abbrev s__law_turns : Stmt := topS 38
abbrev s__law_most : Stmt := topS 39
abbrev s__law_program : Stmt := topS 40
abbrev s__law_is_word : Stmt := topS 41
abbrev s__law_is_expression : Stmt := topS 42
abbrev s__law_is_compound : Stmt := topS 43
abbrev s__law_is_statement : Stmt := topS 44
abbrev s__law_is_block : Stmt := topS 45
abbrev s__law_names : Stmt := topS 46
abbrev s__law_words_of : Stmt := topS 47
abbrev s__law_count : Stmt := topS 48
abbrev s__law_part : Stmt := topS 49
abbrev s__law_put : Stmt := topS 50
abbrev s__law_new_part : Stmt := topS 51
abbrev s__law_told : Stmt := topS 52
abbrev s__law_has_list : Stmt := topS 53
abbrev s__law_is_right : Stmt := topS 54
abbrev s__law_compounds : Stmt := topS 55
abbrev s__law_nearly_right : Stmt := topS 56
abbrev s_law : Stmt := topS 57
/-! ### is_integer -/
theorem sc_is_integer : FnScope ["value"] ["value"] (defScope s_is_integer) := ⟨rfl, rfl, rfl, by decide +kernel, rfl, by decide +kernel, by decide +kernel⟩
def b_is_integer : S :=
  (sRet (mAnd (mUn (fun d => some (.bl (isK "int" d))) (mVar 0)) (mNot (mUn (fun d => some (.bl (isK "bool" d))) (mVar 0)))))
theorem ok_is_integer {P : Program} {w : World} {K : PySem.W.Frag} {mg : Str → Option Value} {base : Heap} {k : Nat} {f : Addr} {fd : FuncData} (B : Blt mg) (C : Cst K w mg) (T_is_integer : TopD K mg "is_integer" s_is_integer ["value"] f fd)
    : FnOk P w K mg base CX0 (k + 1) f fd ["value"] (spM K 1 (mRun 1 1 (b_is_integer ))) := by
  exact ok_def (own := []) T_is_integer.F sc_is_integer (by decide) fun cdv A outer s H E hr => ⟨_, (mb_one (ms_ret (me_and (me_isi rfl "int" B.isinstance B.int (me_var 0)) (me_one (me_not (me_isi rfl "bool" B.isinstance B.bool (me_var 0)))))))⟩
/-! ### is_value -/
theorem sc_is_value : FnScope ["value"] ["value"] (defScope s_is_value) := ⟨rfl, rfl, rfl, by decide +kernel, rfl, by decide +kernel, by decide +kernel⟩
def b_is_value (g_is_integer : List D → Option D) : S :=
  (sRet (mAnd (mCall g_is_integer (mCons (mVar 0) mNil)) (mChain gLe gLt (mC (.int 0)) (mVar 0) (mC (.int 1000003)))))
theorem ok_is_value {P : Program} {w : World} {K : PySem.W.Frag} {mg : Str → Option Value} {base : Heap} {k : Nat} {f : Addr} {fd : FuncData} {f_is_integer : Addr} {fd_is_integer : FuncData} {k_is_integer : Nat} {g_is_integer : List D → Option D} (B : Blt mg) (C : Cst K w mg) (T_is_value : TopD K mg "is_value" s_is_value ["value"] f fd)
    (T_is_integer : TopD K mg "is_integer" s_is_integer ["value"] f_is_integer fd_is_integer)
    (G_is_integer : FnOk P w K mg base CX0 k_is_integer f_is_integer fd_is_integer ["value"] (spM K 1 g_is_integer)) (h_is_integer : k_is_integer ≤ k)
    : FnOk P w K mg base CX0 (k + 1) f fd ["value"] (spM K 1 (mRun 1 1 (b_is_value g_is_integer))) := by
  obtain ⟨_, c_PRIME⟩ := C.prime
  exact ok_def (own := []) T_is_value.F sc_is_value (by decide) fun cdv A outer s H E hr => ⟨_, (mb_one (ms_ret (me_and (me_call G_is_integer (hr.mono h_is_integer) T_is_integer.g T_is_integer.F.kp T_is_integer.b (len_cons len_nil) (ma_cons ma_nil (me_var 0))) (me_one (me_clelt me_int (me_var 0) (me_glob (v := .int 1000003) rfl c_PRIME ⟨_, rfl⟩ (fun _ => .int _)))))))⟩
/-! ### is_word -/
theorem sc_is_word : FnScope ["value", "sign"] ["value"] (defScope s_is_word) := ⟨rfl, rfl, rfl, by decide +kernel, rfl, by decide +kernel, by decide +kernel⟩
def b_is_word : S :=
  (sSeq (sIf (mOr (mNot (mUn (fun d => some (.bl (isK "str" d))) (mVar 0))) (mNot (mChain gLe gLe (mC (.int 1)) (mCall gLen (mCons (mVar 0) mNil)) (mC (.int 8))))) (sRet (mC (.bl false))) sNext)
  (sRet (mCall gAll (mCons (mLc 1 (wStr (mVar 0)) (mC (.bl true)) (mOp (gIn false) (mVar 1) (mC (.str "abcdefghijklmnopqrstuvwxyz")))) mNil))))
theorem ok_is_word {P : Program} {w : World} {K : PySem.W.Frag} {mg : Str → Option Value} {base : Heap} {k : Nat} {f : Addr} {fd : FuncData} (B : Blt mg) (C : Cst K w mg) (T_is_word : TopD K mg "is_word" s_is_word ["value"] f fd)
    : FnOk P w K mg base CX0 (k + 1) f fd ["value"] (spM K 1 (mRun 1 2 (b_is_word ))) := by
  obtain ⟨_, c_MOST_LETTERS⟩ := C.mostL
  obtain ⟨_, c_LETTERS⟩ := C.letters
  exact ok_def (own := []) T_is_word.F sc_is_word (by decide) fun cdv A outer s H E hr => ⟨_, (mb_cons (ms_if (MW.mt (mw_or (mt_not (mt_val (me_isi rfl "str" B.isinstance B.str (me_var 0)))) (mw_or1 (mt_not (mt_clele me_int (me_len rfl B.len (ma_cons ma_nil (me_var 0))) (me_glob (v := .int 8) rfl c_MOST_LETTERS ⟨_, rfl⟩ (fun _ => .int _)))))))
 (mb_one (ms_ret me_bl))
 mb_nil)
 (mb_one (ms_ret (me_all rfl rfl B.all (ma_cons ma_nil (me_lc (x := "sign") (j := 1) rfl sc_is_word.nd (mi_str (me_var 0)) (blkOk_by (N := ["value", "sign"]) (sc := defScope s_is_word) (by decide +kernel)) (fun _ _ _ _ _ => pg_name (i := 1) sc_is_word.nd rfl (.inl rfl)) (fun _ _ _ _ _ => mts_nil) (fun _ _ _ _ _ => (me_cin rfl (hu_of hr) (me_var 1) (me_glob (v := .str "abcdefghijklmnopqrstuvwxyz") rfl c_LETTERS ⟨_, rfl⟩ (fun _ => .str _))))))))))⟩
/-! ### is_name -/
theorem sc_is_name : FnScope ["value"] ["value"] (defScope s_is_name) := ⟨rfl, rfl, rfl, by decide +kernel, rfl, by decide +kernel, by decide +kernel⟩
def b_is_name (g_is_word : List D → Option D) : S :=
  (sRet (mAnd (mCall g_is_word (mCons (mVar 0) mNil)) (mOp (gIn true) (mVar 0) (mC (.tup (noNames.map D.str))))))
theorem ok_is_name {P : Program} {w : World} {K : PySem.W.Frag} {mg : Str → Option Value} {base : Heap} {k : Nat} {f : Addr} {fd : FuncData} {f_is_word : Addr} {fd_is_word : FuncData} {k_is_word : Nat} {g_is_word : List D → Option D} (B : Blt mg) (C : Cst K w mg) (T_is_name : TopD K mg "is_name" s_is_name ["value"] f fd)
    (T_is_word : TopD K mg "is_word" s_is_word ["value"] f_is_word fd_is_word)
    (G_is_word : FnOk P w K mg base CX0 k_is_word f_is_word fd_is_word ["value"] (spM K 1 g_is_word)) (h_is_word : k_is_word ≤ k)
    : FnOk P w K mg base CX0 (k + 1) f fd ["value"] (spM K 1 (mRun 1 1 (b_is_name g_is_word))) := by
  obtain ⟨_, c_NO_NAMES, k_NO_NAMES⟩ := C.noN
  exact ok_def (own := []) T_is_name.F sc_is_name (by decide) fun cdv A outer s H E hr => ⟨_, (mb_one (ms_ret (me_and (me_call G_is_word (hr.mono h_is_word) T_is_word.g T_is_word.F.kp T_is_word.b (len_cons len_nil) (ma_cons ma_nil (me_var 0))) (me_one (me_cni rfl (hu_of hr) (me_var 0) (me_glob (v := .ref _) rfl c_NO_NAMES rfl k_NO_NAMES))))))⟩
end ML
set_option Elab.async false
set_option linter.all false
set_option maxRecDepth 100000
set_option maxHeartbeats 4000000
namespace ML
open PySem PySem.Spec PyProof.Rows L2
/-! ### is_one_of -/
theorem sc_is_one_of : FnScope ["value", "ops"] ["value", "ops"] (defScope s_is_one_of) := ⟨rfl, rfl, rfl, by decide +kernel, rfl, by decide +kernel, by decide +kernel⟩
def b_is_one_of : S :=
  (sRet (mAnd (mUn (fun d => some (.bl (isK "str" d))) (mVar 0)) (mOp (gIn false) (mVar 0) (mVar 1))))
theorem ok_is_one_of {P : Program} {w : World} {K : PySem.W.Frag} {mg : Str → Option Value} {base : Heap} {k : Nat} {f : Addr} {fd : FuncData} (B : Blt mg) (C : Cst K w mg) (T_is_one_of : TopD K mg "is_one_of" s_is_one_of ["value", "ops"] f fd)
    : FnOk P w K mg base CX0 (k + 1) f fd ["value", "ops"] (spM K 2 (mRun 2 2 (b_is_one_of ))) := by
  exact ok_def (own := []) T_is_one_of.F sc_is_one_of (by decide) fun cdv A outer s H E hr => ⟨_, (mb_one (ms_ret (me_and (me_isi rfl "str" B.isinstance B.str (me_var 0)) (me_one (me_cin rfl (hu_of hr) (me_var 0) (me_var 1))))))⟩
/-! ### begins_with_word -/
theorem sc_begins_with_word : FnScope ["value"] ["value"] (defScope s_begins_with_word) := ⟨rfl, rfl, rfl, by decide +kernel, rfl, by decide +kernel, by decide +kernel⟩
def b_begins_with_word : S :=
  (sRet (mAnd (mUn (fun d => some (.bl (isK "tuple" d))) (mVar 0)) (mAnd (mOp gGt (mCall gLen (mCons (mVar 0) mNil)) (mC (.int 0))) (mUn (fun d => some (.bl (isK "str" d))) (mOp gIx (mVar 0) (mC (.int 0)))))))
theorem ok_begins_with_word {P : Program} {w : World} {K : PySem.W.Frag} {mg : Str → Option Value} {base : Heap} {k : Nat} {f : Addr} {fd : FuncData} (B : Blt mg) (C : Cst K w mg) (T_begins_with_word : TopD K mg "begins_with_word" s_begins_with_word ["value"] f fd)
    : FnOk P w K mg base CX0 (k + 1) f fd ["value"] (spM K 1 (mRun 1 1 (b_begins_with_word ))) := by
  exact ok_def (own := []) T_begins_with_word.F sc_begins_with_word (by decide) fun cdv A outer s H E hr => ⟨_, (mb_one (ms_ret (me_and (me_isi rfl "tuple" B.isinstance B.tuple (me_var 0)) (me_and (me_cgt (me_len rfl B.len (ma_cons ma_nil (me_var 0))) me_int) (me_one (me_isi rfl "str" B.isinstance B.str (me_ix rfl (me_var 0) me_int)))))))⟩
/-! ### is_expression -/
theorem sc_is_expression : FnScope ["value", "local_names", "part"] ["value", "local_names"] (defScope s_is_expression) := ⟨rfl, rfl, rfl, by decide +kernel, rfl, by decide +kernel, by decide +kernel⟩
def b_is_expression (g_begins_with_word g_is_value g_is_name g_is_one_of g_is_expression : List D → Option D) : S :=
  (sSeq (sIf (mOr (mNot (mCall g_begins_with_word (mCons (mVar 0) mNil))) (mOr (mUn (gNotTab tblP) (mOp gIx (mVar 0) (mC (.int 0)))) (mOp gNe (mCall gLen (mCons (mVar 0) mNil)) (mUn (gTab tblP) (mOp gIx (mVar 0) (mC (.int 0))))))) (sRet (mC (.bl false))) sNext)
  (sSeq (sIf (mOp gEq (mOp gIx (mVar 0) (mC (.int 0))) (mC (.str "number"))) (sRet (mCall g_is_value (mCons (mOp gIx (mVar 0) (mC (.int 1))) mNil))) sNext)
  (sSeq (sIf (mOp gEq (mOp gIx (mVar 0) (mC (.int 0))) (mC (.str "word"))) (sRet (mCall g_is_name (mCons (mOp gIx (mVar 0) (mC (.int 1))) mNil))) sNext)
  (sSeq (sIf (mOp gEq (mOp gIx (mVar 0) (mC (.int 0))) (mC (.str "local"))) (sRet (mAnd (mCall g_is_name (mCons (mOp gIx (mVar 0) (mC (.int 1))) mNil)) (mOp (gIn false) (mOp gIx (mVar 0) (mC (.int 1))) (mVar 1)))) sNext)
  (sRet (mAnd (mCall g_is_one_of (mCons (mOp gIx (mVar 0) (mC (.int 1))) (mCons (mC (.tup (opsA.map D.str))) mNil))) (mCall gAll (mCons (mLc 2 (wTup (mUn (gSl (some 2) none) (mVar 0))) (mC (.bl true)) (mCall g_is_expression (mCons (mVar 2) (mCons (mVar 1) mNil)))) mNil))))))))
theorem ok_is_expression {P : Program} {w : World} {K : PySem.W.Frag} {mg : Str → Option Value} {base : Heap} {k : Nat} {f_begins_with_word : Addr} {fd_begins_with_word : FuncData} {k_begins_with_word : Nat} {g_begins_with_word : List D → Option D} {f_is_value : Addr} {fd_is_value : FuncData} {k_is_value : Nat} {g_is_value : List D → Option D} {f_is_name : Addr} {fd_is_name : FuncData} {k_is_name : Nat} {g_is_name : List D → Option D} {f_is_one_of : Addr} {fd_is_one_of : FuncData} {k_is_one_of : Nat} {g_is_one_of : List D → Option D} {f_is_expression : Addr} {fd_is_expression : FuncData} {k_is_expression : Nat} {g_is_expression : List D → Option D} (B : Blt mg) (C : Cst K w mg) (T_is_expression : TopD K mg "is_expression" s_is_expression ["value", "local_names"] f_is_expression fd_is_expression)
    (T_begins_with_word : TopD K mg "begins_with_word" s_begins_with_word ["value"] f_begins_with_word fd_begins_with_word)
    (G_begins_with_word : FnOk P w K mg base CX0 k_begins_with_word f_begins_with_word fd_begins_with_word ["value"] (spM K 1 g_begins_with_word)) (h_begins_with_word : k_begins_with_word ≤ k)
    (T_is_value : TopD K mg "is_value" s_is_value ["value"] f_is_value fd_is_value)
    (G_is_value : FnOk P w K mg base CX0 k_is_value f_is_value fd_is_value ["value"] (spM K 1 g_is_value)) (h_is_value : k_is_value ≤ k)
    (T_is_name : TopD K mg "is_name" s_is_name ["value"] f_is_name fd_is_name)
    (G_is_name : FnOk P w K mg base CX0 k_is_name f_is_name fd_is_name ["value"] (spM K 1 g_is_name)) (h_is_name : k_is_name ≤ k)
    (T_is_one_of : TopD K mg "is_one_of" s_is_one_of ["value", "ops"] f_is_one_of fd_is_one_of)
    (G_is_one_of : FnOk P w K mg base CX0 k_is_one_of f_is_one_of fd_is_one_of ["value", "ops"] (spM K 2 g_is_one_of)) (h_is_one_of : k_is_one_of ≤ k)
    (G_is_expression : FnOk P w K mg base CX0 k_is_expression f_is_expression fd_is_expression ["value", "local_names"] (spM K 2 g_is_expression)) (h_is_expression : k_is_expression ≤ k)
    : FnOk P w K mg base CX0 (k + 1) f_is_expression fd_is_expression ["value", "local_names"] (spM K 2 (mRun 2 3 (b_is_expression g_begins_with_word g_is_value g_is_name g_is_one_of g_is_expression))) := by
  obtain ⟨_, c_PARTS, k_PARTS⟩ := C.parts
  obtain ⟨_, c_OPS, k_OPS⟩ := C.ops
  exact ok_def (own := []) T_is_expression.F sc_is_expression (by decide) fun cdv A outer s H E hr => ⟨_, (mb_cons (ms_if (MW.mt (mw_or (mt_not (mt_val (me_call G_begins_with_word (hr.mono h_begins_with_word) T_begins_with_word.g T_begins_with_word.F.kp T_begins_with_word.b (len_cons len_nil) (ma_cons ma_nil (me_var 0))))) (mw_or (mt_notTab rfl k_PARTS c_PARTS (me_ix rfl (me_var 0) me_int)) (mw_or1 (mt_cne (me_len rfl B.len (ma_cons ma_nil (me_var 0))) (me_tab rfl rfl k_PARTS c_PARTS (me_ix rfl (me_var 0) me_int)))))))
 (mb_one (ms_ret me_bl))
 mb_nil)
 (mb_cons (ms_if (mt_ceq (me_ix rfl (me_var 0) me_int) me_str)
 (mb_one (ms_ret (me_call G_is_value (hr.mono h_is_value) T_is_value.g T_is_value.F.kp T_is_value.b (len_cons len_nil) (ma_cons ma_nil (me_ix rfl (me_var 0) me_int)))))
 mb_nil)
 (mb_cons (ms_if (mt_ceq (me_ix rfl (me_var 0) me_int) me_str)
 (mb_one (ms_ret (me_call G_is_name (hr.mono h_is_name) T_is_name.g T_is_name.F.kp T_is_name.b (len_cons len_nil) (ma_cons ma_nil (me_ix rfl (me_var 0) me_int)))))
 mb_nil)
 (mb_cons (ms_if (mt_ceq (me_ix rfl (me_var 0) me_int) me_str)
 (mb_one (ms_ret (me_and (me_call G_is_name (hr.mono h_is_name) T_is_name.g T_is_name.F.kp T_is_name.b (len_cons len_nil) (ma_cons ma_nil (me_ix rfl (me_var 0) me_int))) (me_one (me_cin rfl (hu_of hr) (me_ix rfl (me_var 0) me_int) (me_var 1))))))
 mb_nil)
 (mb_one (ms_ret (me_and (me_call G_is_one_of (hr.mono h_is_one_of) T_is_one_of.g T_is_one_of.F.kp T_is_one_of.b (len_cons (len_cons len_nil)) (ma_cons (ma_cons ma_nil (me_glob (v := .ref _) rfl c_OPS rfl k_OPS)) (me_ix rfl (me_var 0) me_int))) (me_one (me_all rfl rfl B.all (ma_cons ma_nil (me_lc (x := "part") (j := 2) rfl sc_is_expression.nd (mi_tup rfl (me_sl rfl (me_var 0) mo_int mo_none)) (blkOk_by (N := ["value", "local_names", "part"]) (sc := defScope s_is_expression) (by decide +kernel)) (fun _ _ _ _ _ => pg_name (i := 2) sc_is_expression.nd rfl (.inl rfl)) (fun _ _ _ _ _ => mts_nil) (fun _ _ _ _ _ => (me_call G_is_expression (hr.mono h_is_expression) T_is_expression.g T_is_expression.F.kp T_is_expression.b (len_cons (len_cons len_nil)) (ma_cons (ma_cons ma_nil (me_var 1)) (me_var 2)))))))))))))))⟩
/-! ### is_set -/
theorem sc_is_set : FnScope ["value", "local_names"] ["value", "local_names"] (defScope s_is_set) := ⟨rfl, rfl, rfl, by decide +kernel, rfl, by decide +kernel, by decide +kernel⟩
def b_is_set (g_is_name g_is_expression g_is_one_of : List D → Option D) : S :=
  (sSeq (sIf (mNot (mCall g_is_name (mCons (mOp gIx (mVar 0) (mC (.int 1))) mNil))) (sRet (mC (.bl false))) sNext)
  (sSeq (sIf (mOp gEq (mOp gIx (mVar 0) (mC (.int 0))) (mC (.str "set"))) (sRet (mCall g_is_expression (mCons (mOp gIx (mVar 0) (mC (.int 2))) (mCons (mVar 1) mNil)))) sNext)
  (sSeq (sIf (mOp gEq (mOp gIx (mVar 0) (mC (.int 0))) (mC (.str "add"))) (sRet (mAnd (mCall g_is_one_of (mCons (mOp gIx (mVar 0) (mC (.int 2))) (mCons (mC (.tup (opsB.map D.str))) mNil))) (mCall g_is_expression (mCons (mOp gIx (mVar 0) (mC (.int 3))) (mCons (mVar 1) mNil))))) sNext)
  (sSeq (sIf (mOr (mNot (mCall g_is_one_of (mCons (mOp gIx (mVar 0) (mC (.int 2))) (mCons (mC (.tup (opsC.map D.str))) mNil)))) (mNot (mCall g_is_name (mCons (mOp gIx (mVar 0) (mC (.int 3))) mNil)))) (sRet (mC (.bl false))) sNext)
  (sRet (mAnd (mCall g_is_expression (mCons (mOp gIx (mVar 0) (mC (.int 4))) (mCons (mVar 1) mNil))) (mCall g_is_expression (mCons (mOp gIx (mVar 0) (mC (.int 5))) (mCons (mOp gAdd (mVar 1) (mLst (mCons (mOp gIx (mVar 0) (mC (.int 3))) mNil))) mNil)))))))))
theorem ok_is_set {P : Program} {w : World} {K : PySem.W.Frag} {mg : Str → Option Value} {base : Heap} {k : Nat} {f : Addr} {fd : FuncData} {f_is_name : Addr} {fd_is_name : FuncData} {k_is_name : Nat} {g_is_name : List D → Option D} {f_is_expression : Addr} {fd_is_expression : FuncData} {k_is_expression : Nat} {g_is_expression : List D → Option D} {f_is_one_of : Addr} {fd_is_one_of : FuncData} {k_is_one_of : Nat} {g_is_one_of : List D → Option D} (B : Blt mg) (C : Cst K w mg) (T_is_set : TopD K mg "is_set" s_is_set ["value", "local_names"] f fd)
    (T_is_name : TopD K mg "is_name" s_is_name ["value"] f_is_name fd_is_name)
    (G_is_name : FnOk P w K mg base CX0 k_is_name f_is_name fd_is_name ["value"] (spM K 1 g_is_name)) (h_is_name : k_is_name ≤ k)
    (T_is_expression : TopD K mg "is_expression" s_is_expression ["value", "local_names"] f_is_expression fd_is_expression)
    (G_is_expression : FnOk P w K mg base CX0 k_is_expression f_is_expression fd_is_expression ["value", "local_names"] (spM K 2 g_is_expression)) (h_is_expression : k_is_expression ≤ k)
    (T_is_one_of : TopD K mg "is_one_of" s_is_one_of ["value", "ops"] f_is_one_of fd_is_one_of)
    (G_is_one_of : FnOk P w K mg base CX0 k_is_one_of f_is_one_of fd_is_one_of ["value", "ops"] (spM K 2 g_is_one_of)) (h_is_one_of : k_is_one_of ≤ k)
    : FnOk P w K mg base CX0 (k + 1) f fd ["value", "local_names"] (spM K 2 (mRun 2 2 (b_is_set g_is_name g_is_expression g_is_one_of))) := by
  obtain ⟨_, c_ADD_OPS, k_ADD_OPS⟩ := C.addOps
  obtain ⟨_, c_FOLD_OPS, k_FOLD_OPS⟩ := C.foldOps
  exact ok_def (own := []) T_is_set.F sc_is_set (by decide) fun cdv A outer s H E hr => ⟨_, (mb_cons (ms_if (mt_not (mt_val (me_call G_is_name (hr.mono h_is_name) T_is_name.g T_is_name.F.kp T_is_name.b (len_cons len_nil) (ma_cons ma_nil (me_ix rfl (me_var 0) me_int)))))
 (mb_one (ms_ret me_bl))
 mb_nil)
 (mb_cons (ms_if (mt_ceq (me_ix rfl (me_var 0) me_int) me_str)
 (mb_one (ms_ret (me_call G_is_expression (hr.mono h_is_expression) T_is_expression.g T_is_expression.F.kp T_is_expression.b (len_cons (len_cons len_nil)) (ma_cons (ma_cons ma_nil (me_var 1)) (me_ix rfl (me_var 0) me_int)))))
 mb_nil)
 (mb_cons (ms_if (mt_ceq (me_ix rfl (me_var 0) me_int) me_str)
 (mb_one (ms_ret (me_and (me_call G_is_one_of (hr.mono h_is_one_of) T_is_one_of.g T_is_one_of.F.kp T_is_one_of.b (len_cons (len_cons len_nil)) (ma_cons (ma_cons ma_nil (me_glob (v := .ref _) rfl c_ADD_OPS rfl k_ADD_OPS)) (me_ix rfl (me_var 0) me_int))) (me_one (me_call G_is_expression (hr.mono h_is_expression) T_is_expression.g T_is_expression.F.kp T_is_expression.b (len_cons (len_cons len_nil)) (ma_cons (ma_cons ma_nil (me_var 1)) (me_ix rfl (me_var 0) me_int)))))))
 mb_nil)
 (mb_cons (ms_if (MW.mt (mw_or (mt_not (mt_val (me_call G_is_one_of (hr.mono h_is_one_of) T_is_one_of.g T_is_one_of.F.kp T_is_one_of.b (len_cons (len_cons len_nil)) (ma_cons (ma_cons ma_nil (me_glob (v := .ref _) rfl c_FOLD_OPS rfl k_FOLD_OPS)) (me_ix rfl (me_var 0) me_int))))) (mw_or1 (mt_not (mt_val (me_call G_is_name (hr.mono h_is_name) T_is_name.g T_is_name.F.kp T_is_name.b (len_cons len_nil) (ma_cons ma_nil (me_ix rfl (me_var 0) me_int))))))))
 (mb_one (ms_ret me_bl))
 mb_nil)
 (mb_one (ms_ret (me_and (me_call G_is_expression (hr.mono h_is_expression) T_is_expression.g T_is_expression.F.kp T_is_expression.b (len_cons (len_cons len_nil)) (ma_cons (ma_cons ma_nil (me_var 1)) (me_ix rfl (me_var 0) me_int))) (me_one (me_call G_is_expression (hr.mono h_is_expression) T_is_expression.g T_is_expression.F.kp T_is_expression.b (len_cons (len_cons len_nil)) (ma_cons (ma_cons ma_nil (me_add rfl (me_var 1) (me_lst (ma_cons ma_nil (me_ix rfl (me_var 0) me_int)) (len_cons len_nil)))) (me_ix rfl (me_var 0) me_int)))))))))))⟩
/-! ### is_statement -/
theorem sc_is_statement : FnScope ["value", "local_names", "tickets", "block", "b"] ["value", "local_names", "tickets"] (defScope s_is_statement) := ⟨rfl, rfl, rfl, by decide +kernel, rfl, by decide +kernel, by decide +kernel⟩
def b_is_statement (g_begins_with_word g_is_set g_is_expression g_is_block g_is_name : List D → Option D) : S :=
  (sSeq (sIf (mOr (mNot (mCall g_begins_with_word (mCons (mVar 0) mNil))) (mOr (mUn (gNotTab tblS) (mOp gIx (mVar 0) (mC (.int 0)))) (mOp gNe (mCall gLen (mCons (mVar 0) mNil)) (mUn (gTab tblS) (mOp gIx (mVar 0) (mC (.int 0))))))) (sRet (mC (.bl false))) sNext)
  (sSeq (sIf (mOp (gIn false) (mOp gIx (mVar 0) (mC (.int 0))) (mTup (mCons (mC (.str "set")) (mCons (mC (.str "add")) (mCons (mC (.str "fold")) mNil))))) (sRet (mCall g_is_set (mCons (mVar 0) (mCons (mVar 1) mNil)))) sNext)
  (sSeq (sIf (mOp gEq (mOp gIx (mVar 0) (mC (.int 0))) (mC (.str "if"))) (sRet (mAnd (mCall g_is_expression (mCons (mOp gIx (mVar 0) (mC (.int 1))) (mCons (mVar 1) mNil))) (mCall gAll (mCons (mLc 4 (wTup (mUn (gSl (some 2) none) (mVar 0))) (mC (.bl true)) (mCall g_is_block (mCons (mVar 4) (mCons (mVar 1) (mCons (mVar 2) mNil))))) mNil)))) sNext)
  (sSeq (sIf (mOp gEq (mOp gIx (mVar 0) (mC (.int 0))) (mC (.str "fork"))) (sSeq (sIf (mOr (mNot (mUn (fun d => some (.bl (isK "tuple" d))) (mOp gIx (mVar 0) (mC (.int 1))))) (mNot (mChain gLe gLe (mC (.int 1)) (mCall gLen (mCons (mOp gIx (mVar 0) (mC (.int 1))) mNil)) (mC (.int 4))))) (sRet (mC (.bl false))) sNext)
  (sRet (mCall gAll (mCons (mLc 3 (wTup (mOp gIx (mVar 0) (mC (.int 1)))) (mC (.bl true)) (mCall g_is_block (mCons (mVar 3) (mCons (mVar 1) (mCons (mVar 2) mNil))))) mNil)))) sNext)
  (sSeq (sIf (mNot (mCall g_is_name (mCons (mOp gIx (mVar 0) (mC (.int 1))) mNil))) (sRet (mC (.bl false))) sNext)
  (sSeq (sIf (mOp gEq (mOp gIx (mVar 0) (mC (.int 0))) (mC (.str "each"))) (sSeq (sIf (mNot (mCall g_is_expression (mCons (mOp gIx (mVar 0) (mC (.int 2))) (mCons (mVar 1) mNil)))) (sRet (mC (.bl false))) sNext)
  (sRet (mCall g_is_block (mCons (mOp gIx (mVar 0) (mC (.int 3))) (mCons (mOp gAdd (mVar 1) (mLst (mCons (mOp gIx (mVar 0) (mC (.int 1))) mNil))) (mCons (mVar 2) mNil)))))) sNext)
  (sSeq (sIf (mOp gEq (mOp gIx (mVar 0) (mC (.int 0))) (mC (.str "start"))) (sRet (mCall g_is_block (mCons (mOp gIx (mVar 0) (mC (.int 2))) (mCons (mVar 1) (mCons (mVar 2) mNil))))) sNext)
  (sRet (mOp (gIn false) (mOp gIx (mVar 0) (mC (.int 1))) (mVar 2))))))))))
theorem ok_is_statement {P : Program} {w : World} {K : PySem.W.Frag} {mg : Str → Option Value} {base : Heap} {k : Nat} {f : Addr} {fd : FuncData} {f_begins_with_word : Addr} {fd_begins_with_word : FuncData} {k_begins_with_word : Nat} {g_begins_with_word : List D → Option D} {f_is_set : Addr} {fd_is_set : FuncData} {k_is_set : Nat} {g_is_set : List D → Option D} {f_is_expression : Addr} {fd_is_expression : FuncData} {k_is_expression : Nat} {g_is_expression : List D → Option D} {f_is_block : Addr} {fd_is_block : FuncData} {k_is_block : Nat} {g_is_block : List D → Option D} {f_is_name : Addr} {fd_is_name : FuncData} {k_is_name : Nat} {g_is_name : List D → Option D} (B : Blt mg) (C : Cst K w mg) (T_is_statement : TopD K mg "is_statement" s_is_statement ["value", "local_names", "tickets"] f fd)
    (T_begins_with_word : TopD K mg "begins_with_word" s_begins_with_word ["value"] f_begins_with_word fd_begins_with_word)
    (G_begins_with_word : FnOk P w K mg base CX0 k_begins_with_word f_begins_with_word fd_begins_with_word ["value"] (spM K 1 g_begins_with_word)) (h_begins_with_word : k_begins_with_word ≤ k)
    (T_is_set : TopD K mg "is_set" s_is_set ["value", "local_names"] f_is_set fd_is_set)
    (G_is_set : FnOk P w K mg base CX0 k_is_set f_is_set fd_is_set ["value", "local_names"] (spM K 2 g_is_set)) (h_is_set : k_is_set ≤ k)
    (T_is_expression : TopD K mg "is_expression" s_is_expression ["value", "local_names"] f_is_expression fd_is_expression)
    (G_is_expression : FnOk P w K mg base CX0 k_is_expression f_is_expression fd_is_expression ["value", "local_names"] (spM K 2 g_is_expression)) (h_is_expression : k_is_expression ≤ k)
    (T_is_block : TopD K mg "is_block" s_is_block ["value", "local_names", "tickets"] f_is_block fd_is_block)
    (G_is_block : FnOk P w K mg base CX0 k_is_block f_is_block fd_is_block ["value", "local_names", "tickets"] (spM K 3 g_is_block)) (h_is_block : k_is_block ≤ k)
    (T_is_name : TopD K mg "is_name" s_is_name ["value"] f_is_name fd_is_name)
    (G_is_name : FnOk P w K mg base CX0 k_is_name f_is_name fd_is_name ["value"] (spM K 1 g_is_name)) (h_is_name : k_is_name ≤ k)
    : FnOk P w K mg base CX0 (k + 1) f fd ["value", "local_names", "tickets"] (spM K 3 (mRun 3 5 (b_is_statement g_begins_with_word g_is_set g_is_expression g_is_block g_is_name))) := by
  obtain ⟨_, c_SIZES, k_SIZES⟩ := C.sizes
  obtain ⟨_, c_MOST_BLOCKS⟩ := C.mostB
  exact ok_def (own := []) T_is_statement.F sc_is_statement (by decide) fun cdv A outer s H E hr => ⟨_, (mb_cons (ms_if (MW.mt (mw_or (mt_not (mt_val (me_call G_begins_with_word (hr.mono h_begins_with_word) T_begins_with_word.g T_begins_with_word.F.kp T_begins_with_word.b (len_cons len_nil) (ma_cons ma_nil (me_var 0))))) (mw_or (mt_notTab rfl k_SIZES c_SIZES (me_ix rfl (me_var 0) me_int)) (mw_or1 (mt_cne (me_len rfl B.len (ma_cons ma_nil (me_var 0))) (me_tab rfl rfl k_SIZES c_SIZES (me_ix rfl (me_var 0) me_int)))))))
 (mb_one (ms_ret me_bl))
 mb_nil)
 (mb_cons (ms_if (mt_cin rfl (hu_of hr) (me_ix rfl (me_var 0) me_int) (me_tup (ma_cons (ma_cons (ma_cons ma_nil me_str) me_str) me_str) (len_cons (len_cons (len_cons len_nil)))))
 (mb_one (ms_ret (me_call G_is_set (hr.mono h_is_set) T_is_set.g T_is_set.F.kp T_is_set.b (len_cons (len_cons len_nil)) (ma_cons (ma_cons ma_nil (me_var 1)) (me_var 0)))))
 mb_nil)
 (mb_cons (ms_if (mt_ceq (me_ix rfl (me_var 0) me_int) me_str)
 (mb_one (ms_ret (me_and (me_call G_is_expression (hr.mono h_is_expression) T_is_expression.g T_is_expression.F.kp T_is_expression.b (len_cons (len_cons len_nil)) (ma_cons (ma_cons ma_nil (me_var 1)) (me_ix rfl (me_var 0) me_int))) (me_one (me_all rfl rfl B.all (ma_cons ma_nil (me_lc (x := "b") (j := 4) rfl sc_is_statement.nd (mi_tup rfl (me_sl rfl (me_var 0) mo_int mo_none)) (blkOk_by (N := ["value", "local_names", "tickets", "block", "b"]) (sc := defScope s_is_statement) (by decide +kernel)) (fun _ _ _ _ _ => pg_name (i := 4) sc_is_statement.nd rfl (.inl rfl)) (fun _ _ _ _ _ => mts_nil) (fun _ _ _ _ _ => (me_call G_is_block (hr.mono h_is_block) T_is_block.g T_is_block.F.kp T_is_block.b (len_cons (len_cons (len_cons len_nil))) (ma_cons (ma_cons (ma_cons ma_nil (me_var 2)) (me_var 1)) (me_var 4)))))))))))
 mb_nil)
 (mb_cons (ms_if (mt_ceq (me_ix rfl (me_var 0) me_int) me_str)
 (mb_cons (ms_if (MW.mt (mw_or (mt_not (mt_val (me_isi rfl "tuple" B.isinstance B.tuple (me_ix rfl (me_var 0) me_int)))) (mw_or1 (mt_not (mt_clele me_int (me_len rfl B.len (ma_cons ma_nil (me_ix rfl (me_var 0) me_int))) (me_glob (v := .int 4) rfl c_MOST_BLOCKS ⟨_, rfl⟩ (fun _ => .int _)))))))
 (mb_one (ms_ret me_bl))
 mb_nil)
 (mb_one (ms_ret (me_all rfl rfl B.all (ma_cons ma_nil (me_lc (x := "block") (j := 3) rfl sc_is_statement.nd (mi_tup rfl (me_ix rfl (me_var 0) me_int)) (blkOk_by (N := ["value", "local_names", "tickets", "block", "b"]) (sc := defScope s_is_statement) (by decide +kernel)) (fun _ _ _ _ _ => pg_name (i := 3) sc_is_statement.nd rfl (.inl rfl)) (fun _ _ _ _ _ => mts_nil) (fun _ _ _ _ _ => (me_call G_is_block (hr.mono h_is_block) T_is_block.g T_is_block.F.kp T_is_block.b (len_cons (len_cons (len_cons len_nil))) (ma_cons (ma_cons (ma_cons ma_nil (me_var 2)) (me_var 1)) (me_var 3))))))))))
 mb_nil)
 (mb_cons (ms_if (mt_not (mt_val (me_call G_is_name (hr.mono h_is_name) T_is_name.g T_is_name.F.kp T_is_name.b (len_cons len_nil) (ma_cons ma_nil (me_ix rfl (me_var 0) me_int)))))
 (mb_one (ms_ret me_bl))
 mb_nil)
 (mb_cons (ms_if (mt_ceq (me_ix rfl (me_var 0) me_int) me_str)
 (mb_cons (ms_if (mt_not (mt_val (me_call G_is_expression (hr.mono h_is_expression) T_is_expression.g T_is_expression.F.kp T_is_expression.b (len_cons (len_cons len_nil)) (ma_cons (ma_cons ma_nil (me_var 1)) (me_ix rfl (me_var 0) me_int)))))
 (mb_one (ms_ret me_bl))
 mb_nil)
 (mb_one (ms_ret (me_call G_is_block (hr.mono h_is_block) T_is_block.g T_is_block.F.kp T_is_block.b (len_cons (len_cons (len_cons len_nil))) (ma_cons (ma_cons (ma_cons ma_nil (me_var 2)) (me_add rfl (me_var 1) (me_lst (ma_cons ma_nil (me_ix rfl (me_var 0) me_int)) (len_cons len_nil)))) (me_ix rfl (me_var 0) me_int))))))
 mb_nil)
 (mb_cons (ms_if (mt_ceq (me_ix rfl (me_var 0) me_int) me_str)
 (mb_one (ms_ret (me_call G_is_block (hr.mono h_is_block) T_is_block.g T_is_block.F.kp T_is_block.b (len_cons (len_cons (len_cons len_nil))) (ma_cons (ma_cons (ma_cons ma_nil (me_var 2)) (me_var 1)) (me_ix rfl (me_var 0) me_int)))))
 mb_nil)
 (mb_one (ms_ret (me_cin rfl (hu_of hr) (me_ix rfl (me_var 0) me_int) (me_var 2)))))))))))⟩
/-! ### is_block -/
theorem sc_is_block : FnScope ["value", "local_names", "tickets", "known", "statement"] ["value", "local_names", "tickets"] (defScope s_is_block) := ⟨rfl, rfl, rfl, by decide +kernel, rfl, by decide +kernel, by decide +kernel⟩
def b_is_block (g_is_statement : List D → Option D) : S :=
  (sSeq (sIf (mNot (mUn (fun d => some (.bl (isK "tuple" d))) (mVar 0))) (sRet (mC (.bl false))) sNext)
  (sSeq (sOwn [3] 3 (mListOf (mCons (mVar 2) mNil)))
  (sSeq (sFor [3] 4 (wTup (mVar 0)) (sSeq (sIf (mNot (mCall g_is_statement (mCons (mVar 4) (mCons (mVar 1) (mCons (mVar 3) mNil))))) (sRet (mC (.bl false))) sNext)
  (sIf (mOp gEq (mOp gIx (mVar 4) (mC (.int 0))) (mC (.str "start"))) (sApp [3] 3 (mOp gIx (mVar 4) (mC (.int 1)))) sNext)))
  (sRet (mC (.bl true))))))
theorem ok_is_block {P : Program} {w : World} {K : PySem.W.Frag} {mg : Str → Option Value} {base : Heap} {k : Nat} {f : Addr} {fd : FuncData} {f_is_statement : Addr} {fd_is_statement : FuncData} {k_is_statement : Nat} {g_is_statement : List D → Option D} (B : Blt mg) (C : Cst K w mg) (T_is_block : TopD K mg "is_block" s_is_block ["value", "local_names", "tickets"] f fd)
    (T_is_statement : TopD K mg "is_statement" s_is_statement ["value", "local_names", "tickets"] f_is_statement fd_is_statement)
    (G_is_statement : FnOk P w K mg base CX0 k_is_statement f_is_statement fd_is_statement ["value", "local_names", "tickets"] (spM K 3 g_is_statement)) (h_is_statement : k_is_statement ≤ k)
    : FnOk P w K mg base CX0 (k + 1) f fd ["value", "local_names", "tickets"] (spM K 3 (mRun 3 5 (b_is_block g_is_statement))) := by
  exact ok_def (own := [3]) T_is_block.F sc_is_block (by decide) fun cdv A outer s H E hr => ⟨_, (mb_cons (ms_if (mt_not (mt_val (me_isi rfl "tuple" B.isinstance B.tuple (me_var 0))))
 (mb_one (ms_ret me_bl))
 mb_nil)
 (mb_cons (ms_own (i := 3) sc_is_block.nd (ml_list rfl B.list (ma_cons ma_nil (me_var 2))))
 (mb_cons (ms_for (i := 4) PassesOwn.never rfl sc_is_block.nd (mi_tup rfl (me_var 0))
 (mb_cons (ms_if (mt_not (mt_val (me_call G_is_statement (hr.mono h_is_statement) T_is_statement.g T_is_statement.F.kp T_is_statement.b (len_cons (len_cons (len_cons len_nil))) (ma_cons (ma_cons (ma_cons ma_nil (me_var 3)) (me_var 1)) (me_var 4)))))
 (mb_one (ms_ret me_bl))
 mb_nil)
 (mb_one (ms_if (mt_ceq (me_ix rfl (me_var 4) me_int) me_str)
 (mb_one (ms_app rfl 3 (me_ix rfl (me_var 4) me_int)))
 mb_nil))))
 (mb_one (ms_ret me_bl)))))⟩
/-! ### is_program -/
theorem sc_is_program : FnScope ["value"] ["value"] (defScope s_is_program) := ⟨rfl, rfl, rfl, by decide +kernel, rfl, by decide +kernel, by decide +kernel⟩
def b_is_program (g_is_block : List D → Option D) : S :=
  (sRet (mCall g_is_block (mCons (mVar 0) (mCons (mLst mNil) (mCons (mLst mNil) mNil)))))
theorem ok_is_program {P : Program} {w : World} {K : PySem.W.Frag} {mg : Str → Option Value} {base : Heap} {k : Nat} {f : Addr} {fd : FuncData} {f_is_block : Addr} {fd_is_block : FuncData} {k_is_block : Nat} {g_is_block : List D → Option D} (B : Blt mg) (C : Cst K w mg) (T_is_program : TopD K mg "is_program" s_is_program ["value"] f fd)
    (T_is_block : TopD K mg "is_block" s_is_block ["value", "local_names", "tickets"] f_is_block fd_is_block)
    (G_is_block : FnOk P w K mg base CX0 k_is_block f_is_block fd_is_block ["value", "local_names", "tickets"] (spM K 3 g_is_block)) (h_is_block : k_is_block ≤ k)
    : FnOk P w K mg base CX0 (k + 1) f fd ["value"] (spM K 1 (mRun 1 1 (b_is_program g_is_block))) := by
  exact ok_def (own := []) T_is_program.F sc_is_program (by decide) fun cdv A outer s H E hr => ⟨_, (mb_one (ms_ret (me_call G_is_block (hr.mono h_is_block) T_is_block.g T_is_block.F.kp T_is_block.b (len_cons (len_cons (len_cons len_nil))) (ma_cons (ma_cons (ma_cons ma_nil (me_lst ma_nil len_nil)) (me_lst ma_nil len_nil)) (me_var 0)))))⟩
end ML
set_option Elab.async false
set_option linter.all false
set_option maxRecDepth 100000
set_option maxHeartbeats 4000000
namespace ML
open PySem PySem.Spec PyProof.Rows L2
/-! ### names_in_expression -/
theorem sc_names_in_expression : FnScope ["expression"] ["expression"] (defScope s_names_in_expression) := ⟨rfl, rfl, rfl, by decide +kernel, rfl, by decide +kernel, by decide +kernel⟩
def b_names_in_expression (g_names_in_expression : List D → Option D) : S :=
  (sSeq (sIf (mOp gEq (mOp gIx (mVar 0) (mC (.int 0))) (mC (.str "word"))) (sRet (mLst (mCons (mOp gIx (mVar 0) (mC (.int 1))) mNil))) sNext)
  (sSeq (sIf (mOp gEq (mOp gIx (mVar 0) (mC (.int 0))) (mC (.str "do"))) (sRet (mOp gAdd (mCall g_names_in_expression (mCons (mOp gIx (mVar 0) (mC (.int 2))) mNil)) (mCall g_names_in_expression (mCons (mOp gIx (mVar 0) (mC (.int 3))) mNil)))) sNext)
  (sRet (mLst mNil))))
theorem ok_names_in_expression {P : Program} {w : World} {K : PySem.W.Frag} {mg : Str → Option Value} {base : Heap} {k : Nat} {f_names_in_expression : Addr} {fd_names_in_expression : FuncData} {k_names_in_expression : Nat} {g_names_in_expression : List D → Option D} (B : Blt mg) (C : Cst K w mg) (T_names_in_expression : TopD K mg "names_in_expression" s_names_in_expression ["expression"] f_names_in_expression fd_names_in_expression)
    (G_names_in_expression : FnOk P w K mg base CX0 k_names_in_expression f_names_in_expression fd_names_in_expression ["expression"] (spM K 1 g_names_in_expression)) (h_names_in_expression : k_names_in_expression ≤ k)
    : FnOk P w K mg base CX0 (k + 1) f_names_in_expression fd_names_in_expression ["expression"] (spM K 1 (mRun 1 1 (b_names_in_expression g_names_in_expression))) := by
  exact ok_def (own := []) T_names_in_expression.F sc_names_in_expression (by decide) fun cdv A outer s H E hr => ⟨_, (mb_cons (ms_if (mt_ceq (me_ix rfl (me_var 0) me_int) me_str)
 (mb_one (ms_ret (me_lst (ma_cons ma_nil (me_ix rfl (me_var 0) me_int)) (len_cons len_nil))))
 mb_nil)
 (mb_cons (ms_if (mt_ceq (me_ix rfl (me_var 0) me_int) me_str)
 (mb_one (ms_ret (me_add rfl (me_call G_names_in_expression (hr.mono h_names_in_expression) T_names_in_expression.g T_names_in_expression.F.kp T_names_in_expression.b (len_cons len_nil) (ma_cons ma_nil (me_ix rfl (me_var 0) me_int))) (me_call G_names_in_expression (hr.mono h_names_in_expression) T_names_in_expression.g T_names_in_expression.F.kp T_names_in_expression.b (len_cons len_nil) (ma_cons ma_nil (me_ix rfl (me_var 0) me_int))))))
 mb_nil)
 (mb_one (ms_ret (me_lst ma_nil len_nil)))))⟩
/-! ### names_in -/
theorem sc_names_in : FnScope ["block", "found", "statement", "word", "part"] ["block"] (defScope s_names_in) := ⟨rfl, rfl, rfl, by decide +kernel, rfl, by decide +kernel, by decide +kernel⟩
def b_names_in (g_names_in_expression g_names_in : List D → Option D) : S :=
  (sSeq (sOwn [1] 1 mNil)
  (sSeq (sFor [1] 2 (wTup (mVar 0)) (sSeq (sAsg [1] 3 (mOp gIx (mVar 2) (mC (.int 0))))
  (sIf (mOp (gIn false) (mVar 3) (mTup (mCons (mC (.str "set")) (mCons (mC (.str "add")) mNil)))) (sExt [1] 1 (mOp gAdd (mLst (mCons (mOp gIx (mVar 2) (mC (.int 1))) mNil)) (mCall g_names_in_expression (mCons (mOp gIx (mVar 2) (mC (.int (-1)))) mNil)))) (sIf (mOp gEq (mVar 3) (mC (.str "fold"))) (sExt [1] 1 (mOp gAdd (mOp gAdd (mLst (mCons (mOp gIx (mVar 2) (mC (.int 1))) mNil)) (mCall g_names_in_expression (mCons (mOp gIx (mVar 2) (mC (.int 4))) mNil))) (mCall g_names_in_expression (mCons (mOp gIx (mVar 2) (mC (.int 5))) mNil)))) (sIf (mOp gEq (mVar 3) (mC (.str "if"))) (sExt [1] 1 (mOp gAdd (mOp gAdd (mCall g_names_in_expression (mCons (mOp gIx (mVar 2) (mC (.int 1))) mNil)) (mCall g_names_in (mCons (mOp gIx (mVar 2) (mC (.int 2))) mNil))) (mCall g_names_in (mCons (mOp gIx (mVar 2) (mC (.int 3))) mNil)))) (sIf (mOp gEq (mVar 3) (mC (.str "fork"))) (sFor [1] 4 (wTup (mOp gIx (mVar 2) (mC (.int 1)))) (sExt [1] 1 (mCall g_names_in (mCons (mVar 4) mNil)))) (sIf (mOp gEq (mVar 3) (mC (.str "each"))) (sExt [1] 1 (mOp gAdd (mCall g_names_in_expression (mCons (mOp gIx (mVar 2) (mC (.int 2))) mNil)) (mCall g_names_in (mCons (mOp gIx (mVar 2) (mC (.int 3))) mNil)))) (sIf (mOp gEq (mVar 3) (mC (.str "start"))) (sExt [1] 1 (mCall g_names_in (mCons (mOp gIx (mVar 2) (mC (.int 2))) mNil))) sNext))))))))
  (sRet (mVar 1))))
theorem ok_names_in {P : Program} {w : World} {K : PySem.W.Frag} {mg : Str → Option Value} {base : Heap} {k : Nat} {f_names_in_expression : Addr} {fd_names_in_expression : FuncData} {k_names_in_expression : Nat} {g_names_in_expression : List D → Option D} {f_names_in : Addr} {fd_names_in : FuncData} {k_names_in : Nat} {g_names_in : List D → Option D} (B : Blt mg) (C : Cst K w mg) (T_names_in : TopD K mg "names_in" s_names_in ["block"] f_names_in fd_names_in)
    (T_names_in_expression : TopD K mg "names_in_expression" s_names_in_expression ["expression"] f_names_in_expression fd_names_in_expression)
    (G_names_in_expression : FnOk P w K mg base CX0 k_names_in_expression f_names_in_expression fd_names_in_expression ["expression"] (spM K 1 g_names_in_expression)) (h_names_in_expression : k_names_in_expression ≤ k)
    (G_names_in : FnOk P w K mg base CX0 k_names_in f_names_in fd_names_in ["block"] (spM K 1 g_names_in)) (h_names_in : k_names_in ≤ k)
    : FnOk P w K mg base CX0 (k + 1) f_names_in fd_names_in ["block"] (spM K 1 (mRun 1 5 (b_names_in g_names_in_expression g_names_in))) := by
  exact ok_def (own := [1]) T_names_in.F sc_names_in (by decide) fun cdv A outer s H E hr => ⟨_, (mb_cons (ms_own (i := 1) sc_names_in.nd (ml_lst ma_nil len_nil))
 (mb_cons (ms_for (i := 2) PassesOwn.never rfl sc_names_in.nd (mi_tup rfl (me_var 0))
 (mb_cons (ms_asg (i := 3) sc_names_in.nd (me_ix rfl (me_var 2) me_int))
 (mb_one (ms_if (mt_cin rfl (hu_of hr) (me_var 3) (me_tup (ma_cons (ma_cons ma_nil me_str) me_str) (len_cons (len_cons len_nil))))
 (mb_one (ms_ext rfl 1 (me_add rfl (me_lst (ma_cons ma_nil (me_ix rfl (me_var 2) me_int)) (len_cons len_nil)) (me_call G_names_in_expression (hr.mono h_names_in_expression) T_names_in_expression.g T_names_in_expression.F.kp T_names_in_expression.b (len_cons len_nil) (ma_cons ma_nil (me_ix rfl (me_var 2) me_neg))))))
 (mb_one (ms_if (mt_ceq (me_var 3) me_str)
 (mb_one (ms_ext rfl 1 (me_add rfl (me_add rfl (me_lst (ma_cons ma_nil (me_ix rfl (me_var 2) me_int)) (len_cons len_nil)) (me_call G_names_in_expression (hr.mono h_names_in_expression) T_names_in_expression.g T_names_in_expression.F.kp T_names_in_expression.b (len_cons len_nil) (ma_cons ma_nil (me_ix rfl (me_var 2) me_int)))) (me_call G_names_in_expression (hr.mono h_names_in_expression) T_names_in_expression.g T_names_in_expression.F.kp T_names_in_expression.b (len_cons len_nil) (ma_cons ma_nil (me_ix rfl (me_var 2) me_int))))))
 (mb_one (ms_if (mt_ceq (me_var 3) me_str)
 (mb_one (ms_ext rfl 1 (me_add rfl (me_add rfl (me_call G_names_in_expression (hr.mono h_names_in_expression) T_names_in_expression.g T_names_in_expression.F.kp T_names_in_expression.b (len_cons len_nil) (ma_cons ma_nil (me_ix rfl (me_var 2) me_int))) (me_call G_names_in (hr.mono h_names_in) T_names_in.g T_names_in.F.kp T_names_in.b (len_cons len_nil) (ma_cons ma_nil (me_ix rfl (me_var 2) me_int)))) (me_call G_names_in (hr.mono h_names_in) T_names_in.g T_names_in.F.kp T_names_in.b (len_cons len_nil) (ma_cons ma_nil (me_ix rfl (me_var 2) me_int))))))
 (mb_one (ms_if (mt_ceq (me_var 3) me_str)
 (mb_one (ms_for (i := 4) PassesOwn.never rfl sc_names_in.nd (mi_tup rfl (me_ix rfl (me_var 2) me_int))
 (mb_one (ms_ext rfl 1 (me_call G_names_in (hr.mono h_names_in) T_names_in.g T_names_in.F.kp T_names_in.b (len_cons len_nil) (ma_cons ma_nil (me_var 4)))))))
 (mb_one (ms_if (mt_ceq (me_var 3) me_str)
 (mb_one (ms_ext rfl 1 (me_add rfl (me_call G_names_in_expression (hr.mono h_names_in_expression) T_names_in_expression.g T_names_in_expression.F.kp T_names_in_expression.b (len_cons len_nil) (ma_cons ma_nil (me_ix rfl (me_var 2) me_int))) (me_call G_names_in (hr.mono h_names_in) T_names_in.g T_names_in.F.kp T_names_in.b (len_cons len_nil) (ma_cons ma_nil (me_ix rfl (me_var 2) me_int))))))
 (mb_one (ms_if (mt_ceq (me_var 3) me_str)
 (mb_one (ms_ext rfl 1 (me_call G_names_in (hr.mono h_names_in) T_names_in.g T_names_in.F.kp T_names_in.b (len_cons len_nil) (ma_cons ma_nil (me_ix rfl (me_var 2) me_int)))))
 mb_nil))))))))))))))
 (mb_one (ms_ret (me_var 1)))))⟩
/-! ### _law_draws -/
theorem sc__law_draws : FnScope ["_law_script", "_law_k", "_law_bounds", "_law_cell", "_law_rest", "_law_drawn", "_law_j", "_law_mixed"] ["_law_script", "_law_k", "_law_bounds"] (defScope s__law_draws) := ⟨rfl, rfl, rfl, by decide +kernel, rfl, by decide +kernel, by decide +kernel⟩
def b__law_draws : S :=
  (sSeq (sAsg [5] 3 (mC (.int 0)))
  (sSeq (sAsg [5] 4 (mC (.int 0)))
  (sSeq (sIf (mOp gLt (mVar 1) (mCall gLen (mCons (mVar 0) mNil))) (sSeq (sAsg [5] 3 (mCall gInt (mCons (mOp gIx (mVar 0) (mVar 1)) mNil)))
  (sAsg [5] 4 (mCall gMax (mCons (mC (.int 0)) (mCons (mOp gSub (mVar 3) (mOp gPow (mC (.int 10)) (mC (.int 18)))) mNil))))) (sIf (mOp gGt (mCall gLen (mCons (mVar 0) mNil)) (mC (.int 0))) (sAsg [5] 3 (mCall gInt (mCons (mOp gIx (mVar 0) (mOp gMod (mCall gInt (mCons (mVar 1) mNil)) (mCall gLen (mCons (mVar 0) mNil)))) mNil))) sNext))
  (sSeq (sOwn [5] 5 mNil)
  (sSeq (sFor [5] 6 (wRng (mCons (mCall gLen (mCons (mVar 2) mNil)) mNil)) (sIf (mOp gGt (mVar 4) (mC (.int 0))) (sSeq (sApp [5] 5 (mOp gMod (mCall gInt (mCons (mVar 4) mNil)) (mOp gIx (mVar 2) (mVar 6))))
  (sAsg [5] 4 (mOp gDiv (mVar 4) (mOp gIx (mVar 2) (mVar 6))))) (sSeq (sAsg [5] 7 (mOp gMod (mCall gInt (mCons (mOp gAdd (mOp gAdd (mOp gAdd (mOp gMul (mVar 3) (mC (.int 48271))) (mOp gMul (mVar 1) (mC (.int 69621)))) (mOp gMul (mVar 6) (mC (.int 40692)))) (mC (.int 12345))) mNil)) (mC (.int 2147483647))))
  (sSeq (sAsg [5] 7 (mOp gMod (mCall gInt (mCons (mOp gAdd (mOp gAdd (mOp gMul (mVar 7) (mVar 7)) (mOp gMul (mVar 6) (mC (.int 16807)))) (mC (.int 271))) mNil)) (mC (.int 2147483563))))
  (sSeq (sAsg [5] 7 (mOp gMod (mCall gInt (mCons (mOp gAdd (mOp gAdd (mOp gMul (mVar 7) (mVar 7)) (mOp gMul (mVar 7) (mC (.int 39373)))) (mC (.int 7))) mNil)) (mC (.int 2147483399))))
  (sApp [5] 5 (mOp gMod (mOp gDiv (mVar 7) (mC (.int 16))) (mOp gIx (mVar 2) (mVar 6)))))))))
  (sRet (mVar 5)))))))
theorem ok__law_draws {P : Program} {w : World} {K : PySem.W.Frag} {mg : Str → Option Value} {base : Heap} {k : Nat} {f : Addr} {fd : FuncData} (B : Blt mg) (C : Cst K w mg) (T__law_draws : TopD K mg "_law_draws" s__law_draws ["_law_script", "_law_k", "_law_bounds"] f fd)
    : FnOk P w K mg base CX0 (k + 1) f fd ["_law_script", "_law_k", "_law_bounds"] (spM K 3 (mRun 3 8 (b__law_draws ))) := by
  exact ok_def (own := [5]) T__law_draws.F sc__law_draws (by decide) fun cdv A outer s H E hr => ⟨_, (mb_cons (ms_asg (i := 3) sc__law_draws.nd me_int)
 (mb_cons (ms_asg (i := 4) sc__law_draws.nd me_int)
 (mb_cons (ms_if (mt_clt (me_var 1) (me_len rfl B.len (ma_cons ma_nil (me_var 0))))
 (mb_cons (ms_asg (i := 3) sc__law_draws.nd (me_int1 B.int (ma_cons ma_nil (me_ix rfl (me_var 0) (me_var 1)))))
 (mb_one (ms_asg (i := 4) sc__law_draws.nd (me_max rfl B.max (ma_cons (ma_cons ma_nil (me_sub (me_var 3) (me_pow me_int me_int))) me_int)))))
 (mb_one (ms_if (mt_cgt (me_len rfl B.len (ma_cons ma_nil (me_var 0))) me_int)
 (mb_one (ms_asg (i := 3) sc__law_draws.nd (me_int1 B.int (ma_cons ma_nil (me_ix rfl (me_var 0) (me_mod (me_int1 B.int (ma_cons ma_nil (me_var 1))) (me_len rfl B.len (ma_cons ma_nil (me_var 0)))))))))
 mb_nil)))
 (mb_cons (ms_own (i := 5) sc__law_draws.nd (ml_lst ma_nil len_nil))
 (mb_cons (ms_for (i := 6) PassesOwn.never rfl sc__law_draws.nd (mi_rng B.range (ma_cons ma_nil (me_len rfl B.len (ma_cons ma_nil (me_var 2)))))
 (mb_one (ms_if (mt_cgt (me_var 4) me_int)
 (mb_cons (ms_app rfl 5 (me_mod (me_int1 B.int (ma_cons ma_nil (me_var 4))) (me_ix rfl (me_var 2) (me_var 6))))
 (mb_one (ms_asg (i := 4) sc__law_draws.nd (me_div (me_var 4) (me_ix rfl (me_var 2) (me_var 6))))))
 (mb_cons (ms_asg (i := 7) sc__law_draws.nd (me_mod (me_int1 B.int (ma_cons ma_nil (me_add rfl (me_add rfl (me_add rfl (me_mul (me_var 3) me_int) (me_mul (me_var 1) me_int)) (me_mul (me_var 6) me_int)) me_int))) me_int))
 (mb_cons (ms_asg (i := 7) sc__law_draws.nd (me_mod (me_int1 B.int (ma_cons ma_nil (me_add rfl (me_add rfl (me_mul (me_var 7) (me_var 7)) (me_mul (me_var 6) me_int)) me_int))) me_int))
 (mb_cons (ms_asg (i := 7) sc__law_draws.nd (me_mod (me_int1 B.int (ma_cons ma_nil (me_add rfl (me_add rfl (me_mul (me_var 7) (me_var 7)) (me_mul (me_var 7) me_int)) me_int))) me_int))
 (mb_one (ms_app rfl 5 (me_mod (me_div (me_var 7) me_int) (me_ix rfl (me_var 2) (me_var 6)))))))))))
 (mb_one (ms_ret (me_var 5))))))))⟩
/-! ### _law_equal -/
theorem sc__law_equal : FnScope ["_law_actual", "_law_expected", "_law_k"] ["_law_actual", "_law_expected"] (defScope s__law_equal) := ⟨rfl, rfl, rfl, by decide +kernel, rfl, by decide +kernel, by decide +kernel⟩
def b__law_equal (g__law_equal : List D → Option D) : S :=
  (sSeq (sIf (mOp gIs (mVar 1) (mC .non)) (sRet (mOp gIs (mVar 0) (mC .non))) sNext)
  (sSeq (sIf (mUn (fun d => some (.bl (isK "bool" d))) (mVar 1)) (sRet (mAnd (mUn (fun d => some (.bl (isK "bool" d))) (mVar 0)) (mOp gEq (mVar 0) (mVar 1)))) sNext)
  (sSeq (sIf (mUn (fun d => some (.bl (isK "int" d))) (mVar 1)) (sRet (mAnd (mUn (fun d => some (.bl (isK "int" d))) (mVar 0)) (mAnd (mNot (mUn (fun d => some (.bl (isK "bool" d))) (mVar 0))) (mOp gEq (mVar 0) (mVar 1))))) sNext)
  (sSeq (sIf (mUn (fun d => some (.bl (isK "str" d))) (mVar 1)) (sRet (mAnd (mUn (fun d => some (.bl (isK "str" d))) (mVar 0)) (mOp gEq (mVar 0) (mVar 1)))) sNext)
  (sSeq (sIf (mOr (mNot (mUn (fun d => some (.bl (isK "tuple" d))) (mVar 0))) (mOp gNe (mCall gLen (mCons (mVar 0) mNil)) (mCall gLen (mCons (mVar 1) mNil)))) (sRet (mC (.bl false))) sNext)
  (sSeq (sFor [] 2 (wRng (mCons (mCall gLen (mCons (mVar 1) mNil)) mNil)) (sIf (mNot (mCall g__law_equal (mCons (mOp gIx (mVar 0) (mVar 2)) (mCons (mOp gIx (mVar 1) (mVar 2)) mNil)))) (sRet (mC (.bl false))) sNext))
  (sRet (mC (.bl true)))))))))
theorem ok__law_equal {P : Program} {w : World} {K : PySem.W.Frag} {mg : Str → Option Value} {base : Heap} {k : Nat} {f__law_equal : Addr} {fd__law_equal : FuncData} {k__law_equal : Nat} {g__law_equal : List D → Option D} (B : Blt mg) (C : Cst K w mg) (T__law_equal : TopD K mg "_law_equal" s__law_equal ["_law_actual", "_law_expected"] f__law_equal fd__law_equal)
    (G__law_equal : FnOk P w K mg base CX0 k__law_equal f__law_equal fd__law_equal ["_law_actual", "_law_expected"] (spM K 2 g__law_equal)) (h__law_equal : k__law_equal ≤ k)
    : FnOk P w K mg base CX0 (k + 1) f__law_equal fd__law_equal ["_law_actual", "_law_expected"] (spM K 2 (mRun 2 3 (b__law_equal g__law_equal))) := by
  exact ok_def (own := []) T__law_equal.F sc__law_equal (by decide) fun cdv A outer s H E hr => ⟨_, (mb_cons (ms_if (mt_cis (me_var 1) me_non)
 (mb_one (ms_ret (me_cis (me_var 0) me_non)))
 mb_nil)
 (mb_cons (ms_if (mt_val (me_isi rfl "bool" B.isinstance B.bool (me_var 1)))
 (mb_one (ms_ret (me_and (me_isi rfl "bool" B.isinstance B.bool (me_var 0)) (me_one (me_ceq (me_var 0) (me_var 1))))))
 mb_nil)
 (mb_cons (ms_if (mt_val (me_isi rfl "int" B.isinstance B.int (me_var 1)))
 (mb_one (ms_ret (me_and (me_isi rfl "int" B.isinstance B.int (me_var 0)) (me_and (me_not (me_isi rfl "bool" B.isinstance B.bool (me_var 0))) (me_one (me_ceq (me_var 0) (me_var 1)))))))
 mb_nil)
 (mb_cons (ms_if (mt_val (me_isi rfl "str" B.isinstance B.str (me_var 1)))
 (mb_one (ms_ret (me_and (me_isi rfl "str" B.isinstance B.str (me_var 0)) (me_one (me_ceq (me_var 0) (me_var 1))))))
 mb_nil)
 (mb_cons (ms_if (MW.mt (mw_or (mt_not (mt_val (me_isi rfl "tuple" B.isinstance B.tuple (me_var 0)))) (mw_or1 (mt_cne (me_len rfl B.len (ma_cons ma_nil (me_var 0))) (me_len rfl B.len (ma_cons ma_nil (me_var 1)))))))
 (mb_one (ms_ret me_bl))
 mb_nil)
 (mb_cons (ms_for (i := 2) PassesOwn.never rfl sc__law_equal.nd (mi_rng B.range (ma_cons ma_nil (me_len rfl B.len (ma_cons ma_nil (me_var 1)))))
 (mb_one (ms_if (mt_not (mt_val (me_call G__law_equal (hr.mono h__law_equal) T__law_equal.g T__law_equal.F.kp T__law_equal.b (len_cons (len_cons len_nil)) (ma_cons (ma_cons ma_nil (me_ix rfl (me_var 1) (me_var 2))) (me_ix rfl (me_var 0) (me_var 2))))))
 (mb_one (ms_ret me_bl))
 mb_nil)))
 (mb_one (ms_ret me_bl))))))))⟩
/-! ### _law_pool -/
theorem sc__law_pool : FnScope ["_law_script", "_law_k", "_law_size", "_law_drawn", "_law_length", "_law_step", "_law_pool_here", "_law_j", "_law_number", "_law_word", "_law_place"] ["_law_script", "_law_k", "_law_size"] (defScope s__law_pool) := ⟨rfl, rfl, rfl, by decide +kernel, rfl, by decide +kernel, by decide +kernel⟩
def b__law_pool (g__law_draws : List D → Option D) : S :=
  (sSeq (sAsg [6] 3 (mCall g__law_draws (mCons (mVar 0) (mCons (mVar 1) (mCons (mLst (mCons (mC (.int 7)) (mCons (mOp gPow (mC (.int 26)) (mC (.int 8))) (mCons (mC (.int 9)) mNil)))) mNil)))))
  (sSeq (sAsg [6] 4 (mOp gAdd (mC (.int 1)) (mOp gIx (mVar 3) (mC (.int 0)))))
  (sSeq (sAsg [6] 5 (mOp gAdd (mC (.int 1)) (mOp gMul (mOp gIx (mVar 3) (mC (.int 2))) (mCall gInt (mCons (mOp gGt (mVar 4) (mC (.int 1))) mNil)))))
  (sSeq (sOwn [6] 6 mNil)
  (sSeq (sFor [6] 7 (wRng (mCons (mVar 2) mNil)) (sSeq (sAsg [6] 8 (mOp gAdd (mOp gIx (mVar 3) (mC (.int 1))) (mOp gMul (mOp gDiv (mVar 7) (mC (.int 2))) (mVar 5))))
  (sSeq (sAsg [6] 9 (mC (.str "")))
  (sSeq (sFor [6] 10 (wRng (mCons (mVar 4) mNil)) (sSeq (sAsg [6] 9 (mOp gAdd (mVar 9) (mOp gIx (mC (.str "abcdefghijklmnopqrstuvwxyz")) (mOp gMod (mCall gInt (mCons (mVar 8) mNil)) (mC (.int 26))))))
  (sAsg [6] 8 (mOp gDiv (mVar 8) (mC (.int 26))))))
  (sSeq (sIf (mOp (gIn false) (mVar 9) (mLst (mCons (mC (.str "if")) (mCons (mC (.str "fork")) (mCons (mC (.str "each")) (mCons (mC (.str "fold")) (mCons (mC (.str "start")) (mCons (mC (.str "await")) (mCons (mC (.str "max")) (mCons (mC (.str "min")) mNil)))))))))) (sAsg [6] 9 (mOp gAdd (mVar 9) (mC (.str "x")))) sNext)
  (sApp [6] 6 (mOp gAdd (mVar 9) (mOp gMul (mC (.str "z")) (mOp gMod (mCall gInt (mCons (mVar 7) mNil)) (mC (.int 2)))))))))))
  (sRet (mVar 6)))))))
theorem ok__law_pool {P : Program} {w : World} {K : PySem.W.Frag} {mg : Str → Option Value} {base : Heap} {k : Nat} {f : Addr} {fd : FuncData} {f__law_draws : Addr} {fd__law_draws : FuncData} {k__law_draws : Nat} {g__law_draws : List D → Option D} (B : Blt mg) (C : Cst K w mg) (T__law_pool : TopD K mg "_law_pool" s__law_pool ["_law_script", "_law_k", "_law_size"] f fd)
    (T__law_draws : TopD K mg "_law_draws" s__law_draws ["_law_script", "_law_k", "_law_bounds"] f__law_draws fd__law_draws)
    (G__law_draws : FnOk P w K mg base CX0 k__law_draws f__law_draws fd__law_draws ["_law_script", "_law_k", "_law_bounds"] (spM K 3 g__law_draws)) (h__law_draws : k__law_draws ≤ k)
    : FnOk P w K mg base CX0 (k + 1) f fd ["_law_script", "_law_k", "_law_size"] (spM K 3 (mRun 3 11 (b__law_pool g__law_draws))) := by
  exact ok_def (own := [6]) T__law_pool.F sc__law_pool (by decide) fun cdv A outer s H E hr => ⟨_, (mb_cons (ms_asg (i := 3) sc__law_pool.nd (me_call G__law_draws (hr.mono h__law_draws) T__law_draws.g T__law_draws.F.kp T__law_draws.b (len_cons (len_cons (len_cons len_nil))) (ma_cons (ma_cons (ma_cons ma_nil (me_lst (ma_cons (ma_cons (ma_cons ma_nil me_int) (me_pow me_int me_int)) me_int) (len_cons (len_cons (len_cons len_nil))))) (me_var 1)) (me_var 0))))
 (mb_cons (ms_asg (i := 4) sc__law_pool.nd (me_add rfl me_int (me_ix rfl (me_var 3) me_int)))
 (mb_cons (ms_asg (i := 5) sc__law_pool.nd (me_add rfl me_int (me_mul (me_ix rfl (me_var 3) me_int) (me_int1 B.int (ma_cons ma_nil (me_cgt (me_var 4) me_int))))))
 (mb_cons (ms_own (i := 6) sc__law_pool.nd (ml_lst ma_nil len_nil))
 (mb_cons (ms_for (i := 7) PassesOwn.never rfl sc__law_pool.nd (mi_rng B.range (ma_cons ma_nil (me_var 2)))
 (mb_cons (ms_asg (i := 8) sc__law_pool.nd (me_add rfl (me_ix rfl (me_var 3) me_int) (me_mul (me_div (me_var 7) me_int) (me_var 5))))
 (mb_cons (ms_asg (i := 9) sc__law_pool.nd me_str)
 (mb_cons (ms_for (i := 10) PassesOwn.never rfl sc__law_pool.nd (mi_rng B.range (ma_cons ma_nil (me_var 4)))
 (mb_cons (ms_asg (i := 9) sc__law_pool.nd (me_add rfl (me_var 9) (me_ix rfl me_str (me_mod (me_int1 B.int (ma_cons ma_nil (me_var 8))) me_int))))
 (mb_one (ms_asg (i := 8) sc__law_pool.nd (me_div (me_var 8) me_int)))))
 (mb_cons (ms_if (mt_cin rfl (hu_of hr) (me_var 9) (me_lst (ma_cons (ma_cons (ma_cons (ma_cons (ma_cons (ma_cons (ma_cons (ma_cons ma_nil me_str) me_str) me_str) me_str) me_str) me_str) me_str) me_str) (len_cons (len_cons (len_cons (len_cons (len_cons (len_cons (len_cons (len_cons len_nil))))))))))
 (mb_one (ms_asg (i := 9) sc__law_pool.nd (me_add rfl (me_var 9) me_str)))
 mb_nil)
 (mb_one (ms_app rfl 6 (me_add rfl (me_var 9) (me_mul me_str (me_mod (me_int1 B.int (ma_cons ma_nil (me_var 7))) me_int))))))))))
 (mb_one (ms_ret (me_var 6))))))))⟩
/-! ### _law_stream -/
theorem sc__law_stream : FnScope ["_law_script", "_law_k", "_law_cells", "_law_stream_here", "_law_j"] ["_law_script", "_law_k", "_law_cells"] (defScope s__law_stream) := ⟨rfl, rfl, rfl, by decide +kernel, rfl, by decide +kernel, by decide +kernel⟩
def b__law_stream (g__law_draws : List D → Option D) : S :=
  (sSeq (sAsg [] 3 (mLst mNil))
  (sSeq (sFor [] 4 (wRng (mCons (mVar 2) mNil)) (sAsg [] 3 (mOp gAdd (mVar 3) (mCall g__law_draws (mCons (mVar 0) (mCons (mOp gAdd (mVar 1) (mVar 4)) (mCons (mLst (mCons (mC (.int 2520)) (mCons (mC (.int 2520)) (mCons (mC (.int 2520)) (mCons (mC (.int 2520)) (mCons (mC (.int 2520)) (mCons (mC (.int 2520)) mNil))))))) mNil)))))))
  (sRet (mVar 3))))
theorem ok__law_stream {P : Program} {w : World} {K : PySem.W.Frag} {mg : Str → Option Value} {base : Heap} {k : Nat} {f : Addr} {fd : FuncData} {f__law_draws : Addr} {fd__law_draws : FuncData} {k__law_draws : Nat} {g__law_draws : List D → Option D} (B : Blt mg) (C : Cst K w mg) (T__law_stream : TopD K mg "_law_stream" s__law_stream ["_law_script", "_law_k", "_law_cells"] f fd)
    (T__law_draws : TopD K mg "_law_draws" s__law_draws ["_law_script", "_law_k", "_law_bounds"] f__law_draws fd__law_draws)
    (G__law_draws : FnOk P w K mg base CX0 k__law_draws f__law_draws fd__law_draws ["_law_script", "_law_k", "_law_bounds"] (spM K 3 g__law_draws)) (h__law_draws : k__law_draws ≤ k)
    : FnOk P w K mg base CX0 (k + 1) f fd ["_law_script", "_law_k", "_law_cells"] (spM K 3 (mRun 3 5 (b__law_stream g__law_draws))) := by
  exact ok_def (own := []) T__law_stream.F sc__law_stream (by decide) fun cdv A outer s H E hr => ⟨_, (mb_cons (ms_asg (i := 3) sc__law_stream.nd (me_lst ma_nil len_nil))
 (mb_cons (ms_for (i := 4) PassesOwn.never rfl sc__law_stream.nd (mi_rng B.range (ma_cons ma_nil (me_var 2)))
 (mb_one (ms_asg (i := 3) sc__law_stream.nd (me_add rfl (me_var 3) (me_call G__law_draws (hr.mono h__law_draws) T__law_draws.g T__law_draws.F.kp T__law_draws.b (len_cons (len_cons (len_cons len_nil))) (ma_cons (ma_cons (ma_cons ma_nil (me_lst (ma_cons (ma_cons (ma_cons (ma_cons (ma_cons (ma_cons ma_nil me_int) me_int) me_int) me_int) me_int) me_int) (len_cons (len_cons (len_cons (len_cons (len_cons (len_cons len_nil)))))))) (me_add rfl (me_var 1) (me_var 4))) (me_var 0)))))))
 (mb_one (ms_ret (me_var 3)))))⟩
end ML
set_option Elab.async false
set_option linter.all false
set_option maxRecDepth 100000
set_option maxHeartbeats 4000000
namespace ML
open PySem PySem.Spec PyProof.Rows L2
/-! ### _law_expression -/
theorem sc__law_expression : FnScope ["_law_stream_here", "_law_at", "_law_pool_here", "_law_locals_here", "_law_deep", "_law_n", "_law_rest", "_law_left", "_law_right", "_law_value"] ["_law_stream_here", "_law_at", "_law_pool_here", "_law_locals_here", "_law_deep"] (defScope s__law_expression) := ⟨rfl, rfl, rfl, by decide +kernel, rfl, by decide +kernel, by decide +kernel⟩
def b__law_expression (g__law_expression : List D → Option D) : S :=
  (sSeq (sAsg [] 5 (mOp gIx (mVar 0) (mOp gMod (mCall gInt (mCons (mVar 1) mNil)) (mCall gLen (mCons (mVar 0) mNil)))))
  (sSeq (sAsg [] 6 (mOp gDiv (mVar 5) (mC (.int 7))))
  (sSeq (sIf (mAnd (mOp gEq (mOp gMod (mCall gInt (mCons (mVar 5) mNil)) (mC (.int 7))) (mC (.int 6))) (mOp gGt (mVar 4) (mC (.int 0)))) (sSeq (sAsg [] 7 (mCall g__law_expression (mCons (mVar 0) (mCons (mOp gAdd (mVar 1) (mC (.int 1))) (mCons (mVar 2) (mCons (mVar 3) (mCons (mOp gSub (mVar 4) (mC (.int 1))) mNil)))))))
  (sSeq (sAsg [] 8 (mCall g__law_expression (mCons (mVar 0) (mCons (mOp gIx (mVar 7) (mC (.int 1))) (mCons (mVar 2) (mCons (mVar 3) (mCons (mOp gSub (mVar 4) (mC (.int 1))) mNil)))))))
  (sRet (mTup (mCons (mTup (mCons (mC (.str "do")) (mCons (mOp gIx (mLst (mCons (mC (.str "+")) (mCons (mC (.str "-")) (mCons (mC (.str "*")) (mCons (mC (.str "max")) (mCons (mC (.str "min")) (mCons (mC (.str "<")) (mCons (mC (.str "=")) mNil)))))))) (mOp gMod (mCall gInt (mCons (mVar 6) mNil)) (mC (.int 7)))) (mCons (mOp gIx (mVar 7) (mC (.int 0))) (mCons (mOp gIx (mVar 8) (mC (.int 0))) mNil))))) (mCons (mOp gIx (mVar 8) (mC (.int 1))) mNil)))))) sNext)
  (sSeq (sIf (mAnd (mOp gGt (mOp gMod (mCall gInt (mCons (mVar 5) mNil)) (mC (.int 7))) (mC (.int 3))) (mOp gGt (mCall gLen (mCons (mVar 3) mNil)) (mC (.int 0)))) (sRet (mTup (mCons (mTup (mCons (mC (.str "local")) (mCons (mOp gIx (mVar 3) (mOp gMod (mCall gInt (mCons (mVar 6) mNil)) (mCall gLen (mCons (mVar 3) mNil)))) mNil))) (mCons (mOp gAdd (mVar 1) (mC (.int 1))) mNil)))) sNext)
  (sSeq (sIf (mOp gGt (mOp gMod (mCall gInt (mCons (mVar 5) mNil)) (mC (.int 7))) (mC (.int 2))) (sRet (mTup (mCons (mTup (mCons (mC (.str "word")) (mCons (mOp gIx (mVar 2) (mOp gMod (mCall gInt (mCons (mVar 6) mNil)) (mCall gLen (mCons (mVar 2) mNil)))) mNil))) (mCons (mOp gAdd (mVar 1) (mC (.int 1))) mNil)))) sNext)
  (sSeq (sAsg [] 9 (mOp gIx (mLst (mCons (mC (.int 0)) (mCons (mC (.int 1)) (mCons (mC (.int 2)) (mCons (mC (.int 3)) (mCons (mC (.int 6)) (mCons (mC (.int 7)) (mCons (mC (.int 1000002)) (mCons (mVar 6) mNil))))))))) (mOp gMod (mCall gInt (mCons (mVar 6) mNil)) (mC (.int 8)))))
  (sRet (mTup (mCons (mTup (mCons (mC (.str "number")) (mCons (mVar 9) mNil))) (mCons (mOp gAdd (mVar 1) (mC (.int 1))) mNil))))))))))
theorem ok__law_expression {P : Program} {w : World} {K : PySem.W.Frag} {mg : Str → Option Value} {base : Heap} {k : Nat} {f__law_expression : Addr} {fd__law_expression : FuncData} {k__law_expression : Nat} {g__law_expression : List D → Option D} (B : Blt mg) (C : Cst K w mg) (T__law_expression : TopD K mg "_law_expression" s__law_expression ["_law_stream_here", "_law_at", "_law_pool_here", "_law_locals_here", "_law_deep"] f__law_expression fd__law_expression)
    (G__law_expression : FnOk P w K mg base CX0 k__law_expression f__law_expression fd__law_expression ["_law_stream_here", "_law_at", "_law_pool_here", "_law_locals_here", "_law_deep"] (spM K 5 g__law_expression)) (h__law_expression : k__law_expression ≤ k)
    : FnOk P w K mg base CX0 (k + 1) f__law_expression fd__law_expression ["_law_stream_here", "_law_at", "_law_pool_here", "_law_locals_here", "_law_deep"] (spM K 5 (mRun 5 10 (b__law_expression g__law_expression))) := by
  exact ok_def (own := []) T__law_expression.F sc__law_expression (by decide) fun cdv A outer s H E hr => ⟨_, (mb_cons (ms_asg (i := 5) sc__law_expression.nd (me_ix rfl (me_var 0) (me_mod (me_int1 B.int (ma_cons ma_nil (me_var 1))) (me_len rfl B.len (ma_cons ma_nil (me_var 0))))))
 (mb_cons (ms_asg (i := 6) sc__law_expression.nd (me_div (me_var 5) me_int))
 (mb_cons (ms_if (MW.mt (mw_and (mt_ceq (me_mod (me_int1 B.int (ma_cons ma_nil (me_var 5))) me_int) me_int) (mw_and1 (mt_cgt (me_var 4) me_int))))
 (mb_cons (ms_asg (i := 7) sc__law_expression.nd (me_call G__law_expression (hr.mono h__law_expression) T__law_expression.g T__law_expression.F.kp T__law_expression.b (len_cons (len_cons (len_cons (len_cons (len_cons len_nil))))) (ma_cons (ma_cons (ma_cons (ma_cons (ma_cons ma_nil (me_sub (me_var 4) me_int)) (me_var 3)) (me_var 2)) (me_add rfl (me_var 1) me_int)) (me_var 0))))
 (mb_cons (ms_asg (i := 8) sc__law_expression.nd (me_call G__law_expression (hr.mono h__law_expression) T__law_expression.g T__law_expression.F.kp T__law_expression.b (len_cons (len_cons (len_cons (len_cons (len_cons len_nil))))) (ma_cons (ma_cons (ma_cons (ma_cons (ma_cons ma_nil (me_sub (me_var 4) me_int)) (me_var 3)) (me_var 2)) (me_ix rfl (me_var 7) me_int)) (me_var 0))))
 (mb_one (ms_ret (me_tup (ma_cons (ma_cons ma_nil (me_ix rfl (me_var 8) me_int)) (me_tup (ma_cons (ma_cons (ma_cons (ma_cons ma_nil (me_ix rfl (me_var 8) me_int)) (me_ix rfl (me_var 7) me_int)) (me_ix rfl (me_lst (ma_cons (ma_cons (ma_cons (ma_cons (ma_cons (ma_cons (ma_cons ma_nil me_str) me_str) me_str) me_str) me_str) me_str) me_str) (len_cons (len_cons (len_cons (len_cons (len_cons (len_cons (len_cons len_nil)))))))) (me_mod (me_int1 B.int (ma_cons ma_nil (me_var 6))) me_int))) me_str) (len_cons (len_cons (len_cons (len_cons len_nil)))))) (len_cons (len_cons len_nil)))))))
 mb_nil)
 (mb_cons (ms_if (MW.mt (mw_and (mt_cgt (me_mod (me_int1 B.int (ma_cons ma_nil (me_var 5))) me_int) me_int) (mw_and1 (mt_cgt (me_len rfl B.len (ma_cons ma_nil (me_var 3))) me_int))))
 (mb_one (ms_ret (me_tup (ma_cons (ma_cons ma_nil (me_add rfl (me_var 1) me_int)) (me_tup (ma_cons (ma_cons ma_nil (me_ix rfl (me_var 3) (me_mod (me_int1 B.int (ma_cons ma_nil (me_var 6))) (me_len rfl B.len (ma_cons ma_nil (me_var 3)))))) me_str) (len_cons (len_cons len_nil)))) (len_cons (len_cons len_nil)))))
 mb_nil)
 (mb_cons (ms_if (mt_cgt (me_mod (me_int1 B.int (ma_cons ma_nil (me_var 5))) me_int) me_int)
 (mb_one (ms_ret (me_tup (ma_cons (ma_cons ma_nil (me_add rfl (me_var 1) me_int)) (me_tup (ma_cons (ma_cons ma_nil (me_ix rfl (me_var 2) (me_mod (me_int1 B.int (ma_cons ma_nil (me_var 6))) (me_len rfl B.len (ma_cons ma_nil (me_var 2)))))) me_str) (len_cons (len_cons len_nil)))) (len_cons (len_cons len_nil)))))
 mb_nil)
 (mb_cons (ms_asg (i := 9) sc__law_expression.nd (me_ix rfl (me_lst (ma_cons (ma_cons (ma_cons (ma_cons (ma_cons (ma_cons (ma_cons (ma_cons ma_nil (me_var 6)) me_int) me_int) me_int) me_int) me_int) me_int) me_int) (len_cons (len_cons (len_cons (len_cons (len_cons (len_cons (len_cons (len_cons len_nil))))))))) (me_mod (me_int1 B.int (ma_cons ma_nil (me_var 6))) me_int)))
 (mb_one (ms_ret (me_tup (ma_cons (ma_cons ma_nil (me_add rfl (me_var 1) me_int)) (me_tup (ma_cons (ma_cons ma_nil (me_var 9)) me_str) (len_cons (len_cons len_nil)))) (len_cons (len_cons len_nil)))))))))))⟩
/-! ### _law_statement -/
theorem sc__law_statement : FnScope ["_law_stream_here", "_law_at", "_law_pool_here", "_law_locals_here", "_law_tickets", "_law_deep", "_law_n", "_law_name", "_law_kind", "_law_block_here", "_law_blocks", "_law_turn", "_law_first", "_law_other", "_law_local", "_law_last"] ["_law_stream_here", "_law_at", "_law_pool_here", "_law_locals_here", "_law_tickets", "_law_deep"] (defScope s__law_statement) := ⟨rfl, rfl, rfl, by decide +kernel, rfl, by decide +kernel, by decide +kernel⟩
def b__law_statement (g__law_block g__law_expression : List D → Option D) : S :=
  (sSeq (sAsg [10] 6 (mOp gIx (mVar 0) (mOp gMod (mCall gInt (mCons (mVar 1) mNil)) (mCall gLen (mCons (mVar 0) mNil)))))
  (sSeq (sAsg [10] 7 (mOp gIx (mVar 2) (mOp gMod (mCall gInt (mCons (mOp gDiv (mVar 6) (mC (.int 12))) mNil)) (mCall gLen (mCons (mVar 2) mNil)))))
  (sSeq (sAsg [10] 8 (mOp gMod (mCall gInt (mCons (mVar 6) mNil)) (mC (.int 12))))
  (sSeq (sIf (mAnd (mOp gEq (mVar 8) (mC (.int 10))) (mOp gGt (mCall gLen (mCons (mVar 4) mNil)) (mC (.int 0)))) (sRet (mTup (mCons (mTup (mCons (mC (.str "await")) (mCons (mOp gIx (mVar 4) (mOp gMod (mCall gInt (mCons (mOp gDiv (mVar 6) (mC (.int 12))) mNil)) (mCall gLen (mCons (mVar 4) mNil)))) mNil))) (mCons (mOp gAdd (mVar 1) (mC (.int 1))) mNil)))) sNext)
  (sSeq (sIf (mAnd (mOp gEq (mVar 8) (mC (.int 9))) (mOp gGt (mVar 5) (mC (.int 0)))) (sSeq (sAsg [10] 9 (mCall g__law_block (mCons (mVar 0) (mCons (mOp gAdd (mVar 1) (mC (.int 1))) (mCons (mVar 2) (mCons (mVar 3) (mCons (mVar 4) (mCons (mOp gSub (mVar 5) (mC (.int 1))) mNil))))))))
  (sRet (mTup (mCons (mTup (mCons (mC (.str "start")) (mCons (mVar 7) (mCons (mOp gIx (mVar 9) (mC (.int 0))) mNil)))) (mCons (mOp gIx (mVar 9) (mC (.int 1))) mNil))))) sNext)
  (sSeq (sIf (mAnd (mOp gEq (mVar 8) (mC (.int 6))) (mOp gGt (mVar 5) (mC (.int 0)))) (sSeq (sOwn [10] 10 mNil)
  (sSeq (sAsg [10] 1 (mOp gAdd (mVar 1) (mC (.int 1))))
  (sSeq (sFor [10] 11 (wRng (mCons (mOp gAdd (mC (.int 1)) (mOp gMod (mCall gInt (mCons (mOp gDiv (mVar 6) (mC (.int 12))) mNil)) (mC (.int 4)))) mNil)) (sSeq (sAsg [10] 9 (mCall g__law_block (mCons (mVar 0) (mCons (mVar 1) (mCons (mVar 2) (mCons (mVar 3) (mCons (mVar 4) (mCons (mOp gSub (mVar 5) (mC (.int 1))) mNil))))))))
  (sSeq (sApp [10] 10 (mOp gIx (mVar 9) (mC (.int 0))))
  (sAsg [10] 1 (mOp gIx (mVar 9) (mC (.int 1)))))))
  (sRet (mTup (mCons (mTup (mCons (mC (.str "fork")) (mCons (mCall gTuple (mCons (mVar 10) mNil)) mNil))) (mCons (mVar 1) mNil))))))) sNext)
  (sSeq (sAsg [10] 12 (mCall g__law_expression (mCons (mVar 0) (mCons (mOp gAdd (mVar 1) (mC (.int 1))) (mCons (mVar 2) (mCons (mVar 3) (mCons (mC (.int 2)) mNil)))))))
  (sSeq (sIf (mAnd (mOp gEq (mVar 8) (mC (.int 5))) (mOp gGt (mVar 5) (mC (.int 0)))) (sSeq (sAsg [10] 9 (mCall g__law_block (mCons (mVar 0) (mCons (mOp gIx (mVar 12) (mC (.int 1))) (mCons (mVar 2) (mCons (mVar 3) (mCons (mVar 4) (mCons (mOp gSub (mVar 5) (mC (.int 1))) mNil))))))))
  (sSeq (sAsg [10] 13 (mCall g__law_block (mCons (mVar 0) (mCons (mOp gIx (mVar 9) (mC (.int 1))) (mCons (mVar 2) (mCons (mVar 3) (mCons (mVar 4) (mCons (mOp gSub (mVar 5) (mC (.int 1))) mNil))))))))
  (sRet (mTup (mCons (mTup (mCons (mC (.str "if")) (mCons (mOp gIx (mVar 12) (mC (.int 0))) (mCons (mOp gIx (mVar 9) (mC (.int 0))) (mCons (mOp gIx (mVar 13) (mC (.int 0))) mNil))))) (mCons (mOp gIx (mVar 13) (mC (.int 1))) mNil)))))) sNext)
  (sSeq (sIf (mAnd (mOp gEq (mVar 8) (mC (.int 7))) (mOp gGt (mVar 5) (mC (.int 0)))) (sSeq (sAsg [10] 9 (mCall g__law_block (mCons (mVar 0) (mCons (mOp gIx (mVar 12) (mC (.int 1))) (mCons (mVar 2) (mCons (mOp gAdd (mVar 3) (mLst (mCons (mVar 7) mNil))) (mCons (mVar 4) (mCons (mOp gSub (mVar 5) (mC (.int 1))) mNil))))))))
  (sRet (mTup (mCons (mTup (mCons (mC (.str "each")) (mCons (mVar 7) (mCons (mOp gIx (mVar 12) (mC (.int 0))) (mCons (mOp gIx (mVar 9) (mC (.int 0))) mNil))))) (mCons (mOp gIx (mVar 9) (mC (.int 1))) mNil))))) sNext)
  (sSeq (sAsg [10] 14 (mOp gIx (mVar 2) (mOp gMod (mCall gInt (mCons (mOp gDiv (mVar 6) (mC (.int 60))) mNil)) (mCall gLen (mCons (mVar 2) mNil)))))
  (sSeq (sIf (mOp gEq (mVar 8) (mC (.int 8))) (sSeq (sAsg [10] 15 (mCall g__law_expression (mCons (mVar 0) (mCons (mOp gIx (mVar 12) (mC (.int 1))) (mCons (mVar 2) (mCons (mOp gAdd (mVar 3) (mLst (mCons (mVar 14) mNil))) (mCons (mC (.int 1)) mNil)))))))
  (sRet (mTup (mCons (mTup (mCons (mC (.str "fold")) (mCons (mVar 7) (mCons (mOp gIx (mLst (mCons (mC (.str "+")) (mCons (mC (.str "-")) (mCons (mC (.str "*")) (mCons (mC (.str "max")) (mCons (mC (.str "min")) mNil)))))) (mOp gMod (mCall gInt (mCons (mOp gDiv (mVar 6) (mC (.int 300))) mNil)) (mC (.int 5)))) (mCons (mVar 14) (mCons (mOp gIx (mVar 12) (mC (.int 0))) (mCons (mOp gIx (mVar 15) (mC (.int 0))) mNil))))))) (mCons (mOp gIx (mVar 15) (mC (.int 1))) mNil))))) sNext)
  (sSeq (sIf (mOr (mOp gEq (mVar 8) (mC (.int 3))) (mOp gEq (mVar 8) (mC (.int 4)))) (sRet (mTup (mCons (mTup (mCons (mC (.str "add")) (mCons (mVar 7) (mCons (mOp gIx (mLst (mCons (mC (.str "+")) (mCons (mC (.str "*")) (mCons (mC (.str "max")) (mCons (mC (.str "min")) mNil))))) (mOp gMod (mCall gInt (mCons (mOp gDiv (mVar 6) (mC (.int 60))) mNil)) (mC (.int 4)))) (mCons (mOp gIx (mVar 12) (mC (.int 0))) mNil))))) (mCons (mOp gIx (mVar 12) (mC (.int 1))) mNil)))) sNext)
  (sRet (mTup (mCons (mTup (mCons (mC (.str "set")) (mCons (mVar 7) (mCons (mOp gIx (mVar 12) (mC (.int 0))) mNil)))) (mCons (mOp gIx (mVar 12) (mC (.int 1))) mNil))))))))))))))))
theorem ok__law_statement {P : Program} {w : World} {K : PySem.W.Frag} {mg : Str → Option Value} {base : Heap} {k : Nat} {f : Addr} {fd : FuncData} {f__law_block : Addr} {fd__law_block : FuncData} {k__law_block : Nat} {g__law_block : List D → Option D} {f__law_expression : Addr} {fd__law_expression : FuncData} {k__law_expression : Nat} {g__law_expression : List D → Option D} (B : Blt mg) (C : Cst K w mg) (T__law_statement : TopD K mg "_law_statement" s__law_statement ["_law_stream_here", "_law_at", "_law_pool_here", "_law_locals_here", "_law_tickets", "_law_deep"] f fd)
    (T__law_block : TopD K mg "_law_block" s__law_block ["_law_stream_here", "_law_at", "_law_pool_here", "_law_locals_here", "_law_tickets", "_law_deep"] f__law_block fd__law_block)
    (G__law_block : FnOk P w K mg base CX0 k__law_block f__law_block fd__law_block ["_law_stream_here", "_law_at", "_law_pool_here", "_law_locals_here", "_law_tickets", "_law_deep"] (spM K 6 g__law_block)) (h__law_block : k__law_block ≤ k)
    (T__law_expression : TopD K mg "_law_expression" s__law_expression ["_law_stream_here", "_law_at", "_law_pool_here", "_law_locals_here", "_law_deep"] f__law_expression fd__law_expression)
    (G__law_expression : FnOk P w K mg base CX0 k__law_expression f__law_expression fd__law_expression ["_law_stream_here", "_law_at", "_law_pool_here", "_law_locals_here", "_law_deep"] (spM K 5 g__law_expression)) (h__law_expression : k__law_expression ≤ k)
    : FnOk P w K mg base CX0 (k + 1) f fd ["_law_stream_here", "_law_at", "_law_pool_here", "_law_locals_here", "_law_tickets", "_law_deep"] (spM K 6 (mRun 6 16 (b__law_statement g__law_block g__law_expression))) := by
  exact ok_def (own := [10]) T__law_statement.F sc__law_statement (by decide) fun cdv A outer s H E hr => ⟨_, (mb_cons (ms_asg (i := 6) sc__law_statement.nd (me_ix rfl (me_var 0) (me_mod (me_int1 B.int (ma_cons ma_nil (me_var 1))) (me_len rfl B.len (ma_cons ma_nil (me_var 0))))))
 (mb_cons (ms_asg (i := 7) sc__law_statement.nd (me_ix rfl (me_var 2) (me_mod (me_int1 B.int (ma_cons ma_nil (me_div (me_var 6) me_int))) (me_len rfl B.len (ma_cons ma_nil (me_var 2))))))
 (mb_cons (ms_asg (i := 8) sc__law_statement.nd (me_mod (me_int1 B.int (ma_cons ma_nil (me_var 6))) me_int))
 (mb_cons (ms_if (MW.mt (mw_and (mt_ceq (me_var 8) me_int) (mw_and1 (mt_cgt (me_len rfl B.len (ma_cons ma_nil (me_var 4))) me_int))))
 (mb_one (ms_ret (me_tup (ma_cons (ma_cons ma_nil (me_add rfl (me_var 1) me_int)) (me_tup (ma_cons (ma_cons ma_nil (me_ix rfl (me_var 4) (me_mod (me_int1 B.int (ma_cons ma_nil (me_div (me_var 6) me_int))) (me_len rfl B.len (ma_cons ma_nil (me_var 4)))))) me_str) (len_cons (len_cons len_nil)))) (len_cons (len_cons len_nil)))))
 mb_nil)
 (mb_cons (ms_if (MW.mt (mw_and (mt_ceq (me_var 8) me_int) (mw_and1 (mt_cgt (me_var 5) me_int))))
 (mb_cons (ms_asg (i := 9) sc__law_statement.nd (me_call G__law_block (hr.mono h__law_block) T__law_block.g T__law_block.F.kp T__law_block.b (len_cons (len_cons (len_cons (len_cons (len_cons (len_cons len_nil)))))) (ma_cons (ma_cons (ma_cons (ma_cons (ma_cons (ma_cons ma_nil (me_sub (me_var 5) me_int)) (me_var 4)) (me_var 3)) (me_var 2)) (me_add rfl (me_var 1) me_int)) (me_var 0))))
 (mb_one (ms_ret (me_tup (ma_cons (ma_cons ma_nil (me_ix rfl (me_var 9) me_int)) (me_tup (ma_cons (ma_cons (ma_cons ma_nil (me_ix rfl (me_var 9) me_int)) (me_var 7)) me_str) (len_cons (len_cons (len_cons len_nil))))) (len_cons (len_cons len_nil))))))
 mb_nil)
 (mb_cons (ms_if (MW.mt (mw_and (mt_ceq (me_var 8) me_int) (mw_and1 (mt_cgt (me_var 5) me_int))))
 (mb_cons (ms_own (i := 10) sc__law_statement.nd (ml_lst ma_nil len_nil))
 (mb_cons (ms_asg (i := 1) sc__law_statement.nd (me_add rfl (me_var 1) me_int))
 (mb_cons (ms_for (i := 11) PassesOwn.never rfl sc__law_statement.nd (mi_rng B.range (ma_cons ma_nil (me_add rfl me_int (me_mod (me_int1 B.int (ma_cons ma_nil (me_div (me_var 6) me_int))) me_int))))
 (mb_cons (ms_asg (i := 9) sc__law_statement.nd (me_call G__law_block (hr.mono h__law_block) T__law_block.g T__law_block.F.kp T__law_block.b (len_cons (len_cons (len_cons (len_cons (len_cons (len_cons len_nil)))))) (ma_cons (ma_cons (ma_cons (ma_cons (ma_cons (ma_cons ma_nil (me_sub (me_var 5) me_int)) (me_var 4)) (me_var 3)) (me_var 2)) (me_var 1)) (me_var 0))))
 (mb_cons (ms_app rfl 10 (me_ix rfl (me_var 9) me_int))
 (mb_one (ms_asg (i := 1) sc__law_statement.nd (me_ix rfl (me_var 9) me_int))))))
 (mb_one (ms_ret (me_tup (ma_cons (ma_cons ma_nil (me_var 1)) (me_tup (ma_cons (ma_cons ma_nil (me_tuple rfl B.tuple (ma_cons ma_nil (me_var 10)))) me_str) (len_cons (len_cons len_nil)))) (len_cons (len_cons len_nil))))))))
 mb_nil)
 (mb_cons (ms_asg (i := 12) sc__law_statement.nd (me_call G__law_expression (hr.mono h__law_expression) T__law_expression.g T__law_expression.F.kp T__law_expression.b (len_cons (len_cons (len_cons (len_cons (len_cons len_nil))))) (ma_cons (ma_cons (ma_cons (ma_cons (ma_cons ma_nil me_int) (me_var 3)) (me_var 2)) (me_add rfl (me_var 1) me_int)) (me_var 0))))
 (mb_cons (ms_if (MW.mt (mw_and (mt_ceq (me_var 8) me_int) (mw_and1 (mt_cgt (me_var 5) me_int))))
 (mb_cons (ms_asg (i := 9) sc__law_statement.nd (me_call G__law_block (hr.mono h__law_block) T__law_block.g T__law_block.F.kp T__law_block.b (len_cons (len_cons (len_cons (len_cons (len_cons (len_cons len_nil)))))) (ma_cons (ma_cons (ma_cons (ma_cons (ma_cons (ma_cons ma_nil (me_sub (me_var 5) me_int)) (me_var 4)) (me_var 3)) (me_var 2)) (me_ix rfl (me_var 12) me_int)) (me_var 0))))
 (mb_cons (ms_asg (i := 13) sc__law_statement.nd (me_call G__law_block (hr.mono h__law_block) T__law_block.g T__law_block.F.kp T__law_block.b (len_cons (len_cons (len_cons (len_cons (len_cons (len_cons len_nil)))))) (ma_cons (ma_cons (ma_cons (ma_cons (ma_cons (ma_cons ma_nil (me_sub (me_var 5) me_int)) (me_var 4)) (me_var 3)) (me_var 2)) (me_ix rfl (me_var 9) me_int)) (me_var 0))))
 (mb_one (ms_ret (me_tup (ma_cons (ma_cons ma_nil (me_ix rfl (me_var 13) me_int)) (me_tup (ma_cons (ma_cons (ma_cons (ma_cons ma_nil (me_ix rfl (me_var 13) me_int)) (me_ix rfl (me_var 9) me_int)) (me_ix rfl (me_var 12) me_int)) me_str) (len_cons (len_cons (len_cons (len_cons len_nil)))))) (len_cons (len_cons len_nil)))))))
 mb_nil)
 (mb_cons (ms_if (MW.mt (mw_and (mt_ceq (me_var 8) me_int) (mw_and1 (mt_cgt (me_var 5) me_int))))
 (mb_cons (ms_asg (i := 9) sc__law_statement.nd (me_call G__law_block (hr.mono h__law_block) T__law_block.g T__law_block.F.kp T__law_block.b (len_cons (len_cons (len_cons (len_cons (len_cons (len_cons len_nil)))))) (ma_cons (ma_cons (ma_cons (ma_cons (ma_cons (ma_cons ma_nil (me_sub (me_var 5) me_int)) (me_var 4)) (me_add rfl (me_var 3) (me_lst (ma_cons ma_nil (me_var 7)) (len_cons len_nil)))) (me_var 2)) (me_ix rfl (me_var 12) me_int)) (me_var 0))))
 (mb_one (ms_ret (me_tup (ma_cons (ma_cons ma_nil (me_ix rfl (me_var 9) me_int)) (me_tup (ma_cons (ma_cons (ma_cons (ma_cons ma_nil (me_ix rfl (me_var 9) me_int)) (me_ix rfl (me_var 12) me_int)) (me_var 7)) me_str) (len_cons (len_cons (len_cons (len_cons len_nil)))))) (len_cons (len_cons len_nil))))))
 mb_nil)
 (mb_cons (ms_asg (i := 14) sc__law_statement.nd (me_ix rfl (me_var 2) (me_mod (me_int1 B.int (ma_cons ma_nil (me_div (me_var 6) me_int))) (me_len rfl B.len (ma_cons ma_nil (me_var 2))))))
 (mb_cons (ms_if (mt_ceq (me_var 8) me_int)
 (mb_cons (ms_asg (i := 15) sc__law_statement.nd (me_call G__law_expression (hr.mono h__law_expression) T__law_expression.g T__law_expression.F.kp T__law_expression.b (len_cons (len_cons (len_cons (len_cons (len_cons len_nil))))) (ma_cons (ma_cons (ma_cons (ma_cons (ma_cons ma_nil me_int) (me_add rfl (me_var 3) (me_lst (ma_cons ma_nil (me_var 14)) (len_cons len_nil)))) (me_var 2)) (me_ix rfl (me_var 12) me_int)) (me_var 0))))
 (mb_one (ms_ret (me_tup (ma_cons (ma_cons ma_nil (me_ix rfl (me_var 15) me_int)) (me_tup (ma_cons (ma_cons (ma_cons (ma_cons (ma_cons (ma_cons ma_nil (me_ix rfl (me_var 15) me_int)) (me_ix rfl (me_var 12) me_int)) (me_var 14)) (me_ix rfl (me_lst (ma_cons (ma_cons (ma_cons (ma_cons (ma_cons ma_nil me_str) me_str) me_str) me_str) me_str) (len_cons (len_cons (len_cons (len_cons (len_cons len_nil)))))) (me_mod (me_int1 B.int (ma_cons ma_nil (me_div (me_var 6) me_int))) me_int))) (me_var 7)) me_str) (len_cons (len_cons (len_cons (len_cons (len_cons (len_cons len_nil)))))))) (len_cons (len_cons len_nil))))))
 mb_nil)
 (mb_cons (ms_if (MW.mt (mw_or (mt_ceq (me_var 8) me_int) (mw_or1 (mt_ceq (me_var 8) me_int))))
 (mb_one (ms_ret (me_tup (ma_cons (ma_cons ma_nil (me_ix rfl (me_var 12) me_int)) (me_tup (ma_cons (ma_cons (ma_cons (ma_cons ma_nil (me_ix rfl (me_var 12) me_int)) (me_ix rfl (me_lst (ma_cons (ma_cons (ma_cons (ma_cons ma_nil me_str) me_str) me_str) me_str) (len_cons (len_cons (len_cons (len_cons len_nil))))) (me_mod (me_int1 B.int (ma_cons ma_nil (me_div (me_var 6) me_int))) me_int))) (me_var 7)) me_str) (len_cons (len_cons (len_cons (len_cons len_nil)))))) (len_cons (len_cons len_nil)))))
 mb_nil)
 (mb_one (ms_ret (me_tup (ma_cons (ma_cons ma_nil (me_ix rfl (me_var 12) me_int)) (me_tup (ma_cons (ma_cons (ma_cons ma_nil (me_ix rfl (me_var 12) me_int)) (me_var 7)) me_str) (len_cons (len_cons (len_cons len_nil))))) (len_cons (len_cons len_nil)))))))))))))))))⟩
/-! ### _law_block -/
theorem sc__law_block : FnScope ["_law_stream_here", "_law_at", "_law_pool_here", "_law_locals_here", "_law_tickets", "_law_deep", "_law_n", "_law_statements", "_law_known", "_law_size", "_law_turn", "_law_found"] ["_law_stream_here", "_law_at", "_law_pool_here", "_law_locals_here", "_law_tickets", "_law_deep"] (defScope s__law_block) := ⟨rfl, rfl, rfl, by decide +kernel, rfl, by decide +kernel, by decide +kernel⟩
def b__law_block (g__law_statement : List D → Option D) : S :=
  (sSeq (sAsg [7, 8] 6 (mOp gIx (mVar 0) (mOp gMod (mCall gInt (mCons (mVar 1) mNil)) (mCall gLen (mCons (mVar 0) mNil)))))
  (sSeq (sOwn [7, 8] 7 mNil)
  (sSeq (sOwn [7, 8] 8 (mListOf (mCons (mVar 4) mNil)))
  (sSeq (sAsg [7, 8] 1 (mOp gAdd (mVar 1) (mC (.int 1))))
  (sSeq (sAsg [7, 8] 9 (mOp gAdd (mOp gIx (mLst (mCons (mC (.int 0)) (mCons (mC (.int 1)) (mCons (mC (.int 1)) (mCons (mC (.int 1)) (mCons (mC (.int 2)) (mCons (mC (.int 2)) (mCons (mC (.int 1)) (mCons (mC (.int 1)) mNil))))))))) (mOp gMod (mCall gInt (mCons (mVar 6) mNil)) (mC (.int 8)))) (mOp gMul (mCall gInt (mCons (mOp gEq (mVar 5) (mC (.int 3))) mNil)) (mOp gAdd (mC (.int 1)) (mOp gMod (mCall gInt (mCons (mOp gDiv (mVar 6) (mC (.int 8))) mNil)) (mC (.int 4)))))))
  (sSeq (sFor [7, 8] 10 (wRng (mCons (mOp gMul (mVar 9) (mCall gInt (mCons (mOp gLt (mVar 1) (mC (.int 90))) mNil))) mNil)) (sSeq (sAsgF 11 (mCall g__law_statement (mCons (mVar 0) (mCons (mVar 1) (mCons (mVar 2) (mCons (mVar 3) (mCons (mVar 8) (mCons (mVar 5) mNil))))))))
  (sSeq (sApp [7, 8] 7 (mOp gIx (mVar 11) (mC (.int 0))))
  (sSeq (sAsg [7, 8] 1 (mOp gIx (mVar 11) (mC (.int 1))))
  (sIf (mOp gEq (mOp gIx (mOp gIx (mVar 11) (mC (.int 0))) (mC (.int 0))) (mC (.str "start"))) (sApp [7, 8] 8 (mOp gIx (mOp gIx (mVar 11) (mC (.int 0))) (mC (.int 1)))) sNext)))))
  (sRet (mTup (mCons (mCall gTuple (mCons (mVar 7) mNil)) (mCons (mVar 1) mNil))))))))))
theorem ok__law_block {P : Program} {w : World} {K : PySem.W.Frag} {mg : Str → Option Value} {base : Heap} {k : Nat} {f : Addr} {fd : FuncData} {f__law_statement : Addr} {fd__law_statement : FuncData} {k__law_statement : Nat} {g__law_statement : List D → Option D} (B : Blt mg) (C : Cst K w mg) (T__law_block : TopD K mg "_law_block" s__law_block ["_law_stream_here", "_law_at", "_law_pool_here", "_law_locals_here", "_law_tickets", "_law_deep"] f fd)
    (T__law_statement : TopD K mg "_law_statement" s__law_statement ["_law_stream_here", "_law_at", "_law_pool_here", "_law_locals_here", "_law_tickets", "_law_deep"] f__law_statement fd__law_statement)
    (G__law_statement : FnOk P w K mg base CX0 k__law_statement f__law_statement fd__law_statement ["_law_stream_here", "_law_at", "_law_pool_here", "_law_locals_here", "_law_tickets", "_law_deep"] (spM K 6 g__law_statement)) (h__law_statement : k__law_statement ≤ k)
    : FnOk P w K mg base CX0 (k + 1) f fd ["_law_stream_here", "_law_at", "_law_pool_here", "_law_locals_here", "_law_tickets", "_law_deep"] (spM K 6 (mRun 6 12 (b__law_block g__law_statement))) := by
  exact ok_def (own := [7, 8]) T__law_block.F sc__law_block (by decide) fun cdv A outer s H E hr => ⟨_, (mb_cons (ms_asg (i := 6) sc__law_block.nd (me_ix rfl (me_var 0) (me_mod (me_int1 B.int (ma_cons ma_nil (me_var 1))) (me_len rfl B.len (ma_cons ma_nil (me_var 0))))))
 (mb_cons (ms_own (i := 7) sc__law_block.nd (ml_lst ma_nil len_nil))
 (mb_cons (ms_own (i := 8) sc__law_block.nd (ml_list rfl B.list (ma_cons ma_nil (me_var 4))))
 (mb_cons (ms_asg (i := 1) sc__law_block.nd (me_add rfl (me_var 1) me_int))
 (mb_cons (ms_asg (i := 9) sc__law_block.nd (me_add rfl (me_ix rfl (me_lst (ma_cons (ma_cons (ma_cons (ma_cons (ma_cons (ma_cons (ma_cons (ma_cons ma_nil me_int) me_int) me_int) me_int) me_int) me_int) me_int) me_int) (len_cons (len_cons (len_cons (len_cons (len_cons (len_cons (len_cons (len_cons len_nil))))))))) (me_mod (me_int1 B.int (ma_cons ma_nil (me_var 6))) me_int)) (me_mul (me_int1 B.int (ma_cons ma_nil (me_ceq (me_var 5) me_int))) (me_add rfl me_int (me_mod (me_int1 B.int (ma_cons ma_nil (me_div (me_var 6) me_int))) me_int)))))
 (mb_cons (ms_for (i := 10) PassesOwn.never rfl sc__law_block.nd (mi_rng B.range (ma_cons ma_nil (me_mul (me_var 9) (me_int1 B.int (ma_cons ma_nil (me_clt (me_var 1) me_int))))))
 (mb_cons (ms_asgF (i := 11) sc__law_block.nd (me_call G__law_statement (hr.mono h__law_statement) T__law_statement.g T__law_statement.F.kp T__law_statement.b (len_cons (len_cons (len_cons (len_cons (len_cons (len_cons len_nil)))))) (ma_cons (ma_cons (ma_cons (ma_cons (ma_cons (ma_cons ma_nil (me_var 5)) (me_var 8)) (me_var 3)) (me_var 2)) (me_var 1)) (me_var 0))))
 (mb_cons (ms_app rfl 7 (me_ix rfl (me_var 11) me_int))
 (mb_cons (ms_asg (i := 1) sc__law_block.nd (me_ix rfl (me_var 11) me_int))
 (mb_one (ms_if (mt_ceq (me_ix rfl (me_ix rfl (me_var 11) me_int) me_int) me_str)
 (mb_one (ms_app rfl 8 (me_ix rfl (me_ix rfl (me_var 11) me_int) me_int)))
 mb_nil))))))
 (mb_one (ms_ret (me_tup (ma_cons (ma_cons ma_nil (me_var 1)) (me_tuple rfl B.tuple (ma_cons ma_nil (me_var 7)))) (len_cons (len_cons len_nil)))))))))))⟩
/-! ### _law_turns -/
theorem sc__law_turns : FnScope ["_law_expression_here"] ["_law_expression_here"] (defScope s__law_turns) := ⟨rfl, rfl, rfl, by decide +kernel, rfl, by decide +kernel, by decide +kernel⟩
def b__law_turns : S :=
  (sSeq (sIf (mOp gEq (mOp gIx (mVar 0) (mC (.int 0))) (mC (.str "number"))) (sRet (mOp gMod (mCall gInt (mCons (mOp gIx (mVar 0) (mC (.int 1))) mNil)) (mC (.int 7)))) sNext)
  (sRet (mC (.int 6))))
theorem ok__law_turns {P : Program} {w : World} {K : PySem.W.Frag} {mg : Str → Option Value} {base : Heap} {k : Nat} {f : Addr} {fd : FuncData} (B : Blt mg) (C : Cst K w mg) (T__law_turns : TopD K mg "_law_turns" s__law_turns ["_law_expression_here"] f fd)
    : FnOk P w K mg base CX0 (k + 1) f fd ["_law_expression_here"] (spM K 1 (mRun 1 1 (b__law_turns ))) := by
  exact ok_def (own := []) T__law_turns.F sc__law_turns (by decide) fun cdv A outer s H E hr => ⟨_, (mb_cons (ms_if (mt_ceq (me_ix rfl (me_var 0) me_int) me_str)
 (mb_one (ms_ret (me_mod (me_int1 B.int (ma_cons ma_nil (me_ix rfl (me_var 0) me_int))) me_int)))
 mb_nil)
 (mb_one (ms_ret me_int)))⟩
/-! ### _law_most -/
theorem sc__law_most : FnScope ["_law_block_here", "_law_total", "_law_statement_here", "_law_kind", "_law_one", "_law_two", "_law_inner"] ["_law_block_here"] (defScope s__law_most) := ⟨rfl, rfl, rfl, by decide +kernel, rfl, by decide +kernel, by decide +kernel⟩
def b__law_most (g__law_most g__law_turns : List D → Option D) : S :=
  (sSeq (sAsg [] 1 (mC (.int 0)))
  (sSeq (sFor [] 2 (wTup (mVar 0)) (sSeq (sAsg [] 3 (mOp gIx (mVar 2) (mC (.int 0))))
  (sSeq (sAsg [] 1 (mOp gAdd (mVar 1) (mC (.int 1))))
  (sSeq (sIf (mOp gEq (mVar 3) (mC (.str "if"))) (sSeq (sAsg [] 4 (mCall g__law_most (mCons (mOp gIx (mVar 2) (mC (.int 2))) mNil)))
  (sSeq (sAsg [] 5 (mCall g__law_most (mCons (mOp gIx (mVar 2) (mC (.int 3))) mNil)))
  (sAsg [] 1 (mOp gAdd (mOp gAdd (mVar 1) (mVar 4)) (mOp gMul (mOp gSub (mVar 5) (mVar 4)) (mCall gInt (mCons (mOp gGt (mVar 5) (mVar 4)) mNil))))))) sNext)
  (sSeq (sIf (mOp gEq (mVar 3) (mC (.str "fork"))) (sSeq (sAsg [] 1 (mOp gAdd (mVar 1) (mC (.int 1))))
  (sFor [] 6 (wTup (mOp gIx (mVar 2) (mC (.int 1)))) (sAsg [] 1 (mOp gAdd (mVar 1) (mCall g__law_most (mCons (mVar 6) mNil)))))) sNext)
  (sSeq (sIf (mOp gEq (mVar 3) (mC (.str "each"))) (sAsg [] 1 (mOp gAdd (mOp gAdd (mVar 1) (mC (.int 1))) (mOp gMul (mCall g__law_turns (mCons (mOp gIx (mVar 2) (mC (.int 2))) mNil)) (mCall g__law_most (mCons (mOp gIx (mVar 2) (mC (.int 3))) mNil))))) sNext)
  (sSeq (sIf (mOp gEq (mVar 3) (mC (.str "fold"))) (sAsg [] 1 (mOp gAdd (mOp gAdd (mVar 1) (mC (.int 1))) (mCall gMax (mCons (mC (.int 0)) (mCons (mOp gSub (mOp gMul (mC (.int 2)) (mCall g__law_turns (mCons (mOp gIx (mVar 2) (mC (.int 4))) mNil))) (mC (.int 1))) mNil))))) sNext)
  (sIf (mOp gEq (mVar 3) (mC (.str "start"))) (sAsg [] 1 (mOp gAdd (mVar 1) (mCall g__law_most (mCons (mOp gIx (mVar 2) (mC (.int 2))) mNil)))) sNext))))))))
  (sRet (mVar 1))))
theorem ok__law_most {P : Program} {w : World} {K : PySem.W.Frag} {mg : Str → Option Value} {base : Heap} {k : Nat} {f__law_most : Addr} {fd__law_most : FuncData} {k__law_most : Nat} {g__law_most : List D → Option D} {f__law_turns : Addr} {fd__law_turns : FuncData} {k__law_turns : Nat} {g__law_turns : List D → Option D} (B : Blt mg) (C : Cst K w mg) (T__law_most : TopD K mg "_law_most" s__law_most ["_law_block_here"] f__law_most fd__law_most)
    (G__law_most : FnOk P w K mg base CX0 k__law_most f__law_most fd__law_most ["_law_block_here"] (spM K 1 g__law_most)) (h__law_most : k__law_most ≤ k)
    (T__law_turns : TopD K mg "_law_turns" s__law_turns ["_law_expression_here"] f__law_turns fd__law_turns)
    (G__law_turns : FnOk P w K mg base CX0 k__law_turns f__law_turns fd__law_turns ["_law_expression_here"] (spM K 1 g__law_turns)) (h__law_turns : k__law_turns ≤ k)
    : FnOk P w K mg base CX0 (k + 1) f__law_most fd__law_most ["_law_block_here"] (spM K 1 (mRun 1 7 (b__law_most g__law_most g__law_turns))) := by
  exact ok_def (own := []) T__law_most.F sc__law_most (by decide) fun cdv A outer s H E hr => ⟨_, (mb_cons (ms_asg (i := 1) sc__law_most.nd me_int)
 (mb_cons (ms_for (i := 2) PassesOwn.never rfl sc__law_most.nd (mi_tup rfl (me_var 0))
 (mb_cons (ms_asg (i := 3) sc__law_most.nd (me_ix rfl (me_var 2) me_int))
 (mb_cons (ms_asg (i := 1) sc__law_most.nd (me_add rfl (me_var 1) me_int))
 (mb_cons (ms_if (mt_ceq (me_var 3) me_str)
 (mb_cons (ms_asg (i := 4) sc__law_most.nd (me_call G__law_most (hr.mono h__law_most) T__law_most.g T__law_most.F.kp T__law_most.b (len_cons len_nil) (ma_cons ma_nil (me_ix rfl (me_var 2) me_int))))
 (mb_cons (ms_asg (i := 5) sc__law_most.nd (me_call G__law_most (hr.mono h__law_most) T__law_most.g T__law_most.F.kp T__law_most.b (len_cons len_nil) (ma_cons ma_nil (me_ix rfl (me_var 2) me_int))))
 (mb_one (ms_asg (i := 1) sc__law_most.nd (me_add rfl (me_add rfl (me_var 1) (me_var 4)) (me_mul (me_sub (me_var 5) (me_var 4)) (me_int1 B.int (ma_cons ma_nil (me_cgt (me_var 5) (me_var 4))))))))))
 mb_nil)
 (mb_cons (ms_if (mt_ceq (me_var 3) me_str)
 (mb_cons (ms_asg (i := 1) sc__law_most.nd (me_add rfl (me_var 1) me_int))
 (mb_one (ms_for (i := 6) PassesOwn.never rfl sc__law_most.nd (mi_tup rfl (me_ix rfl (me_var 2) me_int))
 (mb_one (ms_asg (i := 1) sc__law_most.nd (me_add rfl (me_var 1) (me_call G__law_most (hr.mono h__law_most) T__law_most.g T__law_most.F.kp T__law_most.b (len_cons len_nil) (ma_cons ma_nil (me_var 6)))))))))
 mb_nil)
 (mb_cons (ms_if (mt_ceq (me_var 3) me_str)
 (mb_one (ms_asg (i := 1) sc__law_most.nd (me_add rfl (me_add rfl (me_var 1) me_int) (me_mul (me_call G__law_turns (hr.mono h__law_turns) T__law_turns.g T__law_turns.F.kp T__law_turns.b (len_cons len_nil) (ma_cons ma_nil (me_ix rfl (me_var 2) me_int))) (me_call G__law_most (hr.mono h__law_most) T__law_most.g T__law_most.F.kp T__law_most.b (len_cons len_nil) (ma_cons ma_nil (me_ix rfl (me_var 2) me_int)))))))
 mb_nil)
 (mb_cons (ms_if (mt_ceq (me_var 3) me_str)
 (mb_one (ms_asg (i := 1) sc__law_most.nd (me_add rfl (me_add rfl (me_var 1) me_int) (me_max rfl B.max (ma_cons (ma_cons ma_nil (me_sub (me_mul me_int (me_call G__law_turns (hr.mono h__law_turns) T__law_turns.g T__law_turns.F.kp T__law_turns.b (len_cons len_nil) (ma_cons ma_nil (me_ix rfl (me_var 2) me_int)))) me_int)) me_int)))))
 mb_nil)
 (mb_one (ms_if (mt_ceq (me_var 3) me_str)
 (mb_one (ms_asg (i := 1) sc__law_most.nd (me_add rfl (me_var 1) (me_call G__law_most (hr.mono h__law_most) T__law_most.g T__law_most.F.kp T__law_most.b (len_cons len_nil) (ma_cons ma_nil (me_ix rfl (me_var 2) me_int))))))
 mb_nil)))))))))
 (mb_one (ms_ret (me_var 1)))))⟩
/-! ### _law_program -/
theorem sc__law_program : FnScope ["_law_script", "_law_k", "_law_pool_here", "_law_most_here", "_law_block_here", "_law_turn"] ["_law_script", "_law_k", "_law_pool_here", "_law_most_here"] (defScope s__law_program) := ⟨rfl, rfl, rfl, by decide +kernel, rfl, by decide +kernel, by decide +kernel⟩
def b__law_program (g__law_stream g__law_block g__law_most : List D → Option D) : S :=
  (sSeq (sAsg [] 4 (mOp gIx (mCall g__law_block (mCons (mCall g__law_stream (mCons (mVar 0) (mCons (mVar 1) (mCons (mC (.int 8)) mNil)))) (mCons (mC (.int 0)) (mCons (mVar 2) (mCons (mLst mNil) (mCons (mLst mNil) (mCons (mC (.int 3)) mNil))))))) (mC (.int 0))))
  (sSeq (sFor [] 5 (wRng (mCons (mC (.int 8)) mNil)) (sIf (mOp gGt (mCall g__law_most (mCons (mVar 4) mNil)) (mVar 3)) (sAsg [] 4 (mUn (gSl none (some (-1))) (mVar 4))) sNext))
  (sRet (mVar 4))))
theorem ok__law_program {P : Program} {w : World} {K : PySem.W.Frag} {mg : Str → Option Value} {base : Heap} {k : Nat} {f : Addr} {fd : FuncData} {f__law_stream : Addr} {fd__law_stream : FuncData} {k__law_stream : Nat} {g__law_stream : List D → Option D} {f__law_block : Addr} {fd__law_block : FuncData} {k__law_block : Nat} {g__law_block : List D → Option D} {f__law_most : Addr} {fd__law_most : FuncData} {k__law_most : Nat} {g__law_most : List D → Option D} (B : Blt mg) (C : Cst K w mg) (T__law_program : TopD K mg "_law_program" s__law_program ["_law_script", "_law_k", "_law_pool_here", "_law_most_here"] f fd)
    (T__law_stream : TopD K mg "_law_stream" s__law_stream ["_law_script", "_law_k", "_law_cells"] f__law_stream fd__law_stream)
    (G__law_stream : FnOk P w K mg base CX0 k__law_stream f__law_stream fd__law_stream ["_law_script", "_law_k", "_law_cells"] (spM K 3 g__law_stream)) (h__law_stream : k__law_stream ≤ k)
    (T__law_block : TopD K mg "_law_block" s__law_block ["_law_stream_here", "_law_at", "_law_pool_here", "_law_locals_here", "_law_tickets", "_law_deep"] f__law_block fd__law_block)
    (G__law_block : FnOk P w K mg base CX0 k__law_block f__law_block fd__law_block ["_law_stream_here", "_law_at", "_law_pool_here", "_law_locals_here", "_law_tickets", "_law_deep"] (spM K 6 g__law_block)) (h__law_block : k__law_block ≤ k)
    (T__law_most : TopD K mg "_law_most" s__law_most ["_law_block_here"] f__law_most fd__law_most)
    (G__law_most : FnOk P w K mg base CX0 k__law_most f__law_most fd__law_most ["_law_block_here"] (spM K 1 g__law_most)) (h__law_most : k__law_most ≤ k)
    : FnOk P w K mg base CX0 (k + 1) f fd ["_law_script", "_law_k", "_law_pool_here", "_law_most_here"] (spM K 4 (mRun 4 6 (b__law_program g__law_stream g__law_block g__law_most))) := by
  exact ok_def (own := []) T__law_program.F sc__law_program (by decide) fun cdv A outer s H E hr => ⟨_, (mb_cons (ms_asg (i := 4) sc__law_program.nd (me_ix rfl (me_call G__law_block (hr.mono h__law_block) T__law_block.g T__law_block.F.kp T__law_block.b (len_cons (len_cons (len_cons (len_cons (len_cons (len_cons len_nil)))))) (ma_cons (ma_cons (ma_cons (ma_cons (ma_cons (ma_cons ma_nil me_int) (me_lst ma_nil len_nil)) (me_lst ma_nil len_nil)) (me_var 2)) me_int) (me_call G__law_stream (hr.mono h__law_stream) T__law_stream.g T__law_stream.F.kp T__law_stream.b (len_cons (len_cons (len_cons len_nil))) (ma_cons (ma_cons (ma_cons ma_nil me_int) (me_var 1)) (me_var 0))))) me_int))
 (mb_cons (ms_for (i := 5) PassesOwn.never rfl sc__law_program.nd (mi_rng B.range (ma_cons ma_nil me_int))
 (mb_one (ms_if (mt_cgt (me_call G__law_most (hr.mono h__law_most) T__law_most.g T__law_most.F.kp T__law_most.b (len_cons len_nil) (ma_cons ma_nil (me_var 4))) (me_var 3))
 (mb_one (ms_asg (i := 4) sc__law_program.nd (me_sl rfl (me_var 4) mo_none mo_neg)))
 mb_nil)))
 (mb_one (ms_ret (me_var 4)))))⟩
end ML
set_option Elab.async false
set_option linter.all false
set_option maxRecDepth 100000
set_option maxHeartbeats 4000000
namespace ML
open PySem PySem.Spec PyProof.Rows L2
/-! ### _law_is_word -/
theorem sc__law_is_word : FnScope ["_law_value", "_law_sign"] ["_law_value"] (defScope s__law_is_word) := ⟨rfl, rfl, rfl, by decide +kernel, rfl, by decide +kernel, by decide +kernel⟩
def b__law_is_word : S :=
  (sSeq (sIf (mOr (mNot (mUn (fun d => some (.bl (isK "str" d))) (mVar 0))) (mOr (mOp gLt (mCall gLen (mCons (mVar 0) mNil)) (mC (.int 1))) (mOp gGt (mCall gLen (mCons (mVar 0) mNil)) (mC (.int 8))))) (sRet (mC (.bl false))) sNext)
  (sSeq (sFor [] 1 (wStr (mVar 0)) (sIf (mOp (gIn true) (mVar 1) (mC (.str "abcdefghijklmnopqrstuvwxyz"))) (sRet (mC (.bl false))) sNext))
  (sRet (mOp (gIn true) (mVar 0) (mLst (mCons (mC (.str "if")) (mCons (mC (.str "fork")) (mCons (mC (.str "each")) (mCons (mC (.str "fold")) (mCons (mC (.str "start")) (mCons (mC (.str "await")) (mCons (mC (.str "max")) (mCons (mC (.str "min")) mNil)))))))))))))
theorem ok__law_is_word {P : Program} {w : World} {K : PySem.W.Frag} {mg : Str → Option Value} {base : Heap} {k : Nat} {f : Addr} {fd : FuncData} (B : Blt mg) (C : Cst K w mg) (T__law_is_word : TopD K mg "_law_is_word" s__law_is_word ["_law_value"] f fd)
    : FnOk P w K mg base CX0 (k + 1) f fd ["_law_value"] (spM K 1 (mRun 1 2 (b__law_is_word ))) := by
  exact ok_def (own := []) T__law_is_word.F sc__law_is_word (by decide) fun cdv A outer s H E hr => ⟨_, (mb_cons (ms_if (MW.mt (mw_or (mt_not (mt_val (me_isi rfl "str" B.isinstance B.str (me_var 0)))) (mw_or (mt_clt (me_len rfl B.len (ma_cons ma_nil (me_var 0))) me_int) (mw_or1 (mt_cgt (me_len rfl B.len (ma_cons ma_nil (me_var 0))) me_int)))))
 (mb_one (ms_ret me_bl))
 mb_nil)
 (mb_cons (ms_for (i := 1) PassesOwn.never rfl sc__law_is_word.nd (mi_str (me_var 0))
 (mb_one (ms_if (mt_cni rfl (hu_of hr) (me_var 1) me_str)
 (mb_one (ms_ret me_bl))
 mb_nil)))
 (mb_one (ms_ret (me_cni rfl (hu_of hr) (me_var 0) (me_lst (ma_cons (ma_cons (ma_cons (ma_cons (ma_cons (ma_cons (ma_cons (ma_cons ma_nil me_str) me_str) me_str) me_str) me_str) me_str) me_str) me_str) (len_cons (len_cons (len_cons (len_cons (len_cons (len_cons (len_cons (len_cons len_nil))))))))))))))⟩
/-! ### _law_is_expression -/
theorem sc__law_is_expression : FnScope ["_law_value", "_law_locals_here"] ["_law_value", "_law_locals_here"] (defScope s__law_is_expression) := ⟨rfl, rfl, rfl, by decide +kernel, rfl, by decide +kernel, by decide +kernel⟩
def b__law_is_expression (g__law_is_word g__law_is_expression : List D → Option D) : S :=
  (sSeq (sIf (mOr (mNot (mUn (fun d => some (.bl (isK "tuple" d))) (mVar 0))) (mOr (mOp gLt (mCall gLen (mCons (mVar 0) mNil)) (mC (.int 2))) (mNot (mUn (fun d => some (.bl (isK "str" d))) (mOp gIx (mVar 0) (mC (.int 0))))))) (sRet (mC (.bl false))) sNext)
  (sSeq (sIf (mAnd (mOp gEq (mOp gIx (mVar 0) (mC (.int 0))) (mC (.str "number"))) (mOp gEq (mCall gLen (mCons (mVar 0) mNil)) (mC (.int 2)))) (sRet (mAnd (mUn (fun d => some (.bl (isK "int" d))) (mOp gIx (mVar 0) (mC (.int 1)))) (mAnd (mNot (mUn (fun d => some (.bl (isK "bool" d))) (mOp gIx (mVar 0) (mC (.int 1))))) (mChain gLe gLt (mC (.int 0)) (mOp gIx (mVar 0) (mC (.int 1))) (mC (.int 1000003)))))) sNext)
  (sSeq (sIf (mAnd (mOp gEq (mOp gIx (mVar 0) (mC (.int 0))) (mC (.str "word"))) (mOp gEq (mCall gLen (mCons (mVar 0) mNil)) (mC (.int 2)))) (sRet (mCall g__law_is_word (mCons (mOp gIx (mVar 0) (mC (.int 1))) mNil))) sNext)
  (sSeq (sIf (mAnd (mOp gEq (mOp gIx (mVar 0) (mC (.int 0))) (mC (.str "local"))) (mOp gEq (mCall gLen (mCons (mVar 0) mNil)) (mC (.int 2)))) (sRet (mAnd (mCall g__law_is_word (mCons (mOp gIx (mVar 0) (mC (.int 1))) mNil)) (mOp (gIn false) (mOp gIx (mVar 0) (mC (.int 1))) (mVar 1)))) sNext)
  (sSeq (sIf (mOr (mOp gNe (mOp gIx (mVar 0) (mC (.int 0))) (mC (.str "do"))) (mOr (mOp gNe (mCall gLen (mCons (mVar 0) mNil)) (mC (.int 4))) (mOp (gIn true) (mOp gIx (mVar 0) (mC (.int 1))) (mLst (mCons (mC (.str "+")) (mCons (mC (.str "-")) (mCons (mC (.str "*")) (mCons (mC (.str "max")) (mCons (mC (.str "min")) (mCons (mC (.str "<")) (mCons (mC (.str "=")) mNil))))))))))) (sRet (mC (.bl false))) sNext)
  (sRet (mAnd (mCall g__law_is_expression (mCons (mOp gIx (mVar 0) (mC (.int 2))) (mCons (mVar 1) mNil))) (mCall g__law_is_expression (mCons (mOp gIx (mVar 0) (mC (.int 3))) (mCons (mVar 1) mNil))))))))))
theorem ok__law_is_expression {P : Program} {w : World} {K : PySem.W.Frag} {mg : Str → Option Value} {base : Heap} {k : Nat} {f__law_is_word : Addr} {fd__law_is_word : FuncData} {k__law_is_word : Nat} {g__law_is_word : List D → Option D} {f__law_is_expression : Addr} {fd__law_is_expression : FuncData} {k__law_is_expression : Nat} {g__law_is_expression : List D → Option D} (B : Blt mg) (C : Cst K w mg) (T__law_is_expression : TopD K mg "_law_is_expression" s__law_is_expression ["_law_value", "_law_locals_here"] f__law_is_expression fd__law_is_expression)
    (T__law_is_word : TopD K mg "_law_is_word" s__law_is_word ["_law_value"] f__law_is_word fd__law_is_word)
    (G__law_is_word : FnOk P w K mg base CX0 k__law_is_word f__law_is_word fd__law_is_word ["_law_value"] (spM K 1 g__law_is_word)) (h__law_is_word : k__law_is_word ≤ k)
    (G__law_is_expression : FnOk P w K mg base CX0 k__law_is_expression f__law_is_expression fd__law_is_expression ["_law_value", "_law_locals_here"] (spM K 2 g__law_is_expression)) (h__law_is_expression : k__law_is_expression ≤ k)
    : FnOk P w K mg base CX0 (k + 1) f__law_is_expression fd__law_is_expression ["_law_value", "_law_locals_here"] (spM K 2 (mRun 2 2 (b__law_is_expression g__law_is_word g__law_is_expression))) := by
  exact ok_def (own := []) T__law_is_expression.F sc__law_is_expression (by decide) fun cdv A outer s H E hr => ⟨_, (mb_cons (ms_if (MW.mt (mw_or (mt_not (mt_val (me_isi rfl "tuple" B.isinstance B.tuple (me_var 0)))) (mw_or (mt_clt (me_len rfl B.len (ma_cons ma_nil (me_var 0))) me_int) (mw_or1 (mt_not (mt_val (me_isi rfl "str" B.isinstance B.str (me_ix rfl (me_var 0) me_int))))))))
 (mb_one (ms_ret me_bl))
 mb_nil)
 (mb_cons (ms_if (MW.mt (mw_and (mt_ceq (me_ix rfl (me_var 0) me_int) me_str) (mw_and1 (mt_ceq (me_len rfl B.len (ma_cons ma_nil (me_var 0))) me_int))))
 (mb_one (ms_ret (me_and (me_isi rfl "int" B.isinstance B.int (me_ix rfl (me_var 0) me_int)) (me_and (me_not (me_isi rfl "bool" B.isinstance B.bool (me_ix rfl (me_var 0) me_int))) (me_one (me_clelt me_int (me_ix rfl (me_var 0) me_int) me_int))))))
 mb_nil)
 (mb_cons (ms_if (MW.mt (mw_and (mt_ceq (me_ix rfl (me_var 0) me_int) me_str) (mw_and1 (mt_ceq (me_len rfl B.len (ma_cons ma_nil (me_var 0))) me_int))))
 (mb_one (ms_ret (me_call G__law_is_word (hr.mono h__law_is_word) T__law_is_word.g T__law_is_word.F.kp T__law_is_word.b (len_cons len_nil) (ma_cons ma_nil (me_ix rfl (me_var 0) me_int)))))
 mb_nil)
 (mb_cons (ms_if (MW.mt (mw_and (mt_ceq (me_ix rfl (me_var 0) me_int) me_str) (mw_and1 (mt_ceq (me_len rfl B.len (ma_cons ma_nil (me_var 0))) me_int))))
 (mb_one (ms_ret (me_and (me_call G__law_is_word (hr.mono h__law_is_word) T__law_is_word.g T__law_is_word.F.kp T__law_is_word.b (len_cons len_nil) (ma_cons ma_nil (me_ix rfl (me_var 0) me_int))) (me_one (me_cin rfl (hu_of hr) (me_ix rfl (me_var 0) me_int) (me_var 1))))))
 mb_nil)
 (mb_cons (ms_if (MW.mt (mw_or (mt_cne (me_ix rfl (me_var 0) me_int) me_str) (mw_or (mt_cne (me_len rfl B.len (ma_cons ma_nil (me_var 0))) me_int) (mw_or1 (mt_cni rfl (hu_of hr) (me_ix rfl (me_var 0) me_int) (me_lst (ma_cons (ma_cons (ma_cons (ma_cons (ma_cons (ma_cons (ma_cons ma_nil me_str) me_str) me_str) me_str) me_str) me_str) me_str) (len_cons (len_cons (len_cons (len_cons (len_cons (len_cons (len_cons len_nil)))))))))))))
 (mb_one (ms_ret me_bl))
 mb_nil)
 (mb_one (ms_ret (me_and (me_call G__law_is_expression (hr.mono h__law_is_expression) T__law_is_expression.g T__law_is_expression.F.kp T__law_is_expression.b (len_cons (len_cons len_nil)) (ma_cons (ma_cons ma_nil (me_var 1)) (me_ix rfl (me_var 0) me_int))) (me_one (me_call G__law_is_expression (hr.mono h__law_is_expression) T__law_is_expression.g T__law_is_expression.F.kp T__law_is_expression.b (len_cons (len_cons len_nil)) (ma_cons (ma_cons ma_nil (me_var 1)) (me_ix rfl (me_var 0) me_int))))))))))))⟩
/-! ### _law_is_compound -/
theorem sc__law_is_compound : FnScope ["_law_value", "_law_locals_here", "_law_tickets", "_law_kind", "_law_block_here"] ["_law_value", "_law_locals_here", "_law_tickets"] (defScope s__law_is_compound) := ⟨rfl, rfl, rfl, by decide +kernel, rfl, by decide +kernel, by decide +kernel⟩
def b__law_is_compound (g__law_is_block g__law_is_expression g__law_is_word : List D → Option D) : S :=
  (sSeq (sAsg [] 3 (mOp gIx (mVar 0) (mC (.int 0))))
  (sSeq (sIf (mAnd (mOp gEq (mVar 3) (mC (.str "fork"))) (mOp gEq (mCall gLen (mCons (mVar 0) mNil)) (mC (.int 2)))) (sSeq (sIf (mOr (mNot (mUn (fun d => some (.bl (isK "tuple" d))) (mOp gIx (mVar 0) (mC (.int 1))))) (mOr (mOp gLt (mCall gLen (mCons (mOp gIx (mVar 0) (mC (.int 1))) mNil)) (mC (.int 1))) (mOp gGt (mCall gLen (mCons (mOp gIx (mVar 0) (mC (.int 1))) mNil)) (mC (.int 4))))) (sRet (mC (.bl false))) sNext)
  (sSeq (sFor [] 4 (wTup (mOp gIx (mVar 0) (mC (.int 1)))) (sIf (mNot (mCall g__law_is_block (mCons (mVar 4) (mCons (mVar 1) (mCons (mVar 2) mNil))))) (sRet (mC (.bl false))) sNext))
  (sRet (mC (.bl true))))) sNext)
  (sSeq (sIf (mAnd (mOp gEq (mVar 3) (mC (.str "if"))) (mAnd (mOp gEq (mCall gLen (mCons (mVar 0) mNil)) (mC (.int 4))) (mCall g__law_is_expression (mCons (mOp gIx (mVar 0) (mC (.int 1))) (mCons (mVar 1) mNil))))) (sRet (mAnd (mCall g__law_is_block (mCons (mOp gIx (mVar 0) (mC (.int 2))) (mCons (mVar 1) (mCons (mVar 2) mNil)))) (mCall g__law_is_block (mCons (mOp gIx (mVar 0) (mC (.int 3))) (mCons (mVar 1) (mCons (mVar 2) mNil)))))) sNext)
  (sSeq (sIf (mAnd (mOp gEq (mVar 3) (mC (.str "each"))) (mAnd (mOp gEq (mCall gLen (mCons (mVar 0) mNil)) (mC (.int 4))) (mAnd (mCall g__law_is_word (mCons (mOp gIx (mVar 0) (mC (.int 1))) mNil)) (mCall g__law_is_expression (mCons (mOp gIx (mVar 0) (mC (.int 2))) (mCons (mVar 1) mNil)))))) (sRet (mCall g__law_is_block (mCons (mOp gIx (mVar 0) (mC (.int 3))) (mCons (mOp gAdd (mVar 1) (mLst (mCons (mOp gIx (mVar 0) (mC (.int 1))) mNil))) (mCons (mVar 2) mNil))))) sNext)
  (sSeq (sIf (mAnd (mOp gEq (mVar 3) (mC (.str "start"))) (mAnd (mOp gEq (mCall gLen (mCons (mVar 0) mNil)) (mC (.int 3))) (mCall g__law_is_word (mCons (mOp gIx (mVar 0) (mC (.int 1))) mNil)))) (sRet (mCall g__law_is_block (mCons (mOp gIx (mVar 0) (mC (.int 2))) (mCons (mVar 1) (mCons (mVar 2) mNil))))) sNext)
  (sRet (mC (.bl false))))))))
theorem ok__law_is_compound {P : Program} {w : World} {K : PySem.W.Frag} {mg : Str → Option Value} {base : Heap} {k : Nat} {f : Addr} {fd : FuncData} {f__law_is_block : Addr} {fd__law_is_block : FuncData} {k__law_is_block : Nat} {g__law_is_block : List D → Option D} {f__law_is_expression : Addr} {fd__law_is_expression : FuncData} {k__law_is_expression : Nat} {g__law_is_expression : List D → Option D} {f__law_is_word : Addr} {fd__law_is_word : FuncData} {k__law_is_word : Nat} {g__law_is_word : List D → Option D} (B : Blt mg) (C : Cst K w mg) (T__law_is_compound : TopD K mg "_law_is_compound" s__law_is_compound ["_law_value", "_law_locals_here", "_law_tickets"] f fd)
    (T__law_is_block : TopD K mg "_law_is_block" s__law_is_block ["_law_value", "_law_locals_here", "_law_tickets"] f__law_is_block fd__law_is_block)
    (G__law_is_block : FnOk P w K mg base CX0 k__law_is_block f__law_is_block fd__law_is_block ["_law_value", "_law_locals_here", "_law_tickets"] (spM K 3 g__law_is_block)) (h__law_is_block : k__law_is_block ≤ k)
    (T__law_is_expression : TopD K mg "_law_is_expression" s__law_is_expression ["_law_value", "_law_locals_here"] f__law_is_expression fd__law_is_expression)
    (G__law_is_expression : FnOk P w K mg base CX0 k__law_is_expression f__law_is_expression fd__law_is_expression ["_law_value", "_law_locals_here"] (spM K 2 g__law_is_expression)) (h__law_is_expression : k__law_is_expression ≤ k)
    (T__law_is_word : TopD K mg "_law_is_word" s__law_is_word ["_law_value"] f__law_is_word fd__law_is_word)
    (G__law_is_word : FnOk P w K mg base CX0 k__law_is_word f__law_is_word fd__law_is_word ["_law_value"] (spM K 1 g__law_is_word)) (h__law_is_word : k__law_is_word ≤ k)
    : FnOk P w K mg base CX0 (k + 1) f fd ["_law_value", "_law_locals_here", "_law_tickets"] (spM K 3 (mRun 3 5 (b__law_is_compound g__law_is_block g__law_is_expression g__law_is_word))) := by
  exact ok_def (own := []) T__law_is_compound.F sc__law_is_compound (by decide) fun cdv A outer s H E hr => ⟨_, (mb_cons (ms_asg (i := 3) sc__law_is_compound.nd (me_ix rfl (me_var 0) me_int))
 (mb_cons (ms_if (MW.mt (mw_and (mt_ceq (me_var 3) me_str) (mw_and1 (mt_ceq (me_len rfl B.len (ma_cons ma_nil (me_var 0))) me_int))))
 (mb_cons (ms_if (MW.mt (mw_or (mt_not (mt_val (me_isi rfl "tuple" B.isinstance B.tuple (me_ix rfl (me_var 0) me_int)))) (mw_or (mt_clt (me_len rfl B.len (ma_cons ma_nil (me_ix rfl (me_var 0) me_int))) me_int) (mw_or1 (mt_cgt (me_len rfl B.len (ma_cons ma_nil (me_ix rfl (me_var 0) me_int))) me_int)))))
 (mb_one (ms_ret me_bl))
 mb_nil)
 (mb_cons (ms_for (i := 4) PassesOwn.never rfl sc__law_is_compound.nd (mi_tup rfl (me_ix rfl (me_var 0) me_int))
 (mb_one (ms_if (mt_not (mt_val (me_call G__law_is_block (hr.mono h__law_is_block) T__law_is_block.g T__law_is_block.F.kp T__law_is_block.b (len_cons (len_cons (len_cons len_nil))) (ma_cons (ma_cons (ma_cons ma_nil (me_var 2)) (me_var 1)) (me_var 4)))))
 (mb_one (ms_ret me_bl))
 mb_nil)))
 (mb_one (ms_ret me_bl))))
 mb_nil)
 (mb_cons (ms_if (MW.mt (mw_and (mt_ceq (me_var 3) me_str) (mw_and (mt_ceq (me_len rfl B.len (ma_cons ma_nil (me_var 0))) me_int) (mw_and1 (mt_val (me_call G__law_is_expression (hr.mono h__law_is_expression) T__law_is_expression.g T__law_is_expression.F.kp T__law_is_expression.b (len_cons (len_cons len_nil)) (ma_cons (ma_cons ma_nil (me_var 1)) (me_ix rfl (me_var 0) me_int))))))))
 (mb_one (ms_ret (me_and (me_call G__law_is_block (hr.mono h__law_is_block) T__law_is_block.g T__law_is_block.F.kp T__law_is_block.b (len_cons (len_cons (len_cons len_nil))) (ma_cons (ma_cons (ma_cons ma_nil (me_var 2)) (me_var 1)) (me_ix rfl (me_var 0) me_int))) (me_one (me_call G__law_is_block (hr.mono h__law_is_block) T__law_is_block.g T__law_is_block.F.kp T__law_is_block.b (len_cons (len_cons (len_cons len_nil))) (ma_cons (ma_cons (ma_cons ma_nil (me_var 2)) (me_var 1)) (me_ix rfl (me_var 0) me_int)))))))
 mb_nil)
 (mb_cons (ms_if (MW.mt (mw_and (mt_ceq (me_var 3) me_str) (mw_and (mt_ceq (me_len rfl B.len (ma_cons ma_nil (me_var 0))) me_int) (mw_and (mt_val (me_call G__law_is_word (hr.mono h__law_is_word) T__law_is_word.g T__law_is_word.F.kp T__law_is_word.b (len_cons len_nil) (ma_cons ma_nil (me_ix rfl (me_var 0) me_int)))) (mw_and1 (mt_val (me_call G__law_is_expression (hr.mono h__law_is_expression) T__law_is_expression.g T__law_is_expression.F.kp T__law_is_expression.b (len_cons (len_cons len_nil)) (ma_cons (ma_cons ma_nil (me_var 1)) (me_ix rfl (me_var 0) me_int)))))))))
 (mb_one (ms_ret (me_call G__law_is_block (hr.mono h__law_is_block) T__law_is_block.g T__law_is_block.F.kp T__law_is_block.b (len_cons (len_cons (len_cons len_nil))) (ma_cons (ma_cons (ma_cons ma_nil (me_var 2)) (me_add rfl (me_var 1) (me_lst (ma_cons ma_nil (me_ix rfl (me_var 0) me_int)) (len_cons len_nil)))) (me_ix rfl (me_var 0) me_int)))))
 mb_nil)
 (mb_cons (ms_if (MW.mt (mw_and (mt_ceq (me_var 3) me_str) (mw_and (mt_ceq (me_len rfl B.len (ma_cons ma_nil (me_var 0))) me_int) (mw_and1 (mt_val (me_call G__law_is_word (hr.mono h__law_is_word) T__law_is_word.g T__law_is_word.F.kp T__law_is_word.b (len_cons len_nil) (ma_cons ma_nil (me_ix rfl (me_var 0) me_int))))))))
 (mb_one (ms_ret (me_call G__law_is_block (hr.mono h__law_is_block) T__law_is_block.g T__law_is_block.F.kp T__law_is_block.b (len_cons (len_cons (len_cons len_nil))) (ma_cons (ma_cons (ma_cons ma_nil (me_var 2)) (me_var 1)) (me_ix rfl (me_var 0) me_int)))))
 mb_nil)
 (mb_one (ms_ret me_bl)))))))⟩
/-! ### _law_is_statement -/
theorem sc__law_is_statement : FnScope ["_law_value", "_law_locals_here", "_law_tickets", "_law_kind"] ["_law_value", "_law_locals_here", "_law_tickets"] (defScope s__law_is_statement) := ⟨rfl, rfl, rfl, by decide +kernel, rfl, by decide +kernel, by decide +kernel⟩
def b__law_is_statement (g__law_is_word g__law_is_expression g__law_is_compound : List D → Option D) : S :=
  (sSeq (sIf (mOr (mNot (mUn (fun d => some (.bl (isK "tuple" d))) (mVar 0))) (mOr (mOp gLt (mCall gLen (mCons (mVar 0) mNil)) (mC (.int 2))) (mNot (mUn (fun d => some (.bl (isK "str" d))) (mOp gIx (mVar 0) (mC (.int 0))))))) (sRet (mC (.bl false))) sNext)
  (sSeq (sAsg [] 3 (mOp gIx (mVar 0) (mC (.int 0))))
  (sSeq (sIf (mAnd (mOp gEq (mVar 3) (mC (.str "set"))) (mOp gEq (mCall gLen (mCons (mVar 0) mNil)) (mC (.int 3)))) (sRet (mAnd (mCall g__law_is_word (mCons (mOp gIx (mVar 0) (mC (.int 1))) mNil)) (mCall g__law_is_expression (mCons (mOp gIx (mVar 0) (mC (.int 2))) (mCons (mVar 1) mNil))))) sNext)
  (sSeq (sIf (mAnd (mOp gEq (mVar 3) (mC (.str "add"))) (mOp gEq (mCall gLen (mCons (mVar 0) mNil)) (mC (.int 4)))) (sSeq (sIf (mOr (mNot (mCall g__law_is_word (mCons (mOp gIx (mVar 0) (mC (.int 1))) mNil))) (mOp (gIn true) (mOp gIx (mVar 0) (mC (.int 2))) (mLst (mCons (mC (.str "+")) (mCons (mC (.str "*")) (mCons (mC (.str "max")) (mCons (mC (.str "min")) mNil))))))) (sRet (mC (.bl false))) sNext)
  (sRet (mCall g__law_is_expression (mCons (mOp gIx (mVar 0) (mC (.int 3))) (mCons (mVar 1) mNil))))) sNext)
  (sSeq (sIf (mAnd (mOp gEq (mVar 3) (mC (.str "fold"))) (mOp gEq (mCall gLen (mCons (mVar 0) mNil)) (mC (.int 6)))) (sSeq (sIf (mOr (mNot (mCall g__law_is_word (mCons (mOp gIx (mVar 0) (mC (.int 1))) mNil))) (mOr (mOp (gIn true) (mOp gIx (mVar 0) (mC (.int 2))) (mLst (mCons (mC (.str "+")) (mCons (mC (.str "-")) (mCons (mC (.str "*")) (mCons (mC (.str "max")) (mCons (mC (.str "min")) mNil))))))) (mNot (mCall g__law_is_word (mCons (mOp gIx (mVar 0) (mC (.int 3))) mNil))))) (sRet (mC (.bl false))) sNext)
  (sSeq (sIf (mNot (mCall g__law_is_expression (mCons (mOp gIx (mVar 0) (mC (.int 4))) (mCons (mVar 1) mNil)))) (sRet (mC (.bl false))) sNext)
  (sRet (mCall g__law_is_expression (mCons (mOp gIx (mVar 0) (mC (.int 5))) (mCons (mOp gAdd (mVar 1) (mLst (mCons (mOp gIx (mVar 0) (mC (.int 3))) mNil))) mNil)))))) sNext)
  (sSeq (sIf (mAnd (mOp gEq (mVar 3) (mC (.str "await"))) (mOp gEq (mCall gLen (mCons (mVar 0) mNil)) (mC (.int 2)))) (sRet (mAnd (mCall g__law_is_word (mCons (mOp gIx (mVar 0) (mC (.int 1))) mNil)) (mOp (gIn false) (mOp gIx (mVar 0) (mC (.int 1))) (mVar 2)))) sNext)
  (sRet (mCall g__law_is_compound (mCons (mVar 0) (mCons (mVar 1) (mCons (mVar 2) mNil)))))))))))
theorem ok__law_is_statement {P : Program} {w : World} {K : PySem.W.Frag} {mg : Str → Option Value} {base : Heap} {k : Nat} {f : Addr} {fd : FuncData} {f__law_is_word : Addr} {fd__law_is_word : FuncData} {k__law_is_word : Nat} {g__law_is_word : List D → Option D} {f__law_is_expression : Addr} {fd__law_is_expression : FuncData} {k__law_is_expression : Nat} {g__law_is_expression : List D → Option D} {f__law_is_compound : Addr} {fd__law_is_compound : FuncData} {k__law_is_compound : Nat} {g__law_is_compound : List D → Option D} (B : Blt mg) (C : Cst K w mg) (T__law_is_statement : TopD K mg "_law_is_statement" s__law_is_statement ["_law_value", "_law_locals_here", "_law_tickets"] f fd)
    (T__law_is_word : TopD K mg "_law_is_word" s__law_is_word ["_law_value"] f__law_is_word fd__law_is_word)
    (G__law_is_word : FnOk P w K mg base CX0 k__law_is_word f__law_is_word fd__law_is_word ["_law_value"] (spM K 1 g__law_is_word)) (h__law_is_word : k__law_is_word ≤ k)
    (T__law_is_expression : TopD K mg "_law_is_expression" s__law_is_expression ["_law_value", "_law_locals_here"] f__law_is_expression fd__law_is_expression)
    (G__law_is_expression : FnOk P w K mg base CX0 k__law_is_expression f__law_is_expression fd__law_is_expression ["_law_value", "_law_locals_here"] (spM K 2 g__law_is_expression)) (h__law_is_expression : k__law_is_expression ≤ k)
    (T__law_is_compound : TopD K mg "_law_is_compound" s__law_is_compound ["_law_value", "_law_locals_here", "_law_tickets"] f__law_is_compound fd__law_is_compound)
    (G__law_is_compound : FnOk P w K mg base CX0 k__law_is_compound f__law_is_compound fd__law_is_compound ["_law_value", "_law_locals_here", "_law_tickets"] (spM K 3 g__law_is_compound)) (h__law_is_compound : k__law_is_compound ≤ k)
    : FnOk P w K mg base CX0 (k + 1) f fd ["_law_value", "_law_locals_here", "_law_tickets"] (spM K 3 (mRun 3 4 (b__law_is_statement g__law_is_word g__law_is_expression g__law_is_compound))) := by
  exact ok_def (own := []) T__law_is_statement.F sc__law_is_statement (by decide) fun cdv A outer s H E hr => ⟨_, (mb_cons (ms_if (MW.mt (mw_or (mt_not (mt_val (me_isi rfl "tuple" B.isinstance B.tuple (me_var 0)))) (mw_or (mt_clt (me_len rfl B.len (ma_cons ma_nil (me_var 0))) me_int) (mw_or1 (mt_not (mt_val (me_isi rfl "str" B.isinstance B.str (me_ix rfl (me_var 0) me_int))))))))
 (mb_one (ms_ret me_bl))
 mb_nil)
 (mb_cons (ms_asg (i := 3) sc__law_is_statement.nd (me_ix rfl (me_var 0) me_int))
 (mb_cons (ms_if (MW.mt (mw_and (mt_ceq (me_var 3) me_str) (mw_and1 (mt_ceq (me_len rfl B.len (ma_cons ma_nil (me_var 0))) me_int))))
 (mb_one (ms_ret (me_and (me_call G__law_is_word (hr.mono h__law_is_word) T__law_is_word.g T__law_is_word.F.kp T__law_is_word.b (len_cons len_nil) (ma_cons ma_nil (me_ix rfl (me_var 0) me_int))) (me_one (me_call G__law_is_expression (hr.mono h__law_is_expression) T__law_is_expression.g T__law_is_expression.F.kp T__law_is_expression.b (len_cons (len_cons len_nil)) (ma_cons (ma_cons ma_nil (me_var 1)) (me_ix rfl (me_var 0) me_int)))))))
 mb_nil)
 (mb_cons (ms_if (MW.mt (mw_and (mt_ceq (me_var 3) me_str) (mw_and1 (mt_ceq (me_len rfl B.len (ma_cons ma_nil (me_var 0))) me_int))))
 (mb_cons (ms_if (MW.mt (mw_or (mt_not (mt_val (me_call G__law_is_word (hr.mono h__law_is_word) T__law_is_word.g T__law_is_word.F.kp T__law_is_word.b (len_cons len_nil) (ma_cons ma_nil (me_ix rfl (me_var 0) me_int))))) (mw_or1 (mt_cni rfl (hu_of hr) (me_ix rfl (me_var 0) me_int) (me_lst (ma_cons (ma_cons (ma_cons (ma_cons ma_nil me_str) me_str) me_str) me_str) (len_cons (len_cons (len_cons (len_cons len_nil)))))))))
 (mb_one (ms_ret me_bl))
 mb_nil)
 (mb_one (ms_ret (me_call G__law_is_expression (hr.mono h__law_is_expression) T__law_is_expression.g T__law_is_expression.F.kp T__law_is_expression.b (len_cons (len_cons len_nil)) (ma_cons (ma_cons ma_nil (me_var 1)) (me_ix rfl (me_var 0) me_int))))))
 mb_nil)
 (mb_cons (ms_if (MW.mt (mw_and (mt_ceq (me_var 3) me_str) (mw_and1 (mt_ceq (me_len rfl B.len (ma_cons ma_nil (me_var 0))) me_int))))
 (mb_cons (ms_if (MW.mt (mw_or (mt_not (mt_val (me_call G__law_is_word (hr.mono h__law_is_word) T__law_is_word.g T__law_is_word.F.kp T__law_is_word.b (len_cons len_nil) (ma_cons ma_nil (me_ix rfl (me_var 0) me_int))))) (mw_or (mt_cni rfl (hu_of hr) (me_ix rfl (me_var 0) me_int) (me_lst (ma_cons (ma_cons (ma_cons (ma_cons (ma_cons ma_nil me_str) me_str) me_str) me_str) me_str) (len_cons (len_cons (len_cons (len_cons (len_cons len_nil))))))) (mw_or1 (mt_not (mt_val (me_call G__law_is_word (hr.mono h__law_is_word) T__law_is_word.g T__law_is_word.F.kp T__law_is_word.b (len_cons len_nil) (ma_cons ma_nil (me_ix rfl (me_var 0) me_int)))))))))
 (mb_one (ms_ret me_bl))
 mb_nil)
 (mb_cons (ms_if (mt_not (mt_val (me_call G__law_is_expression (hr.mono h__law_is_expression) T__law_is_expression.g T__law_is_expression.F.kp T__law_is_expression.b (len_cons (len_cons len_nil)) (ma_cons (ma_cons ma_nil (me_var 1)) (me_ix rfl (me_var 0) me_int)))))
 (mb_one (ms_ret me_bl))
 mb_nil)
 (mb_one (ms_ret (me_call G__law_is_expression (hr.mono h__law_is_expression) T__law_is_expression.g T__law_is_expression.F.kp T__law_is_expression.b (len_cons (len_cons len_nil)) (ma_cons (ma_cons ma_nil (me_add rfl (me_var 1) (me_lst (ma_cons ma_nil (me_ix rfl (me_var 0) me_int)) (len_cons len_nil)))) (me_ix rfl (me_var 0) me_int)))))))
 mb_nil)
 (mb_cons (ms_if (MW.mt (mw_and (mt_ceq (me_var 3) me_str) (mw_and1 (mt_ceq (me_len rfl B.len (ma_cons ma_nil (me_var 0))) me_int))))
 (mb_one (ms_ret (me_and (me_call G__law_is_word (hr.mono h__law_is_word) T__law_is_word.g T__law_is_word.F.kp T__law_is_word.b (len_cons len_nil) (ma_cons ma_nil (me_ix rfl (me_var 0) me_int))) (me_one (me_cin rfl (hu_of hr) (me_ix rfl (me_var 0) me_int) (me_var 2))))))
 mb_nil)
 (mb_one (ms_ret (me_call G__law_is_compound (hr.mono h__law_is_compound) T__law_is_compound.g T__law_is_compound.F.kp T__law_is_compound.b (len_cons (len_cons (len_cons len_nil))) (ma_cons (ma_cons (ma_cons ma_nil (me_var 2)) (me_var 1)) (me_var 0)))))))))))⟩
/-! ### _law_is_block -/
theorem sc__law_is_block : FnScope ["_law_value", "_law_locals_here", "_law_tickets", "_law_known", "_law_statement_here"] ["_law_value", "_law_locals_here", "_law_tickets"] (defScope s__law_is_block) := ⟨rfl, rfl, rfl, by decide +kernel, rfl, by decide +kernel, by decide +kernel⟩
def b__law_is_block (g__law_is_statement : List D → Option D) : S :=
  (sSeq (sIf (mNot (mUn (fun d => some (.bl (isK "tuple" d))) (mVar 0))) (sRet (mC (.bl false))) sNext)
  (sSeq (sOwn [3] 3 (mListOf (mCons (mVar 2) mNil)))
  (sSeq (sFor [3] 4 (wTup (mVar 0)) (sSeq (sIf (mNot (mCall g__law_is_statement (mCons (mVar 4) (mCons (mVar 1) (mCons (mVar 3) mNil))))) (sRet (mC (.bl false))) sNext)
  (sIf (mOp gEq (mOp gIx (mVar 4) (mC (.int 0))) (mC (.str "start"))) (sApp [3] 3 (mOp gIx (mVar 4) (mC (.int 1)))) sNext)))
  (sRet (mC (.bl true))))))
theorem ok__law_is_block {P : Program} {w : World} {K : PySem.W.Frag} {mg : Str → Option Value} {base : Heap} {k : Nat} {f : Addr} {fd : FuncData} {f__law_is_statement : Addr} {fd__law_is_statement : FuncData} {k__law_is_statement : Nat} {g__law_is_statement : List D → Option D} (B : Blt mg) (C : Cst K w mg) (T__law_is_block : TopD K mg "_law_is_block" s__law_is_block ["_law_value", "_law_locals_here", "_law_tickets"] f fd)
    (T__law_is_statement : TopD K mg "_law_is_statement" s__law_is_statement ["_law_value", "_law_locals_here", "_law_tickets"] f__law_is_statement fd__law_is_statement)
    (G__law_is_statement : FnOk P w K mg base CX0 k__law_is_statement f__law_is_statement fd__law_is_statement ["_law_value", "_law_locals_here", "_law_tickets"] (spM K 3 g__law_is_statement)) (h__law_is_statement : k__law_is_statement ≤ k)
    : FnOk P w K mg base CX0 (k + 1) f fd ["_law_value", "_law_locals_here", "_law_tickets"] (spM K 3 (mRun 3 5 (b__law_is_block g__law_is_statement))) := by
  exact ok_def (own := [3]) T__law_is_block.F sc__law_is_block (by decide) fun cdv A outer s H E hr => ⟨_, (mb_cons (ms_if (mt_not (mt_val (me_isi rfl "tuple" B.isinstance B.tuple (me_var 0))))
 (mb_one (ms_ret me_bl))
 mb_nil)
 (mb_cons (ms_own (i := 3) sc__law_is_block.nd (ml_list rfl B.list (ma_cons ma_nil (me_var 2))))
 (mb_cons (ms_for (i := 4) PassesOwn.never rfl sc__law_is_block.nd (mi_tup rfl (me_var 0))
 (mb_cons (ms_if (mt_not (mt_val (me_call G__law_is_statement (hr.mono h__law_is_statement) T__law_is_statement.g T__law_is_statement.F.kp T__law_is_statement.b (len_cons (len_cons (len_cons len_nil))) (ma_cons (ma_cons (ma_cons ma_nil (me_var 3)) (me_var 1)) (me_var 4)))))
 (mb_one (ms_ret me_bl))
 mb_nil)
 (mb_one (ms_if (mt_ceq (me_ix rfl (me_var 4) me_int) me_str)
 (mb_one (ms_app rfl 3 (me_ix rfl (me_var 4) me_int)))
 mb_nil))))
 (mb_one (ms_ret me_bl)))))⟩
end ML
set_option Elab.async false
set_option linter.all false
set_option maxRecDepth 100000
set_option maxHeartbeats 4000000
namespace ML
open PySem PySem.Spec PyProof.Rows L2
/-! ### _law_names -/
theorem sc__law_names : FnScope ["_law_value", "_law_names_here", "_law_part_here"] ["_law_value"] (defScope s__law_names) := ⟨rfl, rfl, rfl, by decide +kernel, rfl, by decide +kernel, by decide +kernel⟩
def b__law_names (g__law_names : List D → Option D) : S :=
  (sSeq (sAsg [] 1 (mLst mNil))
  (sSeq (sIf (mNot (mUn (fun d => some (.bl (isK "tuple" d))) (mVar 0))) (sRet (mVar 1)) sNext)
  (sSeq (sIf (mAnd (mOp gGt (mCall gLen (mCons (mVar 0) mNil)) (mC (.int 1))) (mAnd (mOp (gIn false) (mOp gIx (mVar 0) (mC (.int 0))) (mLst (mCons (mC (.str "set")) (mCons (mC (.str "add")) (mCons (mC (.str "fold")) (mCons (mC (.str "word")) mNil)))))) (mUn (fun d => some (.bl (isK "str" d))) (mOp gIx (mVar 0) (mC (.int 1)))))) (sAsg [] 1 (mLst (mCons (mOp gIx (mVar 0) (mC (.int 1))) mNil))) sNext)
  (sSeq (sFor [] 2 (wTup (mVar 0)) (sAsg [] 1 (mOp gAdd (mVar 1) (mCall g__law_names (mCons (mVar 2) mNil)))))
  (sRet (mVar 1))))))
theorem ok__law_names {P : Program} {w : World} {K : PySem.W.Frag} {mg : Str → Option Value} {base : Heap} {k : Nat} {f__law_names : Addr} {fd__law_names : FuncData} {k__law_names : Nat} {g__law_names : List D → Option D} (B : Blt mg) (C : Cst K w mg) (T__law_names : TopD K mg "_law_names" s__law_names ["_law_value"] f__law_names fd__law_names)
    (G__law_names : FnOk P w K mg base CX0 k__law_names f__law_names fd__law_names ["_law_value"] (spM K 1 g__law_names)) (h__law_names : k__law_names ≤ k)
    : FnOk P w K mg base CX0 (k + 1) f__law_names fd__law_names ["_law_value"] (spM K 1 (mRun 1 3 (b__law_names g__law_names))) := by
  exact ok_def (own := []) T__law_names.F sc__law_names (by decide) fun cdv A outer s H E hr => ⟨_, (mb_cons (ms_asg (i := 1) sc__law_names.nd (me_lst ma_nil len_nil))
 (mb_cons (ms_if (mt_not (mt_val (me_isi rfl "tuple" B.isinstance B.tuple (me_var 0))))
 (mb_one (ms_ret (me_var 1)))
 mb_nil)
 (mb_cons (ms_if (MW.mt (mw_and (mt_cgt (me_len rfl B.len (ma_cons ma_nil (me_var 0))) me_int) (mw_and (mt_cin rfl (hu_of hr) (me_ix rfl (me_var 0) me_int) (me_lst (ma_cons (ma_cons (ma_cons (ma_cons ma_nil me_str) me_str) me_str) me_str) (len_cons (len_cons (len_cons (len_cons len_nil)))))) (mw_and1 (mt_val (me_isi rfl "str" B.isinstance B.str (me_ix rfl (me_var 0) me_int)))))))
 (mb_one (ms_asg (i := 1) sc__law_names.nd (me_lst (ma_cons ma_nil (me_ix rfl (me_var 0) me_int)) (len_cons len_nil))))
 mb_nil)
 (mb_cons (ms_for (i := 2) PassesOwn.never rfl sc__law_names.nd (mi_tup rfl (me_var 0))
 (mb_one (ms_asg (i := 1) sc__law_names.nd (me_add rfl (me_var 1) (me_call G__law_names (hr.mono h__law_names) T__law_names.g T__law_names.F.kp T__law_names.b (len_cons len_nil) (ma_cons ma_nil (me_var 2)))))))
 (mb_one (ms_ret (me_var 1)))))))⟩
/-! ### _law_words_of -/
theorem sc__law_words_of : FnScope ["_law_program_here", "_law_names_here", "_law_name", "_law_k"] ["_law_program_here"] (defScope s__law_words_of) := ⟨rfl, rfl, rfl, by decide +kernel, rfl, by decide +kernel, by decide +kernel⟩
def b__law_words_of (g__law_names : List D → Option D) : S :=
  (sSeq (sAsg [] 1 (mCall gSort (mCons (mLc 2 (wLst (mCall g__law_names (mCons (mVar 0) mNil))) (mC (.bl true)) (mCall gStr (mCons (mVar 2) mNil))) mNil)))
  (sRet (mCall gTuple (mCons (mLc 3 (wRng (mCons (mCall gLen (mCons (mVar 1) mNil)) mNil)) (mOr (mOp gEq (mVar 3) (mC (.int 0))) (mOp gNe (mOp gIx (mVar 1) (mVar 3)) (mOp gIx (mVar 1) (mOp gSub (mVar 3) (mC (.int 1)))))) (mOp gIx (mVar 1) (mVar 3))) mNil))))
theorem ok__law_words_of {P : Program} {w : World} {K : PySem.W.Frag} {mg : Str → Option Value} {base : Heap} {k : Nat} {f : Addr} {fd : FuncData} {f__law_names : Addr} {fd__law_names : FuncData} {k__law_names : Nat} {g__law_names : List D → Option D} (B : Blt mg) (C : Cst K w mg) (T__law_words_of : TopD K mg "_law_words_of" s__law_words_of ["_law_program_here"] f fd)
    (T__law_names : TopD K mg "_law_names" s__law_names ["_law_value"] f__law_names fd__law_names)
    (G__law_names : FnOk P w K mg base CX0 k__law_names f__law_names fd__law_names ["_law_value"] (spM K 1 g__law_names)) (h__law_names : k__law_names ≤ k)
    : FnOk P w K mg base CX0 (k + 1) f fd ["_law_program_here"] (spM K 1 (mRun 1 4 (b__law_words_of g__law_names))) := by
  exact ok_def (own := []) T__law_words_of.F sc__law_words_of (by decide) fun cdv A outer s H E hr => ⟨_, (mb_cons (ms_asg (i := 1) sc__law_words_of.nd (me_sorted rfl (hu2_of hr) B.sorted (ma_cons ma_nil (me_lc (x := "_law_name") (j := 2) rfl sc__law_words_of.nd (mi_lst rfl (me_call G__law_names (hr.mono h__law_names) T__law_names.g T__law_names.F.kp T__law_names.b (len_cons len_nil) (ma_cons ma_nil (me_var 0)))) (blkOk_by (N := ["_law_program_here", "_law_names_here", "_law_name", "_law_k"]) (sc := defScope s__law_words_of) (by decide +kernel)) (fun _ _ _ _ _ => pg_name (i := 2) sc__law_words_of.nd rfl (.inl rfl)) (fun _ _ _ _ _ => mts_nil) (fun _ _ _ _ _ => (me_str1 B.str (ma_cons ma_nil (me_var 2))))))))
 (mb_one (ms_ret (me_tuple rfl B.tuple (ma_cons ma_nil (me_lc (x := "_law_k") (j := 3) rfl sc__law_words_of.nd (mi_rng B.range (ma_cons ma_nil (me_len rfl B.len (ma_cons ma_nil (me_var 1))))) (blkOk_by (N := ["_law_program_here", "_law_names_here", "_law_name", "_law_k"]) (sc := defScope s__law_words_of) (by decide +kernel)) (fun _ _ _ _ _ => pg_name (i := 3) sc__law_words_of.nd rfl (.inl rfl)) (fun _ _ _ _ _ => (mts_one (MW.mt (mw_or (mt_ceq (me_var 3) me_int) (mw_or1 (mt_cne (me_ix rfl (me_var 1) (me_var 3)) (me_ix rfl (me_var 1) (me_sub (me_var 3) me_int)))))))) (fun _ _ _ _ _ => (me_ix rfl (me_var 1) (me_var 3)))))))))⟩
/-! ### _law_count -/
theorem sc__law_count : FnScope ["_law_value", "_law_count_here", "_law_part_here"] ["_law_value"] (defScope s__law_count) := ⟨rfl, rfl, rfl, by decide +kernel, rfl, by decide +kernel, by decide +kernel⟩
def b__law_count (g__law_count : List D → Option D) : S :=
  (sSeq (sAsg [] 1 (mC (.int 1)))
  (sSeq (sIf (mUn (fun d => some (.bl (isK "tuple" d))) (mVar 0)) (sFor [] 2 (wTup (mVar 0)) (sAsg [] 1 (mOp gAdd (mVar 1) (mCall g__law_count (mCons (mVar 2) mNil))))) sNext)
  (sRet (mVar 1))))
theorem ok__law_count {P : Program} {w : World} {K : PySem.W.Frag} {mg : Str → Option Value} {base : Heap} {k : Nat} {f__law_count : Addr} {fd__law_count : FuncData} {k__law_count : Nat} {g__law_count : List D → Option D} (B : Blt mg) (C : Cst K w mg) (T__law_count : TopD K mg "_law_count" s__law_count ["_law_value"] f__law_count fd__law_count)
    (G__law_count : FnOk P w K mg base CX0 k__law_count f__law_count fd__law_count ["_law_value"] (spM K 1 g__law_count)) (h__law_count : k__law_count ≤ k)
    : FnOk P w K mg base CX0 (k + 1) f__law_count fd__law_count ["_law_value"] (spM K 1 (mRun 1 3 (b__law_count g__law_count))) := by
  exact ok_def (own := []) T__law_count.F sc__law_count (by decide) fun cdv A outer s H E hr => ⟨_, (mb_cons (ms_asg (i := 1) sc__law_count.nd me_int)
 (mb_cons (ms_if (mt_val (me_isi rfl "tuple" B.isinstance B.tuple (me_var 0)))
 (mb_one (ms_for (i := 2) PassesOwn.never rfl sc__law_count.nd (mi_tup rfl (me_var 0))
 (mb_one (ms_asg (i := 1) sc__law_count.nd (me_add rfl (me_var 1) (me_call G__law_count (hr.mono h__law_count) T__law_count.g T__law_count.F.kp T__law_count.b (len_cons len_nil) (ma_cons ma_nil (me_var 2))))))))
 mb_nil)
 (mb_one (ms_ret (me_var 1)))))⟩
/-! ### _law_part -/
theorem sc__law_part : FnScope ["_law_value", "_law_at", "_law_part_here", "_law_count_here"] ["_law_value", "_law_at"] (defScope s__law_part) := ⟨rfl, rfl, rfl, by decide +kernel, rfl, by decide +kernel, by decide +kernel⟩
def b__law_part (g__law_count g__law_part : List D → Option D) : S :=
  (sSeq (sIf (mOr (mOp gEq (mVar 1) (mC (.int 0))) (mNot (mUn (fun d => some (.bl (isK "tuple" d))) (mVar 0)))) (sRet (mVar 0)) sNext)
  (sSeq (sAsg [] 1 (mOp gSub (mVar 1) (mC (.int 1))))
  (sSeq (sFor [] 2 (wTup (mVar 0)) (sSeq (sAsg [] 3 (mCall g__law_count (mCons (mVar 2) mNil)))
  (sSeq (sIf (mOp gLt (mVar 1) (mVar 3)) (sRet (mCall g__law_part (mCons (mVar 2) (mCons (mVar 1) mNil)))) sNext)
  (sAsg [] 1 (mOp gSub (mVar 1) (mVar 3))))))
  (sRet (mVar 0)))))
theorem ok__law_part {P : Program} {w : World} {K : PySem.W.Frag} {mg : Str → Option Value} {base : Heap} {k : Nat} {f__law_count : Addr} {fd__law_count : FuncData} {k__law_count : Nat} {g__law_count : List D → Option D} {f__law_part : Addr} {fd__law_part : FuncData} {k__law_part : Nat} {g__law_part : List D → Option D} (B : Blt mg) (C : Cst K w mg) (T__law_part : TopD K mg "_law_part" s__law_part ["_law_value", "_law_at"] f__law_part fd__law_part)
    (T__law_count : TopD K mg "_law_count" s__law_count ["_law_value"] f__law_count fd__law_count)
    (G__law_count : FnOk P w K mg base CX0 k__law_count f__law_count fd__law_count ["_law_value"] (spM K 1 g__law_count)) (h__law_count : k__law_count ≤ k)
    (G__law_part : FnOk P w K mg base CX0 k__law_part f__law_part fd__law_part ["_law_value", "_law_at"] (spM K 2 g__law_part)) (h__law_part : k__law_part ≤ k)
    : FnOk P w K mg base CX0 (k + 1) f__law_part fd__law_part ["_law_value", "_law_at"] (spM K 2 (mRun 2 4 (b__law_part g__law_count g__law_part))) := by
  exact ok_def (own := []) T__law_part.F sc__law_part (by decide) fun cdv A outer s H E hr => ⟨_, (mb_cons (ms_if (MW.mt (mw_or (mt_ceq (me_var 1) me_int) (mw_or1 (mt_not (mt_val (me_isi rfl "tuple" B.isinstance B.tuple (me_var 0)))))))
 (mb_one (ms_ret (me_var 0)))
 mb_nil)
 (mb_cons (ms_asg (i := 1) sc__law_part.nd (me_sub (me_var 1) me_int))
 (mb_cons (ms_for (i := 2) PassesOwn.never rfl sc__law_part.nd (mi_tup rfl (me_var 0))
 (mb_cons (ms_asg (i := 3) sc__law_part.nd (me_call G__law_count (hr.mono h__law_count) T__law_count.g T__law_count.F.kp T__law_count.b (len_cons len_nil) (ma_cons ma_nil (me_var 2))))
 (mb_cons (ms_if (mt_clt (me_var 1) (me_var 3))
 (mb_one (ms_ret (me_call G__law_part (hr.mono h__law_part) T__law_part.g T__law_part.F.kp T__law_part.b (len_cons (len_cons len_nil)) (ma_cons (ma_cons ma_nil (me_var 1)) (me_var 2)))))
 mb_nil)
 (mb_one (ms_asg (i := 1) sc__law_part.nd (me_sub (me_var 1) (me_var 3)))))))
 (mb_one (ms_ret (me_var 0))))))⟩
/-! ### _law_put -/
theorem sc__law_put : FnScope ["_law_value", "_law_at", "_law_new", "_law_row", "_law_part_here", "_law_count_here"] ["_law_value", "_law_at", "_law_new"] (defScope s__law_put) := ⟨rfl, rfl, rfl, by decide +kernel, rfl, by decide +kernel, by decide +kernel⟩
def b__law_put (g__law_count g__law_put : List D → Option D) : S :=
  (sSeq (sIf (mOr (mOp gEq (mVar 1) (mC (.int 0))) (mNot (mUn (fun d => some (.bl (isK "tuple" d))) (mVar 0)))) (sRet (mVar 2)) sNext)
  (sSeq (sAsg [3] 1 (mOp gSub (mVar 1) (mC (.int 1))))
  (sSeq (sOwn [3] 3 mNil)
  (sSeq (sFor [3] 4 (wTup (mVar 0)) (sSeq (sAsg [3] 5 (mCall g__law_count (mCons (mVar 4) mNil)))
  (sSeq (sIf (mChain gLe gLt (mC (.int 0)) (mVar 1) (mVar 5)) (sApp [3] 3 (mCall g__law_put (mCons (mVar 4) (mCons (mVar 1) (mCons (mVar 2) mNil))))) (sApp [3] 3 (mVar 4)))
  (sAsg [3] 1 (mOp gSub (mVar 1) (mVar 5))))))
  (sRet (mCall gTuple (mCons (mVar 3) mNil)))))))
theorem ok__law_put {P : Program} {w : World} {K : PySem.W.Frag} {mg : Str → Option Value} {base : Heap} {k : Nat} {f__law_count : Addr} {fd__law_count : FuncData} {k__law_count : Nat} {g__law_count : List D → Option D} {f__law_put : Addr} {fd__law_put : FuncData} {k__law_put : Nat} {g__law_put : List D → Option D} (B : Blt mg) (C : Cst K w mg) (T__law_put : TopD K mg "_law_put" s__law_put ["_law_value", "_law_at", "_law_new"] f__law_put fd__law_put)
    (T__law_count : TopD K mg "_law_count" s__law_count ["_law_value"] f__law_count fd__law_count)
    (G__law_count : FnOk P w K mg base CX0 k__law_count f__law_count fd__law_count ["_law_value"] (spM K 1 g__law_count)) (h__law_count : k__law_count ≤ k)
    (G__law_put : FnOk P w K mg base CX0 k__law_put f__law_put fd__law_put ["_law_value", "_law_at", "_law_new"] (spM K 3 g__law_put)) (h__law_put : k__law_put ≤ k)
    : FnOk P w K mg base CX0 (k + 1) f__law_put fd__law_put ["_law_value", "_law_at", "_law_new"] (spM K 3 (mRun 3 6 (b__law_put g__law_count g__law_put))) := by
  exact ok_def (own := [3]) T__law_put.F sc__law_put (by decide) fun cdv A outer s H E hr => ⟨_, (mb_cons (ms_if (MW.mt (mw_or (mt_ceq (me_var 1) me_int) (mw_or1 (mt_not (mt_val (me_isi rfl "tuple" B.isinstance B.tuple (me_var 0)))))))
 (mb_one (ms_ret (me_var 2)))
 mb_nil)
 (mb_cons (ms_asg (i := 1) sc__law_put.nd (me_sub (me_var 1) me_int))
 (mb_cons (ms_own (i := 3) sc__law_put.nd (ml_lst ma_nil len_nil))
 (mb_cons (ms_for (i := 4) PassesOwn.never rfl sc__law_put.nd (mi_tup rfl (me_var 0))
 (mb_cons (ms_asg (i := 5) sc__law_put.nd (me_call G__law_count (hr.mono h__law_count) T__law_count.g T__law_count.F.kp T__law_count.b (len_cons len_nil) (ma_cons ma_nil (me_var 4))))
 (mb_cons (ms_if (mt_clelt me_int (me_var 1) (me_var 5))
 (mb_one (ms_app rfl 3 (me_call G__law_put (hr.mono h__law_put) T__law_put.g T__law_put.F.kp T__law_put.b (len_cons (len_cons (len_cons len_nil))) (ma_cons (ma_cons (ma_cons ma_nil (me_var 2)) (me_var 1)) (me_var 4)))))
 (mb_one (ms_app rfl 3 (me_var 4))))
 (mb_one (ms_asg (i := 1) sc__law_put.nd (me_sub (me_var 1) (me_var 5)))))))
 (mb_one (ms_ret (me_tuple rfl B.tuple (ma_cons ma_nil (me_var 3)))))))))⟩
/-! ### _law_new_part -/
theorem sc__law_new_part : FnScope ["_law_drawn", "_law_old", "_law_pool_here", "_law_row"] ["_law_drawn", "_law_old", "_law_pool_here"] (defScope s__law_new_part) := ⟨rfl, rfl, rfl, by decide +kernel, rfl, by decide +kernel, by decide +kernel⟩
def b__law_new_part : S :=
  (sSeq (sAsg [] 3 (mLst (mCons (mC .non) (mCons (mC (.bl true)) (mCons (mC (.bl false)) (mCons (mC (.int (-1))) (mCons (mC (.int 1000003)) (mCons (mC (.int 1000002)) (mCons (mC (.str "")) (mCons (mC (.str "A")) (mCons (mC (.str "abcdefghi")) (mCons (mC (.str "max")) (mCons (mC (.str "await")) (mCons (mC (.str "a1")) (mCons (mTup mNil) (mCons (mTup (mCons (mVar 1) mNil)) (mCons (mOp gIx (mVar 2) (mOp gIx (mVar 0) (mC (.int 1)))) mNil)))))))))))))))))
  (sSeq (sAsg [] 3 (mOp gAdd (mVar 3) (mLst (mCons (mTup (mCons (mC (.str "word")) (mCons (mOp gIx (mVar 2) (mOp gIx (mVar 0) (mC (.int 1)))) mNil))) (mCons (mTup (mCons (mC (.str "number")) (mCons (mC (.int 7)) mNil))) (mCons (mTup (mCons (mC (.str "number")) (mCons (mC (.bl true)) mNil))) (mCons (mTup (mCons (mC (.str "local")) (mCons (mOp gIx (mVar 2) (mOp gIx (mVar 0) (mC (.int 1)))) mNil))) (mCons (mTup (mCons (mC (.str "number")) (mCons (mC (.int 1000003)) mNil))) mNil))))))))
  (sSeq (sAsg [] 3 (mOp gAdd (mVar 3) (mLst (mCons (mTup (mCons (mC (.str "await")) (mCons (mOp gIx (mVar 2) (mOp gIx (mVar 0) (mC (.int 1)))) mNil))) (mCons (mTup (mCons (mC (.str "start")) (mCons (mOp gIx (mVar 2) (mOp gIx (mVar 0) (mC (.int 1)))) (mCons (mTup mNil) mNil)))) (mCons (mTup (mCons (mC (.str "set")) (mCons (mOp gIx (mVar 2) (mOp gIx (mVar 0) (mC (.int 1)))) (mCons (mTup (mCons (mC (.str "number")) (mCons (mC (.int 1)) mNil))) mNil)))) mNil))))))
  (sSeq (sAsg [] 3 (mOp gAdd (mVar 3) (mLst (mCons (mC (.str "-")) (mCons (mC (.str "<")) (mCons (mC (.str "max")) (mCons (mC (.int 0)) (mCons (mTup (mCons (mC (.str "fork")) (mCons (mTup mNil) mNil))) (mCons (mTup (mCons (mC (.str "fork")) (mCons (mTup (mCons (mTup mNil) (mCons (mTup mNil) (mCons (mTup mNil) (mCons (mTup mNil) (mCons (mTup mNil) mNil)))))) mNil))) (mCons (mTup (mCons (mC (.str "fork")) (mCons (mTup (mCons (mTup mNil) mNil)) mNil))) mNil))))))))))
  (sSeq (sIf (mUn (fun d => some (.bl (isK "tuple" d))) (mVar 1)) (sAsg [] 3 (mOp gAdd (mVar 3) (mLst (mCons (mCall gList (mCons (mVar 1) mNil)) (mCons (mUn (gSl (some 1) none) (mVar 1)) (mCons (mUn (gSl none (some (-1))) (mVar 1)) (mCons (mOp gAdd (mVar 1) (mUn (gSl (some (-1)) none) (mVar 1))) (mCons (mUn gRev (mVar 1)) (mCons (mOp gAdd (mVar 1) (mTup (mCons (mC .non) mNil))) (mCons (mOp gAdd (mVar 1) (mTup (mCons (mTup (mCons (mC (.str "await")) (mCons (mOp gIx (mVar 2) (mOp gIx (mVar 0) (mC (.int 1)))) mNil))) mNil))) mNil)))))))))) sNext)
  (sRet (mOp gIx (mVar 3) (mOp gMod (mCall gInt (mCons (mOp gIx (mVar 0) (mC (.int 0))) mNil)) (mCall gLen (mCons (mVar 3) mNil))))))))))
theorem ok__law_new_part {P : Program} {w : World} {K : PySem.W.Frag} {mg : Str → Option Value} {base : Heap} {k : Nat} {f : Addr} {fd : FuncData} (B : Blt mg) (C : Cst K w mg) (T__law_new_part : TopD K mg "_law_new_part" s__law_new_part ["_law_drawn", "_law_old", "_law_pool_here"] f fd)
    : FnOk P w K mg base CX0 (k + 1) f fd ["_law_drawn", "_law_old", "_law_pool_here"] (spM K 3 (mRun 3 4 (b__law_new_part ))) := by
  exact ok_def (own := []) T__law_new_part.F sc__law_new_part (by decide) fun cdv A outer s H E hr => ⟨_, (mb_cons (ms_asg (i := 3) sc__law_new_part.nd (me_lst (ma_cons (ma_cons (ma_cons (ma_cons (ma_cons (ma_cons (ma_cons (ma_cons (ma_cons (ma_cons (ma_cons (ma_cons (ma_cons (ma_cons (ma_cons ma_nil (me_ix rfl (me_var 2) (me_ix rfl (me_var 0) me_int))) (me_tup (ma_cons ma_nil (me_var 1)) (len_cons len_nil))) (me_tup ma_nil len_nil)) me_str) me_str) me_str) me_str) me_str) me_str) me_int) me_int) me_neg) me_bl) me_bl) me_non) (len_cons (len_cons (len_cons (len_cons (len_cons (len_cons (len_cons (len_cons (len_cons (len_cons (len_cons (len_cons (len_cons (len_cons (len_cons len_nil)))))))))))))))))
 (mb_cons (ms_asg (i := 3) sc__law_new_part.nd (me_add rfl (me_var 3) (me_lst (ma_cons (ma_cons (ma_cons (ma_cons (ma_cons ma_nil (me_tup (ma_cons (ma_cons ma_nil me_int) me_str) (len_cons (len_cons len_nil)))) (me_tup (ma_cons (ma_cons ma_nil (me_ix rfl (me_var 2) (me_ix rfl (me_var 0) me_int))) me_str) (len_cons (len_cons len_nil)))) (me_tup (ma_cons (ma_cons ma_nil me_bl) me_str) (len_cons (len_cons len_nil)))) (me_tup (ma_cons (ma_cons ma_nil me_int) me_str) (len_cons (len_cons len_nil)))) (me_tup (ma_cons (ma_cons ma_nil (me_ix rfl (me_var 2) (me_ix rfl (me_var 0) me_int))) me_str) (len_cons (len_cons len_nil)))) (len_cons (len_cons (len_cons (len_cons (len_cons len_nil))))))))
 (mb_cons (ms_asg (i := 3) sc__law_new_part.nd (me_add rfl (me_var 3) (me_lst (ma_cons (ma_cons (ma_cons ma_nil (me_tup (ma_cons (ma_cons (ma_cons ma_nil (me_tup (ma_cons (ma_cons ma_nil me_int) me_str) (len_cons (len_cons len_nil)))) (me_ix rfl (me_var 2) (me_ix rfl (me_var 0) me_int))) me_str) (len_cons (len_cons (len_cons len_nil))))) (me_tup (ma_cons (ma_cons (ma_cons ma_nil (me_tup ma_nil len_nil)) (me_ix rfl (me_var 2) (me_ix rfl (me_var 0) me_int))) me_str) (len_cons (len_cons (len_cons len_nil))))) (me_tup (ma_cons (ma_cons ma_nil (me_ix rfl (me_var 2) (me_ix rfl (me_var 0) me_int))) me_str) (len_cons (len_cons len_nil)))) (len_cons (len_cons (len_cons len_nil))))))
 (mb_cons (ms_asg (i := 3) sc__law_new_part.nd (me_add rfl (me_var 3) (me_lst (ma_cons (ma_cons (ma_cons (ma_cons (ma_cons (ma_cons (ma_cons ma_nil (me_tup (ma_cons (ma_cons ma_nil (me_tup (ma_cons ma_nil (me_tup ma_nil len_nil)) (len_cons len_nil))) me_str) (len_cons (len_cons len_nil)))) (me_tup (ma_cons (ma_cons ma_nil (me_tup (ma_cons (ma_cons (ma_cons (ma_cons (ma_cons ma_nil (me_tup ma_nil len_nil)) (me_tup ma_nil len_nil)) (me_tup ma_nil len_nil)) (me_tup ma_nil len_nil)) (me_tup ma_nil len_nil)) (len_cons (len_cons (len_cons (len_cons (len_cons len_nil))))))) me_str) (len_cons (len_cons len_nil)))) (me_tup (ma_cons (ma_cons ma_nil (me_tup ma_nil len_nil)) me_str) (len_cons (len_cons len_nil)))) me_int) me_str) me_str) me_str) (len_cons (len_cons (len_cons (len_cons (len_cons (len_cons (len_cons len_nil))))))))))
 (mb_cons (ms_if (mt_val (me_isi rfl "tuple" B.isinstance B.tuple (me_var 1)))
 (mb_one (ms_asg (i := 3) sc__law_new_part.nd (me_add rfl (me_var 3) (me_lst (ma_cons (ma_cons (ma_cons (ma_cons (ma_cons (ma_cons (ma_cons ma_nil (me_add rfl (me_var 1) (me_tup (ma_cons ma_nil (me_tup (ma_cons (ma_cons ma_nil (me_ix rfl (me_var 2) (me_ix rfl (me_var 0) me_int))) me_str) (len_cons (len_cons len_nil)))) (len_cons len_nil)))) (me_add rfl (me_var 1) (me_tup (ma_cons ma_nil me_non) (len_cons len_nil)))) (me_revT rfl (me_var 1))) (me_add rfl (me_var 1) (me_sl rfl (me_var 1) mo_neg mo_none))) (me_sl rfl (me_var 1) mo_none mo_neg)) (me_sl rfl (me_var 1) mo_int mo_none)) (me_list rfl B.list (ma_cons ma_nil (me_var 1)))) (len_cons (len_cons (len_cons (len_cons (len_cons (len_cons (len_cons len_nil)))))))))))
 mb_nil)
 (mb_one (ms_ret (me_ix rfl (me_var 3) (me_mod (me_int1 B.int (ma_cons ma_nil (me_ix rfl (me_var 0) me_int))) (me_len rfl B.len (ma_cons ma_nil (me_var 3))))))))))))⟩
end ML
set_option Elab.async false
set_option linter.all false
set_option maxRecDepth 100000
set_option maxHeartbeats 4000000
namespace ML
open PySem PySem.Spec PyProof.Rows L2
/-! ### _law_has_list -/
theorem sc__law_has_list : FnScope ["_law_value", "_law_part_here"] ["_law_value"] (defScope s__law_has_list) := ⟨rfl, rfl, rfl, by decide +kernel, rfl, by decide +kernel, by decide +kernel⟩
def b__law_has_list (g__law_has_list : List D → Option D) : S :=
  (sSeq (sIf (mUn (fun d => some (.bl (isK "tuple" d))) (mVar 0)) (sFor [] 1 (wTup (mVar 0)) (sIf (mCall g__law_has_list (mCons (mVar 1) mNil)) (sRet (mC (.bl true))) sNext)) sNext)
  (sRet (mUn (fun d => some (.bl (isK "list" d))) (mVar 0))))
theorem ok__law_has_list {P : Program} {w : World} {K : PySem.W.Frag} {mg : Str → Option Value} {base : Heap} {k : Nat} {f__law_has_list : Addr} {fd__law_has_list : FuncData} {k__law_has_list : Nat} {g__law_has_list : List D → Option D} (B : Blt mg) (C : Cst K w mg) (T__law_has_list : TopD K mg "_law_has_list" s__law_has_list ["_law_value"] f__law_has_list fd__law_has_list)
    (G__law_has_list : FnOk P w K mg base CX0 k__law_has_list f__law_has_list fd__law_has_list ["_law_value"] (spM K 1 g__law_has_list)) (h__law_has_list : k__law_has_list ≤ k)
    : FnOk P w K mg base CX0 (k + 1) f__law_has_list fd__law_has_list ["_law_value"] (spM K 1 (mRun 1 2 (b__law_has_list g__law_has_list))) := by
  exact ok_def (own := []) T__law_has_list.F sc__law_has_list (by decide) fun cdv A outer s H E hr => ⟨_, (mb_cons (ms_if (mt_val (me_isi rfl "tuple" B.isinstance B.tuple (me_var 0)))
 (mb_one (ms_for (i := 1) PassesOwn.never rfl sc__law_has_list.nd (mi_tup rfl (me_var 0))
 (mb_one (ms_if (mt_val (me_call G__law_has_list (hr.mono h__law_has_list) T__law_has_list.g T__law_has_list.F.kp T__law_has_list.b (len_cons len_nil) (ma_cons ma_nil (me_var 1))))
 (mb_one (ms_ret me_bl))
 mb_nil))))
 mb_nil)
 (mb_one (ms_ret (me_isi rfl "list" B.isinstance B.list (me_var 0)))))⟩
/-! ### _law_is_right -/
theorem sc__law_is_right : FnScope ["_law_value", "_law_due", "_law_told_here"] ["_law_value"] (defScope s__law_is_right) := ⟨rfl, rfl, rfl, by decide +kernel, rfl, by decide +kernel, by decide +kernel⟩
def b__law_is_right (g__law_is_block g_is_program g__law_equal g__law_most g__law_told g__law_words_of g__law_has_list : List D → Option D) : S :=
  (sSeq (sAsg [] 1 (mCall g__law_is_block (mCons (mVar 0) (mCons (mLst mNil) (mCons (mLst mNil) mNil)))))
  (sSeq (sIf (mNot (mCall g__law_equal (mCons (mCall g_is_program (mCons (mVar 0) mNil)) (mCons (mVar 1) mNil)))) (sRet (mC (.bl false))) sNext)
  (sSeq (sIf (mAnd (mVar 1) (mOp gGt (mCall g__law_most (mCons (mVar 0) mNil)) (mC (.int 60)))) (sRet (mC (.bl true))) sNext)
  (sSeq (sAsg [] 2 (mCall g__law_told (mCons (mVar 0) mNil)))
  (sSeq (sIf (mVar 1) (sRet (mCall g__law_equal (mCons (mVar 2) (mCons (mTup (mCons (mC (.str "value")) (mCons (mCall g__law_words_of (mCons (mVar 0) mNil)) mNil))) mNil)))) sNext)
  (sRet (mAnd (mOp gEq (mOp gIx (mVar 2) (mC (.int 0))) (mC (.str "program"))) (mOr (mCall g__law_has_list (mCons (mVar 0) mNil)) (mCall g__law_equal (mCons (mOp gIx (mVar 2) (mC (.int 1))) (mCons (mVar 0) mNil)))))))))))
theorem ok__law_is_right {P : Program} {w : World} {K : PySem.W.Frag} {mg : Str → Option Value} {base : Heap} {k : Nat} {f : Addr} {fd : FuncData} {f__law_is_block : Addr} {fd__law_is_block : FuncData} {k__law_is_block : Nat} {g__law_is_block : List D → Option D} {f_is_program : Addr} {fd_is_program : FuncData} {k_is_program : Nat} {g_is_program : List D → Option D} {f__law_equal : Addr} {fd__law_equal : FuncData} {k__law_equal : Nat} {g__law_equal : List D → Option D} {f__law_most : Addr} {fd__law_most : FuncData} {k__law_most : Nat} {g__law_most : List D → Option D} {f__law_told : Addr} {fd__law_told : FuncData} {k__law_told : Nat} {g__law_told : List D → Option D} {f__law_words_of : Addr} {fd__law_words_of : FuncData} {k__law_words_of : Nat} {g__law_words_of : List D → Option D} {f__law_has_list : Addr} {fd__law_has_list : FuncData} {k__law_has_list : Nat} {g__law_has_list : List D → Option D} (B : Blt mg) (C : Cst K w mg) (T__law_is_right : TopD K mg "_law_is_right" s__law_is_right ["_law_value"] f fd)
    (T__law_is_block : TopD K mg "_law_is_block" s__law_is_block ["_law_value", "_law_locals_here", "_law_tickets"] f__law_is_block fd__law_is_block)
    (G__law_is_block : FnOk P w K mg base CX0 k__law_is_block f__law_is_block fd__law_is_block ["_law_value", "_law_locals_here", "_law_tickets"] (spM K 3 g__law_is_block)) (h__law_is_block : k__law_is_block ≤ k)
    (T_is_program : TopD K mg "is_program" s_is_program ["value"] f_is_program fd_is_program)
    (G_is_program : FnOk P w K mg base CX0 k_is_program f_is_program fd_is_program ["value"] (spM K 1 g_is_program)) (h_is_program : k_is_program ≤ k)
    (T__law_equal : TopD K mg "_law_equal" s__law_equal ["_law_actual", "_law_expected"] f__law_equal fd__law_equal)
    (G__law_equal : FnOk P w K mg base CX0 k__law_equal f__law_equal fd__law_equal ["_law_actual", "_law_expected"] (spM K 2 g__law_equal)) (h__law_equal : k__law_equal ≤ k)
    (T__law_most : TopD K mg "_law_most" s__law_most ["_law_block_here"] f__law_most fd__law_most)
    (G__law_most : FnOk P w K mg base CX0 k__law_most f__law_most fd__law_most ["_law_block_here"] (spM K 1 g__law_most)) (h__law_most : k__law_most ≤ k)
    (T__law_told : TopD K mg "_law_told" s__law_told ["_law_value"] f__law_told fd__law_told)
    (G__law_told : FnOk P w K mg base CX0 k__law_told f__law_told fd__law_told ["_law_value"] (spM K 1 g__law_told)) (h__law_told : k__law_told ≤ k)
    (T__law_words_of : TopD K mg "_law_words_of" s__law_words_of ["_law_program_here"] f__law_words_of fd__law_words_of)
    (G__law_words_of : FnOk P w K mg base CX0 k__law_words_of f__law_words_of fd__law_words_of ["_law_program_here"] (spM K 1 g__law_words_of)) (h__law_words_of : k__law_words_of ≤ k)
    (T__law_has_list : TopD K mg "_law_has_list" s__law_has_list ["_law_value"] f__law_has_list fd__law_has_list)
    (G__law_has_list : FnOk P w K mg base CX0 k__law_has_list f__law_has_list fd__law_has_list ["_law_value"] (spM K 1 g__law_has_list)) (h__law_has_list : k__law_has_list ≤ k)
    : FnOk P w K mg base CX0 (k + 1) f fd ["_law_value"] (spM K 1 (mRun 1 3 (b__law_is_right g__law_is_block g_is_program g__law_equal g__law_most g__law_told g__law_words_of g__law_has_list))) := by
  exact ok_def (own := []) T__law_is_right.F sc__law_is_right (by decide) fun cdv A outer s H E hr => ⟨_, (mb_cons (ms_asg (i := 1) sc__law_is_right.nd (me_call G__law_is_block (hr.mono h__law_is_block) T__law_is_block.g T__law_is_block.F.kp T__law_is_block.b (len_cons (len_cons (len_cons len_nil))) (ma_cons (ma_cons (ma_cons ma_nil (me_lst ma_nil len_nil)) (me_lst ma_nil len_nil)) (me_var 0))))
 (mb_cons (ms_if (mt_not (mt_val (me_call G__law_equal (hr.mono h__law_equal) T__law_equal.g T__law_equal.F.kp T__law_equal.b (len_cons (len_cons len_nil)) (ma_cons (ma_cons ma_nil (me_var 1)) (me_call G_is_program (hr.mono h_is_program) T_is_program.g T_is_program.F.kp T_is_program.b (len_cons len_nil) (ma_cons ma_nil (me_var 0)))))))
 (mb_one (ms_ret me_bl))
 mb_nil)
 (mb_cons (ms_if (MW.mt (mw_and (mt_val (me_var 1)) (mw_and1 (mt_cgt (me_call G__law_most (hr.mono h__law_most) T__law_most.g T__law_most.F.kp T__law_most.b (len_cons len_nil) (ma_cons ma_nil (me_var 0))) me_int))))
 (mb_one (ms_ret me_bl))
 mb_nil)
 (mb_cons (ms_asg (i := 2) sc__law_is_right.nd (me_call G__law_told (hr.mono h__law_told) T__law_told.g T__law_told.F.kp T__law_told.b (len_cons len_nil) (ma_cons ma_nil (me_var 0))))
 (mb_cons (ms_if (mt_val (me_var 1))
 (mb_one (ms_ret (me_call G__law_equal (hr.mono h__law_equal) T__law_equal.g T__law_equal.F.kp T__law_equal.b (len_cons (len_cons len_nil)) (ma_cons (ma_cons ma_nil (me_tup (ma_cons (ma_cons ma_nil (me_call G__law_words_of (hr.mono h__law_words_of) T__law_words_of.g T__law_words_of.F.kp T__law_words_of.b (len_cons len_nil) (ma_cons ma_nil (me_var 0)))) me_str) (len_cons (len_cons len_nil)))) (me_var 2)))))
 mb_nil)
 (mb_one (ms_ret (me_and (me_ceq (me_ix rfl (me_var 2) me_int) me_str) (me_one (me_or (me_call G__law_has_list (hr.mono h__law_has_list) T__law_has_list.g T__law_has_list.F.kp T__law_has_list.b (len_cons len_nil) (ma_cons ma_nil (me_var 0))) (me_one (me_call G__law_equal (hr.mono h__law_equal) T__law_equal.g T__law_equal.F.kp T__law_equal.b (len_cons (len_cons len_nil)) (ma_cons (ma_cons ma_nil (me_var 0)) (me_ix rfl (me_var 2) me_int))))))))))))))⟩
/-! ### _law_compounds -/
theorem sc__law_compounds : FnScope ["_law_value", "_law_at", "_law_found", "_law_part_here"] ["_law_value", "_law_at"] (defScope s__law_compounds) := ⟨rfl, rfl, rfl, by decide +kernel, rfl, by decide +kernel, by decide +kernel⟩
def b__law_compounds (g__law_compounds g__law_count : List D → Option D) : S :=
  (sSeq (sOwn [2] 2 mNil)
  (sSeq (sIf (mUn (fun d => some (.bl (isK "tuple" d))) (mVar 0)) (sSeq (sIf (mAnd (mOp gGt (mCall gLen (mCons (mVar 0) mNil)) (mC (.int 2))) (mOp (gIn false) (mOp gIx (mVar 0) (mC (.int 0))) (mLst (mCons (mC (.str "each")) (mCons (mC (.str "fold")) (mCons (mC (.str "start")) mNil)))))) (sApp [2] 2 (mVar 1)) sNext)
  (sSeq (sAsg [2] 1 (mOp gAdd (mVar 1) (mC (.int 1))))
  (sFor [2] 3 (wTup (mVar 0)) (sSeq (sOwnF 2 (mCat (mVar 2) (mCall g__law_compounds (mCons (mVar 3) (mCons (mVar 1) mNil)))))
  (sAsg [2] 1 (mOp gAdd (mVar 1) (mCall g__law_count (mCons (mVar 3) mNil)))))))) sNext)
  (sRet (mVar 2))))
theorem ok__law_compounds {P : Program} {w : World} {K : PySem.W.Frag} {mg : Str → Option Value} {base : Heap} {k : Nat} {f__law_compounds : Addr} {fd__law_compounds : FuncData} {k__law_compounds : Nat} {g__law_compounds : List D → Option D} {f__law_count : Addr} {fd__law_count : FuncData} {k__law_count : Nat} {g__law_count : List D → Option D} (B : Blt mg) (C : Cst K w mg) (T__law_compounds : TopD K mg "_law_compounds" s__law_compounds ["_law_value", "_law_at"] f__law_compounds fd__law_compounds)
    (G__law_compounds : FnOk P w K mg base CX0 k__law_compounds f__law_compounds fd__law_compounds ["_law_value", "_law_at"] (spM K 2 g__law_compounds)) (h__law_compounds : k__law_compounds ≤ k)
    (T__law_count : TopD K mg "_law_count" s__law_count ["_law_value"] f__law_count fd__law_count)
    (G__law_count : FnOk P w K mg base CX0 k__law_count f__law_count fd__law_count ["_law_value"] (spM K 1 g__law_count)) (h__law_count : k__law_count ≤ k)
    : FnOk P w K mg base CX0 (k + 1) f__law_compounds fd__law_compounds ["_law_value", "_law_at"] (spM K 2 (mRun 2 4 (b__law_compounds g__law_compounds g__law_count))) := by
  exact ok_def (own := [2]) T__law_compounds.F sc__law_compounds (by decide) fun cdv A outer s H E hr => ⟨_, (mb_cons (ms_own (i := 2) sc__law_compounds.nd (ml_lst ma_nil len_nil))
 (mb_cons (ms_if (mt_val (me_isi rfl "tuple" B.isinstance B.tuple (me_var 0)))
 (mb_cons (ms_if (MW.mt (mw_and (mt_cgt (me_len rfl B.len (ma_cons ma_nil (me_var 0))) me_int) (mw_and1 (mt_cin rfl (hu_of hr) (me_ix rfl (me_var 0) me_int) (me_lst (ma_cons (ma_cons (ma_cons ma_nil me_str) me_str) me_str) (len_cons (len_cons (len_cons len_nil))))))))
 (mb_one (ms_app rfl 2 (me_var 1)))
 mb_nil)
 (mb_cons (ms_asg (i := 1) sc__law_compounds.nd (me_add rfl (me_var 1) me_int))
 (mb_one (ms_for (i := 3) PassesOwn.never rfl sc__law_compounds.nd (mi_tup rfl (me_var 0))
 (mb_cons (ms_ownF (i := 2) sc__law_compounds.nd (ml_cat (me_var 2) (me_call G__law_compounds (hr.mono h__law_compounds) T__law_compounds.g T__law_compounds.F.kp T__law_compounds.b (len_cons (len_cons len_nil)) (ma_cons (ma_cons ma_nil (me_var 1)) (me_var 3)))))
 (mb_one (ms_asg (i := 1) sc__law_compounds.nd (me_add rfl (me_var 1) (me_call G__law_count (hr.mono h__law_count) T__law_count.g T__law_count.F.kp T__law_count.b (len_cons len_nil) (ma_cons ma_nil (me_var 3)))))))))))
 mb_nil)
 (mb_one (ms_ret (me_var 2)))))⟩
/-! ### _law_nearly_right -/
theorem sc__law_nearly_right : FnScope ["_law_script", "_law_program_here", "_law_pool_here", "_law_drawn", "_law_more", "_law_longer", "_law_places", "_law_changed", "_law_at", "_law_old", "_law_n"] ["_law_script", "_law_program_here", "_law_pool_here"] (defScope s__law_nearly_right) := ⟨rfl, rfl, rfl, by decide +kernel, rfl, by decide +kernel, by decide +kernel⟩
def b__law_nearly_right (g__law_draws g__law_compounds g__law_part g__law_put : List D → Option D) : S :=
  (sSeq (sAsg [7] 3 (mCall g__law_draws (mCons (mVar 0) (mCons (mC (.int 14)) (mCons (mLst (mCons (mC (.int 5)) (mCons (mC (.int 5)) (mCons (mC (.int 5)) (mCons (mC (.int 5)) (mCons (mC (.int 1000)) (mCons (mC (.int 1000)) (mCons (mC (.int 1000)) mNil)))))))) mNil)))))
  (sSeq (sAsg [7] 4 (mTup (mCons (mTup (mCons (mC (.str "each")) (mCons (mOp gIx (mVar 2) (mOp gIx (mVar 3) (mC (.int 0)))) (mCons (mTup (mCons (mC (.str "number")) (mCons (mC (.int 2)) mNil))) (mCons (mTup mNil) mNil))))) (mCons (mTup (mCons (mC (.str "start")) (mCons (mOp gIx (mVar 2) (mOp gIx (mVar 3) (mC (.int 3)))) (mCons (mTup mNil) mNil)))) mNil))))
  (sSeq (sAsg [7] 4 (mOp gAdd (mVar 4) (mTup (mCons (mTup (mCons (mC (.str "fold")) (mCons (mOp gIx (mVar 2) (mOp gIx (mVar 3) (mC (.int 1)))) (mCons (mC (.str "+")) (mCons (mOp gIx (mVar 2) (mOp gIx (mVar 3) (mC (.int 2)))) (mCons (mTup (mCons (mC (.str "number")) (mCons (mC (.int 1)) mNil))) (mCons (mTup (mCons (mC (.str "local")) (mCons (mOp gIx (mVar 2) (mOp gIx (mVar 3) (mC (.int 2)))) mNil))) mNil))))))) mNil))))
  (sSeq (sAsg [7] 5 (mOp gAdd (mVar 4) (mVar 1)))
  (sSeq (sAsg [7] 6 (mCall g__law_compounds (mCons (mVar 5) (mCons (mC (.int 0)) mNil))))
  (sSeq (sOwn [7] 7 mNil)
  (sSeq (sFor [7] 8 (wLst (mOp gAdd (mUn (gSl none (some 3)) (mVar 6)) (mLc 10 (wLst (mUn (gSl (some 4) none) (mVar 3))) (mC (.bl true)) (mOp gIx (mVar 6) (mOp gMod (mCall gInt (mCons (mVar 10) mNil)) (mCall gLen (mCons (mVar 6) mNil))))))) (sSeq (sAsg [7] 9 (mCall g__law_part (mCons (mVar 5) (mCons (mVar 8) mNil))))
  (sSeq (sApp [7] 7 (mCall g__law_put (mCons (mVar 5) (mCons (mVar 8) (mCons (mTup (mCons (mC (.str "fork")) (mCons (mTup (mCons (mTup (mCons (mVar 9) (mCons (mTup (mCons (mC (.str "await")) (mCons (mOp gIx (mVar 9) (mC (.int 1))) mNil))) mNil))) mNil)) mNil))) mNil)))))
  (sSeq (sIf (mOp gEq (mOp gIx (mVar 9) (mC (.int 0))) (mC (.str "each"))) (sSeq (sApp [7] 7 (mCall g__law_put (mCons (mVar 5) (mCons (mVar 8) (mCons (mOp gAdd (mOp gAdd (mUn (gSl none (some 2)) (mVar 9)) (mTup (mCons (mTup (mCons (mC (.str "local")) (mCons (mOp gIx (mVar 9) (mC (.int 1))) mNil))) mNil))) (mUn (gSl (some 3) none) (mVar 9))) mNil)))))
  (sApp [7] 7 (mCall g__law_put (mCons (mVar 5) (mCons (mVar 8) (mCons (mTup (mCons (mC (.str "fork")) (mCons (mTup (mCons (mTup (mCons (mVar 9) (mCons (mTup (mCons (mC (.str "set")) (mCons (mOp gIx (mVar 9) (mC (.int 1))) (mCons (mTup (mCons (mC (.str "local")) (mCons (mOp gIx (mVar 9) (mC (.int 1))) mNil))) mNil)))) mNil))) mNil)) mNil))) mNil)))))) sNext)
  (sSeq (sIf (mOp gEq (mOp gIx (mVar 9) (mC (.int 0))) (mC (.str "fold"))) (sSeq (sApp [7] 7 (mCall g__law_put (mCons (mVar 5) (mCons (mVar 8) (mCons (mOp gAdd (mOp gAdd (mUn (gSl none (some 4)) (mVar 9)) (mTup (mCons (mTup (mCons (mC (.str "local")) (mCons (mOp gIx (mVar 9) (mC (.int 3))) mNil))) mNil))) (mUn (gSl (some 5) none) (mVar 9))) mNil)))))
  (sApp [7] 7 (mCall g__law_put (mCons (mVar 5) (mCons (mVar 8) (mCons (mTup (mCons (mC (.str "fork")) (mCons (mTup (mCons (mTup (mCons (mVar 9) (mCons (mTup (mCons (mC (.str "await")) (mCons (mOp gIx (mVar 9) (mC (.int 3))) mNil))) mNil))) mNil)) mNil))) mNil)))))) sNext)
  (sIf (mOp gEq (mOp gIx (mVar 9) (mC (.int 0))) (mC (.str "start"))) (sSeq (sApp [7] 7 (mCall g__law_put (mCons (mVar 5) (mCons (mVar 8) (mCons (mTup (mCons (mC (.str "fork")) (mCons (mTup (mCons (mTup (mCons (mVar 9) mNil)) (mCons (mTup (mCons (mTup (mCons (mC (.str "await")) (mCons (mOp gIx (mVar 9) (mC (.int 1))) mNil))) mNil)) mNil))) mNil))) mNil)))))
  (sApp [7] 7 (mCall g__law_put (mCons (mVar 5) (mCons (mVar 8) (mCons (mOp gAdd (mUn (gSl none (some 2)) (mVar 9)) (mTup (mCons (mOp gAdd (mOp gIx (mVar 9) (mC (.int 2))) (mTup (mCons (mTup (mCons (mC (.str "await")) (mCons (mOp gIx (mVar 9) (mC (.int 1))) mNil))) mNil))) mNil))) mNil)))))) sNext))))))
  (sRet (mVar 7)))))))))
theorem ok__law_nearly_right {P : Program} {w : World} {K : PySem.W.Frag} {mg : Str → Option Value} {base : Heap} {k : Nat} {f : Addr} {fd : FuncData} {f__law_draws : Addr} {fd__law_draws : FuncData} {k__law_draws : Nat} {g__law_draws : List D → Option D} {f__law_compounds : Addr} {fd__law_compounds : FuncData} {k__law_compounds : Nat} {g__law_compounds : List D → Option D} {f__law_part : Addr} {fd__law_part : FuncData} {k__law_part : Nat} {g__law_part : List D → Option D} {f__law_put : Addr} {fd__law_put : FuncData} {k__law_put : Nat} {g__law_put : List D → Option D} (B : Blt mg) (C : Cst K w mg) (T__law_nearly_right : TopD K mg "_law_nearly_right" s__law_nearly_right ["_law_script", "_law_program_here", "_law_pool_here"] f fd)
    (T__law_draws : TopD K mg "_law_draws" s__law_draws ["_law_script", "_law_k", "_law_bounds"] f__law_draws fd__law_draws)
    (G__law_draws : FnOk P w K mg base CX0 k__law_draws f__law_draws fd__law_draws ["_law_script", "_law_k", "_law_bounds"] (spM K 3 g__law_draws)) (h__law_draws : k__law_draws ≤ k)
    (T__law_compounds : TopD K mg "_law_compounds" s__law_compounds ["_law_value", "_law_at"] f__law_compounds fd__law_compounds)
    (G__law_compounds : FnOk P w K mg base CX0 k__law_compounds f__law_compounds fd__law_compounds ["_law_value", "_law_at"] (spM K 2 g__law_compounds)) (h__law_compounds : k__law_compounds ≤ k)
    (T__law_part : TopD K mg "_law_part" s__law_part ["_law_value", "_law_at"] f__law_part fd__law_part)
    (G__law_part : FnOk P w K mg base CX0 k__law_part f__law_part fd__law_part ["_law_value", "_law_at"] (spM K 2 g__law_part)) (h__law_part : k__law_part ≤ k)
    (T__law_put : TopD K mg "_law_put" s__law_put ["_law_value", "_law_at", "_law_new"] f__law_put fd__law_put)
    (G__law_put : FnOk P w K mg base CX0 k__law_put f__law_put fd__law_put ["_law_value", "_law_at", "_law_new"] (spM K 3 g__law_put)) (h__law_put : k__law_put ≤ k)
    : FnOk P w K mg base CX0 (k + 1) f fd ["_law_script", "_law_program_here", "_law_pool_here"] (spM K 3 (mRun 3 11 (b__law_nearly_right g__law_draws g__law_compounds g__law_part g__law_put))) := by
  exact ok_def (own := [7]) T__law_nearly_right.F sc__law_nearly_right (by decide) fun cdv A outer s H E hr => ⟨_, (mb_cons (ms_asg (i := 3) sc__law_nearly_right.nd (me_call G__law_draws (hr.mono h__law_draws) T__law_draws.g T__law_draws.F.kp T__law_draws.b (len_cons (len_cons (len_cons len_nil))) (ma_cons (ma_cons (ma_cons ma_nil (me_lst (ma_cons (ma_cons (ma_cons (ma_cons (ma_cons (ma_cons (ma_cons ma_nil me_int) me_int) me_int) me_int) me_int) me_int) me_int) (len_cons (len_cons (len_cons (len_cons (len_cons (len_cons (len_cons len_nil))))))))) me_int) (me_var 0))))
 (mb_cons (ms_asg (i := 4) sc__law_nearly_right.nd (me_tup (ma_cons (ma_cons ma_nil (me_tup (ma_cons (ma_cons (ma_cons ma_nil (me_tup ma_nil len_nil)) (me_ix rfl (me_var 2) (me_ix rfl (me_var 3) me_int))) me_str) (len_cons (len_cons (len_cons len_nil))))) (me_tup (ma_cons (ma_cons (ma_cons (ma_cons ma_nil (me_tup ma_nil len_nil)) (me_tup (ma_cons (ma_cons ma_nil me_int) me_str) (len_cons (len_cons len_nil)))) (me_ix rfl (me_var 2) (me_ix rfl (me_var 3) me_int))) me_str) (len_cons (len_cons (len_cons (len_cons len_nil)))))) (len_cons (len_cons len_nil))))
 (mb_cons (ms_asg (i := 4) sc__law_nearly_right.nd (me_add rfl (me_var 4) (me_tup (ma_cons ma_nil (me_tup (ma_cons (ma_cons (ma_cons (ma_cons (ma_cons (ma_cons ma_nil (me_tup (ma_cons (ma_cons ma_nil (me_ix rfl (me_var 2) (me_ix rfl (me_var 3) me_int))) me_str) (len_cons (len_cons len_nil)))) (me_tup (ma_cons (ma_cons ma_nil me_int) me_str) (len_cons (len_cons len_nil)))) (me_ix rfl (me_var 2) (me_ix rfl (me_var 3) me_int))) me_str) (me_ix rfl (me_var 2) (me_ix rfl (me_var 3) me_int))) me_str) (len_cons (len_cons (len_cons (len_cons (len_cons (len_cons len_nil)))))))) (len_cons len_nil))))
 (mb_cons (ms_asg (i := 5) sc__law_nearly_right.nd (me_add rfl (me_var 4) (me_var 1)))
 (mb_cons (ms_asg (i := 6) sc__law_nearly_right.nd (me_call G__law_compounds (hr.mono h__law_compounds) T__law_compounds.g T__law_compounds.F.kp T__law_compounds.b (len_cons (len_cons len_nil)) (ma_cons (ma_cons ma_nil me_int) (me_var 5))))
 (mb_cons (ms_own (i := 7) sc__law_nearly_right.nd (ml_lst ma_nil len_nil))
 (mb_cons (ms_for (i := 8) PassesOwn.never rfl sc__law_nearly_right.nd (mi_lst rfl (me_add rfl (me_sl rfl (me_var 6) mo_none mo_int) (me_lc (x := "_law_n") (j := 10) rfl sc__law_nearly_right.nd (mi_lst rfl (me_sl rfl (me_var 3) mo_int mo_none)) (blkOk_by (N := ["_law_script", "_law_program_here", "_law_pool_here", "_law_drawn", "_law_more", "_law_longer", "_law_places", "_law_changed", "_law_at", "_law_old", "_law_n"]) (sc := defScope s__law_nearly_right) (by decide +kernel)) (fun _ _ _ _ _ => pg_name (i := 10) sc__law_nearly_right.nd rfl (.inl rfl)) (fun _ _ _ _ _ => mts_nil) (fun _ _ _ _ _ => (me_ix rfl (me_var 6) (me_mod (me_int1 B.int (ma_cons ma_nil (me_var 10))) (me_len rfl B.len (ma_cons ma_nil (me_var 6)))))))))
 (mb_cons (ms_asg (i := 9) sc__law_nearly_right.nd (me_call G__law_part (hr.mono h__law_part) T__law_part.g T__law_part.F.kp T__law_part.b (len_cons (len_cons len_nil)) (ma_cons (ma_cons ma_nil (me_var 8)) (me_var 5))))
 (mb_cons (ms_app rfl 7 (me_call G__law_put (hr.mono h__law_put) T__law_put.g T__law_put.F.kp T__law_put.b (len_cons (len_cons (len_cons len_nil))) (ma_cons (ma_cons (ma_cons ma_nil (me_tup (ma_cons (ma_cons ma_nil (me_tup (ma_cons ma_nil (me_tup (ma_cons (ma_cons ma_nil (me_tup (ma_cons (ma_cons ma_nil (me_ix rfl (me_var 9) me_int)) me_str) (len_cons (len_cons len_nil)))) (me_var 9)) (len_cons (len_cons len_nil)))) (len_cons len_nil))) me_str) (len_cons (len_cons len_nil)))) (me_var 8)) (me_var 5))))
 (mb_cons (ms_if (mt_ceq (me_ix rfl (me_var 9) me_int) me_str)
 (mb_cons (ms_app rfl 7 (me_call G__law_put (hr.mono h__law_put) T__law_put.g T__law_put.F.kp T__law_put.b (len_cons (len_cons (len_cons len_nil))) (ma_cons (ma_cons (ma_cons ma_nil (me_add rfl (me_add rfl (me_sl rfl (me_var 9) mo_none mo_int) (me_tup (ma_cons ma_nil (me_tup (ma_cons (ma_cons ma_nil (me_ix rfl (me_var 9) me_int)) me_str) (len_cons (len_cons len_nil)))) (len_cons len_nil))) (me_sl rfl (me_var 9) mo_int mo_none))) (me_var 8)) (me_var 5))))
 (mb_one (ms_app rfl 7 (me_call G__law_put (hr.mono h__law_put) T__law_put.g T__law_put.F.kp T__law_put.b (len_cons (len_cons (len_cons len_nil))) (ma_cons (ma_cons (ma_cons ma_nil (me_tup (ma_cons (ma_cons ma_nil (me_tup (ma_cons ma_nil (me_tup (ma_cons (ma_cons ma_nil (me_tup (ma_cons (ma_cons (ma_cons ma_nil (me_tup (ma_cons (ma_cons ma_nil (me_ix rfl (me_var 9) me_int)) me_str) (len_cons (len_cons len_nil)))) (me_ix rfl (me_var 9) me_int)) me_str) (len_cons (len_cons (len_cons len_nil))))) (me_var 9)) (len_cons (len_cons len_nil)))) (len_cons len_nil))) me_str) (len_cons (len_cons len_nil)))) (me_var 8)) (me_var 5))))))
 mb_nil)
 (mb_cons (ms_if (mt_ceq (me_ix rfl (me_var 9) me_int) me_str)
 (mb_cons (ms_app rfl 7 (me_call G__law_put (hr.mono h__law_put) T__law_put.g T__law_put.F.kp T__law_put.b (len_cons (len_cons (len_cons len_nil))) (ma_cons (ma_cons (ma_cons ma_nil (me_add rfl (me_add rfl (me_sl rfl (me_var 9) mo_none mo_int) (me_tup (ma_cons ma_nil (me_tup (ma_cons (ma_cons ma_nil (me_ix rfl (me_var 9) me_int)) me_str) (len_cons (len_cons len_nil)))) (len_cons len_nil))) (me_sl rfl (me_var 9) mo_int mo_none))) (me_var 8)) (me_var 5))))
 (mb_one (ms_app rfl 7 (me_call G__law_put (hr.mono h__law_put) T__law_put.g T__law_put.F.kp T__law_put.b (len_cons (len_cons (len_cons len_nil))) (ma_cons (ma_cons (ma_cons ma_nil (me_tup (ma_cons (ma_cons ma_nil (me_tup (ma_cons ma_nil (me_tup (ma_cons (ma_cons ma_nil (me_tup (ma_cons (ma_cons ma_nil (me_ix rfl (me_var 9) me_int)) me_str) (len_cons (len_cons len_nil)))) (me_var 9)) (len_cons (len_cons len_nil)))) (len_cons len_nil))) me_str) (len_cons (len_cons len_nil)))) (me_var 8)) (me_var 5))))))
 mb_nil)
 (mb_one (ms_if (mt_ceq (me_ix rfl (me_var 9) me_int) me_str)
 (mb_cons (ms_app rfl 7 (me_call G__law_put (hr.mono h__law_put) T__law_put.g T__law_put.F.kp T__law_put.b (len_cons (len_cons (len_cons len_nil))) (ma_cons (ma_cons (ma_cons ma_nil (me_tup (ma_cons (ma_cons ma_nil (me_tup (ma_cons (ma_cons ma_nil (me_tup (ma_cons ma_nil (me_tup (ma_cons (ma_cons ma_nil (me_ix rfl (me_var 9) me_int)) me_str) (len_cons (len_cons len_nil)))) (len_cons len_nil))) (me_tup (ma_cons ma_nil (me_var 9)) (len_cons len_nil))) (len_cons (len_cons len_nil)))) me_str) (len_cons (len_cons len_nil)))) (me_var 8)) (me_var 5))))
 (mb_one (ms_app rfl 7 (me_call G__law_put (hr.mono h__law_put) T__law_put.g T__law_put.F.kp T__law_put.b (len_cons (len_cons (len_cons len_nil))) (ma_cons (ma_cons (ma_cons ma_nil (me_add rfl (me_sl rfl (me_var 9) mo_none mo_int) (me_tup (ma_cons ma_nil (me_add rfl (me_ix rfl (me_var 9) me_int) (me_tup (ma_cons ma_nil (me_tup (ma_cons (ma_cons ma_nil (me_ix rfl (me_var 9) me_int)) me_str) (len_cons (len_cons len_nil)))) (len_cons len_nil)))) (len_cons len_nil)))) (me_var 8)) (me_var 5))))))
 mb_nil)))))))
 (mb_one (ms_ret (me_var 7))))))))))⟩
end ML
set_option Elab.async false
set_option linter.all false
set_option maxRecDepth 100000
set_option maxHeartbeats 8000000
/-! the defs that raise and catch, by hand -/
namespace ML
open PySem PySem.Spec PyProof.Rows L2
section
variable {X : Cx}
def tSortSet (K : PySem.W.Frag) (te : TE) : TE := fun σ H Q => te σ H fun x H1 => ∃ (a : Addr) (ss : List Str), x = V.ref a ∧ SqL K H1 a (ss.map V.str) ∧ (dd ss).length + 1 < scanBound ∧ ∀ p, H1 p = none → Q (.ref p) (upd H1 p (.lst ((sortS (dd ss)).map V.str)))
theorem pe_sortSet {a : Expr} {ta : TE} {p p2 q pos : Pos} (hc : X.calm = true) (hu : X.A.units + 3 < cLine) (hm : X.mg "sorted" = none) (hm2 : X.mg "set" = none) (ha : PE X a ta) (hg : Gl X "sorted" := by rfl) (hg2 : Gl X "set" := by rfl)
    (na : starEach [a] X.env = (false, eval a X.env) :: starEach [] X.env := by rfl) : PE X (.Call (.Name "sorted" p) [.Call (.Name "set" p2) [a] [] q] [] pos) (tSortSet X.K ta) := by
  refine ⟨fun pins s σ H Q I h => ?_⟩
  have bs : bootBuiltins "sorted" = some (.builtin "sorted") := by decide +kernel
  refine Call_ (ld_blt I hg hm bs ?_)
  refine PyProof.Rows.callWith_builtin1 (PyProof.Rows.args_cons ?_ rfl) rfl rfl
  refine Call_ (ld_blt I hg2 hm2 boot_set ?_)
  refine PyProof.Rows.callWith_type1 (PyProof.Rows.args_cons (thn (ha.run pins s σ H _ I h) fun v s1 ⟨x, H1, I1, r1, q1⟩ => PyProof.Rows.args_nil ?_) na) na rfl
  obtain ⟨l, ss, rfl, hq, hb, q1⟩ := q1
  cases r1
  obtain ⟨its, rv, hl, hz⟩ := I1.list hq
  refine set_of_list ss (I1.ok.hd hc) hl.isList (by simpa using rv) hb fun h' tk hS hk => ?_
  refine PyProof.Rows.args_nil ?_
  have I2 : Inv X pins σ H1 { s1 with heap := h', toks := tk } := I1.kept fun b o e => hk b o e
  obtain ⟨s2, hs2⟩ : ∃ s2 : Shared, s2 = { s1 with heap := h', toks := tk } := ⟨_, rfl⟩
  have hS2 : SetT X.w s2.heap s1.heap.objs.size ss := by rw [hs2]; exact hS
  rw [← hs2] at I2 ⊢
  refine sorted_of_set hu hS2 (I1.ok.hd hc) fun s' p out c k g o hp hg' hv => ?_
  have hlen : ((sortS (dd ss)).map V.str).length ≤ sizeLine := by
    rw [List.length_map]
    unfold sortS
    rw [List.length_mergeSort]
    exact fits_of_scanBound (by omega)
  have hn : H1 p = none := I2.hok.fresh hp
  have J : Inv X pins σ (upd H1 p (.lst ((sortS (dd ss)).map V.str))) { s2 with heap := s'.heap, gens := s'.gens, drawn := s'.drawn, toks := s'.toks } :=
    I2.call (ch := []) (Un.laid k hp hn) (I2.hok.laid k hp ⟨hlen, out, c, hv, hg'⟩) (by rw [g]; exact I2.bare) (fun _ z => nomatch z)
  have e : s' = { s2 with heap := s'.heap, gens := s'.gens, drawn := s'.drawn, toks := s'.toks } := by
    cases s'
    cases s2
    cases o
    rfl
  rw [e]
  exact ⟨.ref p, _, J, rfl, q1 p hn⟩
/-- f(k = v) -/
theorem pe_callK0 {CX : CXT} {k : Nat} {f : Addr} {fd : FuncData} {ps ks : List Str} {sp : Sp} {E : XK} {x : Str} {p pos : Pos} {kws : List Keyword} {tk : TA} {g : List Value → List Value → List Value} {gV : List V → List V → List V} (F : FnOk X.prog X.w X.K X.mg X.base CX k f fd ps sp) (hr : Room k X.A) (hg : Gl X x) (hm : X.mg x = some (.ref f)) (hk : PySem.W.keepIn X.K (.ref f) = true) (hb : KBinds X.K fd ps ks g gV) (hx : Passes CX X E)
    (hkw : PK X kws tk) (hall : (backToKw pos (keywordEach kws X.env)).all (·.1.isSome) = true := by rfl) (hks : (backToKw pos (keywordEach kws X.env)).filterMap (·.1) = ks := by rfl)
    (hdb : (x == ("__debug__" : Str)) = false := by decide)
    (hpl : ((backTo pos (starEach [] X.env)).any (·.1) || (backToKw pos (keywordEach kws X.env)).any (·.1.isNone)) = false := by rfl) :
    PE X (.Call (.Name x p) [] kws pos) (fun σ H Q => tk σ H fun zs H2 => sp (gV [] zs) H2 Q E) := by
  refine ⟨fun pins s σ H Q I h => ?_⟩
  refine wpAny_Call_Name_kw (ld_glob I hg hm ?_ hdb)
  refine PySem.W.callWith_KW0 (h₀ := X.base) I.ok.mod.kin hk hall (thn (hkw.run pos pins s σ H _ I h) fun ws s2 ⟨zs, H2, I2, rz, q2⟩ => ⟨I2.kIn, ?_⟩) hpl
  rw [hks]
  exact run_fnk F hr hb hx I2 .nil rz q2
end
/-! ### InvalidProgram -/
def clsBody : Stmt → List Stmt
  | .ClassDef _ _ _ b _ _ _ _ _ _ _ => b
  | _ => []
def s_inv : Stmt := (clsBody (topS 2)).getD 0 (.Pass ⟨0, 0, 0, 0⟩)
structure InvC (K : PySem.W.Frag) (mg : Str → Option Value) (C fI : Addr) (fdI : FuncData) : Prop where
  gC : mg "InvalidProgram" = some (.ref C)
  ox : OexC K C
  xf : XfC K C
  noV : PySem.W.findIn K (.ref C) "value" = some none
  iC : PySem.W.findIn K (.ref C) "__init__" = some (some (.ref fI))
  tI : PySem.W.typeIn K (.ref fI) = some (.type "function")
  F : Fun K "__init__" "InvalidProgram.__init__" s_inv fI fdI
  b : Binds K fdI ["self", "value"] []
  te : PySem.W.exmOne K (.ref C) (.ref C) = some true
def spI (C : Addr) : Sp := fun vs H Q _ => ∃ (a : Addr) (v : V), vs = [.ref a, v] ∧ H a = some (exo a C none) ∧ ∀ dx, H dx = none → dx ≠ a → Q .non (upd (upd H dx (exd dx [("value", v)])) a (exo a C (some dx)))
theorem sc_inv : FnScope ["self", "value"] ["self", "value"] (defScope s_inv) := ⟨rfl, rfl, rfl, by decide +kernel, rfl, by decide +kernel, by decide +kernel⟩
section
variable {P : Program} {w : World} {K : PySem.W.Frag} {mg : Str → Option Value} {base : Heap} {C fI : Addr} {fdI : FuncData} {k : Nat}
theorem ok_inv (T : InvC K mg C fI fdI) : FnOk P w K mg base CX0 (k + 1) fI fdI ["self", "value"] (spI C) := by
  refine T.F.ok sc_inv (fun vs H Q E h => ?_) (fun cdv A outer s H vs Q E hr h => ⟨_, pss_one (ps_ost (pv 0) (pv 1)), ?_⟩)
  · obtain ⟨a, v, rfl, _⟩ := h
    rfl
  · obtain ⟨a, v, rfl, ha, q⟩ := h
    exact ⟨v, rfl, .ref a, rfl, a, C, rfl, T.ox, T.noV, .inl ⟨ha, fun dx h1 h2 => q dx h1 h2⟩⟩
/-! ### need_program -/
def NoP (Hk H : Hp) (C : Addr) (v : V) (E : XK) : Prop := ∀ H2 Hr dx, Step Hk H Hr H2 → H2 dx = none → E (.ref C) (some dx) (upd H2 dx (.xd [("value", v)]))
def spN (K : PySem.W.Frag) (C : Addr) (gP : List D → Option D) : Sp := fun vs H Q E => ∃ Hk v d b, vs = [v] ∧ Same Hk H ∧ Rp K Hk v d ∧ gP [d] = some (.bl b) ∧ (b = true → ∀ H2 Hr, Step Hk H Hr H2 → Q v H2) ∧ (b = false → NoP Hk H C v E)
theorem sc_need : FnScope ["value"] ["value"] (defScope s_need_program) := ⟨rfl, rfl, rfl, by decide +kernel, rfl, by decide +kernel, by decide +kernel⟩
theorem rel1 {Hk : Hp} {v : V} {d : D} (r : Rp K Hk v d) : Rel K Hk [some v] [some d] := ⟨rfl, fun i e h => by
  cases i with
  | zero => cases h; exact ⟨v, rfl, r⟩
  | succ i => simp at h⟩
theorem ok_need {f f_P : Addr} {fd fd_P : FuncData} {k_P : Nat} {gP : List D → Option D} (T : InvC K mg C fI fdI) (T_N : TopD K mg "need_program" s_need_program ["value"] f fd) (T_P : TopD K mg "is_program" s_is_program ["value"] f_P fd_P)
    (G_P : FnOk P w K mg base CX0 k_P f_P fd_P ["value"] (spM K 1 gP)) (h_P : k_P ≤ k) (h2 : 2 ≤ k) : FnOk P w K mg base (L2.CX P w) (k + 1) f fd ["value"] (spN K C gP) := by
  refine T_N.F.okX sc_need (fun vs H Q E h => ?_) (fun cdv A outer s H vs Q E hr h => ?_)
  · obtain ⟨Hk, v, d, b, rfl, _⟩ := h
    rfl
  have mt := mt_not (mt_val (me_call (pos := ⟨27, 11, 27, 28⟩) (p := ⟨27, 11, 27, 28⟩) (X := cxOf (L2.CX P w) P w K mg base ["value"] "need_program" (defScope s_need_program) f cdv A outer s H E) (K := K) G_P (hr.mono h_P) T_P.g T_P.F.kp T_P.b (len_cons len_nil) (ma_cons ma_nil (me_var 0 (pos := ⟨27, 11, 27, 28⟩))))) (pos := ⟨27, 11, 27, 28⟩)
  refine ⟨_, pss_cons (ps_if (mt_not (mt_val (me_call G_P (hr.mono h_P) T_P.g T_P.F.kp T_P.b (len_cons len_nil) (ma_cons ma_nil (me_var 0))))).pt
      (pss_one (ps_raise (W := fun cls d _ H => E cls d H) rfl (takes_of rfl rfl rfl rfl) (pmk_oex T.ox T.iC T.tI (ok_inv (k := 0) T) (hr.mono h2) T.b .nil pass0 rfl T.gC (pa_cons (pv 0) pa_nil)))) pss_nil)
      (pss_one (ps_ret (pv 0))), ?_⟩
  obtain ⟨Hk, v, d, b, rfl, e, rv, hg, q1, q2⟩ := h
  show tIfS _ _ _ _ _ _
  show tNot _ _ _ _
  refine mt.st [some v] [some d] Hk (rel1 rv) (!b) ?_ H e _ fun H2 Hr st => ?_
  · show mNot (mCall gP (mCons (mVar 0) mNil)) [some d] = _
    simp [mNot, mCall, mCons, mVar, mNil, hg]
  · cases b with
    | true => exact ⟨v, rfl, q1 rfl H2 Hr st⟩
    | false =>
      refine ⟨v, rfl, (by show 1 ≤ 1000; decide), fun a ha => ⟨a, v, rfl, upd_same, fun dx h1 h3 => ⟨rfl, dx, [("value", v)], upd_same, ?_, ?_, ?_⟩⟩⟩
      · rw [upd_ne h3, upd_same]
      · rw [upd_ne h3] at h1; exact h1
      · have hd : H2 dx = none := by rw [upd_ne h3] at h1; exact h1
        have eu : upd (del (upd (upd (upd H2 a (exo a C none)) dx (exd dx [("value", v)])) a (exo a C (some dx))) a) dx (.xd [("value", v)]) = upd H2 dx (.xd [("value", v)]) := by
          funext b
          by_cases hb : b = dx
          · rw [hb, upd_same, upd_same]
          · rw [upd_ne hb, upd_ne hb]
            by_cases hba : b = a
            · rw [hba, del_same, ha]
            · rw [del_ne hba, upd_ne hba, upd_ne hb, upd_ne hba]
        rw [eu]
        exact q2 rfl H2 Hr dx st hd
/-! ### words_of -/
theorem hu3_of {A : Around} {k : Nat} (hr : Room k A) : A.units + 3 < cLine := Nat.lt_of_le_of_lt (Nat.add_le_add_left (by decide : 3 ≤ 64) _) hr.units
def spW (K : PySem.W.Frag) (C : Addr) (gP gN : List D → Option D) : Sp := fun vs H Q E => ∃ Hk v d b, vs = [v] ∧ Same Hk H ∧ Rp K Hk v d ∧ gP [d] = some (.bl b) ∧
  (b = true → ∃ ss, gN [d] = some (.lst (ss.map D.str)) ∧ (dd ss).length + 1 < scanBound ∧ ∀ u H2 Hr, Step Hk H Hr H2 → Rp K Hr u (.tup ((sortS (dd ss)).map D.str)) → Q u H2) ∧ (b = false → NoP Hk H C v E)
theorem sc_words : FnScope ["program"] ["program"] (defScope s_words_of) := ⟨rfl, rfl, rfl, by decide +kernel, rfl, by decide +kernel, by decide +kernel⟩
theorem ok_words {f f_P f_N : Addr} {fd fd_P fd_N : FuncData} {k_P k_N : Nat} {gP gN : List D → Option D} (B : Blt mg) (T_W : TopD K mg "words_of" s_words_of ["program"] f fd) (T_P : TopD K mg "need_program" s_need_program ["value"] f_P fd_P)
    (G_P : FnOk P w K mg base (L2.CX P w) k_P f_P fd_P ["value"] (spN K C gP)) (h_P : k_P ≤ k) (T_N : TopD K mg "names_in" s_names_in ["block"] f_N fd_N) (G_N : FnOk P w K mg base CX0 k_N f_N fd_N ["block"] (spM K 1 gN)) (h_N : k_N ≤ k) :
    FnOk P w K mg base (L2.CX P w) (k + 1) f fd ["program"] (spW K C gP gN) := by
  refine T_W.F.okX sc_words (fun vs H Q E h => ?_) (fun cdv A outer s H vs Q E hr h => ?_)
  · obtain ⟨Hk, v, d, b, rfl, _⟩ := h
    rfl
  refine ⟨_, pss_one (ps_ret (pe_callTy call_tuple_of rfl B.tuple (by decide +kernel) (pa_cons (pe_sortSet rfl (hu3_of hr) B.sorted B.set
    (pe_call (E := E0) G_N (hr.mono h_N) rfl T_N.g T_N.F.kp T_N.b .nil pass0 (pa_cons
      (pe_call (E := E) G_P (hr.mono h_P) rfl T_P.g T_P.F.kp T_P.b .nil (passes_call (takes_of rfl rfl rfl rfl) (fun _ _ _ _ h => h)) (pa_cons (pv 0) pa_nil)) pa_nil))) pa_nil) (by decide) (by decide) rfl rfl)), ?_⟩
  obtain ⟨Hk, v, d, b, rfl, e, rv, hg, q1, q2⟩ := h
  refine ⟨v, rfl, Hk, v, d, b, rfl, e, rv, hg, fun hb H2 Hr st => ?_, fun hb => q2 hb⟩
  obtain ⟨ss, hN, hz, q⟩ := q1 hb
  refine ⟨Hr, [d], _, st.sub, .cons (rv.mono st.kn) .nil, rfl, hN, fun x H3 Hs st2 rx => ?_⟩
  cases rx with
  | @lst a xs ds hx hd =>
    rw [hd.strs] at hx
    refine ⟨a, ss, rfl, SqL.of (st2.sub _ _ hx), hz, fun p hp => ?_⟩
    have st3 := (st.trans st2).alloc (o := .lst ((sortS (dd ss)).map V.str)) hp
    exact sc_tuple _ [.ref p] [.lst ((sortS (dd ss)).map D.str)] (.tup ((sortS (dd ss)).map D.str)) (.cons (.lst upd_same (RpA.of_strs _)) .nil) rfl _ st3.sub _ fun u H4 Ht st4 ru => q u H4 Ht (st3.trans st4) ru
/-! ### _law_told -/
def gTold (gP gN : List D → Option D) : List D → Option D
  | [d] => match gP [d] with
    | some (.bl true) => match gN [d] with
      | some (.lst ds) => (strs? ds).bind fun ss => if (dd ss).length + 1 < scanBound then some (.tup [.str "value", .tup ((sortS (dd ss)).map D.str)]) else none
      | _ => none
    | some (.bl false) => some (.tup [.str "program", d])
    | _ => none
  | _ => none
theorem sc_told : FnScope ["_law_value", "program_error"] ["_law_value"] (defScope s__law_told) := ⟨rfl, rfl, rfl, by decide +kernel, rfl, by decide +kernel, by decide +kernel⟩
theorem ok__law_told {f f_W : Addr} {fd fd_W : FuncData} {k_W : Nat} {gP gN : List D → Option D} (T : InvC K mg C fI fdI) (T_T : TopD K mg "_law_told" s__law_told ["_law_value"] f fd) (T_W : TopD K mg "words_of" s_words_of ["program"] f_W fd_W)
    (G_W : FnOk P w K mg base (L2.CX P w) k_W f_W fd_W ["program"] (spW K C gP gN)) (h_W : k_W ≤ k) : FnOk P w K mg base CX0 (k + 1) f fd ["_law_value"] (spM K 1 (gTold gP gN)) := by
  refine T_T.F.ok sc_told (fun vs H Q E h => ?_) (fun cdv A outer s H vs Q E hr h => ?_)
  · obtain ⟨Hk, ds, d, _, ra, hl, _⟩ := h
    rw [ra.length, hl]; rfl
  refine ⟨_, pss_one (ps_try_as (i := 1) (tb := fun W => tRet (tTup (tCons (tC (.str "value")) (tCons (tCallS (spW K C gP gN) (WE W) (tCons (tVar 0) tNil)) tNil)))) (ts := fun a cls d => tRet (tTup (tCons (tC (.str "program")) (tCons (tXf a cls d C "value" (tVar 1)) tNil))))
      (Wout := fun _ _ _ _ => False) rfl rfl sc_told.nd rfl rfl ⟨rfl, by decide, Or.inl T.gC⟩ takes0
      (fun W pn xe tk _ => pss_one (ps_ret (pe_tup (pa_cons pe_str (pa_cons (by exact (pe_callS G_W (hr.mono h_W) rfl T_W.g T_W.F.kp T_W.b (fun σ => passAt tk σ) (by exact (pa_cons (pv 0) pa_nil)))) pa_nil)))))
      (fun a oe cls d pn hz hf => pss_one (ps_ret (pe_tup (pa_cons pe_str (pa_cons (by exact (pe_xf T.xf T.noV hz hf (pv 1))) pa_nil)))))), ?_⟩
  obtain ⟨Hk, ds, d', e, ra, hl, hg, q⟩ := h
  obtain ⟨d, rfl⟩ : ∃ d, ds = [d] := by
    match ds, hl with
    | [d], _ => exact ⟨d, rfl⟩
  cases ra with
  | @cons v _ _ _ rv rn =>
    cases rn
    unfold gTold at hg
    dsimp only at hg
    have two : ∀ (a b : V), [a, b].length ≤ sizeLine := fun _ _ => by show 2 ≤ sizeLine; decide
    cases hP : gP [d] with
    | none => rw [hP] at hg; cases hg
    | some o =>
      rw [hP] at hg
      cases o with
      | bl b =>
        refine ⟨v, rfl, Hk, v, d, b, rfl, e, rv, hP, fun hb => ?_, fun hb H2 Hr dx st hdx => ?_⟩
        · subst hb
          simp only at hg
          cases hN : gN [d] with
          | none => rw [hN] at hg; cases hg
          | some o =>
            rw [hN] at hg
            cases o with
            | lst es =>
              simp only at hg
              cases hs : strs? es with
              | none => rw [hs] at hg; cases hg
              | some ss =>
                rw [hs, Option.bind_some] at hg
                by_cases hz : (dd ss).length + 1 < scanBound
                · rw [if_pos hz] at hg
                  cases hg
                  refine ⟨ss, by rw [← strs?_eq hs], hz, fun u H2 Hr st ru => ⟨two _ _, fun p hp => ?_⟩⟩
                  exact q _ _ _ (st.alloc hp) (.tup (SqT.of upd_same) (.cons (.str _) (.cons (ru.mono (same_new (none_back st.sub hp))) .nil)))
                · rw [if_neg hz] at hg; cases hg
            | _ => cases hg
        · subst hb
          simp only at hg
          cases hg
          refine ⟨true, T.te, fun _ a ha => ⟨.ref a, rfl, rfl, rfl, dx, [("value", v)], v, rfl, upd_same, by simp [List.lookup], two _ _, fun p hp => ?_⟩, fun z => nomatch z⟩
          have st2 := (st.alloc (o := .xd [("value", v)]) hdx)
          exact q _ _ _ (st2.alloc hp) (.tup (SqT.of upd_same) (.cons (.str _) (.cons (rv.mono (st2.kn.trans (same_new (none_back st2.sub hp)))) .nil)))
      | _ => cases hg
end
/-! ### one keyword -/
theorem kb1 {K : PySem.W.Frag} {fd : FuncData} {x : Str} (h1 : ∀ u, bindArgs fd ⟨[u], []⟩ = pure [(x, u)]) (h2 : ∀ u, bindArgs fd ⟨[], [(x, u)]⟩ = pure [(x, u)]) : KBinds K fd [x] [x] (fun us ws => us ++ ws) (fun us ws => us ++ ws) := ⟨fun s us ws _ hl => by
  match us, ws, hl with
  | [u], [], _ => exact BindsTo.of_eq (h1 u)
  | [], [u], _ => exact BindsTo.of_eq (h2 u), fun r z => r.append z⟩
theorem me_kw1 {X : Cx} {K : PySem.W.Frag} {k : Nat} {g : List D → Option D} {x y : Str} {p pos kp : Pos} {f : Addr} {fd : FuncData} {e : Expr} {te : TE} {m : E} (F : FnOk X.prog X.w X.K X.mg X.base CX0 k f fd [y] (spM K 1 g)) (hr : Room k X.A) (hm : X.mg x = some (.ref f)) (hk : PySem.W.keepIn X.K (.ref f) = true)
    (hb : KBinds X.K fd [y] [y] (fun us ws => us ++ ws) (fun us ws => us ++ ws)) (h : ME X K e te m) (hg : Gl X x := by rfl) (hall : (backToKw pos (keywordEach [⟨some y, e, kp⟩] X.env)).all (·.1.isSome) = true := by rfl) (hks : (backToKw pos (keywordEach [⟨some y, e, kp⟩] X.env)).filterMap (·.1) = [y] := by rfl)
    (hdb : (x == ("__debug__" : Str)) = false := by decide) (hpl : ((backTo pos (starEach [] X.env)).any (·.1) || (backToKw pos (keywordEach [⟨some y, e, kp⟩] X.env)).any (·.1.isNone)) = false := by rfl) :
    ME X K (.Call (.Name x p) [] [⟨some y, e, kp⟩] pos) (fun σ H Q => (tCons te tNil) σ H fun zs H2 => spM K 1 g ([] ++ zs) H2 Q E0) (mCall g (mCons m mNil)) :=
  ⟨pe_callK0 (E := E0) F hr hg hm hk hb pass0 (pk_cons h.pe pk_nil) hall hks hdb hpl, fun σ ρ Hk rl d h' H e' Q q => by
    unfold mCall at h'
    cases h1 : (mCons m mNil) ρ with
    | none => rw [h1] at h'; cases h'
    | some ds =>
      rw [h1, Option.bind_some] at h'
      have hds : ∃ d1, m ρ = some d1 ∧ ds = [d1] := by
        unfold mCons mNil at h1
        cases z : m ρ with
        | none => rw [z] at h1; cases h1
        | some d1 => rw [z] at h1; cases h1; exact ⟨d1, rfl, rfl⟩
      obtain ⟨d1, h2, rfl⟩ := hds
      refine h.se σ ρ Hk rl d1 h2 H e' _ fun v0 H2 Hr st rv0 => ?_
      have rvs : RpA K Hr [v0] [d1] := .cons rv0 .nil
      show spM K 1 g ([] ++ [v0]) H2 Q E0
      exact ⟨Hr, [d1], d, st.sub, rvs, rfl, h', fun v H3 Hs st2 rv => q v H3 Hs (st.trans st2) rv⟩⟩
end ML
set_option Elab.async false
set_option linter.all false
set_option maxRecDepth 100000
set_option maxHeartbeats 4000000
namespace ML
open PySem PySem.Spec PyProof.Rows L2
/-! ### law -/
theorem sc_law : FnScope ["_law_script", "_law_pool_here", "_law_program_here", "_law_k", "_law_drawn", "_law_at", "_law_changed"] ["_law_script"] (defScope s_law) := ⟨rfl, rfl, rfl, by decide +kernel, rfl, by decide +kernel, by decide +kernel⟩
def b_law (g__law_pool g__law_program g__law_is_block g__law_is_right g__law_draws g__law_count g__law_part g__law_new_part g__law_put g__law_nearly_right g_is_program : List D → Option D) : S :=
  (sSeq (sAsg [] 1 (mCall g__law_pool (mCons (mVar 0) (mCons (mC (.int 0)) (mCons (mC (.int 5)) mNil)))))
  (sSeq (sAsg [] 2 (mCall g__law_program (mCons (mVar 0) (mCons (mC (.int 1)) (mCons (mVar 1) (mCons (mC (.int 60)) mNil))))))
  (sSeq (sIf (mOr (mNot (mCall g__law_is_block (mCons (mVar 2) (mCons (mLst mNil) (mCons (mLst mNil) mNil))))) (mNot (mCall g__law_is_right (mCons (mVar 2) mNil)))) (sRet (mC (.bl false))) sNext)
  (sSeq (sFor [] 3 (wRng (mCons (mC (.int 4)) mNil)) (sSeq (sAsg [] 4 (mCall g__law_draws (mCons (mVar 0) (mCons (mOp gAdd (mC (.int 10)) (mVar 3)) (mCons (mLst (mCons (mC (.int 60)) (mCons (mC (.int 5)) (mCons (mOp gPow (mC (.int 10)) (mC (.int 6))) mNil)))) mNil)))))
  (sSeq (sAsg [] 5 (mOp gMod (mCall gInt (mCons (mOp gIx (mVar 4) (mC (.int 2))) mNil)) (mCall g__law_count (mCons (mVar 2) mNil))))
  (sSeq (sAsg [] 6 (mCall g__law_put (mCons (mVar 2) (mCons (mVar 5) (mCons (mCall g__law_new_part (mCons (mVar 4) (mCons (mCall g__law_part (mCons (mVar 2) (mCons (mVar 5) mNil))) (mCons (mVar 1) mNil)))) mNil)))))
  (sIf (mNot (mCall g__law_is_right (mCons (mVar 6) mNil))) (sRet (mC (.bl false))) sNext)))))
  (sSeq (sFor [] 6 (wLst (mCall g__law_nearly_right (mCons (mVar 0) (mCons (mVar 2) (mCons (mVar 1) mNil))))) (sIf (mNot (mCall g__law_is_right (mCons (mVar 6) mNil))) (sRet (mC (.bl false))) sNext))
  (sRet (mAnd (mOp gIs (mCall g_is_program (mCons (mCall gList (mCons (mVar 2) mNil)) mNil)) (mC (.bl false))) (mAnd (mOp gIs (mCall g_is_program (mCons (mTup mNil) mNil)) (mC (.bl true))) (mOp gIs (mCall g_is_program (mCons (mC .non) mNil)) (mC (.bl false)))))))))))
theorem ok_law {P : Program} {w : World} {K : PySem.W.Frag} {mg : Str → Option Value} {base : Heap} {k : Nat} {f : Addr} {fd : FuncData} {f__law_pool : Addr} {fd__law_pool : FuncData} {k__law_pool : Nat} {g__law_pool : List D → Option D} {f__law_program : Addr} {fd__law_program : FuncData} {k__law_program : Nat} {g__law_program : List D → Option D} {f__law_is_block : Addr} {fd__law_is_block : FuncData} {k__law_is_block : Nat} {g__law_is_block : List D → Option D} {f__law_is_right : Addr} {fd__law_is_right : FuncData} {k__law_is_right : Nat} {g__law_is_right : List D → Option D} {f__law_draws : Addr} {fd__law_draws : FuncData} {k__law_draws : Nat} {g__law_draws : List D → Option D} {f__law_count : Addr} {fd__law_count : FuncData} {k__law_count : Nat} {g__law_count : List D → Option D} {f__law_part : Addr} {fd__law_part : FuncData} {k__law_part : Nat} {g__law_part : List D → Option D} {f__law_new_part : Addr} {fd__law_new_part : FuncData} {k__law_new_part : Nat} {g__law_new_part : List D → Option D} {f__law_put : Addr} {fd__law_put : FuncData} {k__law_put : Nat} {g__law_put : List D → Option D} {f__law_nearly_right : Addr} {fd__law_nearly_right : FuncData} {k__law_nearly_right : Nat} {g__law_nearly_right : List D → Option D} {f_is_program : Addr} {fd_is_program : FuncData} {k_is_program : Nat} {g_is_program : List D → Option D} (B : Blt mg) (C : Cst K w mg) (T_law : TopD K mg "law" s_law ["_law_script"] f fd)
    (T__law_pool : TopD K mg "_law_pool" s__law_pool ["_law_script", "_law_k", "_law_size"] f__law_pool fd__law_pool)
    (G__law_pool : FnOk P w K mg base CX0 k__law_pool f__law_pool fd__law_pool ["_law_script", "_law_k", "_law_size"] (spM K 3 g__law_pool)) (h__law_pool : k__law_pool ≤ k)
    (T__law_program : TopD K mg "_law_program" s__law_program ["_law_script", "_law_k", "_law_pool_here", "_law_most_here"] f__law_program fd__law_program)
    (G__law_program : FnOk P w K mg base CX0 k__law_program f__law_program fd__law_program ["_law_script", "_law_k", "_law_pool_here", "_law_most_here"] (spM K 4 g__law_program)) (h__law_program : k__law_program ≤ k)
    (T__law_is_block : TopD K mg "_law_is_block" s__law_is_block ["_law_value", "_law_locals_here", "_law_tickets"] f__law_is_block fd__law_is_block)
    (G__law_is_block : FnOk P w K mg base CX0 k__law_is_block f__law_is_block fd__law_is_block ["_law_value", "_law_locals_here", "_law_tickets"] (spM K 3 g__law_is_block)) (h__law_is_block : k__law_is_block ≤ k)
    (T__law_is_right : TopD K mg "_law_is_right" s__law_is_right ["_law_value"] f__law_is_right fd__law_is_right)
    (G__law_is_right : FnOk P w K mg base CX0 k__law_is_right f__law_is_right fd__law_is_right ["_law_value"] (spM K 1 g__law_is_right)) (h__law_is_right : k__law_is_right ≤ k)
    (T__law_draws : TopD K mg "_law_draws" s__law_draws ["_law_script", "_law_k", "_law_bounds"] f__law_draws fd__law_draws)
    (G__law_draws : FnOk P w K mg base CX0 k__law_draws f__law_draws fd__law_draws ["_law_script", "_law_k", "_law_bounds"] (spM K 3 g__law_draws)) (h__law_draws : k__law_draws ≤ k)
    (T__law_count : TopD K mg "_law_count" s__law_count ["_law_value"] f__law_count fd__law_count)
    (G__law_count : FnOk P w K mg base CX0 k__law_count f__law_count fd__law_count ["_law_value"] (spM K 1 g__law_count)) (h__law_count : k__law_count ≤ k)
    (T__law_part : TopD K mg "_law_part" s__law_part ["_law_value", "_law_at"] f__law_part fd__law_part)
    (G__law_part : FnOk P w K mg base CX0 k__law_part f__law_part fd__law_part ["_law_value", "_law_at"] (spM K 2 g__law_part)) (h__law_part : k__law_part ≤ k)
    (T__law_new_part : TopD K mg "_law_new_part" s__law_new_part ["_law_drawn", "_law_old", "_law_pool_here"] f__law_new_part fd__law_new_part)
    (G__law_new_part : FnOk P w K mg base CX0 k__law_new_part f__law_new_part fd__law_new_part ["_law_drawn", "_law_old", "_law_pool_here"] (spM K 3 g__law_new_part)) (h__law_new_part : k__law_new_part ≤ k)
    (T__law_put : TopD K mg "_law_put" s__law_put ["_law_value", "_law_at", "_law_new"] f__law_put fd__law_put)
    (G__law_put : FnOk P w K mg base CX0 k__law_put f__law_put fd__law_put ["_law_value", "_law_at", "_law_new"] (spM K 3 g__law_put)) (h__law_put : k__law_put ≤ k)
    (T__law_nearly_right : TopD K mg "_law_nearly_right" s__law_nearly_right ["_law_script", "_law_program_here", "_law_pool_here"] f__law_nearly_right fd__law_nearly_right)
    (G__law_nearly_right : FnOk P w K mg base CX0 k__law_nearly_right f__law_nearly_right fd__law_nearly_right ["_law_script", "_law_program_here", "_law_pool_here"] (spM K 3 g__law_nearly_right)) (h__law_nearly_right : k__law_nearly_right ≤ k)
    (T_is_program : TopD K mg "is_program" s_is_program ["value"] f_is_program fd_is_program)
    (G_is_program : FnOk P w K mg base CX0 k_is_program f_is_program fd_is_program ["value"] (spM K 1 g_is_program)) (h_is_program : k_is_program ≤ k)
    (kb_is_program : KBinds K fd_is_program ["value"] ["value"] (fun us ws => us ++ ws) (fun us ws => us ++ ws))
    : FnOk P w K mg base CX0 (k + 1) f fd ["_law_script"] (spM K 1 (mRun 1 7 (b_law g__law_pool g__law_program g__law_is_block g__law_is_right g__law_draws g__law_count g__law_part g__law_new_part g__law_put g__law_nearly_right g_is_program))) := by
  exact ok_def (own := []) T_law.F sc_law (by decide) fun cdv A outer s H E hr => ⟨_, (mb_cons (ms_asg (i := 1) sc_law.nd (me_call G__law_pool (hr.mono h__law_pool) T__law_pool.g T__law_pool.F.kp T__law_pool.b (len_cons (len_cons (len_cons len_nil))) (ma_cons (ma_cons (ma_cons ma_nil me_int) me_int) (me_var 0))))
 (mb_cons (ms_asg (i := 2) sc_law.nd (me_call G__law_program (hr.mono h__law_program) T__law_program.g T__law_program.F.kp T__law_program.b (len_cons (len_cons (len_cons (len_cons len_nil)))) (ma_cons (ma_cons (ma_cons (ma_cons ma_nil me_int) (me_var 1)) me_int) (me_var 0))))
 (mb_cons (ms_if (MW.mt (mw_or (mt_not (mt_val (me_call G__law_is_block (hr.mono h__law_is_block) T__law_is_block.g T__law_is_block.F.kp T__law_is_block.b (len_cons (len_cons (len_cons len_nil))) (ma_cons (ma_cons (ma_cons ma_nil (me_lst ma_nil len_nil)) (me_lst ma_nil len_nil)) (me_var 2))))) (mw_or1 (mt_not (mt_val (me_call G__law_is_right (hr.mono h__law_is_right) T__law_is_right.g T__law_is_right.F.kp T__law_is_right.b (len_cons len_nil) (ma_cons ma_nil (me_var 2))))))))
 (mb_one (ms_ret me_bl))
 mb_nil)
 (mb_cons (ms_for (i := 3) PassesOwn.never rfl sc_law.nd (mi_rng B.range (ma_cons ma_nil me_int))
 (mb_cons (ms_asg (i := 4) sc_law.nd (me_call G__law_draws (hr.mono h__law_draws) T__law_draws.g T__law_draws.F.kp T__law_draws.b (len_cons (len_cons (len_cons len_nil))) (ma_cons (ma_cons (ma_cons ma_nil (me_lst (ma_cons (ma_cons (ma_cons ma_nil (me_pow me_int me_int)) me_int) me_int) (len_cons (len_cons (len_cons len_nil))))) (me_add rfl me_int (me_var 3))) (me_var 0))))
 (mb_cons (ms_asg (i := 5) sc_law.nd (me_mod (me_int1 B.int (ma_cons ma_nil (me_ix rfl (me_var 4) me_int))) (me_call G__law_count (hr.mono h__law_count) T__law_count.g T__law_count.F.kp T__law_count.b (len_cons len_nil) (ma_cons ma_nil (me_var 2)))))
 (mb_cons (ms_asg (i := 6) sc_law.nd (me_call G__law_put (hr.mono h__law_put) T__law_put.g T__law_put.F.kp T__law_put.b (len_cons (len_cons (len_cons len_nil))) (ma_cons (ma_cons (ma_cons ma_nil (me_call G__law_new_part (hr.mono h__law_new_part) T__law_new_part.g T__law_new_part.F.kp T__law_new_part.b (len_cons (len_cons (len_cons len_nil))) (ma_cons (ma_cons (ma_cons ma_nil (me_var 1)) (me_call G__law_part (hr.mono h__law_part) T__law_part.g T__law_part.F.kp T__law_part.b (len_cons (len_cons len_nil)) (ma_cons (ma_cons ma_nil (me_var 5)) (me_var 2)))) (me_var 4)))) (me_var 5)) (me_var 2))))
 (mb_one (ms_if (mt_not (mt_val (me_call G__law_is_right (hr.mono h__law_is_right) T__law_is_right.g T__law_is_right.F.kp T__law_is_right.b (len_cons len_nil) (ma_cons ma_nil (me_var 6)))))
 (mb_one (ms_ret me_bl))
 mb_nil))))))
 (mb_cons (ms_for (i := 6) PassesOwn.never rfl sc_law.nd (mi_lst rfl (me_call G__law_nearly_right (hr.mono h__law_nearly_right) T__law_nearly_right.g T__law_nearly_right.F.kp T__law_nearly_right.b (len_cons (len_cons (len_cons len_nil))) (ma_cons (ma_cons (ma_cons ma_nil (me_var 1)) (me_var 2)) (me_var 0))))
 (mb_one (ms_if (mt_not (mt_val (me_call G__law_is_right (hr.mono h__law_is_right) T__law_is_right.g T__law_is_right.F.kp T__law_is_right.b (len_cons len_nil) (ma_cons ma_nil (me_var 6)))))
 (mb_one (ms_ret me_bl))
 mb_nil)))
 (mb_one (ms_ret (me_and (me_cis (me_kw1 G_is_program (hr.mono h_is_program) T_is_program.g T_is_program.F.kp kb_is_program (me_list rfl B.list (ma_cons ma_nil (me_var 2)))) me_bl) (me_and (me_cis (me_call G_is_program (hr.mono h_is_program) T_is_program.g T_is_program.F.kp T_is_program.b (len_cons len_nil) (ma_cons ma_nil (me_tup ma_nil len_nil))) me_bl) (me_one (me_cis (me_call G_is_program (hr.mono h_is_program) T_is_program.g T_is_program.F.kp T_is_program.b (len_cons len_nil) (ma_cons ma_nil me_non)) me_bl)))))))))))⟩
end ML
set_option Elab.async false
set_option linter.all false
set_option maxRecDepth 100000
set_option maxHeartbeats 4000000
namespace ML
open PySem PySem.Spec PyProof.Rows L2
def m_is_integer : List D → Option D := mRun 1 1 (b_is_integer )
def m_is_value : List D → Option D := mRun 1 1 (b_is_value m_is_integer)
def m_is_word : List D → Option D := mRun 1 2 (b_is_word )
def m_is_name : List D → Option D := mRun 1 1 (b_is_name m_is_word)
def m_is_one_of : List D → Option D := mRun 2 2 (b_is_one_of )
def m_begins_with_word : List D → Option D := mRun 1 1 (b_begins_with_word )
def m_is_expression : Nat → List D → Option D
  | 0 => fun _ => none
  | n + 1 => mRun 2 3 (b_is_expression m_begins_with_word m_is_value m_is_name m_is_one_of (m_is_expression n))
def m_is_set : List D → Option D := mRun 2 2 (b_is_set m_is_name (m_is_expression 40) m_is_one_of)
mutual
def m_is_statement : Nat → List D → Option D
  | 0 => fun _ => none
  | n + 1 => mRun 3 5 (b_is_statement m_begins_with_word m_is_set (m_is_expression 40) (m_is_block n) m_is_name)
def m_is_block : Nat → List D → Option D
  | 0 => fun _ => none
  | n + 1 => mRun 3 5 (b_is_block (m_is_statement n))
end
def m_is_program : List D → Option D := mRun 1 1 (b_is_program (m_is_block 40))
def m_names_in_expression : Nat → List D → Option D
  | 0 => fun _ => none
  | n + 1 => mRun 1 1 (b_names_in_expression (m_names_in_expression n))
def m_names_in : Nat → List D → Option D
  | 0 => fun _ => none
  | n + 1 => mRun 1 5 (b_names_in (m_names_in_expression 40) (m_names_in n))
def m__law_draws : List D → Option D := mRun 3 8 (b__law_draws )
def m__law_equal : Nat → List D → Option D
  | 0 => fun _ => none
  | n + 1 => mRun 2 3 (b__law_equal (m__law_equal n))
def m__law_pool : List D → Option D := mRun 3 11 (b__law_pool m__law_draws)
def m__law_stream : List D → Option D := mRun 3 5 (b__law_stream m__law_draws)
def m__law_expression : Nat → List D → Option D
  | 0 => fun _ => none
  | n + 1 => mRun 5 10 (b__law_expression (m__law_expression n))
mutual
def m__law_statement : Nat → List D → Option D
  | 0 => fun _ => none
  | n + 1 => mRun 6 16 (b__law_statement (m__law_block n) (m__law_expression 40))
def m__law_block : Nat → List D → Option D
  | 0 => fun _ => none
  | n + 1 => mRun 6 12 (b__law_block (m__law_statement n))
end
def m__law_turns : List D → Option D := mRun 1 1 (b__law_turns )
def m__law_most : Nat → List D → Option D
  | 0 => fun _ => none
  | n + 1 => mRun 1 7 (b__law_most (m__law_most n) m__law_turns)
def m__law_program : List D → Option D := mRun 4 6 (b__law_program m__law_stream (m__law_block 40) (m__law_most 40))
def m__law_is_word : List D → Option D := mRun 1 2 (b__law_is_word )
def m__law_is_expression : Nat → List D → Option D
  | 0 => fun _ => none
  | n + 1 => mRun 2 2 (b__law_is_expression m__law_is_word (m__law_is_expression n))
def c__law_is_compound (gB : List D → Option D) : List D → Option D := mRun 3 5 (b__law_is_compound gB (m__law_is_expression 40) m__law_is_word)
mutual
def m__law_is_statement : Nat → List D → Option D
  | 0 => fun _ => none
  | n + 1 => mRun 3 4 (b__law_is_statement m__law_is_word (m__law_is_expression 40) (c__law_is_compound (m__law_is_block n)))
def m__law_is_block : Nat → List D → Option D
  | 0 => fun _ => none
  | n + 1 => mRun 3 5 (b__law_is_block (m__law_is_statement n))
end
def m__law_names : Nat → List D → Option D
  | 0 => fun _ => none
  | n + 1 => mRun 1 3 (b__law_names (m__law_names n))
def m__law_words_of : List D → Option D := mRun 1 4 (b__law_words_of (m__law_names 40))
def m__law_count : Nat → List D → Option D
  | 0 => fun _ => none
  | n + 1 => mRun 1 3 (b__law_count (m__law_count n))
def m__law_part : Nat → List D → Option D
  | 0 => fun _ => none
  | n + 1 => mRun 2 4 (b__law_part (m__law_count 40) (m__law_part n))
def m__law_put : Nat → List D → Option D
  | 0 => fun _ => none
  | n + 1 => mRun 3 6 (b__law_put (m__law_count 40) (m__law_put n))
def m__law_new_part : List D → Option D := mRun 3 4 (b__law_new_part )
def m__law_has_list : Nat → List D → Option D
  | 0 => fun _ => none
  | n + 1 => mRun 1 2 (b__law_has_list (m__law_has_list n))
def m__law_told : List D → Option D := gTold m_is_program (m_names_in 40)
def m__law_is_right : List D → Option D := mRun 1 3 (b__law_is_right (m__law_is_block 40) m_is_program (m__law_equal 40) (m__law_most 40) m__law_told m__law_words_of (m__law_has_list 40))
def m__law_compounds : Nat → List D → Option D
  | 0 => fun _ => none
  | n + 1 => mRun 2 4 (b__law_compounds (m__law_compounds n) (m__law_count 40))
def m__law_nearly_right : List D → Option D := mRun 3 11 (b__law_nearly_right m__law_draws (m__law_compounds 40) (m__law_part 40) (m__law_put 40))
def m_law : List D → Option D := mRun 1 7 (b_law m__law_pool m__law_program (m__law_is_block 40) m__law_is_right m__law_draws (m__law_count 40) (m__law_part 40) m__law_new_part (m__law_put 40) m__law_nearly_right m_is_program)
end ML
set_option Elab.async false
set_option linter.all false
set_option maxRecDepth 100000
set_option maxHeartbeats 4000000
namespace ML
open PySem PySem.Spec PyProof.Rows L2
structure Tops (K : PySem.W.Frag) (w : World) (mg : Str → Option Value) (fa : Str → Addr) (fdm : Str → FuncData) (C fI : Addr) (fdI : FuncData) : Prop where
  B : Blt mg
  Cs : Cst K w mg
  I : InvC K mg C fI fdI
  T_is_integer : TopD K mg "is_integer" s_is_integer ["value"] (fa "is_integer") (fdm "is_integer")
  T_is_value : TopD K mg "is_value" s_is_value ["value"] (fa "is_value") (fdm "is_value")
  T_is_word : TopD K mg "is_word" s_is_word ["value"] (fa "is_word") (fdm "is_word")
  T_is_name : TopD K mg "is_name" s_is_name ["value"] (fa "is_name") (fdm "is_name")
  T_is_one_of : TopD K mg "is_one_of" s_is_one_of ["value", "ops"] (fa "is_one_of") (fdm "is_one_of")
  T_begins_with_word : TopD K mg "begins_with_word" s_begins_with_word ["value"] (fa "begins_with_word") (fdm "begins_with_word")
  T_is_expression : TopD K mg "is_expression" s_is_expression ["value", "local_names"] (fa "is_expression") (fdm "is_expression")
  T_is_set : TopD K mg "is_set" s_is_set ["value", "local_names"] (fa "is_set") (fdm "is_set")
  T_is_statement : TopD K mg "is_statement" s_is_statement ["value", "local_names", "tickets"] (fa "is_statement") (fdm "is_statement")
  T_is_block : TopD K mg "is_block" s_is_block ["value", "local_names", "tickets"] (fa "is_block") (fdm "is_block")
  T_is_program : TopD K mg "is_program" s_is_program ["value"] (fa "is_program") (fdm "is_program")
  T_need_program : TopD K mg "need_program" s_need_program ["value"] (fa "need_program") (fdm "need_program")
  T_names_in_expression : TopD K mg "names_in_expression" s_names_in_expression ["expression"] (fa "names_in_expression") (fdm "names_in_expression")
  T_names_in : TopD K mg "names_in" s_names_in ["block"] (fa "names_in") (fdm "names_in")
  T_words_of : TopD K mg "words_of" s_words_of ["program"] (fa "words_of") (fdm "words_of")
  T__law_draws : TopD K mg "_law_draws" s__law_draws ["_law_script", "_law_k", "_law_bounds"] (fa "_law_draws") (fdm "_law_draws")
  T__law_equal : TopD K mg "_law_equal" s__law_equal ["_law_actual", "_law_expected"] (fa "_law_equal") (fdm "_law_equal")
  T__law_pool : TopD K mg "_law_pool" s__law_pool ["_law_script", "_law_k", "_law_size"] (fa "_law_pool") (fdm "_law_pool")
  T__law_stream : TopD K mg "_law_stream" s__law_stream ["_law_script", "_law_k", "_law_cells"] (fa "_law_stream") (fdm "_law_stream")
  T__law_expression : TopD K mg "_law_expression" s__law_expression ["_law_stream_here", "_law_at", "_law_pool_here", "_law_locals_here", "_law_deep"] (fa "_law_expression") (fdm "_law_expression")
  T__law_statement : TopD K mg "_law_statement" s__law_statement ["_law_stream_here", "_law_at", "_law_pool_here", "_law_locals_here", "_law_tickets", "_law_deep"] (fa "_law_statement") (fdm "_law_statement")
  T__law_block : TopD K mg "_law_block" s__law_block ["_law_stream_here", "_law_at", "_law_pool_here", "_law_locals_here", "_law_tickets", "_law_deep"] (fa "_law_block") (fdm "_law_block")
  T__law_turns : TopD K mg "_law_turns" s__law_turns ["_law_expression_here"] (fa "_law_turns") (fdm "_law_turns")
  T__law_most : TopD K mg "_law_most" s__law_most ["_law_block_here"] (fa "_law_most") (fdm "_law_most")
  T__law_program : TopD K mg "_law_program" s__law_program ["_law_script", "_law_k", "_law_pool_here", "_law_most_here"] (fa "_law_program") (fdm "_law_program")
  T__law_is_word : TopD K mg "_law_is_word" s__law_is_word ["_law_value"] (fa "_law_is_word") (fdm "_law_is_word")
  T__law_is_expression : TopD K mg "_law_is_expression" s__law_is_expression ["_law_value", "_law_locals_here"] (fa "_law_is_expression") (fdm "_law_is_expression")
  T__law_is_compound : TopD K mg "_law_is_compound" s__law_is_compound ["_law_value", "_law_locals_here", "_law_tickets"] (fa "_law_is_compound") (fdm "_law_is_compound")
  T__law_is_statement : TopD K mg "_law_is_statement" s__law_is_statement ["_law_value", "_law_locals_here", "_law_tickets"] (fa "_law_is_statement") (fdm "_law_is_statement")
  T__law_is_block : TopD K mg "_law_is_block" s__law_is_block ["_law_value", "_law_locals_here", "_law_tickets"] (fa "_law_is_block") (fdm "_law_is_block")
  T__law_names : TopD K mg "_law_names" s__law_names ["_law_value"] (fa "_law_names") (fdm "_law_names")
  T__law_words_of : TopD K mg "_law_words_of" s__law_words_of ["_law_program_here"] (fa "_law_words_of") (fdm "_law_words_of")
  T__law_count : TopD K mg "_law_count" s__law_count ["_law_value"] (fa "_law_count") (fdm "_law_count")
  T__law_part : TopD K mg "_law_part" s__law_part ["_law_value", "_law_at"] (fa "_law_part") (fdm "_law_part")
  T__law_put : TopD K mg "_law_put" s__law_put ["_law_value", "_law_at", "_law_new"] (fa "_law_put") (fdm "_law_put")
  T__law_new_part : TopD K mg "_law_new_part" s__law_new_part ["_law_drawn", "_law_old", "_law_pool_here"] (fa "_law_new_part") (fdm "_law_new_part")
  T__law_told : TopD K mg "_law_told" s__law_told ["_law_value"] (fa "_law_told") (fdm "_law_told")
  T__law_has_list : TopD K mg "_law_has_list" s__law_has_list ["_law_value"] (fa "_law_has_list") (fdm "_law_has_list")
  T__law_is_right : TopD K mg "_law_is_right" s__law_is_right ["_law_value"] (fa "_law_is_right") (fdm "_law_is_right")
  T__law_compounds : TopD K mg "_law_compounds" s__law_compounds ["_law_value", "_law_at"] (fa "_law_compounds") (fdm "_law_compounds")
  T__law_nearly_right : TopD K mg "_law_nearly_right" s__law_nearly_right ["_law_script", "_law_program_here", "_law_pool_here"] (fa "_law_nearly_right") (fdm "_law_nearly_right")
  T_law : TopD K mg "law" s_law ["_law_script"] (fa "law") (fdm "law")
  kb : KBinds K (fdm "is_program") ["value"] ["value"] (fun us ws => us ++ ws) (fun us ws => us ++ ws)
section
variable {P : Program} {w : World} {K : PySem.W.Frag} {mg : Str → Option Value} {base : Heap} {fa : Str → Addr} {fdm : Str → FuncData} {C fI : Addr} {fdI : FuncData}
theorem R_is_integer (T : Tops K w mg fa fdm C fI fdI) : FnOk P w K mg base CX0 (1) (fa "is_integer") (fdm "is_integer") ["value"] (spM K 1 m_is_integer) := ok_is_integer (k := 0) T.B T.Cs T.T_is_integer 
theorem R_is_value (T : Tops K w mg fa fdm C fI fdI) : FnOk P w K mg base CX0 (2) (fa "is_value") (fdm "is_value") ["value"] (spM K 1 m_is_value) := ok_is_value (k := 1) T.B T.Cs T.T_is_value T.T_is_integer (R_is_integer T) (by decide)
theorem R_is_word (T : Tops K w mg fa fdm C fI fdI) : FnOk P w K mg base CX0 (1) (fa "is_word") (fdm "is_word") ["value"] (spM K 1 m_is_word) := ok_is_word (k := 0) T.B T.Cs T.T_is_word 
theorem R_is_name (T : Tops K w mg fa fdm C fI fdI) : FnOk P w K mg base CX0 (2) (fa "is_name") (fdm "is_name") ["value"] (spM K 1 m_is_name) := ok_is_name (k := 1) T.B T.Cs T.T_is_name T.T_is_word (R_is_word T) (by decide)
theorem R_is_one_of (T : Tops K w mg fa fdm C fI fdI) : FnOk P w K mg base CX0 (1) (fa "is_one_of") (fdm "is_one_of") ["value", "ops"] (spM K 2 m_is_one_of) := ok_is_one_of (k := 0) T.B T.Cs T.T_is_one_of 
theorem R_begins_with_word (T : Tops K w mg fa fdm C fI fdI) : FnOk P w K mg base CX0 (1) (fa "begins_with_word") (fdm "begins_with_word") ["value"] (spM K 1 m_begins_with_word) := ok_begins_with_word (k := 0) T.B T.Cs T.T_begins_with_word 
theorem R_is_expression (T : Tops K w mg fa fdm C fI fdI) : ∀ n : Nat, FnOk P w K mg base CX0 (2 + n) (fa "is_expression") (fdm "is_expression") ["value", "local_names"] (spM K 2 (m_is_expression n))
  | 0 => ok_none
  | n + 1 => ok_is_expression (k := 2 + n) T.B T.Cs T.T_is_expression T.T_begins_with_word (R_begins_with_word T) (by omega) T.T_is_value (R_is_value T) (by omega) T.T_is_name (R_is_name T) (by omega) T.T_is_one_of (R_is_one_of T) (by omega) (R_is_expression T n) (Nat.le_refl _)
theorem R_is_set (T : Tops K w mg fa fdm C fI fdI) : FnOk P w K mg base CX0 (43) (fa "is_set") (fdm "is_set") ["value", "local_names"] (spM K 2 m_is_set) := ok_is_set (k := 42) T.B T.Cs T.T_is_set T.T_is_name (R_is_name T) (by decide) T.T_is_expression (R_is_expression T 40) (by decide) T.T_is_one_of (R_is_one_of T) (by decide)
theorem R2_is_statement (T : Tops K w mg fa fdm C fI fdI) : ∀ n : Nat, FnOk P w K mg base CX0 (43 + n) (fa "is_statement") (fdm "is_statement") ["value", "local_names", "tickets"] (spM K 3 (m_is_statement n)) ∧ FnOk P w K mg base CX0 (43 + n) (fa "is_block") (fdm "is_block") ["value", "local_names", "tickets"] (spM K 3 (m_is_block n))
  | 0 => ⟨ok_none, ok_none⟩
  | n + 1 => ⟨ok_is_statement (k := 43 + n) T.B T.Cs T.T_is_statement T.T_begins_with_word (R_begins_with_word T) (by omega) T.T_is_set (R_is_set T) (by omega) T.T_is_expression (R_is_expression T 40) (by omega) T.T_is_block (R2_is_statement T n).2 (Nat.le_refl _) T.T_is_name (R_is_name T) (by omega), ok_is_block (k := 43 + n) T.B T.Cs T.T_is_block T.T_is_statement (R2_is_statement T n).1 (Nat.le_refl _)⟩
theorem R_is_statement (T : Tops K w mg fa fdm C fI fdI) (n : Nat) : FnOk P w K mg base CX0 (43 + n) (fa "is_statement") (fdm "is_statement") ["value", "local_names", "tickets"] (spM K 3 (m_is_statement n)) := (R2_is_statement T n).1
theorem R_is_block (T : Tops K w mg fa fdm C fI fdI) (n : Nat) : FnOk P w K mg base CX0 (43 + n) (fa "is_block") (fdm "is_block") ["value", "local_names", "tickets"] (spM K 3 (m_is_block n)) := (R2_is_statement T n).2
theorem R_is_program (T : Tops K w mg fa fdm C fI fdI) : FnOk P w K mg base CX0 (84) (fa "is_program") (fdm "is_program") ["value"] (spM K 1 m_is_program) := ok_is_program (k := 83) T.B T.Cs T.T_is_program T.T_is_block (R_is_block T 40) (by decide)
theorem R_names_in_expression (T : Tops K w mg fa fdm C fI fdI) : ∀ n : Nat, FnOk P w K mg base CX0 (0 + n) (fa "names_in_expression") (fdm "names_in_expression") ["expression"] (spM K 1 (m_names_in_expression n))
  | 0 => ok_none
  | n + 1 => ok_names_in_expression (k := 0 + n) T.B T.Cs T.T_names_in_expression (R_names_in_expression T n) (Nat.le_refl _)
theorem R_names_in (T : Tops K w mg fa fdm C fI fdI) : ∀ n : Nat, FnOk P w K mg base CX0 (40 + n) (fa "names_in") (fdm "names_in") ["block"] (spM K 1 (m_names_in n))
  | 0 => ok_none
  | n + 1 => ok_names_in (k := 40 + n) T.B T.Cs T.T_names_in T.T_names_in_expression (R_names_in_expression T 40) (by omega) (R_names_in T n) (Nat.le_refl _)
theorem R__law_draws (T : Tops K w mg fa fdm C fI fdI) : FnOk P w K mg base CX0 (1) (fa "_law_draws") (fdm "_law_draws") ["_law_script", "_law_k", "_law_bounds"] (spM K 3 m__law_draws) := ok__law_draws (k := 0) T.B T.Cs T.T__law_draws 
theorem R__law_equal (T : Tops K w mg fa fdm C fI fdI) : ∀ n : Nat, FnOk P w K mg base CX0 (0 + n) (fa "_law_equal") (fdm "_law_equal") ["_law_actual", "_law_expected"] (spM K 2 (m__law_equal n))
  | 0 => ok_none
  | n + 1 => ok__law_equal (k := 0 + n) T.B T.Cs T.T__law_equal (R__law_equal T n) (Nat.le_refl _)
theorem R__law_pool (T : Tops K w mg fa fdm C fI fdI) : FnOk P w K mg base CX0 (2) (fa "_law_pool") (fdm "_law_pool") ["_law_script", "_law_k", "_law_size"] (spM K 3 m__law_pool) := ok__law_pool (k := 1) T.B T.Cs T.T__law_pool T.T__law_draws (R__law_draws T) (by decide)
theorem R__law_stream (T : Tops K w mg fa fdm C fI fdI) : FnOk P w K mg base CX0 (2) (fa "_law_stream") (fdm "_law_stream") ["_law_script", "_law_k", "_law_cells"] (spM K 3 m__law_stream) := ok__law_stream (k := 1) T.B T.Cs T.T__law_stream T.T__law_draws (R__law_draws T) (by decide)
theorem R__law_expression (T : Tops K w mg fa fdm C fI fdI) : ∀ n : Nat, FnOk P w K mg base CX0 (0 + n) (fa "_law_expression") (fdm "_law_expression") ["_law_stream_here", "_law_at", "_law_pool_here", "_law_locals_here", "_law_deep"] (spM K 5 (m__law_expression n))
  | 0 => ok_none
  | n + 1 => ok__law_expression (k := 0 + n) T.B T.Cs T.T__law_expression (R__law_expression T n) (Nat.le_refl _)
theorem R2__law_statement (T : Tops K w mg fa fdm C fI fdI) : ∀ n : Nat, FnOk P w K mg base CX0 (40 + n) (fa "_law_statement") (fdm "_law_statement") ["_law_stream_here", "_law_at", "_law_pool_here", "_law_locals_here", "_law_tickets", "_law_deep"] (spM K 6 (m__law_statement n)) ∧ FnOk P w K mg base CX0 (40 + n) (fa "_law_block") (fdm "_law_block") ["_law_stream_here", "_law_at", "_law_pool_here", "_law_locals_here", "_law_tickets", "_law_deep"] (spM K 6 (m__law_block n))
  | 0 => ⟨ok_none, ok_none⟩
  | n + 1 => ⟨ok__law_statement (k := 40 + n) T.B T.Cs T.T__law_statement T.T__law_block (R2__law_statement T n).2 (Nat.le_refl _) T.T__law_expression (R__law_expression T 40) (by omega), ok__law_block (k := 40 + n) T.B T.Cs T.T__law_block T.T__law_statement (R2__law_statement T n).1 (Nat.le_refl _)⟩
theorem R__law_statement (T : Tops K w mg fa fdm C fI fdI) (n : Nat) : FnOk P w K mg base CX0 (40 + n) (fa "_law_statement") (fdm "_law_statement") ["_law_stream_here", "_law_at", "_law_pool_here", "_law_locals_here", "_law_tickets", "_law_deep"] (spM K 6 (m__law_statement n)) := (R2__law_statement T n).1
theorem R__law_block (T : Tops K w mg fa fdm C fI fdI) (n : Nat) : FnOk P w K mg base CX0 (40 + n) (fa "_law_block") (fdm "_law_block") ["_law_stream_here", "_law_at", "_law_pool_here", "_law_locals_here", "_law_tickets", "_law_deep"] (spM K 6 (m__law_block n)) := (R2__law_statement T n).2
theorem R__law_turns (T : Tops K w mg fa fdm C fI fdI) : FnOk P w K mg base CX0 (1) (fa "_law_turns") (fdm "_law_turns") ["_law_expression_here"] (spM K 1 m__law_turns) := ok__law_turns (k := 0) T.B T.Cs T.T__law_turns 
theorem R__law_most (T : Tops K w mg fa fdm C fI fdI) : ∀ n : Nat, FnOk P w K mg base CX0 (1 + n) (fa "_law_most") (fdm "_law_most") ["_law_block_here"] (spM K 1 (m__law_most n))
  | 0 => ok_none
  | n + 1 => ok__law_most (k := 1 + n) T.B T.Cs T.T__law_most (R__law_most T n) (Nat.le_refl _) T.T__law_turns (R__law_turns T) (by omega)
theorem R__law_program (T : Tops K w mg fa fdm C fI fdI) : FnOk P w K mg base CX0 (81) (fa "_law_program") (fdm "_law_program") ["_law_script", "_law_k", "_law_pool_here", "_law_most_here"] (spM K 4 m__law_program) := ok__law_program (k := 80) T.B T.Cs T.T__law_program T.T__law_stream (R__law_stream T) (by decide) T.T__law_block (R__law_block T 40) (by decide) T.T__law_most (R__law_most T 40) (by decide)
theorem R__law_is_word (T : Tops K w mg fa fdm C fI fdI) : FnOk P w K mg base CX0 (1) (fa "_law_is_word") (fdm "_law_is_word") ["_law_value"] (spM K 1 m__law_is_word) := ok__law_is_word (k := 0) T.B T.Cs T.T__law_is_word 
theorem R__law_is_expression (T : Tops K w mg fa fdm C fI fdI) : ∀ n : Nat, FnOk P w K mg base CX0 (1 + n) (fa "_law_is_expression") (fdm "_law_is_expression") ["_law_value", "_law_locals_here"] (spM K 2 (m__law_is_expression n))
  | 0 => ok_none
  | n + 1 => ok__law_is_expression (k := 1 + n) T.B T.Cs T.T__law_is_expression T.T__law_is_word (R__law_is_word T) (by omega) (R__law_is_expression T n) (Nat.le_refl _)
theorem R2__law_is_statement (T : Tops K w mg fa fdm C fI fdI) : ∀ n : Nat, FnOk P w K mg base CX0 (41 + 2 * n) (fa "_law_is_statement") (fdm "_law_is_statement") ["_law_value", "_law_locals_here", "_law_tickets"] (spM K 3 (m__law_is_statement n)) ∧ FnOk P w K mg base CX0 (41 + 2 * n) (fa "_law_is_block") (fdm "_law_is_block") ["_law_value", "_law_locals_here", "_law_tickets"] (spM K 3 (m__law_is_block n))
  | 0 => ⟨ok_none, ok_none⟩
  | n + 1 => ⟨ok__law_is_statement (k := 41 + 2 * n + 1) T.B T.Cs T.T__law_is_statement T.T__law_is_word (R__law_is_word T) (by omega) T.T__law_is_expression (R__law_is_expression T 40) (by omega) T.T__law_is_compound (ok__law_is_compound (k := 41 + 2 * n) T.B T.Cs T.T__law_is_compound T.T__law_is_block (R2__law_is_statement T n).2 (Nat.le_refl _) T.T__law_is_expression (R__law_is_expression T 40) (by omega) T.T__law_is_word (R__law_is_word T) (by omega)) (Nat.le_refl _), ok__law_is_block (k := 41 + 2 * n + 1) T.B T.Cs T.T__law_is_block T.T__law_is_statement (R2__law_is_statement T n).1 (Nat.le_succ _)⟩
theorem R__law_is_statement (T : Tops K w mg fa fdm C fI fdI) (n : Nat) : FnOk P w K mg base CX0 (41 + 2 * n) (fa "_law_is_statement") (fdm "_law_is_statement") ["_law_value", "_law_locals_here", "_law_tickets"] (spM K 3 (m__law_is_statement n)) := (R2__law_is_statement T n).1
theorem R__law_is_block (T : Tops K w mg fa fdm C fI fdI) (n : Nat) : FnOk P w K mg base CX0 (41 + 2 * n) (fa "_law_is_block") (fdm "_law_is_block") ["_law_value", "_law_locals_here", "_law_tickets"] (spM K 3 (m__law_is_block n)) := (R2__law_is_statement T n).2
theorem R__law_names (T : Tops K w mg fa fdm C fI fdI) : ∀ n : Nat, FnOk P w K mg base CX0 (0 + n) (fa "_law_names") (fdm "_law_names") ["_law_value"] (spM K 1 (m__law_names n))
  | 0 => ok_none
  | n + 1 => ok__law_names (k := 0 + n) T.B T.Cs T.T__law_names (R__law_names T n) (Nat.le_refl _)
theorem R__law_words_of (T : Tops K w mg fa fdm C fI fdI) : FnOk P w K mg base CX0 (41) (fa "_law_words_of") (fdm "_law_words_of") ["_law_program_here"] (spM K 1 m__law_words_of) := ok__law_words_of (k := 40) T.B T.Cs T.T__law_words_of T.T__law_names (R__law_names T 40) (by decide)
theorem R__law_count (T : Tops K w mg fa fdm C fI fdI) : ∀ n : Nat, FnOk P w K mg base CX0 (0 + n) (fa "_law_count") (fdm "_law_count") ["_law_value"] (spM K 1 (m__law_count n))
  | 0 => ok_none
  | n + 1 => ok__law_count (k := 0 + n) T.B T.Cs T.T__law_count (R__law_count T n) (Nat.le_refl _)
theorem R__law_part (T : Tops K w mg fa fdm C fI fdI) : ∀ n : Nat, FnOk P w K mg base CX0 (40 + n) (fa "_law_part") (fdm "_law_part") ["_law_value", "_law_at"] (spM K 2 (m__law_part n))
  | 0 => ok_none
  | n + 1 => ok__law_part (k := 40 + n) T.B T.Cs T.T__law_part T.T__law_count (R__law_count T 40) (by omega) (R__law_part T n) (Nat.le_refl _)
theorem R__law_put (T : Tops K w mg fa fdm C fI fdI) : ∀ n : Nat, FnOk P w K mg base CX0 (40 + n) (fa "_law_put") (fdm "_law_put") ["_law_value", "_law_at", "_law_new"] (spM K 3 (m__law_put n))
  | 0 => ok_none
  | n + 1 => ok__law_put (k := 40 + n) T.B T.Cs T.T__law_put T.T__law_count (R__law_count T 40) (by omega) (R__law_put T n) (Nat.le_refl _)
theorem R__law_new_part (T : Tops K w mg fa fdm C fI fdI) : FnOk P w K mg base CX0 (1) (fa "_law_new_part") (fdm "_law_new_part") ["_law_drawn", "_law_old", "_law_pool_here"] (spM K 3 m__law_new_part) := ok__law_new_part (k := 0) T.B T.Cs T.T__law_new_part 
theorem R__law_has_list (T : Tops K w mg fa fdm C fI fdI) : ∀ n : Nat, FnOk P w K mg base CX0 (0 + n) (fa "_law_has_list") (fdm "_law_has_list") ["_law_value"] (spM K 1 (m__law_has_list n))
  | 0 => ok_none
  | n + 1 => ok__law_has_list (k := 0 + n) T.B T.Cs T.T__law_has_list (R__law_has_list T n) (Nat.le_refl _)
theorem R_need (T : Tops K w mg fa fdm C fI fdI) : FnOk P w K mg base (L2.CX P w) (85) (fa "need_program") (fdm "need_program") ["value"] (spN K C m_is_program) := ok_need (k := 84) T.I T.T_need_program T.T_is_program (R_is_program T) (by decide) (by decide)
theorem R_words (T : Tops K w mg fa fdm C fI fdI) : FnOk P w K mg base (L2.CX P w) (86) (fa "words_of") (fdm "words_of") ["program"] (spW K C m_is_program (m_names_in 40)) := ok_words (k := 85) T.B T.T_words_of T.T_need_program (R_need T) (by decide) T.T_names_in (R_names_in T 40) (by decide)
theorem R__law_told (T : Tops K w mg fa fdm C fI fdI) : FnOk P w K mg base CX0 (87) (fa "_law_told") (fdm "_law_told") ["_law_value"] (spM K 1 m__law_told) := ok__law_told (k := 86) T.I T.T__law_told T.T_words_of (R_words T) (by decide)
theorem R__law_is_right (T : Tops K w mg fa fdm C fI fdI) : FnOk P w K mg base CX0 (122) (fa "_law_is_right") (fdm "_law_is_right") ["_law_value"] (spM K 1 m__law_is_right) := ok__law_is_right (k := 121) T.B T.Cs T.T__law_is_right T.T__law_is_block (R__law_is_block T 40) (by decide) T.T_is_program (R_is_program T) (by decide) T.T__law_equal (R__law_equal T 40) (by decide) T.T__law_most (R__law_most T 40) (by decide) T.T__law_told (R__law_told T) (by decide) T.T__law_words_of (R__law_words_of T) (by decide) T.T__law_has_list (R__law_has_list T 40) (by decide)
theorem R__law_compounds (T : Tops K w mg fa fdm C fI fdI) : ∀ n : Nat, FnOk P w K mg base CX0 (40 + n) (fa "_law_compounds") (fdm "_law_compounds") ["_law_value", "_law_at"] (spM K 2 (m__law_compounds n))
  | 0 => ok_none
  | n + 1 => ok__law_compounds (k := 40 + n) T.B T.Cs T.T__law_compounds (R__law_compounds T n) (Nat.le_refl _) T.T__law_count (R__law_count T 40) (by omega)
theorem R__law_nearly_right (T : Tops K w mg fa fdm C fI fdI) : FnOk P w K mg base CX0 (81) (fa "_law_nearly_right") (fdm "_law_nearly_right") ["_law_script", "_law_program_here", "_law_pool_here"] (spM K 3 m__law_nearly_right) := ok__law_nearly_right (k := 80) T.B T.Cs T.T__law_nearly_right T.T__law_draws (R__law_draws T) (by decide) T.T__law_compounds (R__law_compounds T 40) (by decide) T.T__law_part (R__law_part T 40) (by decide) T.T__law_put (R__law_put T 40) (by decide)
theorem R_law (T : Tops K w mg fa fdm C fI fdI) : FnOk P w K mg base CX0 (123) (fa "law") (fdm "law") ["_law_script"] (spM K 1 m_law) := ok_law (k := 122) T.B T.Cs T.T_law T.T__law_pool (R__law_pool T) (by decide) T.T__law_program (R__law_program T) (by decide) T.T__law_is_block (R__law_is_block T 40) (by decide) T.T__law_is_right (R__law_is_right T) (by decide) T.T__law_draws (R__law_draws T) (by decide) T.T__law_count (R__law_count T 40) (by decide) T.T__law_part (R__law_part T 40) (by decide) T.T__law_new_part (R__law_new_part T) (by decide) T.T__law_put (R__law_put T 40) (by decide) T.T__law_nearly_right (R__law_nearly_right T) (by decide) T.T_is_program (R_is_program T) (by decide) T.kb
end
end ML
set_option Elab.async false
set_option linter.all false
namespace ML
open PySem PySem.Spec PyProof.Rows L2
def l0_names_in (g_names_in_expression g_names_in : List D → Option D) : S := (sSeq (sAsg [1] 3 (mOp gIx (mVar 2) (mC (.int 0))))
  (sIf (mOp (gIn false) (mVar 3) (mTup (mCons (mC (.str "set")) (mCons (mC (.str "add")) mNil)))) (sExt [1] 1 (mOp gAdd (mLst (mCons (mOp gIx (mVar 2) (mC (.int 1))) mNil)) (mCall g_names_in_expression (mCons (mOp gIx (mVar 2) (mC (.int (-1)))) mNil)))) (sIf (mOp gEq (mVar 3) (mC (.str "fold"))) (sExt [1] 1 (mOp gAdd (mOp gAdd (mLst (mCons (mOp gIx (mVar 2) (mC (.int 1))) mNil)) (mCall g_names_in_expression (mCons (mOp gIx (mVar 2) (mC (.int 4))) mNil))) (mCall g_names_in_expression (mCons (mOp gIx (mVar 2) (mC (.int 5))) mNil)))) (sIf (mOp gEq (mVar 3) (mC (.str "if"))) (sExt [1] 1 (mOp gAdd (mOp gAdd (mCall g_names_in_expression (mCons (mOp gIx (mVar 2) (mC (.int 1))) mNil)) (mCall g_names_in (mCons (mOp gIx (mVar 2) (mC (.int 2))) mNil))) (mCall g_names_in (mCons (mOp gIx (mVar 2) (mC (.int 3))) mNil)))) (sIf (mOp gEq (mVar 3) (mC (.str "fork"))) (sFor [1] 4 (wTup (mOp gIx (mVar 2) (mC (.int 1)))) (sExt [1] 1 (mCall g_names_in (mCons (mVar 4) mNil)))) (sIf (mOp gEq (mVar 3) (mC (.str "each"))) (sExt [1] 1 (mOp gAdd (mCall g_names_in_expression (mCons (mOp gIx (mVar 2) (mC (.int 2))) mNil)) (mCall g_names_in (mCons (mOp gIx (mVar 2) (mC (.int 3))) mNil)))) (sIf (mOp gEq (mVar 3) (mC (.str "start"))) (sExt [1] 1 (mCall g_names_in (mCons (mOp gIx (mVar 2) (mC (.int 2))) mNil))) sNext)))))))
def l1_names_in (g_names_in_expression g_names_in : List D → Option D) : S := (sExt [1] 1 (mCall g_names_in (mCons (mVar 4) mNil)))
def l0__law_most (g__law_most g__law_turns : List D → Option D) : S := (sSeq (sAsg [] 3 (mOp gIx (mVar 2) (mC (.int 0))))
  (sSeq (sAsg [] 1 (mOp gAdd (mVar 1) (mC (.int 1))))
  (sSeq (sIf (mOp gEq (mVar 3) (mC (.str "if"))) (sSeq (sAsg [] 4 (mCall g__law_most (mCons (mOp gIx (mVar 2) (mC (.int 2))) mNil)))
  (sSeq (sAsg [] 5 (mCall g__law_most (mCons (mOp gIx (mVar 2) (mC (.int 3))) mNil)))
  (sAsg [] 1 (mOp gAdd (mOp gAdd (mVar 1) (mVar 4)) (mOp gMul (mOp gSub (mVar 5) (mVar 4)) (mCall gInt (mCons (mOp gGt (mVar 5) (mVar 4)) mNil))))))) sNext)
  (sSeq (sIf (mOp gEq (mVar 3) (mC (.str "fork"))) (sSeq (sAsg [] 1 (mOp gAdd (mVar 1) (mC (.int 1))))
  (sFor [] 6 (wTup (mOp gIx (mVar 2) (mC (.int 1)))) (sAsg [] 1 (mOp gAdd (mVar 1) (mCall g__law_most (mCons (mVar 6) mNil)))))) sNext)
  (sSeq (sIf (mOp gEq (mVar 3) (mC (.str "each"))) (sAsg [] 1 (mOp gAdd (mOp gAdd (mVar 1) (mC (.int 1))) (mOp gMul (mCall g__law_turns (mCons (mOp gIx (mVar 2) (mC (.int 2))) mNil)) (mCall g__law_most (mCons (mOp gIx (mVar 2) (mC (.int 3))) mNil))))) sNext)
  (sSeq (sIf (mOp gEq (mVar 3) (mC (.str "fold"))) (sAsg [] 1 (mOp gAdd (mOp gAdd (mVar 1) (mC (.int 1))) (mCall gMax (mCons (mC (.int 0)) (mCons (mOp gSub (mOp gMul (mC (.int 2)) (mCall g__law_turns (mCons (mOp gIx (mVar 2) (mC (.int 4))) mNil))) (mC (.int 1))) mNil))))) sNext)
  (sIf (mOp gEq (mVar 3) (mC (.str "start"))) (sAsg [] 1 (mOp gAdd (mVar 1) (mCall g__law_most (mCons (mOp gIx (mVar 2) (mC (.int 2))) mNil)))) sNext)))))))
def l1__law_most (g__law_most g__law_turns : List D → Option D) : S := (sAsg [] 1 (mOp gAdd (mVar 1) (mCall g__law_most (mCons (mVar 6) mNil))))
def l0__law_draws : S := (sIf (mOp gGt (mVar 4) (mC (.int 0))) (sSeq (sApp [5] 5 (mOp gMod (mCall gInt (mCons (mVar 4) mNil)) (mOp gIx (mVar 2) (mVar 6))))
  (sAsg [5] 4 (mOp gDiv (mVar 4) (mOp gIx (mVar 2) (mVar 6))))) (sSeq (sAsg [5] 7 (mOp gMod (mCall gInt (mCons (mOp gAdd (mOp gAdd (mOp gAdd (mOp gMul (mVar 3) (mC (.int 48271))) (mOp gMul (mVar 1) (mC (.int 69621)))) (mOp gMul (mVar 6) (mC (.int 40692)))) (mC (.int 12345))) mNil)) (mC (.int 2147483647))))
  (sSeq (sAsg [5] 7 (mOp gMod (mCall gInt (mCons (mOp gAdd (mOp gAdd (mOp gMul (mVar 7) (mVar 7)) (mOp gMul (mVar 6) (mC (.int 16807)))) (mC (.int 271))) mNil)) (mC (.int 2147483563))))
  (sSeq (sAsg [5] 7 (mOp gMod (mCall gInt (mCons (mOp gAdd (mOp gAdd (mOp gMul (mVar 7) (mVar 7)) (mOp gMul (mVar 7) (mC (.int 39373)))) (mC (.int 7))) mNil)) (mC (.int 2147483399))))
  (sApp [5] 5 (mOp gMod (mOp gDiv (mVar 7) (mC (.int 16))) (mOp gIx (mVar 2) (mVar 6))))))))
def l0__law_pool (g__law_draws : List D → Option D) : S := (sSeq (sAsg [6] 8 (mOp gAdd (mOp gIx (mVar 3) (mC (.int 1))) (mOp gMul (mOp gDiv (mVar 7) (mC (.int 2))) (mVar 5))))
  (sSeq (sAsg [6] 9 (mC (.str "")))
  (sSeq (sFor [6] 10 (wRng (mCons (mVar 4) mNil)) (sSeq (sAsg [6] 9 (mOp gAdd (mVar 9) (mOp gIx (mC (.str "abcdefghijklmnopqrstuvwxyz")) (mOp gMod (mCall gInt (mCons (mVar 8) mNil)) (mC (.int 26))))))
  (sAsg [6] 8 (mOp gDiv (mVar 8) (mC (.int 26))))))
  (sSeq (sIf (mOp (gIn false) (mVar 9) (mLst (mCons (mC (.str "if")) (mCons (mC (.str "fork")) (mCons (mC (.str "each")) (mCons (mC (.str "fold")) (mCons (mC (.str "start")) (mCons (mC (.str "await")) (mCons (mC (.str "max")) (mCons (mC (.str "min")) mNil)))))))))) (sAsg [6] 9 (mOp gAdd (mVar 9) (mC (.str "x")))) sNext)
  (sApp [6] 6 (mOp gAdd (mVar 9) (mOp gMul (mC (.str "z")) (mOp gMod (mCall gInt (mCons (mVar 7) mNil)) (mC (.int 2))))))))))
def l1__law_pool (g__law_draws : List D → Option D) : S := (sSeq (sAsg [6] 9 (mOp gAdd (mVar 9) (mOp gIx (mC (.str "abcdefghijklmnopqrstuvwxyz")) (mOp gMod (mCall gInt (mCons (mVar 8) mNil)) (mC (.int 26))))))
  (sAsg [6] 8 (mOp gDiv (mVar 8) (mC (.int 26)))))
def l0__law_stream (g__law_draws : List D → Option D) : S := (sAsg [] 3 (mOp gAdd (mVar 3) (mCall g__law_draws (mCons (mVar 0) (mCons (mOp gAdd (mVar 1) (mVar 4)) (mCons (mLst (mCons (mC (.int 2520)) (mCons (mC (.int 2520)) (mCons (mC (.int 2520)) (mCons (mC (.int 2520)) (mCons (mC (.int 2520)) (mCons (mC (.int 2520)) mNil))))))) mNil))))))
def l0__law_statement (g__law_block g__law_expression : List D → Option D) : S := (sSeq (sAsg [10] 9 (mCall g__law_block (mCons (mVar 0) (mCons (mVar 1) (mCons (mVar 2) (mCons (mVar 3) (mCons (mVar 4) (mCons (mOp gSub (mVar 5) (mC (.int 1))) mNil))))))))
  (sSeq (sApp [10] 10 (mOp gIx (mVar 9) (mC (.int 0))))
  (sAsg [10] 1 (mOp gIx (mVar 9) (mC (.int 1))))))
def l0__law_block (g__law_statement : List D → Option D) : S := (sSeq (sAsgF 11 (mCall g__law_statement (mCons (mVar 0) (mCons (mVar 1) (mCons (mVar 2) (mCons (mVar 3) (mCons (mVar 8) (mCons (mVar 5) mNil))))))))
  (sSeq (sApp [7, 8] 7 (mOp gIx (mVar 11) (mC (.int 0))))
  (sSeq (sAsg [7, 8] 1 (mOp gIx (mVar 11) (mC (.int 1))))
  (sIf (mOp gEq (mOp gIx (mOp gIx (mVar 11) (mC (.int 0))) (mC (.int 0))) (mC (.str "start"))) (sApp [7, 8] 8 (mOp gIx (mOp gIx (mVar 11) (mC (.int 0))) (mC (.int 1)))) sNext))))
def l0__law_program (g__law_stream g__law_block g__law_most : List D → Option D) : S := (sIf (mOp gGt (mCall g__law_most (mCons (mVar 4) mNil)) (mVar 3)) (sAsg [] 4 (mUn (gSl none (some (-1))) (mVar 4))) sNext)
def l0__law_compounds (g__law_compounds g__law_count : List D → Option D) : S := (sSeq (sOwnF 2 (mCat (mVar 2) (mCall g__law_compounds (mCons (mVar 3) (mCons (mVar 1) mNil)))))
  (sAsg [2] 1 (mOp gAdd (mVar 1) (mCall g__law_count (mCons (mVar 3) mNil)))))
def l0__law_nearly_right (g__law_draws g__law_compounds g__law_part g__law_put : List D → Option D) : S := (sSeq (sAsg [7] 9 (mCall g__law_part (mCons (mVar 5) (mCons (mVar 8) mNil))))
  (sSeq (sApp [7] 7 (mCall g__law_put (mCons (mVar 5) (mCons (mVar 8) (mCons (mTup (mCons (mC (.str "fork")) (mCons (mTup (mCons (mTup (mCons (mVar 9) (mCons (mTup (mCons (mC (.str "await")) (mCons (mOp gIx (mVar 9) (mC (.int 1))) mNil))) mNil))) mNil)) mNil))) mNil)))))
  (sSeq (sIf (mOp gEq (mOp gIx (mVar 9) (mC (.int 0))) (mC (.str "each"))) (sSeq (sApp [7] 7 (mCall g__law_put (mCons (mVar 5) (mCons (mVar 8) (mCons (mOp gAdd (mOp gAdd (mUn (gSl none (some 2)) (mVar 9)) (mTup (mCons (mTup (mCons (mC (.str "local")) (mCons (mOp gIx (mVar 9) (mC (.int 1))) mNil))) mNil))) (mUn (gSl (some 3) none) (mVar 9))) mNil)))))
  (sApp [7] 7 (mCall g__law_put (mCons (mVar 5) (mCons (mVar 8) (mCons (mTup (mCons (mC (.str "fork")) (mCons (mTup (mCons (mTup (mCons (mVar 9) (mCons (mTup (mCons (mC (.str "set")) (mCons (mOp gIx (mVar 9) (mC (.int 1))) (mCons (mTup (mCons (mC (.str "local")) (mCons (mOp gIx (mVar 9) (mC (.int 1))) mNil))) mNil)))) mNil))) mNil)) mNil))) mNil)))))) sNext)
  (sSeq (sIf (mOp gEq (mOp gIx (mVar 9) (mC (.int 0))) (mC (.str "fold"))) (sSeq (sApp [7] 7 (mCall g__law_put (mCons (mVar 5) (mCons (mVar 8) (mCons (mOp gAdd (mOp gAdd (mUn (gSl none (some 4)) (mVar 9)) (mTup (mCons (mTup (mCons (mC (.str "local")) (mCons (mOp gIx (mVar 9) (mC (.int 3))) mNil))) mNil))) (mUn (gSl (some 5) none) (mVar 9))) mNil)))))
  (sApp [7] 7 (mCall g__law_put (mCons (mVar 5) (mCons (mVar 8) (mCons (mTup (mCons (mC (.str "fork")) (mCons (mTup (mCons (mTup (mCons (mVar 9) (mCons (mTup (mCons (mC (.str "await")) (mCons (mOp gIx (mVar 9) (mC (.int 3))) mNil))) mNil))) mNil)) mNil))) mNil)))))) sNext)
  (sIf (mOp gEq (mOp gIx (mVar 9) (mC (.int 0))) (mC (.str "start"))) (sSeq (sApp [7] 7 (mCall g__law_put (mCons (mVar 5) (mCons (mVar 8) (mCons (mTup (mCons (mC (.str "fork")) (mCons (mTup (mCons (mTup (mCons (mVar 9) mNil)) (mCons (mTup (mCons (mTup (mCons (mC (.str "await")) (mCons (mOp gIx (mVar 9) (mC (.int 1))) mNil))) mNil)) mNil))) mNil))) mNil)))))
  (sApp [7] 7 (mCall g__law_put (mCons (mVar 5) (mCons (mVar 8) (mCons (mOp gAdd (mUn (gSl none (some 2)) (mVar 9)) (mTup (mCons (mOp gAdd (mOp gIx (mVar 9) (mC (.int 2))) (mTup (mCons (mTup (mCons (mC (.str "await")) (mCons (mOp gIx (mVar 9) (mC (.int 1))) mNil))) mNil))) mNil))) mNil)))))) sNext)))))
def l0_law (g__law_pool g__law_program g__law_is_block g__law_is_right g__law_draws g__law_count g__law_part g__law_new_part g__law_put g__law_nearly_right g_is_program : List D → Option D) : S := (sSeq (sAsg [] 4 (mCall g__law_draws (mCons (mVar 0) (mCons (mOp gAdd (mC (.int 10)) (mVar 3)) (mCons (mLst (mCons (mC (.int 60)) (mCons (mC (.int 5)) (mCons (mOp gPow (mC (.int 10)) (mC (.int 6))) mNil)))) mNil)))))
  (sSeq (sAsg [] 5 (mOp gMod (mCall gInt (mCons (mOp gIx (mVar 4) (mC (.int 2))) mNil)) (mCall g__law_count (mCons (mVar 2) mNil))))
  (sSeq (sAsg [] 6 (mCall g__law_put (mCons (mVar 2) (mCons (mVar 5) (mCons (mCall g__law_new_part (mCons (mVar 4) (mCons (mCall g__law_part (mCons (mVar 2) (mCons (mVar 5) mNil))) (mCons (mVar 1) mNil)))) mNil)))))
  (sIf (mNot (mCall g__law_is_right (mCons (mVar 6) mNil))) (sRet (mC (.bl false))) sNext))))
def l1_law (g__law_pool g__law_program g__law_is_block g__law_is_right g__law_draws g__law_count g__law_part g__law_new_part g__law_put g__law_nearly_right g_is_program : List D → Option D) : S := (sIf (mNot (mCall g__law_is_right (mCons (mVar 6) mNil))) (sRet (mC (.bl false))) sNext)
end ML
set_option Elab.async false
set_option linter.all false
set_option maxRecDepth 100000
set_option maxHeartbeats 4000000
/-! how the mirrors are computed -/
namespace ML
open PySem PySem.Spec PyProof.Rows L2
theorem toNat_inj {a b : Char} (h : a.toNat = b.toNat) : a = b := by
  apply Char.ext
  apply UInt32.toNat_inj.mp
  exact h
theorem map_toNat_inj : ∀ {a b : List Char}, a.map Char.toNat = b.map Char.toNat → a = b
  | [], [], _ => rfl
  | [], _ :: _, h => by simp at h
  | _ :: _, [], h => by simp at h
  | x :: a, y :: b, h => by
    simp only [List.map_cons, List.cons.injEq] at h
    rw [toNat_inj h.1, map_toNat_inj h.2]
@[simp] theorem ofStr_inj {a b : String} : (Str.ofString a = Str.ofString b) ↔ a = b := by
  constructor
  · intro h
    rw [Str.ofString_eq_toList, Str.ofString_eq_toList] at h
    have h1 := congrArg (fun s => s.cps.toList) h
    simp only [List.toList_toArray] at h1
    have h2 := map_toNat_inj h1
    rw [← String.ofList_toList (s := a), h2, String.ofList_toList]
  · intro h; rw [h]
/-! combinators -/
def andO (x y : Option D) : Option D := match x with
  | some (.bl true) => y
  | some (.bl false) => some (.bl false)
  | _ => none
def orO (x y : Option D) : Option D := match x with
  | some (.bl true) => some (.bl true)
  | some (.bl false) => y
  | _ => none
def notO (x : Option D) : Option D := match x with
  | some (.bl b) => some (.bl !b)
  | _ => none
def chO (g' : D → D → Option D) (x : Option D) (y : D) (c : Option D) : Option D := match x with
  | some (.bl true) => c.bind fun z => g' y z
  | some (.bl false) => some (.bl false)
  | _ => none
def ifO (c : Option D) (s t : Option Out) : Option Out := match c with
  | some (.bl true) => s
  | some (.bl false) => t
  | _ => none
def seqO (o : Option Out) (t : S) : Option Out := match o with
  | some (.nx ρ) => t ρ
  | o => o
def finO (o : Option Out) : Option D := match o with
  | some (.rt d) => some d
  | some (.nx _) => some .non
  | none => none
@[simp] theorem andO_bl (b : Bool) (y : Option D) : andO (some (.bl b)) y = if b = true then y else some (.bl false) := by cases b <;> rfl
@[simp] theorem orO_bl (b : Bool) (y : Option D) : orO (some (.bl b)) y = if b = true then some (.bl true) else y := by cases b <;> rfl
@[simp] theorem notO_bl (b : Bool) : notO (some (.bl b)) = some (.bl !b) := rfl
@[simp] theorem chO_bl (g' : D → D → Option D) (b : Bool) (y : D) (c : Option D) : chO g' (some (.bl b)) y c = if b = true then c.bind fun z => g' y z else some (.bl false) := by cases b <;> rfl
@[simp] theorem ifO_bl (b : Bool) (s t : Option Out) : ifO (some (.bl b)) s t = if b = true then s else t := by cases b <;> rfl
@[simp] theorem seqO_nx (ρ : Env) (t : S) : seqO (some (.nx ρ)) t = t ρ := rfl
@[simp] theorem seqO_rt (d : D) (t : S) : seqO (some (.rt d)) t = some (.rt d) := rfl
@[simp] theorem seqO_if (c : Prop) [Decidable c] (x y : Option Out) (t : S) : seqO (if c then x else y) t = if c then seqO x t else seqO y t := by split <;> rfl
@[simp] theorem finO_nx (ρ : Env) : finO (some (.nx ρ)) = some .non := rfl
@[simp] theorem finO_rt (d : D) : finO (some (.rt d)) = some d := rfl
@[simp] theorem finO_if (c : Prop) [Decidable c] (x y : Option Out) : finO (if c then x else y) = if c then finO x else finO y := by split <;> rfl
@[simp] theorem andO_if (c : Prop) [Decidable c] (x y z : Option D) : andO (if c then x else y) z = if c then andO x z else andO y z := by split <;> rfl
@[simp] theorem orO_if (c : Prop) [Decidable c] (x y z : Option D) : orO (if c then x else y) z = if c then orO x z else orO y z := by split <;> rfl
@[simp] theorem notO_if (c : Prop) [Decidable c] (x y : Option D) : notO (if c then x else y) = if c then notO x else notO y := by split <;> rfl
@[simp] theorem ifO_if (c : Prop) [Decidable c] (x y : Option D) (s t : Option Out) : ifO (if c then x else y) s t = if c then ifO x s t else ifO y s t := by split <;> rfl
@[simp] theorem bind_if {α β : Type} (c : Prop) [Decidable c] (x y : Option α) (f : α → Option β) : (if c then x else y).bind f = if c then x.bind f else y.bind f := by split <;> rfl
@[simp] theorem map_if {α β : Type} (c : Prop) [Decidable c] (x y : Option α) (f : α → β) : (if c then x else y).map f = if c then x.map f else y.map f := by split <;> rfl
@[simp] theorem some_bl_if (c : Prop) [Decidable c] (a b : Bool) : (if c then some (D.bl a) else some (D.bl b)) = some (D.bl (if c then a else b)) := by split <;> rfl
@[simp] theorem rt_bl_if (c : Prop) [Decidable c] (a b : Bool) : (if c then some (Out.rt (D.bl a)) else some (Out.rt (D.bl b))) = some (Out.rt (D.bl (if c then a else b))) := by split <;> rfl
@[simp high] theorem andO_bb (a b : Bool) : andO (some (.bl a)) (some (.bl b)) = some (.bl (a && b)) := by cases a <;> rfl
@[simp high] theorem orO_bb (a b : Bool) : orO (some (.bl a)) (some (.bl b)) = some (.bl (a || b)) := by cases a <;> rfl
@[simp] theorem sl_val : sizeLine = 16777216 := by decide
@[simp] theorem nl0 (n : Nat) : ((0 : Int) ≤ (n : Int)) = True := by simp
@[simp] theorem nl1 (n : Nat) : ((1 : Int) ≤ (n : Int)) = (1 ≤ n) := by apply propext; omega
@[simp] theorem nl8 (n : Nat) : ((n : Int) ≤ 8) = (n ≤ 8) := by apply propext; omega
@[simp] theorem e_var (i : Nat) (ρ : Env) : mVar i ρ = (ρ[i]?).join := rfl
@[simp] theorem e_c (d : D) (ρ : Env) : mC d ρ = some d := rfl
@[simp] theorem e_op (g : D → D → Option D) (a b : E) (ρ : Env) : mOp g a b ρ = (a ρ).bind fun x => (b ρ).bind fun y => g x y := rfl
@[simp] theorem e_nil (ρ : Env) : mNil ρ = some [] := rfl
@[simp] theorem e_cons (a : E) (as : Es) (ρ : Env) : mCons a as ρ = (a ρ).bind fun x => (as ρ).map fun xs => x :: xs := rfl
@[simp] theorem e_tup (as : Es) (ρ : Env) : mTup as ρ = (as ρ).map D.tup := rfl
@[simp] theorem e_lst (as : Es) (ρ : Env) : mLst as ρ = (as ρ).map D.lst := rfl
@[simp] theorem e_call (g : List D → Option D) (as : Es) (ρ : Env) : mCall g as ρ = (as ρ).bind g := rfl
@[simp] theorem e_and (a b : E) (ρ : Env) : mAnd a b ρ = andO (a ρ) (b ρ) := rfl
@[simp] theorem e_or (a b : E) (ρ : Env) : mOr a b ρ = orO (a ρ) (b ρ) := rfl
@[simp] theorem e_not (a : E) (ρ : Env) : mNot a ρ = notO (a ρ) := rfl
@[simp] theorem e_chain (g g' : D → D → Option D) (a b c : E) (ρ : Env) : mChain g g' a b c ρ = (a ρ).bind fun x => (b ρ).bind fun y => chO g' (g x y) y (c ρ) := rfl
@[simp] theorem e_un (g : D → Option D) (a : E) (ρ : Env) : mUn g a ρ = (a ρ).bind g := rfl
@[simp] theorem e_next (ρ : Env) : sNext ρ = some (.nx ρ) := rfl
@[simp] theorem e_seq (s t : S) (ρ : Env) : sSeq s t ρ = seqO (s ρ) t := rfl
@[simp] theorem e_ret (m : E) (ρ : Env) : sRet m ρ = (m ρ).map Out.rt := rfl
@[simp] theorem e_if (m : E) (s t : S) (ρ : Env) : sIf m s t ρ = ifO (m ρ) (s ρ) (t ρ) := rfl
@[simp] theorem e_asg (own : List Nat) (i : Nat) (m : E) (ρ : Env) : sAsg own i m ρ = (m (mask own ρ)).map fun d => .nx (ρ.set i (some d)) := rfl
@[simp] theorem e_asgF (i : Nat) (m : E) (ρ : Env) : sAsgF i m ρ = (m ρ).bind fun d => if noL d = true then some (.nx (ρ.set i (some d))) else none := rfl
@[simp] theorem e_own (own : List Nat) (i : Nat) (m : Es) (ρ : Env) : sOwn own i m ρ = (m (mask own ρ)).map fun ds => .nx (ρ.set i (some (.lst ds))) := rfl
@[simp] theorem e_ownF (i : Nat) (m : Es) (ρ : Env) : sOwnF i m ρ = (m ρ).bind fun ds => if noLs ds = true then some (.nx (ρ.set i (some (.lst ds)))) else none := rfl
def appO (o : Option D) (m : Option D) (k : D → Option Out) : Option Out := match o with
  | some (.lst ds) => m.bind fun d => if ds.length < sizeLine then k (.lst (ds ++ [d])) else none
  | _ => none
def extO (o : Option D) (m : Option D) (k : D → Option Out) : Option Out := match o with
  | some (.lst ds) => m.bind fun
    | .lst es => if ds.length + es.length ≤ sizeLine then k (.lst (ds ++ es)) else none
    | _ => none
  | _ => none
@[simp] theorem appO_lst (ds : List D) (d : D) (k : D → Option Out) : appO (some (.lst ds)) (some d) k = if ds.length < sizeLine then k (.lst (ds ++ [d])) else none := rfl
@[simp] theorem extO_lst (ds es : List D) (k : D → Option Out) : extO (some (.lst ds)) (some (.lst es)) k = if ds.length + es.length ≤ sizeLine then k (.lst (ds ++ es)) else none := rfl
@[simp] theorem e_app (own : List Nat) (i : Nat) (m : E) (ρ : Env) : sApp own i m ρ = appO (ρ[i]?).join (m (mask own ρ)) fun x => some (.nx (ρ.set i (some x))) := by
  unfold sApp appO; rfl
@[simp] theorem e_ext (own : List Nat) (i : Nat) (m : E) (ρ : Env) : sExt own i m ρ = extO (ρ[i]?).join (m (mask own ρ)) fun x => some (.nx (ρ.set i (some x))) := by
  unfold sExt extO; rfl
@[simp] theorem e_for (own : List Nat) (i : Nat) (src : Es) (body : S) (ρ : Env) : sFor own i src body ρ = (src (mask own ρ)).bind fun ds => loopS i body ds ρ := rfl
@[simp] theorem e_mask0 (ρ : Env) : mask [] ρ = ρ := rfl
@[simp] theorem e_mask1 (j : Nat) (js : List Nat) (ρ : Env) : mask (j :: js) ρ = (mask js ρ).set j none := rfl
theorem e_run (n N : Nat) (body : S) (ds : List D) (h : ds.length = n) : mRun n N body ds = finO (body (ds.map some ++ List.replicate (N - n) none)) := by
  unfold mRun finO; rw [if_pos h] <;> rfl
theorem e_run1 (N : Nat) (body : S) (a : D) : mRun 1 N body [a] = finO (body (some a :: List.replicate (N - 1) none)) := by
  rw [e_run _ _ _ _ (by rfl)]; rfl
theorem e_run2 (N : Nat) (body : S) (a b : D) : mRun 2 N body [a, b] = finO (body (some a :: some b :: List.replicate (N - 2) none)) := by
  rw [e_run _ _ _ _ (by rfl)]; rfl
theorem e_run3 (N : Nat) (body : S) (a b c : D) : mRun 3 N body [a, b, c] = finO (body (some a :: some b :: some c :: List.replicate (N - 3) none)) := by
  rw [e_run _ _ _ _ (by rfl)]; rfl
theorem e_run4 (N : Nat) (body : S) (a b c d : D) : mRun 4 N body [a, b, c, d] = finO (body (some a :: some b :: some c :: some d :: List.replicate (N - 4) none)) := by
  rw [e_run _ _ _ _ (by rfl)]; rfl
theorem e_run5 (N : Nat) (body : S) (a b c d e : D) : mRun 5 N body [a, b, c, d, e] = finO (body (some a :: some b :: some c :: some d :: some e :: List.replicate (N - 5) none)) := by
  rw [e_run _ _ _ _ (by rfl)]; rfl
theorem e_run6 (N : Nat) (body : S) (a b c d e f : D) : mRun 6 N body [a, b, c, d, e, f] = finO (body (some a :: some b :: some c :: some d :: some e :: some f :: List.replicate (N - 6) none)) := by
  rw [e_run _ _ _ _ (by rfl)]; rfl
@[simp] theorem e_wTup (m : E) (ρ : Env) : wTup m ρ = (m ρ).bind fun | .tup ds => some ds | _ => none := rfl
@[simp] theorem e_wLst (m : E) (ρ : Env) : wLst m ρ = (m ρ).bind fun | .lst ds => some ds | _ => none := rfl
@[simp] theorem e_wStr (m : E) (ρ : Env) : wStr m ρ = (m ρ).bind fun | .str s => some (s.cps.toList.map fun c => D.str ⟨#[c]⟩) | _ => none := rfl
@[simp] theorem e_wRng (ms : Es) (ρ : Env) : wRng ms ρ = (ms ρ).bind fun | [.int n] => if -1000000000 ≤ n ∧ n ≤ 1000000000 then some ((List.range n.toNat).map fun (i : Nat) => D.int (i : Int)) else none | _ => none := rfl
@[simp] theorem e_lc (j : Nat) (src : Es) (tm em : E) (ρ : Env) : mLc j src tm em ρ = (src ρ).bind fun ds => if ds.length < sizeLine then (lcLoop j tm em ds (mask [j] ρ)).map D.lst else none := rfl
@[simp] theorem e_catE (a b : E) (ρ : Env) : mCat a b ρ = (a ρ).bind fun x => (b ρ).bind fun y => match x, y with
  | .lst xs, .lst ys => if xs.length + ys.length ≤ sizeLine then some (xs ++ ys) else none
  | _, _ => none := rfl
@[simp] theorem e_listOf (as : Es) (ρ : Env) : mListOf as ρ = (as ρ).bind fun
  | [.lst ds] => some ds
  | [.tup ds] => some ds
  | _ => none := rfl
/-! operations -/
@[simp] theorem x_add_i (a b : Int) : gAdd (.int a) (.int b) = some (.int (a + b)) := rfl
@[simp] theorem x_add_s (a b : Str) : gAdd (.str a) (.str b) = if a.length + b.length ≤ sizeLine then some (.str (a ++ b)) else none := rfl
@[simp] theorem x_add_l (a b : List D) : gAdd (.lst a) (.lst b) = if a.length + b.length ≤ sizeLine then some (.lst (a ++ b)) else none := rfl
@[simp] theorem x_add_t (a b : List D) : gAdd (.tup a) (.tup b) = if a.length + b.length ≤ sizeLine then some (.tup (a ++ b)) else none := rfl
@[simp] theorem x_sub (a b : Int) : gSub (.int a) (.int b) = some (.int (a - b)) := rfl
@[simp] theorem x_div (a b : Int) : gDiv (.int a) (.int b) = if 0 < b ∧ b < 1000000000000000 then some (.int (a / b)) else none := rfl
@[simp] theorem x_mod (a b : Int) : gMod (.int a) (.int b) = if 0 < b then some (.int (a % b)) else none := rfl
@[simp] theorem x_pow (a b : Int) : gPow (.int a) (.int b) = if 0 ≤ b ∧ b ≤ 100 ∧ a.natAbs ≤ 100 then some (.int (a ^ b.toNat)) else none := rfl
@[simp] theorem x_lt (a b : Int) : gLt (.int a) (.int b) = some (.bl (decide (a < b))) := rfl
@[simp] theorem x_le (a b : Int) : gLe (.int a) (.int b) = some (.bl (decide (a ≤ b))) := rfl
@[simp] theorem x_gt (a b : Int) : gGt (.int a) (.int b) = some (.bl (decide (b < a))) := rfl
@[simp] theorem x_mul_i (a b : Int) : gMul (.int a) (.int b) = if a.natAbs < 18446744073709551616 ∨ b.natAbs < 18446744073709551616 then some (.int (a * b)) else none := rfl
@[simp] theorem x_mul_s (a : Str) (b : Int) : gMul (.str a) (.int b) = if b = 0 then some (.str Str.empty) else if b = 1 then some (.str a) else none := rfl
@[simp] theorem x_eq_i (a b : Int) : gEq (.int a) (.int b) = some (.bl (decide (a = b))) := rfl
@[simp] theorem x_eq_b (a b : Bool) : gEq (.bl a) (.bl b) = some (.bl (decide (a = b))) := rfl
@[simp] theorem x_eq_s (a b : Str) : gEq (.str a) (.str b) = some (.bl (decide (a = b))) := rfl
@[simp] theorem x_ne_i (a b : Int) : gNe (.int a) (.int b) = some (.bl (!decide (a = b))) := rfl
@[simp] theorem x_ne_s (a b : Str) : gNe (.str a) (.str b) = some (.bl (!decide (a = b))) := rfl
@[simp] theorem x_is_b (a b : Bool) : gIs (.bl a) (.bl b) = some (.bl (decide (a = b))) := rfl
@[simp] theorem strs_map (ss : List Str) : strs? (ss.map D.str) = some ss := strs?_map ss
@[simp] theorem strs_nil : strs? [] = some [] := rfl
@[simp] theorem strs_cons (s : Str) (r : List D) : strs? (.str s :: r) = (strs? r).map fun ss => s :: ss := rfl
@[simp] theorem x_in_t (neg : Bool) (x : D) (ds : List D) : gIn neg x (.tup ds) = (strs? ds).map fun ss => .bl (neg != isIn x ss) := by
  cases x <;> rfl
@[simp] theorem x_in_l (neg : Bool) (x : D) (ds : List D) : gIn neg x (.lst ds) = (strs? ds).map fun ss => .bl (neg != isIn x ss) := by
  cases x <;> rfl
@[simp] theorem x_in_c (neg : Bool) (c : Nat) (z : Str) : gIn neg (.str ⟨#[c]⟩) (.str z) = some (.bl (neg != decide (c ∈ z.cps.toList))) := rfl
theorem atI_of {α : Type} (xs : List α) (i : Int) (h0 : 0 ≤ i) : L2.atI xs i = xs[i.toNat]? := by
  unfold L2.atI L2.ixN
  rw [if_pos h0]
  by_cases h : i < xs.length
  · rw [if_pos h]; rfl
  · rw [if_neg h]
    rw [List.getElem?_eq_none (by omega)]; rfl
@[simp] theorem x_ix_t (ds : List D) (i : Int) (h : 0 ≤ i) : gIx (.tup ds) (.int i) = ds[i.toNat]? := atI_of ds i h
@[simp] theorem x_ix_l (ds : List D) (i : Int) (h : 0 ≤ i) : gIx (.lst ds) (.int i) = ds[i.toNat]? := atI_of ds i h
@[simp] theorem x_ix_r (ns : List Int) (i : Int) (h : 0 ≤ i) : gIx (.ro ns) (.int i) = (ns[i.toNat]?).map D.int := by
  show (L2.atI ns i).map D.int = _
  rw [atI_of ns i h]
theorem cut_lo (ds : List D) (k : Nat) : cutD ds (some (k : Int)) none = ds.drop k := by
  unfold cutD
  rw [HT.sIx_none, HT.sIx_nat]
  by_cases h : k ≤ ds.length
  · rw [Nat.min_eq_left h]
    exact List.take_of_length_le (by rw [List.length_drop]; omega)
  · rw [Nat.min_eq_right (by omega)]
    rw [List.drop_of_length_le (by omega : ds.length ≤ k), List.drop_length]; simp
theorem cut_hi (ds : List D) (k : Nat) : cutD ds none (some (k : Int)) = ds.take k := by
  unfold cutD
  rw [HT.sIx_none, HT.sIx_nat]
  by_cases h : k ≤ ds.length
  · rw [Nat.min_eq_left h]; rfl
  · rw [Nat.min_eq_right (by omega), List.take_of_length_le (by simp), List.take_of_length_le (by omega)]; rfl
@[simp] theorem x_sl_t (lo hi : Option Int) (ds : List D) : gSl lo hi (.tup ds) = some (.tup (cutD ds lo hi)) := rfl
@[simp] theorem x_sl_l (lo hi : Option Int) (ds : List D) : gSl lo hi (.lst ds) = some (.lst (cutD ds lo hi)) := rfl
@[simp] theorem x_cut1 (ds : List D) : cutD ds (some 1) none = ds.drop 1 := cut_lo ds 1
@[simp] theorem x_cut2 (ds : List D) : cutD ds (some 2) none = ds.drop 2 := cut_lo ds 2
@[simp] theorem x_cut3 (ds : List D) : cutD ds (some 3) none = ds.drop 3 := cut_lo ds 3
@[simp] theorem x_cut4 (ds : List D) : cutD ds (some 4) none = ds.drop 4 := cut_lo ds 4
@[simp] theorem x_cut5 (ds : List D) : cutD ds (some 5) none = ds.drop 5 := cut_lo ds 5
@[simp] theorem x_cut_2 (ds : List D) : cutD ds none (some 2) = ds.take 2 := cut_hi ds 2
@[simp] theorem x_cut_3 (ds : List D) : cutD ds none (some 3) = ds.take 3 := cut_hi ds 3
@[simp] theorem x_cut_4 (ds : List D) : cutD ds none (some 4) = ds.take 4 := cut_hi ds 4
@[simp] theorem x_cut_m (ds : List D) : cutD ds none (some (-1)) = ds.take (ds.length - 1) := by
  unfold cutD
  rw [HT.sIx_none]
  show ((ds.drop 0).take ((if (-1 : Int) < 0 then ((-1 : Int) + (ds.length : Int)).toNat else min (-1 : Int).toNat ds.length) - 0)) = _
  rw [if_pos (by decide), List.drop_zero]
  congr 1
  omega
@[simp] theorem x_cutm (ds : List D) : cutD ds (some (-1)) none = ds.drop (ds.length - 1) := by
  unfold cutD
  rw [HT.sIx_none]
  show ((ds.drop (if (-1 : Int) < 0 then ((-1 : Int) + (ds.length : Int)).toNat else min (-1 : Int).toNat ds.length)).take _) = _
  rw [if_pos (by decide)]
  have e : ((-1 : Int) + (ds.length : Int)).toNat = ds.length - 1 := by omega
  rw [e]
  exact List.take_of_length_le (by rw [List.length_drop]; exact Nat.le_of_eq (by
    show _ = ds.length - (if (-1 : Int) < 0 then ((-1 : Int) + (ds.length : Int)).toNat else min (-1 : Int).toNat ds.length)
    rw [if_pos (by decide), e]))
@[simp] theorem x_len_s (s : Str) : gLen [.str s] = if s.length ≤ sizeLine then some (.int s.length) else none := rfl
@[simp] theorem x_len_t (ds : List D) : gLen [.tup ds] = some (.int ds.length) := rfl
@[simp] theorem x_len_l (ds : List D) : gLen [.lst ds] = some (.int ds.length) := rfl
@[simp] theorem x_len_r (ns : List Int) : gLen [.ro ns] = some (.int ns.length) := rfl
@[simp] theorem x_int_i (i : Int) : gInt [.int i] = some (.int i) := rfl
@[simp] theorem x_int_b (b : Bool) : gInt [.bl b] = some (.int (if b then 1 else 0)) := rfl
@[simp] theorem x_max (i j : Int) : gMax [.int i, .int j] = some (.int (if j > i then j else i)) := rfl
@[simp] theorem x_str (s : Str) : gStr [.str s] = some (.str s) := rfl
@[simp] theorem x_tuple_l (ds : List D) : gTuple [.lst ds] = some (.tup ds) := rfl
@[simp] theorem x_tuple_t (ds : List D) : gTuple [.tup ds] = some (.tup ds) := rfl
@[simp] theorem x_list_l (ds : List D) : gList [.lst ds] = some (.lst ds) := rfl
@[simp] theorem x_list_t (ds : List D) : gList [.tup ds] = some (.lst ds) := rfl
@[simp] theorem x_rev (ds : List D) : gRev (.tup ds) = some (.tup ds.reverse) := rfl
@[simp] theorem bls_map (bs : List Bool) : bls? (bs.map D.bl) = some bs := by
  induction bs with
  | nil => rfl
  | cons b bs ih => show (bls? (bs.map D.bl)).map _ = _; rw [ih]; rfl
@[simp] theorem bls_nil : bls? [] = some [] := rfl
@[simp] theorem bls_cons (b : Bool) (r : List D) : bls? (.bl b :: r) = (bls? r).map fun ss => b :: ss := rfl
@[simp] theorem x_all (ds : List D) : gAll [.lst ds] = (bls? ds).map fun bs => .bl (bs.all id) := rfl
@[simp] theorem k_non : tyN .non = "NoneType" := rfl
@[simp] theorem k_bl (b : Bool) : tyN (.bl b) = "bool" := rfl
@[simp] theorem k_int (b : Int) : tyN (.int b) = "int" := rfl
@[simp] theorem k_str (b : Str) : tyN (.str b) = "str" := rfl
@[simp] theorem k_lst (b : List D) : tyN (.lst b) = "list" := rfl
@[simp] theorem k_tup (b : List D) : tyN (.tup b) = "tuple" := rfl
@[simp] theorem k_ro (b : List Int) : tyN (.ro b) = "list" := rfl
@[simp] theorem e_isK (T : String) (d : D) : isK T d = (tyN d == T || (T == "int" && tyN d == "bool")) := rfl
@[simp] theorem lc_nil (j : Nat) (tm em : E) (ρ : Env) : lcLoop j tm em [] ρ = some [] := rfl
/-- a comprehension without a condition -/
theorem lc_map {j : Nat} {em : E} {ρ : Env} {f : D → D} : ∀ {ds : List D}, (∀ d ∈ ds, em (ρ.set j (some d)) = some (f d)) → lcLoop j (mC (.bl true)) em ds ρ = some (ds.map f)
  | [], _ => rfl
  | d :: ds, h => by
    show (em (ρ.set j (some d))).bind _ = _
    rw [h d List.mem_cons_self, Option.bind_some, lc_map fun x hx => h x (List.mem_cons_of_mem _ hx)]
    rfl
theorem lk (z k : Str) (v : Int) (r : List (Str × Int)) : pLook ((k, v) :: r) z = if z = k then some v else pLook r z := by
  unfold pLook
  rw [List.lookup_cons]
  by_cases h : z = k
  · subst h; simp
  · rw [if_neg h]
    have : (z == k) = false := by simpa using h
    rw [this]
theorem look_p (k : Str) : pLook tblP k = if k = "number" then some 2 else if k = "word" then some 2 else if k = "local" then some 2 else if k = "do" then some 4 else none := by
  unfold tblP
  simp only [lk]
  rfl
theorem look_s (k : Str) : pLook tblS k = if k = "set" then some 3 else if k = "add" then some 4 else if k = "if" then some 4 else if k = "fork" then some 2 else if k = "each" then some 4 else if k = "fold" then some 6 else if k = "start" then some 3 else if k = "await" then some 2 else none := by
  unfold tblS
  simp only [lk]
  rfl
@[simp] theorem x_tab (t : List (Str × Int)) (k : Str) : gTab t (.str k) = (pLook t k).map D.int := rfl
@[simp] theorem x_notTab (t : List (Str × Int)) (k : Str) : gNotTab t (.str k) = some (.bl (pLook t k).isNone) := rfl
end ML
set_option Elab.async false
set_option linter.all false
set_option maxRecDepth 100000
set_option maxHeartbeats 4000000
/-! words, expressions: what both readers say -/
namespace ML
open PySem PySem.Spec PyProof.Rows L2
mutual
def dep : D → Nat
  | .tup xs => deps xs + 1
  | _ => 0
def deps : List D → Nat
  | [] => 0
  | x :: xs => max (dep x) (deps xs)
end
mutual
def cnt : D → Nat
  | .tup xs => cnts xs + 1
  | _ => 1
def cnts : List D → Nat
  | [] => 0
  | x :: xs => cnt x + cnts xs
end
mutual
def allS (p : Str → Prop) : D → Prop
  | .str s => p s
  | .tup xs => allSs p xs
  | _ => True
def allSs (p : Str → Prop) : List D → Prop
  | [] => True
  | x :: xs => allS p x ∧ allSs p xs
end
theorem cnt_pos (d : D) : 0 < cnt d := by cases d <;> simp [cnt]
theorem len_cnts : ∀ xs : List D, xs.length ≤ cnts xs
  | [] => Nat.le_refl _
  | x :: xs => by
    have := len_cnts xs
    have := cnt_pos x
    simp only [List.length_cons, cnts]
    omega
def smS (s : Str) : Prop := s.length ≤ 1000
structure Fit (n : Nat) (d : D) : Prop where
  dp : dep d < n
  sm : allS smS d
  sz : cnt d ≤ 1000000
structure Fits (n : Nat) (xs : List D) : Prop where
  dp : deps xs < n
  sm : allSs smS xs
  sz : cnts xs ≤ 1000000
theorem Fit.tup {n : Nat} {xs : List D} (h : Fit (n + 1) (.tup xs)) : Fits n xs := ⟨by have := h.dp; simp only [dep] at this; omega, h.sm, by have := h.sz; simp only [cnt] at this; omega⟩
theorem Fits.cons {n : Nat} {x : D} {xs : List D} (h : Fits n (x :: xs)) : Fit n x ∧ Fits n xs := by
  have h1 := h.dp
  have h2 := h.sm
  have h3 := h.sz
  simp only [deps, allSs, cnts] at h1 h2 h3
  exact ⟨⟨by omega, h2.1, by omega⟩, ⟨by omega, h2.2, by omega⟩⟩
theorem Fits.len {n : Nat} {xs : List D} (h : Fits n xs) : xs.length ≤ 1000000 := Nat.le_trans (len_cnts xs) h.sz
theorem Fits.mem {n : Nat} {xs : List D} (h : Fits n xs) {x : D} (hx : x ∈ xs) : Fit n x := by
  induction xs with
  | nil => cases hx
  | cons y ys ih =>
    rcases List.mem_cons.mp hx with e | e
    · subst e; exact h.cons.1
    · exact ih h.cons.2 e
theorem Fit.mono {n m : Nat} {d : D} (h : Fit n d) (k : n ≤ m) : Fit m d := ⟨Nat.lt_of_lt_of_le h.dp k, h.sm, h.sz⟩
theorem Fits.mono {n m : Nat} {d : List D} (h : Fits n d) (k : n ≤ m) : Fits m d := ⟨Nat.lt_of_lt_of_le h.dp k, h.sm, h.sz⟩
theorem sz_line {n : Nat} (h : n ≤ 1000000) : n ≤ sizeLine := Nat.le_trans h (by decide)
theorem sz_line' {n : Nat} (h : n ≤ 1000000) : n < sizeLine := Nat.lt_of_le_of_lt h (by decide)
theorem smS.line {s : Str} (h : smS s) : s.length ≤ sizeLine := Nat.le_trans h (by decide)
/-! words -/
def letters : List Nat := ("abcdefghijklmnopqrstuvwxyz" : Str).cps.toList
def okStr (s : Str) : Bool := decide (1 ≤ s.length) && decide (s.length ≤ 8) && s.cps.toList.all (fun c => decide (c ∈ letters))
def wordS : D → Bool
  | .str s => okStr s
  | _ => false
def nameS (d : D) : Bool := wordS d && !isIn d noNames
def valS : D → Bool
  | .int i => decide (0 ≤ i) && decide (i < 1000003)
  | _ => false
theorem lc_mapf {α : Type} {j : Nat} {em : E} {ρ : Env} {φ f : α → D} : ∀ {xs : List α}, (∀ x ∈ xs, em (ρ.set j (some (φ x))) = some (f x)) → lcLoop j (mC (.bl true)) em (xs.map φ) ρ = some (xs.map f)
  | [], _ => rfl
  | d :: ds, h => by
    show (em (ρ.set j (some (φ d)))).bind _ = _
    rw [h d List.mem_cons_self, Option.bind_some]
    have ih := lc_mapf (xs := ds) fun x hx => h x (List.mem_cons_of_mem _ hx)
    rw [ih]
    rfl
@[simp] theorem bls_mapf {α : Type} (g : α → Bool) (xs : List α) : bls? (xs.map fun x => D.bl (g x)) = some (xs.map g) := by
  have := bls_map (xs.map g)
  rw [List.map_map] at this
  exact this
@[simp] theorem mem_letters (c : Nat) : c ∈ (Str.ofString "abcdefghijklmnopqrstuvwxyz").cps ↔ c ∈ letters := by simp [letters]
theorem r_is_integer (d : D) : m_is_integer [d] = some (.bl (match d with | .int _ => true | _ => false)) := by
  unfold m_is_integer b_is_integer
  rw [e_run1]
  cases d <;> simp
theorem r_is_value (d : D) : m_is_value [d] = some (.bl (valS d)) := by
  unfold m_is_value b_is_value
  rw [e_run1]
  cases d <;> simp [r_is_integer, valS]
theorem r_is_word (d : D) (h : allS smS d) : m_is_word [d] = some (.bl (wordS d)) := by
  unfold m_is_word b_is_word
  rw [e_run1]
  cases d with
  | str s =>
    have hs : s.length ≤ 16777216 := smS.line h
    have hl : s.cps.toList.length = s.length := rfl
    by_cases h1 : 1 ≤ s.length
    · by_cases h2 : s.length ≤ 8
      · have h3 : s.length < 16777216 := by omega
        have e := lc_mapf (j := 1) (em := mOp (gIn false) (mVar 1) (mC (.str "abcdefghijklmnopqrstuvwxyz"))) (ρ := [some (.str s), none]) (φ := fun c => D.str ⟨#[c]⟩) (f := fun c => D.bl (decide (c ∈ letters))) (xs := s.cps.toList) (fun x _ => by simp)
        simp [hs, h1, h2, hl, h3, e, wordS, okStr]
      · simp [hs, h1, h2, wordS, okStr]
    · simp [hs, h1, wordS, okStr]
  | _ => simp [wordS]
theorem r_is_name (d : D) (h : allS smS d) : m_is_name [d] = some (.bl (nameS d)) := by
  unfold m_is_name b_is_name
  rw [e_run1]
  simp [r_is_word d h, nameS]
/-- for x in xs: if not p(x): return r -/
theorem loop_all {α : Type} {i : Nat} {body : S} {φ : α → D} {p : α → Bool} {ρ : Env} {r : D} (h : ∀ x, body (ρ.set i (some (φ x))) = if p x = true then some (.nx (ρ.set i (some (φ x)))) else some (.rt r)) :
    ∀ (xs : List α) (v : Option D), ∃ u, loopS i body (xs.map φ) (ρ.set i v) = if xs.all p = true then some (.nx (ρ.set i u)) else some (.rt r)
  | [], v => ⟨v, rfl⟩
  | x :: xs, v => by
    have e : loopS i body ((x :: xs).map φ) (ρ.set i v) = (match body ((ρ.set i v).set i (some (φ x))) with | some (.nx ρ') => loopS i body (xs.map φ) ρ' | o => o) := rfl
    rw [e, List.set_set, h x]
    by_cases hp : p x = true
    · obtain ⟨u, hu⟩ := loop_all h xs (some (φ x))
      rw [if_pos hp]
      exact ⟨u, by simp only [hu, List.all_cons, hp, Bool.true_and]⟩
    · rw [if_neg hp]
      exact ⟨v, by simp [hp]⟩
theorem r__law_is_word (d : D) (h : allS smS d) : m__law_is_word [d] = some (.bl (nameS d)) := by
  unfold m__law_is_word b__law_is_word
  rw [e_run1]
  cases d with
  | str s =>
    have hs : s.length ≤ 16777216 := smS.line h
    obtain ⟨u, hu⟩ := loop_all (i := 1) (body := sIf (mOp (gIn true) (mVar 1) (mC (.str "abcdefghijklmnopqrstuvwxyz"))) (sRet (mC (.bl false))) sNext) (φ := fun c => D.str ⟨#[c]⟩) (p := fun c => decide (c ∈ letters)) (ρ := [some (.str s), none]) (r := .bl false)
      (fun x => by by_cases hx : x ∈ letters <;> simp [hx]) s.cps.toList none
    have hu : loopS 1 (sIf (mOp (gIn true) (mVar 1) (mC (.str "abcdefghijklmnopqrstuvwxyz"))) (sRet (mC (.bl false))) sNext) (s.cps.toList.map fun c => D.str ⟨#[c]⟩) [some (.str s), none] = _ := hu
    have e1 : nameS (D.str s) = ((decide (1 ≤ s.length) && decide (s.length ≤ 8) && s.cps.toList.all (fun c => decide (c ∈ letters))) && !isIn (.str s) noNames) := rfl
    rw [e1]
    generalize s.cps.toList.all (fun c => decide (c ∈ letters)) = bb at hu ⊢
    have e0 : isIn (D.str s) ["if", "fork", "each", "fold", "start", "await", "max", "min"] = isIn (D.str s) noNames := rfl
    by_cases h1 : 1 ≤ s.length
    · by_cases h2 : s.length ≤ 8
      · have h3 : ¬ (s.length : Int) < 1 := by omega
        have h4 : ¬ (8 : Int) < s.length := by omega
        cases bb <;> simp at hu <;> simp [hs, h1, h2, h3, h4, hu, e0]
      · have h4 : (8 : Int) < s.length := by omega
        simp [hs, h2, h4]
    · have h3 : (s.length : Int) < 1 := by omega
      simp [hs, h1, h3]
  | _ => simp [wordS, nameS]
/-! expressions -/
def exprF : Nat → List Str → D → Bool
  | 0, _, _ => false
  | n + 1, L, d => match d with
    | .tup [.str k, a] => if k = "number" then valS a else if k = "word" then nameS a else if k = "local" then nameS a && isIn a L else false
    | .tup [.str k, a, b, c] => if k = "do" then isIn a opsA && (exprF n L b && exprF n L c) else false
    | _ => false
def beginS : D → Bool
  | .tup (.str _ :: _) => true
  | _ => false
theorem r_begins (d : D) : m_begins_with_word [d] = some (.bl (beginS d)) := by
  unfold m_begins_with_word b_begins_with_word
  rw [e_run1]
  cases d with
  | tup xs =>
    cases xs with
    | nil => simp [beginS]
    | cons x xs =>
      have h : (0 : Int) < (xs.length : Int) + 1 := by omega
      cases x <;> simp [beginS, h]
  | _ => simp [beginS]
theorem r_one_of (d : D) (ss : List Str) : m_is_one_of [d, .tup (ss.map D.str)] = some (.bl (isIn d ss)) := by
  unfold m_is_one_of b_is_one_of
  rw [e_run2]
  cases d <;> simp [isIn]
theorem r_is_expression : ∀ (n : Nat) (d : D) (L : List Str), Fit n d → m_is_expression n [d, .lst (L.map .str)] = some (.bl (exprF n L d))
  | 0, d, L, h => absurd h.dp (Nat.not_lt_zero _)
  | n + 1, d, L, h => by
    show mRun 2 3 (b_is_expression m_begins_with_word m_is_value m_is_name m_is_one_of (m_is_expression n)) _ = _
    unfold b_is_expression
    rw [e_run2]
    have ih := r_is_expression n
    cases d with
    | tup xs =>
      have hx := h.tup
      match xs, hx with
      | [], _ => simp [r_begins, beginS, exprF]
      | x :: r, hx =>
        cases x with
        | str k =>
          match r, hx with
          | [], _ =>
            by_cases k1 : k = "number" <;> by_cases k2 : k = "word" <;> by_cases k3 : k = "local" <;> by_cases k4 : k = "do" <;> simp [r_begins, beginS, exprF, look_p, *]
          | [a], hx =>
            have ha := hx.cons.2.cons.1
            by_cases k1 : k = "number"
            · subst k1; simp [r_begins, beginS, exprF, look_p, r_is_value]
            · by_cases k2 : k = "word"
              · subst k2; simp [r_begins, beginS, exprF, look_p, r_is_name a ha.sm]
              · by_cases k3 : k = "local"
                · subst k3; simp [r_begins, beginS, exprF, look_p, r_is_name a ha.sm]
                · by_cases k4 : k = "do" <;> simp [r_begins, beginS, exprF, look_p, *]
          | [a, b], _ =>
            by_cases k1 : k = "number" <;> by_cases k2 : k = "word" <;> by_cases k3 : k = "local" <;> by_cases k4 : k = "do" <;> simp [r_begins, beginS, exprF, look_p, *]
          | [a, b, c], hx =>
            have hb := hx.cons.2.cons.2.cons.1
            have hc := hx.cons.2.cons.2.cons.2.cons.1
            by_cases k1 : k = "number"
            · simp [r_begins, beginS, exprF, look_p, *]
            · by_cases k2 : k = "word"
              · simp [r_begins, beginS, exprF, look_p, *]
              · by_cases k3 : k = "local"
                · simp [r_begins, beginS, exprF, look_p, *]
                · by_cases k4 : k = "do"
                  · subst k4
                    simp [r_begins, beginS, exprF, look_p, r_one_of, lcLoop, ih b L hb, ih c L hc]
                  · simp [r_begins, beginS, exprF, look_p, *]
          | a :: b :: c :: e :: r, _ =>
            have l2 : ¬ ((r.length : Int) + 1 + 1 + 1 + 1 + 1 = 2) := by omega
            have l4 : ¬ ((r.length : Int) + 1 + 1 + 1 + 1 + 1 = 4) := by omega
            by_cases k1 : k = "number" <;> by_cases k2 : k = "word" <;> by_cases k3 : k = "local" <;> by_cases k4 : k = "do" <;> simp [r_begins, beginS, exprF, look_p, *]
        | _ => simp [r_begins, beginS, exprF]
    | _ => simp [r_begins, beginS, exprF]
end ML
set_option Elab.async false
set_option linter.all false
set_option maxRecDepth 100000
set_option maxHeartbeats 4000000
/-! statements, blocks: what both readers say -/
namespace ML
open PySem PySem.Spec PyProof.Rows L2
theorem r__law_is_expression : ∀ (n : Nat) (d : D) (L : List Str), Fit n d → m__law_is_expression n [d, .lst (L.map .str)] = some (.bl (exprF n L d))
  | 0, d, L, h => absurd h.dp (Nat.not_lt_zero _)
  | n + 1, d, L, h => by
    show mRun 2 2 (b__law_is_expression m__law_is_word (m__law_is_expression n)) _ = _
    unfold b__law_is_expression
    rw [e_run2]
    have ih := r__law_is_expression n
    have eo : ∀ x, isIn x ["+", "-", "*", "max", "min", "<", "="] = isIn x opsA := fun _ => rfl
    cases d with
    | tup xs =>
      have hx := h.tup
      match xs, hx with
      | [], _ => simp [exprF]
      | x :: r, hx =>
        cases x with
        | str k =>
          match r, hx with
          | [], _ => simp [exprF]
          | [a], hx =>
            have ha := hx.cons.2.cons.1
            by_cases k1 : k = "number"
            · subst k1; cases a <;> simp [exprF, valS]
            · by_cases k2 : k = "word"
              · subst k2; simp [exprF, r__law_is_word a ha.sm]
              · by_cases k3 : k = "local"
                · subst k3; simp [exprF, r__law_is_word a ha.sm]
                · by_cases k4 : k = "do" <;> simp [exprF, *]
          | [a, b], _ =>
            by_cases k1 : k = "number" <;> by_cases k2 : k = "word" <;> by_cases k3 : k = "local" <;> by_cases k4 : k = "do" <;> simp [exprF, *]
          | [a, b, c], hx =>
            have hb := hx.cons.2.cons.2.cons.1
            have hc := hx.cons.2.cons.2.cons.2.cons.1
            by_cases k4 : k = "do"
            · subst k4
              simp [exprF, ih b L hb, ih c L hc, eo]
            · by_cases k1 : k = "number" <;> by_cases k2 : k = "word" <;> by_cases k3 : k = "local" <;> simp [exprF, *]
          | a :: b :: c :: e :: r, _ =>
            have l2 : ¬ ((r.length : Int) + 1 + 1 + 1 + 1 + 1 = 2) := by omega
            have l4 : ¬ ((r.length : Int) + 1 + 1 + 1 + 1 + 1 = 4) := by omega
            have l5 : ¬ ((r.length : Int) + 1 + 1 + 1 + 1 + 1 < 2) := by omega
            by_cases k1 : k = "number" <;> by_cases k2 : k = "word" <;> by_cases k3 : k = "local" <;> by_cases k4 : k = "do" <;> simp [exprF, *]
        | _ =>
          match r with
          | [] => simp [exprF]
          | a :: r =>
            have l5 : ¬ ((r.length : Int) + 1 + 1 < 2) := by omega
            simp [exprF, l5]
    | _ => simp [exprF]
/-! statements -/
def strs1 : D → List Str
  | .str s => [s]
  | _ => []
def forkS (f : D → Bool) : D → Bool
  | .tup bs => decide (1 ≤ bs.length) && (decide (bs.length ≤ 4) && bs.all f)
  | _ => false
def stG (blk : List Str → List Str → D → Bool) (L T : List Str) : D → Bool
  | .tup [.str k, a] => if k = "await" then nameS a && isIn a T else if k = "fork" then forkS (blk L T) a else false
  | .tup [.str k, a, b] => if k = "set" then nameS a && exprF 40 L b else if k = "start" then nameS a && blk L T b else false
  | .tup [.str k, a, b, c] => if k = "add" then nameS a && (isIn b opsB && exprF 40 L c) else if k = "if" then exprF 40 L a && (blk L T b && blk L T c) else if k = "each" then nameS a && (exprF 40 L b && blk (L ++ strs1 a) T c) else false
  | .tup [.str k, a, b, c, e, f] => if k = "fold" then nameS a && (isIn b opsC && (nameS c && (exprF 40 L e && exprF 40 (L ++ strs1 c) f))) else false
  | _ => false
def startOf : D → List Str
  | .tup (.str k :: .str a :: _) => if k = "start" then [a] else []
  | _ => []
def seqF (st : List Str → D → Bool) : List Str → List D → Bool
  | _, [] => true
  | T, s :: r => st T s && seqF st (T ++ startOf s) r
mutual
def stF : Nat → List Str → List Str → D → Bool
  | 0, _, _, _ => false
  | n + 1, L, T, d => stG (blF n) L T d
def blF : Nat → List Str → List Str → D → Bool
  | 0, _, _, _ => false
  | n + 1, L, T, d => match d with
    | .tup ss => seqF (stF n L) T ss
    | _ => false
end
theorem kw (k : Str) : k = "set" ∨ k = "add" ∨ k = "if" ∨ k = "fork" ∨ k = "each" ∨ k = "fold" ∨ k = "start" ∨ k = "await" ∨ (k ≠ "set" ∧ k ≠ "add" ∧ k ≠ "if" ∧ k ≠ "fork" ∧ k ≠ "each" ∧ k ≠ "fold" ∧ k ≠ "start" ∧ k ≠ "await") := by
  by_cases h1 : k = "set"; · simp [h1]
  by_cases h2 : k = "add"; · simp [h2]
  by_cases h3 : k = "if"; · simp [h3]
  by_cases h4 : k = "fork"; · simp [h4]
  by_cases h5 : k = "each"; · simp [h5]
  by_cases h6 : k = "fold"; · simp [h6]
  by_cases h7 : k = "start"; · simp [h7]
  by_cases h8 : k = "await"; · simp [h8]
  simp [h1, h2, h3, h4, h5, h6, h7, h8]
theorem nameS_str {d : D} (h : nameS d = true) : ∃ s, d = .str s := by
  cases d with
  | str s => exact ⟨s, rfl⟩
  | _ => simp [nameS, wordS] at h
theorem stG_shape {blk : List Str → List Str → D → Bool} {L T : List Str} {d : D} (h : stG blk L T d = true) : ∃ k r, d = .tup (.str k :: r) ∧ (k = "start" → ∃ a r', r = .str a :: r') := by
  unfold stG at h
  split at h
  · rename_i k a
    refine ⟨k, [a], rfl, fun e => ?_⟩
    subst e
    simp at h
  · rename_i k a b
    refine ⟨k, [a, b], rfl, fun e => ?_⟩
    subst e
    simp at h
    obtain ⟨s, rfl⟩ := nameS_str h.1
    exact ⟨s, [b], rfl⟩
  · rename_i k a b c
    refine ⟨k, [a, b, c], rfl, fun e => ?_⟩
    subst e
    simp at h
  · rename_i k a b c e f
    refine ⟨k, [a, b, c, e, f], rfl, fun e => ?_⟩
    subst e
    simp at h
  · cases h
/-- the walk over a block's statements -/
def bodyB (g : List D → Option D) : S := (sSeq (sIf (mNot (mCall g (mCons (mVar 4) (mCons (mVar 1) (mCons (mVar 3) mNil))))) (sRet (mC (.bl false))) sNext)
  (sIf (mOp gEq (mOp gIx (mVar 4) (mC (.int 0))) (mC (.str "start"))) (sApp [3] 3 (mOp gIx (mVar 4) (mC (.int 1)))) sNext))
theorem block_loop {g : List D → Option D} {st : List Str → D → Bool} {v l t : D} {M : Nat} (hM : M ≤ 10000000)
    (hs : ∀ T s, st T s = true → ∃ k r, s = .tup (.str k :: r) ∧ (k = "start" → ∃ a r', r = .str a :: r')) :
    ∀ (ss : List D) (T : List Str) (u : Option D), T.length + cnts ss ≤ M → (∀ (T' : List Str) s, s ∈ ss → T'.length + cnt s ≤ M → g [s, l, .lst (T'.map .str)] = some (.bl (st T' s))) →
    (seqF st T ss = true → ∃ (T' : List Str) (u' : Option D), loopS 4 (bodyB g) ss [some v, some l, some t, some (.lst (T.map .str)), u] = some (.nx [some v, some l, some t, some (.lst (T'.map .str)), u'])) ∧
    (seqF st T ss = false → loopS 4 (bodyB g) ss [some v, some l, some t, some (.lst (T.map .str)), u] = some (.rt (.bl false)))
  | [], T, u, _, _ => ⟨fun _ => ⟨T, u, rfl⟩, fun h => by cases h⟩
  | s :: r, T, u, hz, hg => by
    have e : loopS 4 (bodyB g) (s :: r) [some v, some l, some t, some (.lst (T.map .str)), u] = (match bodyB g [some v, some l, some t, some (.lst (T.map .str)), some s] with | some (.nx ρ') => loopS 4 (bodyB g) r ρ' | o => o) := rfl
    rw [e]
    simp only [cnts] at hz
    have h1 := hg T s List.mem_cons_self (by omega)
    unfold seqF
    cases hst : st T s with
    | false =>
      rw [hst] at h1
      have eb : bodyB g [some v, some l, some t, some (.lst (T.map .str)), some s] = some (.rt (.bl false)) := by
        unfold bodyB
        simp [h1]
      rw [eb]
      exact ⟨fun h => by simp at h, fun _ => rfl⟩
    | true =>
      rw [hst] at h1
      obtain ⟨k, r', rfl, hk⟩ := hs T s hst
      by_cases k1 : k = "start"
      · obtain ⟨a, r'', rfl⟩ := hk k1
        subst k1
        have hl : T.length < 16777216 := by omega
        have eb : bodyB g [some v, some l, some t, some (.lst (T.map .str)), some (.tup (.str "start" :: .str a :: r''))] = some (.nx [some v, some l, some t, some (.lst ((T ++ [a]).map .str)), some (.tup (.str "start" :: .str a :: r''))]) := by
          unfold bodyB
          simp [h1, hl]
        rw [eb]
        have hso : startOf (.tup (.str "start" :: .str a :: r'')) = [a] := by simp [startOf]
        rw [hso, Bool.true_and]
        exact block_loop hM hs r (T ++ [a]) _ (by have := cnt_pos (.tup (.str "start" :: .str a :: r'')); simp only [List.length_append, List.length_cons, List.length_nil]; omega) fun T' x hx hx' => hg T' x (List.mem_cons_of_mem _ hx) hx'
      · have eb : bodyB g [some v, some l, some t, some (.lst (T.map .str)), some (.tup (.str k :: r'))] = some (.nx [some v, some l, some t, some (.lst (T.map .str)), some (.tup (.str k :: r'))]) := by
          unfold bodyB
          simp [h1, k1]
        rw [eb]
        have hso : startOf (.tup (.str k :: r')) = [] := by
          unfold startOf
          split
          · rename_i heq; cases heq; simp [k1]
          · rfl
        rw [hso, List.append_nil, Bool.true_and]
        exact block_loop hM hs r T _ (by omega) fun T' x hx hx' => hg T' x (List.mem_cons_of_mem _ hx) hx'
theorem run_block {g : List D → Option D} {st : List Str → D → Bool} {l d : D} {T : List Str} (hs : ∀ T s, st T s = true → ∃ k r, s = .tup (.str k :: r) ∧ (k = "start" → ∃ a r', r = .str a :: r')) (hz : T.length + cnt d ≤ 10000000)
    (hg : ∀ (ss : List D), d = .tup ss → ∀ (T' : List Str) s, s ∈ ss → T'.length + cnt s ≤ T.length + cnt d → g [s, l, .lst (T'.map .str)] = some (.bl (st T' s))) :
    mRun 3 5 (b_is_block g) [d, l, .lst (T.map .str)] = some (.bl (match d with | .tup ss => seqF st T ss | _ => false)) := by
  unfold b_is_block
  rw [e_run3]
  cases d with
  | tup ss =>
    have h := block_loop (v := .tup ss) (l := l) (t := .lst (T.map .str)) hz hs ss T none (by simp only [cnt]; omega) (hg ss rfl)
    cases hq : seqF st T ss with
    | true =>
      obtain ⟨T', u, e⟩ := h.1 hq
      unfold bodyB at e
      simp [e, hq]
    | false =>
      have e := h.2 hq
      unfold bodyB at e
      simp [e, hq]
  | _ => simp
theorem exprM {L : List Str} {s : Str} {d : D} (h : Fit 40 d) : m_is_expression 40 [d, .lst (L.map .str ++ [.str s])] = some (.bl (exprF 40 (L ++ [s]) d)) := by
  have := r_is_expression 40 d (L ++ [s]) h
  rwa [List.map_append] at this
theorem exprN {L : List Str} {s : Str} {d : D} (h : Fit 40 d) : m__law_is_expression 40 [d, .lst (L.map .str ++ [.str s])] = some (.bl (exprF 40 (L ++ [s]) d)) := by
  have := r__law_is_expression 40 d (L ++ [s]) h
  rwa [List.map_append] at this
theorem r_set {L : List Str} {a b : D} (ha : Fit 40 a) (hb : Fit 40 b) : m_is_set [.tup [.str "set", a, b], .lst (L.map .str)] = some (.bl (nameS a && exprF 40 L b)) := by
  unfold m_is_set b_is_set
  rw [e_run2]
  simp [r_is_name a ha.sm, r_is_expression 40 b L hb]
theorem r_add {L : List Str} {a b c : D} (ha : Fit 40 a) (hc : Fit 40 c) : m_is_set [.tup [.str "add", a, b, c], .lst (L.map .str)] = some (.bl (nameS a && (isIn b opsB && exprF 40 L c))) := by
  unfold m_is_set b_is_set
  rw [e_run2]
  simp [r_is_name a ha.sm, r_is_expression 40 c L hc, r_one_of]
theorem r_fold {L : List Str} {a b c e f : D} (hL : L.length ≤ 10000) (ha : Fit 40 a) (hc : Fit 40 c) (he : Fit 40 e) (hf : Fit 40 f) : m_is_set [.tup [.str "fold", a, b, c, e, f], .lst (L.map .str)] = some (.bl (nameS a && (isIn b opsC && (nameS c && (exprF 40 L e && exprF 40 (L ++ strs1 c) f))))) := by
  unfold m_is_set b_is_set
  rw [e_run2]
  have h1 : L.length + 1 ≤ 16777216 := by omega
  cases hn : nameS c with
  | false => simp [r_is_name a ha.sm, r_is_name c hc.sm, hn, r_one_of]
  | true =>
    obtain ⟨s, rfl⟩ := nameS_str hn
    simp [r_is_name a ha.sm, r_is_name _ hc.sm, hn, r_one_of, h1, exprM hf, r_is_expression 40 e L he, strs1]
/-- the statement's fit, part by part -/
theorem Fit40 {n : Nat} (hn : n ≤ 40) {d : D} (h : Fit n d) : Fit 40 d := h.mono hn
theorem all_false {α : Type} {f : α → Bool} : ∀ {xs : List α}, xs.all f = xs.all f := rfl
theorem r_stmt {n : Nat} (hn : n ≤ 40) {d : D} {L T : List Str} (hL : L.length ≤ 10000) (h : Fit n d) {g : List D → Option D} {blk : List Str → List Str → D → Bool}
    (hg : ∀ (b : D) (L' : List Str), L'.length ≤ L.length + 1 → (∃ m, m < n ∧ Fit m b) → cnt b ≤ cnt d → g [b, .lst (L'.map .str), .lst (T.map .str)] = some (.bl (blk L' T b))) :
    mRun 3 5 (b_is_statement m_begins_with_word m_is_set (m_is_expression 40) g m_is_name) [d, .lst (L.map .str), .lst (T.map .str)] = some (.bl (stG blk L T d)) := by
  unfold b_is_statement
  rw [e_run3]
  cases d with
  | tup xs =>
    cases n with
    | zero => exact absurd h.dp (Nat.not_lt_zero _)
    | succ n =>
    have hx := h.tup
    have hcz : ∀ b ∈ xs, cnt b ≤ cnt (.tup xs) := fun b hb => by
      have : ∀ ys : List D, b ∈ ys → cnt b ≤ cnts ys := fun ys => by
        induction ys with
        | nil => intro z; cases z
        | cons y ys ih =>
          intro z
          simp only [cnts]
          rcases List.mem_cons.mp z with e | e
          · subst e; omega
          · have := ih e; omega
      have := this xs hb
      simp only [cnt]; omega
    have gg : ∀ b, b ∈ xs → ∀ L', L'.length ≤ L.length + 1 → g [b, .lst (L'.map .str), .lst (T.map .str)] = some (.bl (blk L' T b)) := fun b hb L' hl => hg b L' hl ⟨n, Nat.lt_succ_self n, hx.mem hb⟩ (hcz b hb)
    have h40 : ∀ b, b ∈ xs → Fit 40 b := fun b hb => (hx.mem hb).mono (by omega)
    have gL : ∀ b, b ∈ xs → g [b, .lst (L.map .str), .lst (T.map .str)] = some (.bl (blk L T b)) := fun b hb => gg b hb L (by omega)
    match xs, h40, gg, gL, h with
    | [], _, _, _, _ => simp [r_begins, beginS, stG]
    | x :: r, h40, gg, gL, h =>
      cases x with
      | str k =>
        match r, h40, gg, gL, h with
        | [], _, _, _, _ => rcases kw k with e | e | e | e | e | e | e | e | e <;> simp [r_begins, beginS, stG, look_s, *]
        | [a], h40, gg, gL, h =>
          have ha := h40 a (by simp)
          rcases kw k with e | e | e | e | e | e | e | e | e
          case inr.inr.inr.inl =>
            subst e
            cases a with
            | tup bs =>
              by_cases h1 : 1 ≤ bs.length
              · by_cases h4 : bs.length ≤ 4
                · have hz : bs.length < 16777216 := by omega
                  have n4 : ((bs.length : Int) ≤ 4) := by omega
                  have hb : ∀ b ∈ bs, g [b, .lst (L.map .str), .lst (T.map .str)] = some (.bl (blk L T b)) := fun b hb => by
                    cases n with
                    | zero => exact absurd (hx.cons.2.cons.1).dp (Nat.not_lt_zero _)
                    | succ n =>
                      refine hg b L (by omega) ⟨n, by omega, (hx.cons.2.cons.1).tup.mem hb⟩ ?_
                      have : ∀ ys : List D, b ∈ ys → cnt b ≤ cnts ys := fun ys => by
                        induction ys with
                        | nil => intro z; cases z
                        | cons y ys ih =>
                          intro z
                          simp only [cnts]
                          rcases List.mem_cons.mp z with e | e
                          · subst e; omega
                          · have := ih e; omega
                      have := this bs hb
                      simp only [cnt, cnts]; omega
                  have e := lc_map (j := 3) (em := mCall g (mCons (mVar 3) (mCons (mVar 1) (mCons (mVar 2) mNil)))) (ρ := [some (.tup [.str "fork", .tup bs]), some (.lst (L.map .str)), some (.lst (T.map .str)), none, none]) (f := fun b => D.bl (blk L T b)) (ds := bs) (fun b hb' => by simp [hb b hb'])
                  simp [r_begins, beginS, stG, look_s, isIn, forkS, h1, h4, n4, hz, e]
                · have n4 : ¬ ((bs.length : Int) ≤ 4) := by omega
                  simp [r_begins, beginS, stG, look_s, isIn, forkS, h1, h4, n4]
              · simp [r_begins, beginS, stG, look_s, isIn, forkS, h1]
            | _ => simp [r_begins, beginS, stG, look_s, isIn, forkS]
          case inr.inr.inr.inr.inr.inr.inr.inl => subst e; simp [r_begins, beginS, stG, look_s, isIn, r_is_name a ha.sm]
          all_goals simp [r_begins, beginS, stG, look_s, *]
        | [a, b], h40, gg, gL, h =>
          have ha := h40 a (by simp)
          have hb := h40 b (by simp)
          rcases kw k with e | e | e | e | e | e | e | e | e
          case inl => subst e; simp [r_begins, beginS, stG, look_s, r_set ha hb, isIn]
          case inr.inr.inr.inr.inr.inr.inl => subst e; simp [r_begins, beginS, stG, look_s, r_is_name a ha.sm, gL b (by simp), isIn]
          all_goals simp [r_begins, beginS, stG, look_s, *]
        | [a, b, c], h40, gg, gL, h =>
          have ha := h40 a (by simp)
          have hb := h40 b (by simp)
          have hc := h40 c (by simp)
          rcases kw k with e | e | e | e | e | e | e | e | e
          case inr.inl => subst e; simp [r_begins, beginS, stG, look_s, r_add ha hc, isIn]
          case inr.inr.inl => subst e; simp [r_begins, beginS, stG, look_s, r_is_expression 40 a L ha, lcLoop, gL b (by simp), gL c (by simp), isIn]
          case inr.inr.inr.inr.inl =>
            subst e
            cases hn : nameS a with
            | false => simp [r_begins, beginS, stG, look_s, r_is_name a ha.sm, hn, isIn]
            | true =>
              obtain ⟨s, rfl⟩ := nameS_str hn
              have gs := gg c (by simp) (L ++ [s]) (by simp)
              rw [List.map_append] at gs
              have hz : L.length + 1 ≤ 16777216 := by omega
              simp [r_begins, beginS, stG, look_s, r_is_name _ ha.sm, hn, r_is_expression 40 b L hb, hz, strs1, isIn]
              simp at gs
              simp [gs]
          all_goals simp [r_begins, beginS, stG, look_s, *]
        | [a, b, c, e1], _, _, _, _ => rcases kw k with e | e | e | e | e | e | e | e | e <;> simp [r_begins, beginS, stG, look_s, *]
        | [a, b, c, e1, f], h40, gg, gL, h =>
          rcases kw k with e | e | e | e | e | e | e | e | e
          case inr.inr.inr.inr.inr.inl => subst e; simp [r_begins, beginS, stG, look_s, isIn, r_fold hL (h40 a (by simp)) (h40 c (by simp)) (h40 e1 (by simp)) (h40 f (by simp))]
          all_goals simp [r_begins, beginS, stG, look_s, *]
        | a :: b :: c :: e1 :: f :: i :: r, _, _, _, _ =>
          have l2 : ¬ ((r.length : Int) + 1 + 1 + 1 + 1 + 1 + 1 + 1 = 2) := by omega
          have l3 : ¬ ((r.length : Int) + 1 + 1 + 1 + 1 + 1 + 1 + 1 = 3) := by omega
          have l4 : ¬ ((r.length : Int) + 1 + 1 + 1 + 1 + 1 + 1 + 1 = 4) := by omega
          have l6 : ¬ ((r.length : Int) + 1 + 1 + 1 + 1 + 1 + 1 + 1 = 6) := by omega
          rcases kw k with e | e | e | e | e | e | e | e | e <;> simp [r_begins, beginS, stG, look_s, *]
      | _ => simp [r_begins, beginS, stG]
  | _ => simp [r_begins, beginS, stG]
end ML
set_option Elab.async false
set_option linter.all false
set_option maxRecDepth 100000
set_option maxHeartbeats 4000000
/-! the law's own reader, and both at any depth -/
namespace ML
open PySem PySem.Spec PyProof.Rows L2
theorem loop_allm {i : Nat} {body : S} {p : D → Bool} {ρ : Env} {r : D} : ∀ (xs : List D) (v : Option D), (∀ x ∈ xs, body (ρ.set i (some x)) = if p x = true then some (.nx (ρ.set i (some x))) else some (.rt r)) →
    ∃ u, loopS i body xs (ρ.set i v) = if xs.all p = true then some (.nx (ρ.set i u)) else some (.rt r)
  | [], v, _ => ⟨v, rfl⟩
  | x :: xs, v, h => by
    have e : loopS i body (x :: xs) (ρ.set i v) = (match body ((ρ.set i v).set i (some x)) with | some (.nx ρ') => loopS i body xs ρ' | o => o) := rfl
    rw [e, List.set_set, h x List.mem_cons_self]
    by_cases hp : p x = true
    · obtain ⟨u, hu⟩ := loop_allm xs (some x) fun y hy => h y (List.mem_cons_of_mem _ hy)
      rw [if_pos hp]
      exact ⟨u, by simp only [hu, List.all_cons, hp, Bool.true_and]⟩
    · rw [if_neg hp]
      exact ⟨v, by simp [hp]⟩
theorem cnt_mem {b : D} : ∀ {ys : List D}, b ∈ ys → cnt b ≤ cnts ys
  | [], z => by cases z
  | y :: ys, z => by
    simp only [cnts]
    rcases List.mem_cons.mp z with e | e
    · subst e; omega
    · have := cnt_mem e; omega
theorem r_comp {n : Nat} (hn : n ≤ 40) {k : Str} {r : List D} {L T : List Str} (hL : L.length ≤ 10000) (h : Fit n (.tup (.str k :: r))) {g : List D → Option D} {blk : List Str → List Str → D → Bool}
    (hg : ∀ (b : D) (L' : List Str), L'.length ≤ L.length + 1 → (∃ m, m < n ∧ Fit m b) → cnt b ≤ cnt (.tup (.str k :: r)) → g [b, .lst (L'.map .str), .lst (T.map .str)] = some (.bl (blk L' T b))) :
    c__law_is_compound g [.tup (.str k :: r), .lst (L.map .str), .lst (T.map .str)] = some (.bl (if k = "set" ∨ k = "add" ∨ k = "fold" ∨ k = "await" then false else stG blk L T (.tup (.str k :: r)))) := by
  unfold c__law_is_compound b__law_is_compound
  rw [e_run3]
  cases n with
  | zero => exact absurd h.dp (Nat.not_lt_zero _)
  | succ n =>
  have hx := h.tup
  have hcz : ∀ b ∈ r, cnt b ≤ cnt (.tup (.str k :: r)) := fun b hb => by
    have := cnt_mem hb
    simp only [cnt, cnts]; omega
  have gg : ∀ b, b ∈ r → ∀ L', L'.length ≤ L.length + 1 → g [b, .lst (L'.map .str), .lst (T.map .str)] = some (.bl (blk L' T b)) := fun b hb L' hl => hg b L' hl ⟨n, Nat.lt_succ_self n, hx.mem (List.mem_cons_of_mem _ hb)⟩ (hcz b hb)
  have h40 : ∀ b, b ∈ r → Fit 40 b := fun b hb => (hx.mem (List.mem_cons_of_mem _ hb)).mono (by omega)
  have gL : ∀ b, b ∈ r → g [b, .lst (L.map .str), .lst (T.map .str)] = some (.bl (blk L T b)) := fun b hb => gg b hb L (by omega)
  match r, h40, gg, gL, h with
  | [], _, _, _, _ => rcases kw k with e | e | e | e | e | e | e | e | e <;> simp [stG, *]
  | [a], h40, gg, gL, h =>
    have ha := h40 a (by simp)
    rcases kw k with e | e | e | e | e | e | e | e | e
    case inr.inr.inr.inl =>
      subst e
      cases a with
      | tup bs =>
        by_cases h1 : 1 ≤ bs.length
        · have n1 : ¬ ((bs.length : Int) < 1) := by omega
          by_cases h4 : bs.length ≤ 4
          · have n4 : ¬ ((4 : Int) < bs.length) := by omega
            have hb : ∀ b ∈ bs, g [b, .lst (L.map .str), .lst (T.map .str)] = some (.bl (blk L T b)) := fun b hb => by
              cases n with
              | zero => exact absurd (hx.cons.2.cons.1).dp (Nat.not_lt_zero _)
              | succ n =>
                refine hg b L (by omega) ⟨n, by omega, (hx.cons.2.cons.1).tup.mem hb⟩ ?_
                have := cnt_mem hb
                simp only [cnt, cnts]; omega
            obtain ⟨u, hu⟩ := loop_allm (i := 4) (body := sIf (mNot (mCall g (mCons (mVar 4) (mCons (mVar 1) (mCons (mVar 2) mNil))))) (sRet (mC (.bl false))) sNext) (p := blk L T) (ρ := [some (.tup [.str "fork", .tup bs]), some (.lst (L.map .str)), some (.lst (T.map .str)), some (.str "fork"), none]) (r := .bl false) bs none
              (fun x hx => by cases hq : blk L T x <;> simp [hb x hx, hq])
            have hu : loopS 4 (sIf (mNot (mCall g (mCons (mVar 4) (mCons (mVar 1) (mCons (mVar 2) mNil))))) (sRet (mC (.bl false))) sNext) bs [some (.tup [.str "fork", .tup bs]), some (.lst (L.map .str)), some (.lst (T.map .str)), some (.str "fork"), none] = _ := hu
            have e1 : stG blk L T (.tup [.str "fork", .tup bs]) = (decide (1 ≤ bs.length) && (decide (bs.length ≤ 4) && bs.all (blk L T))) := by simp [stG, forkS]
            rw [e1]
            generalize bs.all (blk L T) = bb at hu ⊢
            cases bb <;> simp at hu <;> simp [h1, h4, n1, n4, hu]
          · have n4 : ((4 : Int) < bs.length) := by omega
            simp [stG, forkS, h1, h4, n1, n4]
        · have n1 : ((bs.length : Int) < 1) := by omega
          simp [stG, forkS, h1, n1]
      | _ => simp [stG, forkS]
    all_goals simp [stG, *]
  | [a, b], h40, gg, gL, h =>
    have ha := h40 a (by simp)
    rcases kw k with e | e | e | e | e | e | e | e | e
    case inr.inr.inr.inr.inr.inr.inl => subst e; cases hn : nameS a <;> simp [stG, r__law_is_word a ha.sm, hn, gL b (by simp)]
    all_goals simp [stG, *]
  | [a, b, c], h40, gg, gL, h =>
    have ha := h40 a (by simp)
    have hb := h40 b (by simp)
    rcases kw k with e | e | e | e | e | e | e | e | e
    case inr.inr.inl => subst e; cases he : exprF 40 L a <;> simp [stG, r__law_is_expression 40 a L ha, he, gL b (by simp), gL c (by simp)]
    case inr.inr.inr.inr.inl =>
      subst e
      cases hn : nameS a with
      | false => simp [stG, r__law_is_word a ha.sm, hn]
      | true =>
        obtain ⟨s, rfl⟩ := nameS_str hn
        have gs := gg c (by simp) (L ++ [s]) (by simp)
        rw [List.map_append] at gs
        have hz : L.length + 1 ≤ 16777216 := by omega
        simp at gs
        cases he : exprF 40 L b <;> simp [stG, r__law_is_word _ ha.sm, hn, r__law_is_expression 40 b L hb, he, hz, strs1, gs]
    all_goals simp [stG, *]
  | [a, b, c, e1], _, _, _, _ => rcases kw k with e | e | e | e | e | e | e | e | e <;> simp [stG, *]
  | [a, b, c, e1, f], _, _, _, _ => rcases kw k with e | e | e | e | e | e | e | e | e <;> simp [stG, *]
  | a :: b :: c :: e1 :: f :: i :: r, _, _, _, _ =>
    have l2 : ¬ ((r.length : Int) + 1 + 1 + 1 + 1 + 1 + 1 + 1 = 2) := by omega
    have l3 : ¬ ((r.length : Int) + 1 + 1 + 1 + 1 + 1 + 1 + 1 = 3) := by omega
    have l4 : ¬ ((r.length : Int) + 1 + 1 + 1 + 1 + 1 + 1 + 1 = 4) := by omega
    rcases kw k with e | e | e | e | e | e | e | e | e <;> simp [stG, *]
theorem r_lstmt {n : Nat} (hn : n ≤ 40) {d : D} {L T : List Str} (hL : L.length ≤ 10000) (h : Fit n d) {g : List D → Option D} {blk : List Str → List Str → D → Bool}
    (hg : ∀ (b : D) (L' : List Str), L'.length ≤ L.length + 1 → (∃ m, m < n ∧ Fit m b) → cnt b ≤ cnt d → g [b, .lst (L'.map .str), .lst (T.map .str)] = some (.bl (blk L' T b))) :
    mRun 3 4 (b__law_is_statement m__law_is_word (m__law_is_expression 40) (c__law_is_compound g)) [d, .lst (L.map .str), .lst (T.map .str)] = some (.bl (stG blk L T d)) := by
  unfold b__law_is_statement
  rw [e_run3]
  have eb : ∀ x, isIn x ["+", "*", "max", "min"] = isIn x opsB := fun _ => rfl
  have ec : ∀ x, isIn x ["+", "-", "*", "max", "min"] = isIn x opsC := fun _ => rfl
  cases d with
  | tup xs =>
    match xs with
    | [] => simp [stG]
    | x :: r =>
      cases x with
      | str k =>
        have hc := r_comp hn hL h hg
        have hx : Fits 39 (.str k :: r) := by
          cases n with
          | zero => exact absurd h.dp (Nat.not_lt_zero _)
          | succ n => exact h.tup.mono (by omega)
        have h40 : ∀ b, b ∈ r → Fit 40 b := fun b hb => (hx.mem (List.mem_cons_of_mem _ hb)).mono (by omega)
        match r, hc, h40 with
        | [], _, _ => simp [stG]
        | [a], hc, h40 =>
          have ha := h40 a (by simp)
          rcases kw k with rfl | rfl | rfl | rfl | rfl | rfl | rfl | rfl | e
          case inr.inr.inr.inr.inr.inr.inr.inl => simp [stG, r__law_is_word a ha.sm]
          all_goals simp [stG, *]
        | [a, b], hc, h40 =>
          have ha := h40 a (by simp)
          have hb := h40 b (by simp)
          rcases kw k with rfl | rfl | rfl | rfl | rfl | rfl | rfl | rfl | e
          case inl => simp [stG, r__law_is_word a ha.sm, r__law_is_expression 40 b L hb]
          all_goals simp [stG, *]
        | [a, b, c], hc, h40 =>
          have ha := h40 a (by simp)
          have hc3 := h40 c (by simp)
          rcases kw k with rfl | rfl | rfl | rfl | rfl | rfl | rfl | rfl | e
          case inr.inl => cases hn : nameS a <;> cases hb : isIn b opsB <;> simp [stG, r__law_is_word a ha.sm, hn, eb, hb, r__law_is_expression 40 c L hc3]
          all_goals simp [stG, *]
        | [a, b, c, e1], hc, h40 =>
          rcases kw k with rfl | rfl | rfl | rfl | rfl | rfl | rfl | rfl | e <;> simp [stG, *]
        | [a, b, c, e1, f], hc, h40 =>
          have ha := h40 a (by simp)
          have hc3 := h40 c (by simp)
          have he := h40 e1 (by simp)
          have hf := h40 f (by simp)
          rcases kw k with rfl | rfl | rfl | rfl | rfl | rfl | rfl | rfl | e
          case inr.inr.inr.inr.inr.inl =>
            have hz : L.length + 1 ≤ 16777216 := by omega
            cases hn : nameS a <;> cases hb : isIn b opsC <;> cases hq : nameS c
            case true.true.true =>
              obtain ⟨s, rfl⟩ := nameS_str hq
              cases he1 : exprF 40 L e1 <;> simp [stG, r__law_is_word _ ha.sm, r__law_is_word _ hc3.sm, hn, ec, hb, hq, r__law_is_expression 40 e1 L he, exprN hf, hz, strs1, he1]
            all_goals simp [stG, r__law_is_word _ ha.sm, r__law_is_word _ hc3.sm, hn, ec, hb, hq]
          all_goals simp [stG, *]
        | a :: b :: c :: e1 :: f :: i :: r, hc, h40 =>
          have l0 : ¬ ((r.length : Int) + 1 + 1 + 1 + 1 + 1 + 1 + 1 < 2) := by omega
          have l2 : ¬ ((r.length : Int) + 1 + 1 + 1 + 1 + 1 + 1 + 1 = 2) := by omega
          have l3 : ¬ ((r.length : Int) + 1 + 1 + 1 + 1 + 1 + 1 + 1 = 3) := by omega
          have l4 : ¬ ((r.length : Int) + 1 + 1 + 1 + 1 + 1 + 1 + 1 = 4) := by omega
          have l6 : ¬ ((r.length : Int) + 1 + 1 + 1 + 1 + 1 + 1 + 1 = 6) := by omega
          rcases kw k with rfl | rfl | rfl | rfl | rfl | rfl | rfl | rfl | e <;> simp [stG, *]
      | _ =>
        match r with
        | [] => simp [stG]
        | a :: r =>
          have l5 : ¬ ((r.length : Int) + 1 + 1 < 2) := by omega
          simp [stG, l5]
  | _ => simp [stG]
theorem r_two : ∀ n : Nat, n ≤ 40 → (∀ (d : D) (L T : List Str), Fit n d → L.length + n ≤ 10000 → T.length + cnt d ≤ 10000000 → m_is_statement n [d, .lst (L.map .str), .lst (T.map .str)] = some (.bl (stF n L T d))) ∧
    (∀ (d : D) (L T : List Str), Fit n d → L.length + n ≤ 10000 → T.length + cnt d ≤ 10000000 → m_is_block n [d, .lst (L.map .str), .lst (T.map .str)] = some (.bl (blF n L T d)))
  | 0, _ => ⟨fun d _ _ h => absurd h.dp (Nat.not_lt_zero _), fun d _ _ h => absurd h.dp (Nat.not_lt_zero _)⟩
  | n + 1, hn => by
    have ih := r_two n (by omega)
    refine ⟨fun d L T h hL hT => ?_, fun d L T h hL hT => ?_⟩
    · exact r_stmt (g := m_is_block n) (blk := blF n) hn (by omega) h fun b L' hl ⟨m, hm, fm⟩ hc => ih.2 b L' T (fm.mono (by omega)) (by omega) (by omega)
    · have h1 : ∀ T s, stF n L T s = true → ∃ k r, s = .tup (.str k :: r) ∧ (k = "start" → ∃ a r', r = .str a :: r') := fun T s hs => by
        cases n with
        | zero => cases hs
        | succ n => exact stG_shape (blk := blF n) hs
      have e := run_block (l := .lst (L.map .str)) (d := d) (T := T) (g := m_is_statement n) h1 (by omega) (fun ss e T' s hs hz => by
        subst e
        exact ih.1 s L T' (h.tup.mem hs) (by omega) (by omega))
      cases d <;> exact e
theorem r_two' : ∀ n : Nat, n ≤ 40 → (∀ (d : D) (L T : List Str), Fit n d → L.length + n ≤ 10000 → T.length + cnt d ≤ 10000000 → m__law_is_statement n [d, .lst (L.map .str), .lst (T.map .str)] = some (.bl (stF n L T d))) ∧
    (∀ (d : D) (L T : List Str), Fit n d → L.length + n ≤ 10000 → T.length + cnt d ≤ 10000000 → m__law_is_block n [d, .lst (L.map .str), .lst (T.map .str)] = some (.bl (blF n L T d)))
  | 0, _ => ⟨fun d _ _ h => absurd h.dp (Nat.not_lt_zero _), fun d _ _ h => absurd h.dp (Nat.not_lt_zero _)⟩
  | n + 1, hn => by
    have ih := r_two' n (by omega)
    refine ⟨fun d L T h hL hT => ?_, fun d L T h hL hT => ?_⟩
    · exact r_lstmt (g := m__law_is_block n) (blk := blF n) hn (by omega) h fun b L' hl ⟨m, hm, fm⟩ hc => ih.2 b L' T (fm.mono (by omega)) (by omega) (by omega)
    · have h1 : ∀ T s, stF n L T s = true → ∃ k r, s = .tup (.str k :: r) ∧ (k = "start" → ∃ a r', r = .str a :: r') := fun T s hs => by
        cases n with
        | zero => cases hs
        | succ n => exact stG_shape (blk := blF n) hs
      have e := run_block (l := .lst (L.map .str)) (d := d) (T := T) (g := m__law_is_statement n) h1 (by omega) (fun ss e T' s hs hz => by
        subst e
        exact ih.1 s L T' (h.tup.mem hs) (by omega) (by omega))
      cases d <;> exact e
/-- what a program is -/
def prog (d : D) : Bool := blF 40 [] [] d
theorem r_is_program {d : D} (h : Fit 40 d) : m_is_program [d] = some (.bl (prog d)) := by
  unfold m_is_program b_is_program
  rw [e_run1]
  have e := (r_two 40 (Nat.le_refl _)).2 d [] [] h (by simp) (by have := h.sz; simp only [List.length_nil]; omega)
  simp at e
  simp [e, prog]
theorem r__law_is_program {d : D} (h : Fit 40 d) : m__law_is_block 40 [d, .lst [], .lst []] = some (.bl (prog d)) := by
  exact (r_two' 40 (Nat.le_refl _)).2 d [] [] h (by simp) (by have := h.sz; simp only [List.length_nil]; omega)
end ML
set_option Elab.async false
set_option linter.all false
set_option maxRecDepth 100000
set_option maxHeartbeats 4000000
/-! equal, lists within, counting, parts, putting -/
namespace ML
open PySem PySem.Spec PyProof.Rows L2
theorem loop_inv {i : Nat} {body : S} (I : List D → Env → Prop) (step : ∀ x r ρ, I (x :: r) ρ → ∃ ρ', body (ρ.set i (some x)) = some (.nx ρ') ∧ I r ρ') : ∀ (xs : List D) (ρ : Env), I xs ρ → ∃ ρ', loopS i body xs ρ = some (.nx ρ') ∧ I [] ρ'
  | [], ρ, h => ⟨ρ, rfl, h⟩
  | x :: r, ρ, h => by
    obtain ⟨ρ', e, h'⟩ := step x r ρ h
    have e2 : loopS i body (x :: r) ρ = (match body (ρ.set i (some x)) with | some (.nx ρ') => loopS i body r ρ' | o => o) := rfl
    rw [e2, e]
    exact loop_inv I step r ρ' h'
theorem rng_mem {n : Nat} {x : D} (h : x ∈ (List.range n).map fun (i : Nat) => D.int (i : Int)) : ∃ i, i < n ∧ x = .int (i : Int) := by
  obtain ⟨i, hi, rfl⟩ := List.mem_map.mp h
  exact ⟨i, List.mem_range.mp hi, rfl⟩
theorem noLs_all : ∀ xs : List D, noLs xs = xs.all noL
  | [] => rfl
  | x :: xs => by simp [noLs, noLs_all xs]
theorem r_equal : ∀ (n : Nat) (d : D), Fit n d → noL d = true → m__law_equal n [d, d] = some (.bl true)
  | 0, d, h, _ => absurd h.dp (Nat.not_lt_zero _)
  | n + 1, d, h, hl => by
    show mRun 2 3 (b__law_equal (m__law_equal n)) _ = _
    unfold b__law_equal
    rw [e_run2]
    have ih := r_equal n
    cases d with
    | tup xs =>
      have hx := h.tup
      have hz := hx.len
      have h1 : (-1000000000 : Int) ≤ xs.length ∧ (xs.length : Int) ≤ 1000000000 := by omega
      have hl' : noLs xs = true := by simpa [noL] using hl
      rw [noLs_all] at hl'
      obtain ⟨u, hu⟩ := loop_allm (i := 2) (body := sIf (mNot (mCall (m__law_equal n) (mCons (mOp gIx (mVar 0) (mVar 2)) (mCons (mOp gIx (mVar 1) (mVar 2)) mNil)))) (sRet (mC (.bl false))) sNext) (p := fun _ => true) (ρ := [some (.tup xs), some (.tup xs), none]) (r := .bl false) ((List.range xs.length).map fun (i : Nat) => D.int (i : Int)) none (fun x hx' => by
        obtain ⟨i, hi, rfl⟩ := rng_mem hx'
        have hm : xs[i] ∈ xs := List.getElem_mem hi
        have e := ih xs[i] (hx.mem hm) (List.all_eq_true.mp hl' _ hm)
        simp [hi, e])
      have hu : loopS 2 (sIf (mNot (mCall (m__law_equal n) (mCons (mOp gIx (mVar 0) (mVar 2)) (mCons (mOp gIx (mVar 1) (mVar 2)) mNil)))) (sRet (mC (.bl false))) sNext) ((List.range xs.length).map fun (i : Nat) => D.int (i : Int)) [some (.tup xs), some (.tup xs), none] = _ := hu
      simp at hu
      simp [gIs, h1, hu]
    | lst xs => simp [noL] at hl
    | ro xs => simp [noL] at hl
    | _ => simp [gIs]
theorem r_has_list : ∀ (n : Nat) (d : D), Fit n d → m__law_has_list n [d] = some (.bl (!noL d))
  | 0, d, h => absurd h.dp (Nat.not_lt_zero _)
  | n + 1, d, h => by
    show mRun 1 2 (b__law_has_list (m__law_has_list n)) _ = _
    unfold b__law_has_list
    rw [e_run1]
    have ih := r_has_list n
    cases d with
    | tup xs =>
      have hx := h.tup
      obtain ⟨u, hu⟩ := loop_allm (i := 1) (body := sIf (mCall (m__law_has_list n) (mCons (mVar 1) mNil)) (sRet (mC (.bl true))) sNext) (p := noL) (ρ := [some (.tup xs), none]) (r := .bl true) xs none (fun x hx' => by
        cases hn : noL x <;> simp [ih x (hx.mem hx'), hn])
      have hu : loopS 1 (sIf (mCall (m__law_has_list n) (mCons (mVar 1) mNil)) (sRet (mC (.bl true))) sNext) xs [some (.tup xs), none] = _ := hu
      have e : noL (.tup xs) = xs.all noL := by simp [noL, noLs_all]
      rw [e]
      generalize xs.all noL = bb at hu ⊢
      cases bb <;> simp at hu <;> simp [hu]
    | _ => simp [noL]
theorem r_count : ∀ (n : Nat) (d : D), dep d < n → m__law_count n [d] = some (.int (cnt d))
  | 0, d, h => absurd h (Nat.not_lt_zero _)
  | n + 1, d, h => by
    show mRun 1 3 (b__law_count (m__law_count n)) _ = _
    unfold b__law_count
    rw [e_run1]
    have ih := r_count n
    cases d with
    | tup xs =>
      obtain ⟨ρ', e, a, u, rfl, ha, _⟩ := loop_inv (i := 2) (body := sAsg [] 1 (mOp gAdd (mVar 1) (mCall (m__law_count n) (mCons (mVar 2) mNil))))
        (fun r ρ => ∃ (a : Int) (u : Option D), ρ = [some (.tup xs), some (.int a), u] ∧ a + cnts r = 1 + cnts xs ∧ deps r < n) (fun x r ρ h => by
          obtain ⟨a, u, rfl, ha, hd⟩ := h
          simp only [deps, cnts] at ha hd
          exact ⟨_, by simp [ih x (by omega)], a + cnt x, some x, rfl, by push_cast at ha ⊢; omega, by omega⟩) xs [some (.tup xs), some (.int 1), none] ⟨1, none, rfl, rfl, by simp only [dep] at h; omega⟩
      have ha : a = (cnts xs : Int) + 1 := by simp only [cnts] at ha; omega
      subst ha
      simp [e, cnt]
    | _ => simp [cnt]
def partL (f : D → Nat → D) (d : D) : List D → Nat → D
  | [], _ => d
  | x :: xs, i => if i < cnt x then f x i else partL f d xs (i - cnt x)
def partF : Nat → D → Nat → D
  | 0, d, _ => d
  | n + 1, d, i => if i = 0 then d else match d with
    | .tup xs => partL (partF n) d xs (i - 1)
    | _ => d
def bodyP (g : List D → Option D) : S := sSeq (sAsg [] 3 (mCall (m__law_count 40) (mCons (mVar 2) mNil)))
  (sSeq (sIf (mOp gLt (mVar 1) (mVar 3)) (sRet (mCall g (mCons (mVar 2) (mCons (mVar 1) mNil)))) sNext)
  (sAsg [] 1 (mOp gSub (mVar 1) (mVar 3))))
theorem part_loop {g : List D → Option D} {f : D → Nat → D} {d : D} : ∀ (xs : List D) (i : Nat) (u v : Option D), deps xs < 40 → (∀ x ∈ xs, ∀ i : Nat, g [x, .int i] = some (f x i)) →
    loopS 2 (bodyP g) xs [some d, some (.int i), u, v] = some (.rt (partL f d xs i)) ∨ ((∃ a b c, loopS 2 (bodyP g) xs [some d, some (.int i), u, v] = some (.nx [some d, a, b, c])) ∧ partL f d xs i = d)
  | [], i, u, v, _, _ => .inr ⟨⟨_, _, _, rfl⟩, rfl⟩
  | x :: xs, i, u, v, hd, hg => by
    have e : loopS 2 (bodyP g) (x :: xs) [some d, some (.int i), u, v] = (match bodyP g [some d, some (.int i), some x, v] with | some (.nx ρ') => loopS 2 (bodyP g) xs ρ' | o => o) := rfl
    simp only [deps] at hd
    have hc := r_count 40 x (by omega)
    rw [e]
    by_cases h : i < cnt x
    · have h' : (i : Int) < cnt x := by omega
      have eb : bodyP g [some d, some (.int i), some x, v] = some (.rt (f x i)) := by
        unfold bodyP
        simp [hc, h, h', hg x List.mem_cons_self i]
      rw [eb]
      exact .inl (by simp [partL, h])
    · have h' : ¬ ((i : Int) < cnt x) := by omega
      have eb : bodyP g [some d, some (.int i), some x, v] = some (.nx [some d, some (.int ((i - cnt x : Nat) : Int)), some x, some (.int (cnt x))]) := by
        unfold bodyP
        have e2 : (i : Int) - cnt x = ((i - cnt x : Nat) : Int) := by omega
        simp only [← e2]
        simp [hc, h, h']
      rw [eb]
      have ih := part_loop (g := g) (f := f) (d := d) xs (i - cnt x) (some x) (some (.int (cnt x))) (by omega) fun y hy => hg y (List.mem_cons_of_mem _ hy)
      have ep : partL f d (x :: xs) i = partL f d xs (i - cnt x) := by simp [partL, h]
      rw [ep]
      exact ih
theorem deps_mem {x : D} : ∀ {xs : List D}, x ∈ xs → dep x ≤ deps xs
  | [], h => by cases h
  | y :: ys, h => by
    simp only [deps]
    rcases List.mem_cons.mp h with e | e
    · subst e; omega
    · have := deps_mem e; omega
theorem r_part : ∀ (n : Nat) (d : D) (i : Nat), dep d < n → n ≤ 40 → m__law_part n [d, .int i] = some (partF n d i)
  | 0, d, i, h, _ => absurd h (Nat.not_lt_zero _)
  | n + 1, d, i, h, hn => by
    show mRun 2 4 (b__law_part (m__law_count 40) (m__law_part n)) _ = _
    unfold b__law_part
    rw [e_run2]
    by_cases hi : i = 0
    · subst hi
      simp [partF]
    · have hi' : ¬ ((i : Int) = 0) := by omega
      have ei : (i : Int) - 1 = ((i - 1 : Nat) : Int) := by omega
      cases d with
      | tup xs =>
        simp only [dep] at h
        have hp := part_loop (g := m__law_part n) (f := partF n) (d := .tup xs) xs (i - 1) none none (by omega) fun x hx j => r_part n x j (by have := deps_mem hx; omega) (by omega)
        unfold bodyP at hp
        rcases hp with hp | ⟨⟨a, b, c, hp⟩, hp2⟩
        · simp [hi, hi', ei, hp, partF]
        · simp [hi, hi', ei, hp, partF, hp2]
      | _ => simp [hi, hi', partF]
def putL (f : D → Int → D → D) (new : D) : List D → Int → List D
  | [], _ => []
  | x :: xs, i => (if 0 ≤ i ∧ i < cnt x then f x i new else x) :: putL f new xs (i - cnt x)
def putF : Nat → D → Int → D → D
  | 0, d, _, _ => d
  | n + 1, d, i, new => if i = 0 then new else match d with
    | .tup xs => .tup (putL (putF n) new xs (i - 1))
    | _ => new
theorem r_put : ∀ (n : Nat) (d : D) (i : Int) (new : D), dep d < n → n ≤ 40 → cnt d ≤ 1000000 → m__law_put n [d, .int i, new] = some (putF n d i new)
  | 0, d, i, new, h, _, _ => absurd h (Nat.not_lt_zero _)
  | n + 1, d, i, new, h, hn, hz => by
    show mRun 3 6 (b__law_put (m__law_count 40) (m__law_put n)) _ = _
    unfold b__law_put
    rw [e_run3]
    by_cases hi : i = 0
    · subst hi
      simp [putF]
    · cases d with
      | tup xs =>
        simp only [dep] at h
        simp only [cnt] at hz
        obtain ⟨ρ', e, acc, j, u, v, rfl, ha, _⟩ := loop_inv (i := 4) (body := (sSeq (sAsg [3] 5 (mCall (m__law_count 40) (mCons (mVar 4) mNil)))
          (sSeq (sIf (mChain gLe gLt (mC (.int 0)) (mVar 1) (mVar 5)) (sApp [3] 3 (mCall (m__law_put n) (mCons (mVar 4) (mCons (mVar 1) (mCons (mVar 2) mNil))))) (sApp [3] 3 (mVar 4)))
          (sAsg [3] 1 (mOp gSub (mVar 1) (mVar 5))))))
          (fun r ρ => ∃ (acc : List D) (j : Int) (u v : Option D), ρ = [some (.tup xs), some (.int j), some new, some (.lst acc), u, v] ∧ acc ++ putL (putF n) new r j = putL (putF n) new xs (i - 1) ∧ deps r < n ∧ cnts r ≤ 1000000 ∧ acc.length + r.length ≤ 1000000) (fun x r ρ h => by
            obtain ⟨acc, j, u, v, rfl, ha, hd, hc, hl⟩ := h
            simp only [deps, cnts, List.length_cons] at hd hc hl
            have h1 := r_count 40 x (by omega)
            have h2 : acc.length < 16777216 := by omega
            have h3 := r_put n x j new (by omega) (by omega) (by omega)
            by_cases hj : 0 ≤ j
            · by_cases hj2 : j < cnt x
              · refine ⟨[some (.tup xs), some (.int (j - cnt x)), some new, some (.lst (acc ++ [putF n x j new])), some x, some (.int (cnt x))], by simp [h1, h2, h3, hj, hj2], acc ++ [putF n x j new], _, _, _, rfl, ?_, by omega, by omega, by simp; omega⟩
                simpa [putL, hj, hj2] using ha
              · refine ⟨[some (.tup xs), some (.int (j - cnt x)), some new, some (.lst (acc ++ [x])), some x, some (.int (cnt x))], by simp [h1, h2, h3, hj, hj2], acc ++ [x], _, _, _, rfl, ?_, by omega, by omega, by simp; omega⟩
                simpa [putL, hj, hj2] using ha
            · refine ⟨[some (.tup xs), some (.int (j - cnt x)), some new, some (.lst (acc ++ [x])), some x, some (.int (cnt x))], by simp [h1, h2, h3, hj], acc ++ [x], _, _, _, rfl, ?_, by omega, by omega, by simp; omega⟩
              simpa [putL, hj] using ha) xs [some (.tup xs), some (.int (i - 1)), some new, some (.lst []), none, none] ⟨[], i - 1, none, none, rfl, rfl, by omega, by omega, by have := len_cnts xs; simp; omega⟩
        simp [putL] at ha
        subst ha
        simp [hi, e, putF]
      | _ => simp [hi, putF]
end ML
set_option Elab.async false
set_option linter.all false
set_option maxRecDepth 100000
set_option maxHeartbeats 4000000
/-! names, how much is done -/
namespace ML
open PySem PySem.Spec PyProof.Rows L2
def headNm : List D → List Str
  | k :: .str s :: _ => if isIn k ["set", "add", "fold", "word"] = true then [s] else []
  | _ => []
mutual
def nm : D → List Str
  | .tup xs => headNm xs ++ nms xs
  | _ => []
def nms : List D → List Str
  | [] => []
  | x :: xs => nm x ++ nms xs
end
theorem headNm_len (xs : List D) : (headNm xs).length ≤ 1 := by
  unfold headNm
  split
  · split <;> simp
  · simp
mutual
theorem nm_len : ∀ d : D, (nm d).length ≤ cnt d
  | .tup xs => by
    have h1 := headNm_len xs
    have h2 := nms_len xs
    simp only [nm, cnt, List.length_append]
    omega
  | .non => by simp [nm]
  | .bl _ => by simp [nm]
  | .int _ => by simp [nm]
  | .str _ => by simp [nm]
  | .lst _ => by simp [nm]
  | .ro _ => by simp [nm]
theorem nms_len : ∀ xs : List D, (nms xs).length ≤ cnts xs
  | [] => by simp [nms]
  | x :: xs => by
    have h1 := nm_len x
    have h2 := nms_len xs
    simp only [nms, cnts, List.length_append]
    omega
end
theorem r__law_names : ∀ (n : Nat) (d : D), dep d < n → cnt d ≤ 1000000 → m__law_names n [d] = some (.lst ((nm d).map .str))
  | 0, d, h, _ => absurd h (Nat.not_lt_zero _)
  | n + 1, d, h, hz => by
    show mRun 1 3 (b__law_names (m__law_names n)) _ = _
    unfold b__law_names
    rw [e_run1]
    have ih := r__law_names n
    cases d with
    | tup xs =>
      simp only [dep] at h
      have hnl := nm_len (.tup xs)
      have key : ∀ (acc : List Str), acc = headNm xs → ∃ u, loopS 2 (sAsg [] 1 (mOp gAdd (mVar 1) (mCall (m__law_names n) (mCons (mVar 2) mNil)))) xs [some (.tup xs), some (.lst (acc.map .str)), none] = some (.nx [some (.tup xs), some (.lst ((nm (.tup xs)).map .str)), u]) := fun acc hacc => by
        obtain ⟨ρ', e, acc', u, rfl, ha, _⟩ := loop_inv (i := 2) (body := sAsg [] 1 (mOp gAdd (mVar 1) (mCall (m__law_names n) (mCons (mVar 2) mNil))))
          (fun r ρ => ∃ (acc : List Str) (u : Option D), ρ = [some (.tup xs), some (.lst (acc.map .str)), u] ∧ acc ++ nms r = nm (.tup xs) ∧ deps r < n ∧ cnts r ≤ 1000000) (fun x r ρ h => by
            obtain ⟨acc, u, rfl, ha, hd, hc⟩ := h
            simp only [deps, cnts, nms] at ha hd hc
            have e := ih x (by omega) (by omega)
            have hl := congrArg List.length ha
            simp only [List.length_append] at hl
            have hl2 : acc.length + (nm x).length ≤ 16777216 := by omega
            exact ⟨[some (.tup xs), some (.lst ((acc ++ nm x).map .str)), some x], by simp [e, hl2], acc ++ nm x, some x, rfl, by rw [List.append_assoc]; exact ha, by omega, by omega⟩) xs _ ⟨acc, none, rfl, by rw [hacc]; rfl, by omega, by simp only [cnt] at hz; omega⟩
        simp [nms] at ha
        subst ha
        exact ⟨u, e⟩
      match xs, key with
      | [], key => simp [nm, nms, headNm, loopS]
      | [x], key =>
        obtain ⟨u, e⟩ := key [] (by simp [headNm])
        simp at e
        simp [e]
      | x :: y :: r, key =>
        have l1 : (1 : Int) < (r.length : Int) + 1 + 1 := by omega
        by_cases hi : isIn x ["set", "add", "fold", "word"] = true
        · cases y with
          | str s =>
            obtain ⟨u, e⟩ := key [s] (by simp [headNm, hi])
            simp at e
            simp [l1, hi, e]
          | _ =>
            obtain ⟨u, e⟩ := key [] (by simp [headNm])
            simp at e
            simp [l1, hi, e]
        · obtain ⟨u, e⟩ := key [] (by cases y <;> simp [headNm, hi])
          simp at e
          simp [l1, hi, e]
    | _ => simp [nm]
/-! the shapes of what is valid -/
inductive ExV (m : Nat) (L : List Str) : D → Prop
  | num (i : Int) : 0 ≤ i → i < 1000003 → ExV m L (.tup [.str "number", .int i])
  | word (s : Str) : okStr s = true → ExV m L (.tup [.str "word", .str s])
  | loc (s : Str) : okStr s = true → ExV m L (.tup [.str "local", .str s])
  | op (o : Str) (b c : D) : exprF m L b = true → exprF m L c = true → ExV m L (.tup [.str "do", .str o, b, c])
theorem isIn_str {d : D} {ss : List Str} (h : isIn d ss = true) : ∃ s, d = .str s := by
  cases d with
  | str s => exact ⟨s, rfl⟩
  | _ => simp [isIn] at h
theorem name_ok {d : D} (h : nameS d = true) : ∃ s, d = .str s ∧ okStr s = true := by
  obtain ⟨s, rfl⟩ := nameS_str h
  simp [nameS, wordS] at h
  exact ⟨s, rfl, h.1⟩
theorem expr_inv {m : Nat} {L : List Str} {d : D} (h : exprF (m + 1) L d = true) : ExV m L d := by
  unfold exprF at h
  split at h
  · rename_i k a
    by_cases k1 : k = "number"
    · subst k1
      cases a <;> simp [valS] at h
      exact .num _ h.1 h.2
    · by_cases k2 : k = "word"
      · subst k2
        simp at h
        obtain ⟨s, rfl, hs⟩ := name_ok h
        exact .word s hs
      · by_cases k3 : k = "local"
        · subst k3
          simp at h
          obtain ⟨s, rfl, hs⟩ := name_ok h.1
          exact .loc s hs
        · simp [k1, k2, k3] at h
  · rename_i k a b c
    by_cases k4 : k = "do"
    · subst k4
      simp at h
      obtain ⟨o, rfl⟩ := isIn_str h.1
      exact .op o b c h.2.1 h.2.2
    · simp [k4] at h
  · cases h
inductive StV (blk : List Str → List Str → D → Bool) (L T : List Str) : D → Prop
  | set (a : Str) (b : D) : exprF 40 L b = true → StV blk L T (.tup [.str "set", .str a, b])
  | add (a o : Str) (c : D) : exprF 40 L c = true → StV blk L T (.tup [.str "add", .str a, .str o, c])
  | fold (a o c : Str) (e f : D) : exprF 40 L e = true → exprF 40 (L ++ [c]) f = true → StV blk L T (.tup [.str "fold", .str a, .str o, .str c, e, f])
  | if_ (a b c : D) : exprF 40 L a = true → blk L T b = true → blk L T c = true → StV blk L T (.tup [.str "if", a, b, c])
  | fork (bs : List D) : (∀ b ∈ bs, blk L T b = true) → StV blk L T (.tup [.str "fork", .tup bs])
  | each (a : Str) (b c : D) : exprF 40 L b = true → blk (L ++ [a]) T c = true → StV blk L T (.tup [.str "each", .str a, b, c])
  | start (a : Str) (b : D) : blk L T b = true → StV blk L T (.tup [.str "start", .str a, b])
  | await (a : Str) : StV blk L T (.tup [.str "await", .str a])
theorem st_inv {blk : List Str → List Str → D → Bool} {L T : List Str} {d : D} (h : stG blk L T d = true) : StV blk L T d := by
  unfold stG at h
  split at h
  · rename_i k a
    by_cases k1 : k = "await"
    · subst k1
      simp at h
      obtain ⟨s, rfl⟩ := nameS_str h.1
      exact .await s
    · by_cases k2 : k = "fork"
      · subst k2
        simp at h
        cases a with
        | tup bs =>
          simp [forkS] at h
          exact .fork bs h.2.2
        | _ => simp [forkS] at h
      · simp [k1, k2] at h
  · rename_i k a b
    by_cases k1 : k = "set"
    · subst k1
      simp at h
      obtain ⟨s, rfl⟩ := nameS_str h.1
      exact .set s b h.2
    · by_cases k2 : k = "start"
      · subst k2
        simp at h
        obtain ⟨s, rfl⟩ := nameS_str h.1
        exact .start s b h.2
      · simp [k1, k2] at h
  · rename_i k a b c
    by_cases k1 : k = "add"
    · subst k1
      simp at h
      obtain ⟨s, rfl⟩ := nameS_str h.1
      obtain ⟨o, rfl⟩ := isIn_str h.2.1
      exact .add s o c h.2.2
    · by_cases k2 : k = "if"
      · subst k2
        simp at h
        exact .if_ a b c h.1 h.2.1 h.2.2
      · by_cases k3 : k = "each"
        · subst k3
          simp at h
          obtain ⟨s, rfl⟩ := nameS_str h.1
          exact .each s b c h.2.1 h.2.2
        · simp [k1, k2, k3] at h
  · rename_i k a b c e f
    by_cases k1 : k = "fold"
    · subst k1
      simp at h
      obtain ⟨s, rfl⟩ := nameS_str h.1
      obtain ⟨o, rfl⟩ := isIn_str h.2.1
      obtain ⟨l, rfl⟩ := nameS_str h.2.2.1
      exact .fold s o l e f h.2.2.2.1 h.2.2.2.2
    · simp [k1] at h
  · cases h
theorem StV.tup {blk : List Str → List Str → D → Bool} {L T : List Str} {d : D} (h : StV blk L T d) : ∃ xs, d = .tup xs := by
  cases h <;> exact ⟨_, rfl⟩
theorem bl_tup {m : Nat} {L T : List Str} {d : D} (h : blF m L T d = true) : ∃ xs, d = .tup xs := by
  cases m with
  | zero => cases h
  | succ m =>
    cases d with
    | tup xs => exact ⟨xs, rfl⟩
    | _ => cases h
theorem seq_all {st : List Str → D → Bool} : ∀ {ss : List D} {T : List Str}, seqF st T ss = true → ∀ s ∈ ss, ∃ T', st T' s = true
  | [], T, _, s, hs => by cases hs
  | x :: r, T, h, s, hs => by
    simp [seqF] at h
    rcases List.mem_cons.mp hs with e | e
    · subst e; exact ⟨T, h.1⟩
    · exact seq_all h.2 s e
theorem st_tup {m : Nat} {L T : List Str} {d : D} (h : stF m L T d = true) : StV (blF (m - 1)) L T d := by
  cases m with
  | zero => cases h
  | succ m => exact st_inv h
theorem headNm_tups {xs : List D} (h : ∀ x ∈ xs, ∃ ys, x = .tup ys) : headNm xs = [] := by
  match xs, h with
  | [], _ => rfl
  | [x], _ => rfl
  | x :: y :: r, h =>
    obtain ⟨ys, rfl⟩ := h y (by simp)
    rfl
theorem nm_block {m : Nat} {L T : List Str} {ss : List D} (h : blF m L T (.tup ss) = true) : nm (.tup ss) = nms ss := by
  cases m with
  | zero => cases h
  | succ m =>
    have h : seqF (stF m L) T ss = true := h
    show headNm ss ++ nms ss = nms ss
    rw [headNm_tups fun x hx => by
      obtain ⟨T', h'⟩ := seq_all h x hx
      exact (st_tup h').tup]
    rfl
end ML
set_option Elab.async false
set_option linter.all false
set_option maxRecDepth 100000
set_option maxHeartbeats 4000000
/-! the program's names, how much is done -/
namespace ML
open PySem PySem.Spec PyProof.Rows L2
theorem r_names_e : ∀ (n : Nat) (d : D) (L : List Str) (m : Nat), dep d < n → cnt d ≤ 1000000 → exprF m L d = true → m_names_in_expression n [d] = some (.lst ((nm d).map .str))
  | 0, d, _, _, h, _, _ => absurd h (Nat.not_lt_zero _)
  | n + 1, d, L, 0, h, hz, hv => by cases hv
  | n + 1, d, L, m + 1, h, hz, hv => by
    show mRun 1 1 (b_names_in_expression (m_names_in_expression n)) _ = _
    unfold b_names_in_expression
    rw [e_run1]
    cases expr_inv hv with
    | num i _ _ => simp [nm, nms, headNm]
    | word s _ => simp [nm, nms, headNm, isIn]
    | loc s _ => simp [nm, nms, headNm, isIn]
    | op o b c hb hc =>
      simp only [dep, deps, cnt, cnts] at h hz
      have h1 := r_names_e n b L m (by omega) (by omega) hb
      have h2 := r_names_e n c L m (by omega) (by omega) hc
      have l1 := nm_len b
      have l2 := nm_len c
      have hl : (nm b).length + (nm c).length ≤ 16777216 := by omega
      simp [nm, nms, headNm, isIn, h1, h2, hl]
theorem r_names_in : ∀ (n : Nat) (d : D) (L T : List Str) (m : Nat), dep d < n → n ≤ 40 → cnt d ≤ 1000000 → blF m L T d = true → m_names_in n [d] = some (.lst ((nm d).map .str))
  | 0, d, _, _, _, h, _, _, _ => absurd h (Nat.not_lt_zero _)
  | n + 1, d, L, T, 0, h, _, hz, hv => by cases hv
  | n + 1, d, L, T, m + 1, h, hn, hz, hv => by
    obtain ⟨ss, rfl⟩ := bl_tup hv
    have hnm := nm_block hv
    rw [hnm]
    show mRun 1 5 (b_names_in (m_names_in_expression 40) (m_names_in n)) _ = _
    rw [show b_names_in (m_names_in_expression 40) (m_names_in n) = sSeq (sOwn [1] 1 mNil) (sSeq (sFor [1] 2 (wTup (mVar 0)) (l0_names_in (m_names_in_expression 40) (m_names_in n))) (sRet (mVar 1))) from rfl]
    rw [e_run1]
    simp only [dep, cnt] at h hz
    have hv : seqF (stF m L) T ss = true := hv
    have hall := seq_all hv
    have hl0 := nms_len ss
    obtain ⟨ρ', e, acc, u2, u3, u4, rfl, ha, _⟩ := loop_inv (i := 2) (body := l0_names_in (m_names_in_expression 40) (m_names_in n))
      (fun r ρ => ∃ (acc : List Str) (u2 u3 u4 : Option D), ρ = [some (.tup ss), some (.lst (acc.map .str)), u2, u3, u4] ∧ acc ++ nms r = nms ss ∧ deps r < n ∧ cnts r ≤ 1000000 ∧ ∀ s ∈ r, ∃ T', stF m L T' s = true) (fun x r ρ h => by
        obtain ⟨acc, u2, u3, u4, rfl, ha, hd, hc, hv⟩ := h
        obtain ⟨T', hx⟩ := hv x List.mem_cons_self
        have hV := st_tup hx
        simp only [deps, cnts, nms] at ha hd hc
        have hl := congrArg List.length ha
        simp only [List.length_append] at hl
        have hl2 : acc.length + (nm x).length ≤ 16777216 := by omega
        have hrest : ∀ s ∈ r, ∃ T', stF m L T' s = true := fun s hs => hv s (List.mem_cons_of_mem _ hs)
        have fin : ∀ u3 u4, (l0_names_in (m_names_in_expression 40) (m_names_in n)) [some (.tup ss), some (.lst (acc.map .str)), some x, u3, u4] = (l0_names_in (m_names_in_expression 40) (m_names_in n)) [some (.tup ss), some (.lst (acc.map .str)), some x, u3, u4] := fun _ _ => rfl
        suffices hs : ∃ u3' u4', (l0_names_in (m_names_in_expression 40) (m_names_in n)) [some (.tup ss), some (.lst (acc.map .str)), some x, u3, u4] = some (.nx [some (.tup ss), some (.lst ((acc ++ nm x).map .str)), some x, u3', u4']) by
          obtain ⟨u3', u4', hs⟩ := hs
          exact ⟨_, hs, acc ++ nm x, some x, u3', u4', rfl, by rw [List.append_assoc]; exact ha, by omega, by omega, hrest⟩
        have ih : ∀ b L' T', dep b < n → cnt b ≤ 1000000 → blF (m - 1) L' T' b = true → m_names_in n [b] = some (.lst ((nm b).map .str)) := fun b L' T' h1 h2 h3 => r_names_in n b L' T' (m - 1) h1 (by omega) h2 h3
        have ie : ∀ b L', dep b < n → cnt b ≤ 1000000 → exprF 40 L' b = true → m_names_in_expression 40 [b] = some (.lst ((nm b).map .str)) := fun b L' h1 h2 h3 => r_names_e 40 b L' 40 (by omega) h2 h3
        unfold l0_names_in
        cases hV with
        | set a b hb =>
          simp only [dep, deps, cnt, cnts] at hd hc
          have e1 := ie b _ (by omega) (by omega) hb
          have ix : gIx (.tup [.str "set", .str a, b]) (.int (-1)) = some b := rfl
          have e2 : nm (.tup [.str "set", .str a, b]) = a :: nm b := by simp [nm, nms, headNm, isIn]
          rw [e2] at hl2 ⊢
          have l1 := nm_len b
          have l3 : (nm b).length + 1 ≤ 16777216 := by omega
          have l4 : 1 + (nm b).length ≤ 16777216 := by omega
          simp only [List.length_cons] at hl2
          exact ⟨some (.str "set"), u4, by simp [isIn, ix, e1, hl2, l3, l4]⟩
        | add a o c hc' =>
          simp only [dep, deps, cnt, cnts] at hd hc
          have e1 := ie c _ (by omega) (by omega) hc'
          have ix : gIx (.tup [.str "add", .str a, .str o, c]) (.int (-1)) = some c := rfl
          have e2 : nm (.tup [.str "add", .str a, .str o, c]) = a :: nm c := by simp [nm, nms, headNm, isIn]
          rw [e2] at hl2 ⊢
          have l1 := nm_len c
          have l3 : (nm c).length + 1 ≤ 16777216 := by omega
          have l4 : 1 + (nm c).length ≤ 16777216 := by omega
          simp only [List.length_cons] at hl2
          exact ⟨some (.str "add"), u4, by simp [isIn, ix, e1, hl2, l3, l4]⟩
        | fold a o c e f he hf =>
          simp only [dep, deps, cnt, cnts] at hd hc
          have e1 := ie e _ (by omega) (by omega) he
          have e3 := ie f _ (by omega) (by omega) hf
          have e2 : nm (.tup [.str "fold", .str a, .str o, .str c, e, f]) = a :: (nm e ++ nm f) := by simp [nm, nms, headNm, isIn]
          rw [e2] at hl2 ⊢
          have l1 := nm_len e
          have l2 := nm_len f
          simp only [List.length_cons, List.length_append] at hl2
          have l3 : (nm e).length + 1 ≤ 16777216 := by omega
          have l4 : 1 + (nm e).length ≤ 16777216 := by omega
          have l5 : (nm e).length + 1 + (nm f).length ≤ 16777216 := by omega
          have l6 : acc.length + ((nm e).length + (nm f).length + 1) ≤ 16777216 := by omega
          exact ⟨some (.str "fold"), u4, by simp [isIn, e1, e3, hl2, l3, l4, l5, l6]⟩
        | if_ a b c ha' hb hc' =>
          simp only [dep, deps, cnt, cnts] at hd hc
          have e1 := ie a _ (by omega) (by omega) ha'
          have e3 := ih b _ _ (by omega) (by omega) hb
          have e4 := ih c _ _ (by omega) (by omega) hc'
          have e2 : nm (.tup [.str "if", a, b, c]) = nm a ++ (nm b ++ nm c) := by
            cases a <;> simp [nm, nms, headNm, isIn]
          rw [e2] at hl2 ⊢
          have l1 := nm_len a
          have l2 := nm_len b
          have l3 := nm_len c
          simp only [List.length_append] at hl2
          have l4 : (nm a).length + (nm b).length ≤ 16777216 := by omega
          have l5 : (nm a).length + (nm b).length + (nm c).length ≤ 16777216 := by omega
          have l6 : acc.length + ((nm a).length + ((nm b).length + (nm c).length)) ≤ 16777216 := by omega
          exact ⟨some (.str "if"), u4, by simp [isIn, e1, e3, e4, hl2, l4, l5, l6]⟩
        | fork bs hbs =>
          simp only [dep, deps, cnt, cnts] at hd hc
          have e2 : nm (.tup [.str "fork", .tup bs]) = nms bs := by
            simp [nm, nms, headNm]
            exact headNm_tups fun x hx => bl_tup (hbs x hx)
          rw [e2] at hl2 ⊢
          obtain ⟨ρ', e, acc', u4', rfl, ha', _⟩ := loop_inv (i := 4) (body := sExt [1] 1 (mCall (m_names_in n) (mCons (mVar 4) mNil)))
            (fun r ρ => ∃ (acc' : List Str) (u4 : Option D), ρ = [some (.tup ss), some (.lst (acc'.map .str)), some (.tup [.str "fork", .tup bs]), some (.str "fork"), u4] ∧ acc' ++ nms r = acc ++ nms bs ∧ deps r + 2 < n ∧ cnts r ≤ 1000000 ∧ ∀ s ∈ r, blF (m - 1) L T' s = true) (fun y r' ρ h => by
              obtain ⟨acc', u4, rfl, ha', hd', hc', hv'⟩ := h
              simp only [deps, cnts, nms] at ha' hd' hc'
              have e1 := ih y _ _ (by omega) (by omega) (hv' y List.mem_cons_self)
              have hl' := congrArg List.length ha'
              simp only [List.length_append] at hl'
              have l1 : acc'.length + (nm y).length ≤ 16777216 := by omega
              exact ⟨[some (.tup ss), some (.lst ((acc' ++ nm y).map .str)), some (.tup [.str "fork", .tup bs]), some (.str "fork"), some y], by simp [e1, l1], acc' ++ nm y, some y, rfl, by rw [List.append_assoc]; exact ha', by omega, by omega, fun s hs => hv' s (List.mem_cons_of_mem _ hs)⟩) bs [some (.tup ss), some (.lst (acc.map .str)), some (.tup [.str "fork", .tup bs]), some (.str "fork"), u4] ⟨acc, u4, rfl, rfl, by omega, by omega, hbs⟩
          simp [nms] at ha'
          subst ha'
          simp at e
          exact ⟨some (.str "fork"), u4', by simp [isIn, e]⟩
        | each a b c hb hc' =>
          simp only [dep, deps, cnt, cnts] at hd hc
          have e1 := ie b _ (by omega) (by omega) hb
          have e3 := ih c _ _ (by omega) (by omega) hc'
          have e2 : nm (.tup [.str "each", .str a, b, c]) = nm b ++ nm c := by simp [nm, nms, headNm, isIn]
          rw [e2] at hl2 ⊢
          have l1 := nm_len b
          have l2 := nm_len c
          simp only [List.length_append] at hl2
          have l4 : (nm b).length + (nm c).length ≤ 16777216 := by omega
          exact ⟨some (.str "each"), u4, by simp [isIn, e1, e3, hl2, l4]⟩
        | start a b hb =>
          simp only [dep, deps, cnt, cnts] at hd hc
          have e3 := ih b _ _ (by omega) (by omega) hb
          have e2 : nm (.tup [.str "start", .str a, b]) = nm b := by simp [nm, nms, headNm, isIn]
          rw [e2] at hl2 ⊢
          exact ⟨some (.str "start"), u4, by simp [isIn, e3, hl2]⟩
        | await a =>
          have e2 : nm (.tup [.str "await", .str a]) = [] := by simp [nm, nms, headNm, isIn]
          rw [e2]
          exact ⟨some (.str "await"), u4, by simp [isIn]⟩) ss [some (.tup ss), some (.lst []), none, none, none] ⟨[], none, none, none, rfl, rfl, by omega, by omega, hall⟩
    simp [nms] at ha
    subst ha
    simp [e]
end ML
set_option Elab.async false
set_option linter.all false
set_option maxRecDepth 100000
set_option maxHeartbeats 4000000
/-! how much is done; the words; what is right -/
namespace ML
open PySem PySem.Spec PyProof.Rows L2
theorem r_turns {m : Nat} {L : List Str} {d : D} (h : exprF m L d = true) : ∃ t : Int, m__law_turns [d] = some (.int t) ∧ t.natAbs < 1000 := by
  unfold m__law_turns b__law_turns
  rw [e_run1]
  cases m with
  | zero => cases h
  | succ m =>
    cases expr_inv h with
    | num i _ _ => exact ⟨i % 7, by simp, by omega⟩
    | word s _ => exact ⟨6, by simp, by decide⟩
    | loc s _ => exact ⟨6, by simp, by decide⟩
    | op o b c _ _ => exact ⟨6, by simp, by decide⟩
theorem b_most (g t : List D → Option D) : b__law_most g t = sSeq (sAsg [] 1 (mC (.int 0))) (sSeq (sFor [] 2 (wTup (mVar 0)) (l0__law_most g t)) (sRet (mVar 1))) := rfl
theorem r_most : ∀ (n : Nat) (d : D) (L T : List Str) (m : Nat), dep d < n → blF m L T d = true → ∃ i : Int, m__law_most n [d] = some (.int i)
  | 0, d, _, _, _, h, _ => absurd h (Nat.not_lt_zero _)
  | n + 1, d, L, T, 0, h, hv => by cases hv
  | n + 1, d, L, T, m + 1, h, hv => by
    obtain ⟨ss, rfl⟩ := bl_tup hv
    show ∃ i : Int, mRun 1 7 (b__law_most (m__law_most n) m__law_turns) _ = _
    rw [b_most, e_run1]
    simp only [dep] at h
    have hv : seqF (stF m L) T ss = true := hv
    have hall := seq_all hv
    obtain ⟨ρ', e, i, u2, u3, u4, u5, u6, rfl, _⟩ := loop_inv (i := 2) (body := l0__law_most (m__law_most n) m__law_turns)
      (fun r ρ => ∃ (i : Int) (u2 u3 u4 u5 u6 : Option D), ρ = [some (.tup ss), some (.int i), u2, u3, u4, u5, u6] ∧ deps r < n ∧ ∀ s ∈ r, ∃ T', stF m L T' s = true) (fun x r ρ h => by
        obtain ⟨i, u2, u3, u4, u5, u6, rfl, hd, hv⟩ := h
        obtain ⟨T', hx⟩ := hv x List.mem_cons_self
        have hV := st_tup hx
        simp only [deps] at hd
        have hrest : ∀ s ∈ r, ∃ T', stF m L T' s = true := fun s hs => hv s (List.mem_cons_of_mem _ hs)
        suffices hs : ∃ (i' : Int) (u3' u4' u5' u6' : Option D), (l0__law_most (m__law_most n) m__law_turns) [some (.tup ss), some (.int i), some x, u3, u4, u5, u6] = some (.nx [some (.tup ss), some (.int i'), some x, u3', u4', u5', u6']) by
          obtain ⟨i', u3', u4', u5', u6', hs⟩ := hs
          exact ⟨_, hs, i', _, _, _, _, _, rfl, by omega, hrest⟩
        have ih : ∀ b L' T', dep b < n → blF (m - 1) L' T' b = true → ∃ i : Int, m__law_most n [b] = some (.int i) := fun b L' T' h1 h3 => r_most n b L' T' (m - 1) h1 h3
        unfold l0__law_most
        cases hV with
        | set a b hb => exact ⟨_, _, _, _, _, by simp; exact ⟨rfl, rfl, rfl, rfl, rfl⟩⟩
        | add a o c hc' => exact ⟨_, _, _, _, _, by simp; exact ⟨rfl, rfl, rfl, rfl, rfl⟩⟩
        | fold a o c e f he hf =>
          obtain ⟨t, ht, htl⟩ := r_turns he
          exact ⟨_, _, _, _, _, by simp [ht]; exact ⟨rfl, rfl, rfl, rfl, rfl⟩⟩
        | if_ a b c ha' hb hc' =>
          simp only [dep, deps] at hd
          obtain ⟨i1, e1⟩ := ih b _ _ (by omega) hb
          obtain ⟨i2, e2⟩ := ih c _ _ (by omega) hc'
          have hb1 : (if i1 < i2 then (1 : Int) else 0).natAbs < 18446744073709551616 := by split <;> decide
          exact ⟨_, _, _, _, _, by simp [e1, e2, hb1]; exact ⟨rfl, rfl, rfl, rfl, rfl⟩⟩
        | fork bs hbs =>
          simp only [dep, deps] at hd
          obtain ⟨ρ', e, i', u6', rfl, _⟩ := loop_inv (i := 6) (body := sAsg [] 1 (mOp gAdd (mVar 1) (mCall (m__law_most n) (mCons (mVar 6) mNil))))
            (fun r ρ => ∃ (i' : Int) (u6 : Option D), ρ = [some (.tup ss), some (.int i'), some (.tup [.str "fork", .tup bs]), some (.str "fork"), u4, u5, u6] ∧ deps r < n ∧ ∀ s ∈ r, blF (m - 1) L T' s = true) (fun y r' ρ h => by
              obtain ⟨i', u6, rfl, hd', hv'⟩ := h
              simp only [deps] at hd'
              obtain ⟨i1, e1⟩ := ih y _ _ (by omega) (hv' y List.mem_cons_self)
              exact ⟨[some (.tup ss), some (.int (i' + i1)), some (.tup [.str "fork", .tup bs]), some (.str "fork"), u4, u5, some y], by simp [e1], _, _, rfl, by omega, fun s hs => hv' s (List.mem_cons_of_mem _ hs)⟩) bs [some (.tup ss), some (.int (i + 1 + 1)), some (.tup [.str "fork", .tup bs]), some (.str "fork"), u4, u5, u6] ⟨_, _, rfl, by omega, hbs⟩
          exact ⟨i', some (.str "fork"), u4, u5, u6', by simp [e]⟩
        | each a b c hb hc' =>
          simp only [dep, deps] at hd
          obtain ⟨t, ht, htl⟩ := r_turns hb
          obtain ⟨i2, e2⟩ := ih c _ _ (by omega) hc'
          have hb1 : t.natAbs < 18446744073709551616 := by omega
          exact ⟨_, _, _, _, _, by simp [ht, e2, hb1]; exact ⟨rfl, rfl, rfl, rfl, rfl⟩⟩
        | start a b hb =>
          simp only [dep, deps] at hd
          obtain ⟨i2, e2⟩ := ih b _ _ (by omega) hb
          exact ⟨_, _, _, _, _, by simp [e2]; exact ⟨rfl, rfl, rfl, rfl, rfl⟩⟩
        | await a => exact ⟨_, _, _, _, _, by simp; exact ⟨rfl, rfl, rfl, rfl, rfl⟩⟩) ss [some (.tup ss), some (.int 0), none, none, none, none, none] ⟨0, none, none, none, none, none, rfl, by omega, hall⟩
    exact ⟨i, by simp [e]⟩
/-! ### each once, of a sorted list -/
def adj : Option Str → List Str → List Str
  | _, [] => []
  | p, x :: r => if p = some x then adj (some x) r else x :: adj (some x) r
theorem adj_sub : ∀ (r : List Str) (p : Option Str) (x : Str), x ∈ adj p r → x ∈ r
  | [], _, _, h => by cases h
  | y :: r, p, x, h => by
    unfold adj at h
    split at h
    · exact List.mem_cons_of_mem _ (adj_sub r _ x h)
    · rcases List.mem_cons.mp h with e | e
      · rw [e]; exact List.mem_cons_self
      · exact List.mem_cons_of_mem _ (adj_sub r _ x e)
theorem adj_ok : ∀ (r : List Str) (p : Str), (p :: r).Pairwise (fun a b => leS a b = true) → (p :: adj (some p) r).Pairwise (fun a b => leS a b = true) ∧ (p :: adj (some p) r).Nodup ∧ ∀ x, x ∈ p :: adj (some p) r ↔ x ∈ p :: r
  | [], p, _ => ⟨by simp [adj], by simp [adj], fun x => by simp [adj]⟩
  | x :: r, p, h => by
    have h0 := List.pairwise_cons.mp h
    by_cases e : p = x
    · subst e
      obtain ⟨h1, h2, h3⟩ := adj_ok r p h0.2
      have ea : adj (some p) (p :: r) = adj (some p) r := by simp [adj]
      rw [ea]
      refine ⟨h1, h2, fun y => (h3 y).trans ?_⟩
      simp
    · obtain ⟨h1, h2, h3⟩ := adj_ok r x h0.2
      have ea : adj (some p) (x :: r) = x :: adj (some x) r := by simp [adj, e]
      rw [ea]
      refine ⟨List.pairwise_cons.mpr ⟨fun y hy => h0.1 y ((h3 y).mp hy), h1⟩, List.nodup_cons.mpr ⟨fun hp => ?_, h2⟩, fun y => ?_⟩
      · have hp' := (h3 p).mp hp
        rcases List.mem_cons.mp hp' with z | z
        · exact e z
        · exact e (leS_anti (h0.1 x List.mem_cons_self) ((List.pairwise_cons.mp h0.2).1 p z))
      · rw [List.mem_cons, h3 y, List.mem_cons, List.mem_cons]
        simp
theorem adj_eq (l : List Str) : adj none (sortS l) = sortS (dd l) := by
  have hs := sort_pw l
  have hp : (sortS l).Perm l := List.mergeSort_perm l leS
  have hm : ∀ x, x ∈ sortS l ↔ x ∈ l := fun x => hp.mem_iff
  have hd : (sortS (dd l)).Perm (dd l) := List.mergeSort_perm (dd l) leS
  generalize hq : sortS l = q at hs hp hm ⊢
  have key : (adj none q).Pairwise (fun a b => leS a b = true) ∧ (adj none q).Nodup ∧ ∀ x, x ∈ adj none q ↔ x ∈ q := by
    cases q with
    | nil => exact ⟨by simp [adj], by simp [adj], fun x => by simp [adj]⟩
    | cons x r =>
      have ea : adj none (x :: r) = x :: adj (some x) r := by simp [adj]
      rw [ea]
      exact adj_ok r x hs
  refine sorted_one key.1 (sort_pw (dd l)) ?_
  refine (nd_perm key.2.1 (nd_dd l) fun x => ?_).trans hd.symm
  rw [key.2.2 x, hm x, mem_dd]
theorem words_loop (v : D) (q : List Str) (w : Option D) : ∀ (k : Nat) (j : Nat), j + k = q.length →
    lcLoop 3 (mOr (mOp gEq (mVar 3) (mC (.int 0))) (mOp gNe (mOp gIx (mVar 1) (mVar 3)) (mOp gIx (mVar 1) (mOp gSub (mVar 3) (mC (.int 1)))))) (mOp gIx (mVar 1) (mVar 3)) ((List.range' j k).map fun (i : Nat) => D.int (i : Int)) [some v, some (.lst (q.map .str)), w, none] =
      some ((adj (if j = 0 then none else q[j - 1]?) (q.drop j)).map .str)
  | 0, j, h => by
    have : q.drop j = [] := List.drop_eq_nil_of_le (by omega)
    rw [this]
    rfl
  | k + 1, j, h => by
    have hj : j < q.length := by omega
    have ih := words_loop v q w k (j + 1) (by omega)
    have e1 : q.drop j = q[j] :: q.drop (j + 1) := List.drop_eq_getElem_cons hj
    rw [e1, List.range'_succ, List.map_cons]
    have em : (q.map D.str)[j]? = some (.str q[j]) := by simp [hj]
    unfold lcLoop
    rw [ih]
    by_cases h0 : j = 0
    · subst h0
      have em' : (q.map D.str)[0]? = some (.str q[0]) := em
      have eq0 : q[0]? = some q[0] := by simp [hj]
      simp [em', adj, eq0]
    · have h0' : ¬ ((j : Int) = 0) := by omega
      have ej : ((j : Int) - 1) = ((j - 1 : Nat) : Int) := by omega
      have hj1 : j - 1 < q.length := by omega
      have em1 : (q.map D.str)[j - 1]? = some (.str q[j - 1]) := by simp [hj1]
      have eq1 : q[j - 1]? = some q[j - 1] := by simp [hj1]
      have eq2 : q[j]? = some q[j] := by simp [hj]
      by_cases hc : q[j] = q[j - 1]
      · simp [em, em1, h0, h0', ej, hc, adj, eq1, eq2, hj, hj1]
      · have hc' : ¬ (q[j - 1] = q[j]) := fun z => hc z.symm
        simp [em, em1, h0, h0', ej, hc, hc', adj, eq1, eq2, hj, hj1]
theorem sort_len (l : List Str) : (sortS l).length = l.length := List.length_mergeSort l
@[simp] theorem x_sort (ss : List Str) : gSort [.lst (ss.map .str)] = some (.lst ((sortS ss).map D.str)) := by
  show (strs? (ss.map D.str)).map _ = _
  rw [strs_map]; rfl
theorem r_words {d : D} (h : dep d < 40) (hz : cnt d ≤ 1000000) : m__law_words_of [d] = some (.tup ((sortS (dd (nm d))).map .str)) := by
  unfold m__law_words_of b__law_words_of
  rw [e_run1]
  have e1 := r__law_names 40 d h hz
  have hl := nm_len d
  have l1 : (nm d).length < 16777216 := by omega
  have e2 := lc_mapf (j := 2) (em := mCall gStr (mCons (mVar 2) mNil)) (ρ := [some d, none, none, none]) (φ := D.str) (f := D.str) (xs := nm d) (fun x _ => by simp)
  have e3 := words_loop d (sortS (nm d)) none (sortS (nm d)).length 0 (by omega)
  rw [← List.range_eq_range', if_pos rfl, List.drop_zero, adj_eq] at e3
  have e4 : (sortS (nm d)).length = (nm d).length := sort_len _
  have l2 : (-1000000000 : Int) ≤ (nm d).length ∧ ((nm d).length : Int) ≤ 1000000000 := by omega
  rw [e4] at e3
  simp [e1, l1, e2, e4, l2, e3]
theorem r_told {d : D} (h : Fit 40 d) (hz : prog d = true → (dd (nm d)).length + 1 < 4096) : m__law_told [d] = some (if prog d = true then .tup [.str "value", .tup ((sortS (dd (nm d))).map .str)] else .tup [.str "program", d]) := by
  unfold m__law_told gTold
  have e1 := r_is_program h
  simp only [e1]
  cases hp : prog d with
  | false => rfl
  | true =>
    have e2 := r_names_in 40 d [] [] 40 h.dp (by decide) h.sz hp
    have hz' : (dd (nm d)).length + 1 < scanBound := hz hp
    simp only [e2, strs_map, Option.bind_some, if_pos hz']
    rfl
/-! all texts within -/
mutual
theorem nm_sub {p : Str → Prop} : ∀ {d : D}, allS p d → ∀ x ∈ nm d, p x
  | .tup xs, h, x, hx => by
    have h : allSs p xs := h
    simp only [nm, List.mem_append] at hx
    rcases hx with hx | hx
    · match xs, h, hx with
      | k :: .str s :: r, h, hx =>
        simp only [headNm] at hx
        split at hx
        · have : x = s := by simpa using hx
          subst this
          exact h.2.1
        · cases hx
      | [], _, hx => simp [headNm] at hx
      | [_], _, hx => simp [headNm] at hx
      | _ :: .non :: _, _, hx => simp [headNm] at hx
      | _ :: .bl _ :: _, _, hx => simp [headNm] at hx
      | _ :: .int _ :: _, _, hx => simp [headNm] at hx
      | _ :: .lst _ :: _, _, hx => simp [headNm] at hx
      | _ :: .tup _ :: _, _, hx => simp [headNm] at hx
      | _ :: .ro _ :: _, _, hx => simp [headNm] at hx
    · exact nms_sub h x hx
  | .non, _, x, hx => by simp [nm] at hx
  | .bl _, _, x, hx => by simp [nm] at hx
  | .int _, _, x, hx => by simp [nm] at hx
  | .str _, _, x, hx => by simp [nm] at hx
  | .lst _, _, x, hx => by simp [nm] at hx
  | .ro _, _, x, hx => by simp [nm] at hx
theorem nms_sub {p : Str → Prop} : ∀ {xs : List D}, allSs p xs → ∀ x ∈ nms xs, p x
  | [], _, x, hx => by simp [nms] at hx
  | y :: ys, h, x, hx => by
    simp only [nms, List.mem_append] at hx
    rcases hx with hx | hx
    · exact nm_sub h.1 x hx
    · exact nms_sub h.2 x hx
end
theorem dd_len {l Z : List Str} (h : ∀ x ∈ l, x ∈ Z) : (dd l).length ≤ Z.length := nd_len (nd_dd l) fun x hx => h x (mem_dd.mp hx)
theorem allSs_strs {p : Str → Prop} : ∀ {l : List Str}, (∀ x ∈ l, p x) → allSs p (l.map .str)
  | [], _ => trivial
  | x :: l, h => ⟨h x List.mem_cons_self, allSs_strs fun y hy => h y (List.mem_cons_of_mem _ hy)⟩
theorem deps_strs : ∀ l : List Str, deps (l.map .str) = 0
  | [] => rfl
  | x :: l => by simp [deps, dep, deps_strs l]
theorem cnts_strs : ∀ l : List Str, cnts (l.map .str) = l.length
  | [] => rfl
  | x :: l => by simp [cnts, cnt, cnts_strs l]; omega
theorem noLs_strs : ∀ l : List Str, noLs (l.map .str) = true
  | [] => rfl
  | x :: l => by simp [noLs, noL, noLs_strs l]
theorem dd_le (l : List Str) : (dd l).length ≤ l.length := dd_len fun x hx => hx
theorem r_right {d : D} (h : Fit 40 d) (hc : cnt d ≤ 900000) (hz : prog d = true → (dd (nm d)).length + 1 < 4096) : m__law_is_right [d] = some (.bl true) := by
  unfold m__law_is_right b__law_is_right
  rw [e_run1]
  have e1 := r_is_program h
  have e2 := r__law_is_program h
  have e3 := r_equal 40 (.bl (prog d)) ⟨by simp [dep], trivial, by simp [cnt]⟩ rfl
  have e4 := r_told h hz
  have e5 := r_words h.dp h.sz
  have e6 := r_has_list 40 d h
  cases hp : prog d with
  | true =>
    obtain ⟨i, e7⟩ := r_most 40 d [] [] 40 h.dp hp
    rw [hp] at e1 e2 e3 e4
    rw [if_pos rfl] at e4
    have hw : ∀ x ∈ sortS (dd (nm d)), smS x := fun x hx => nm_sub h.sm x (mem_dd.mp ((List.mergeSort_perm (dd (nm d)) leS).mem_iff.mp hx))
    have hl : (sortS (dd (nm d))).length ≤ cnt d := by
      rw [sort_len]; exact Nat.le_trans (dd_le _) (nm_len d)
    have e8 := r_equal 40 (.tup [.str "value", .tup ((sortS (dd (nm d))).map .str)]) ⟨by simp [dep, deps, deps_strs], ⟨(by show (("value" : Str)).length ≤ 1000; decide +kernel), allSs_strs hw, trivial⟩, by simp [cnt, cnts, cnts_strs]; omega⟩ (by simp [noL, noLs, noLs_strs])
    by_cases hi : (60 : Int) < i
    · simp [e1, e2, e3, e7, hi]
    · simp [e1, e2, e3, e7, hi, e4, e5, e8]
  | false =>
    rw [hp] at e1 e2 e3 e4
    have e4 : m__law_told [d] = some (.tup [.str "program", d]) := by simpa using e4
    cases hn : noL d with
    | false =>
      rw [hn] at e6
      simp [e1, e2, e3, e4, e6]
    | true =>
      rw [hn] at e6
      have e8 := r_equal 40 d h hn
      simp [e1, e2, e3, e4, e6, e8]
end ML
set_option Elab.async false
set_option linter.all false
set_option maxRecDepth 100000
set_option maxHeartbeats 4000000
/-! what is drawn: numbers within their bounds, five names -/
namespace ML
open PySem PySem.Spec PyProof.Rows L2
theorem loop_rng {i : Nat} {body : S} (n : Nat) (I : Nat → Env → Prop) (step : ∀ j ρ, j < n → I j ρ → ∃ ρ', body (ρ.set i (some (.int (j : Int)))) = some (.nx ρ') ∧ I (j + 1) ρ') (ρ : Env) (h : I 0 ρ) :
    ∃ ρ', loopS i body ((List.range n).map fun (i : Nat) => D.int (i : Int)) ρ = some (.nx ρ') ∧ I n ρ' := by
  obtain ⟨ρ', e, j, hj, hr, hI⟩ := loop_inv (i := i) (body := body) (fun r ρ => ∃ j, j ≤ n ∧ r = (List.range' j (n - j)).map (fun (i : Nat) => D.int (i : Int)) ∧ I j ρ) (fun x r ρ h => by
    obtain ⟨j, hj, hr, hI⟩ := h
    have hlt : j < n := by
      rcases Nat.lt_or_ge j n with h | h
      · exact h
      · have : n - j = 0 := by omega
        rw [this] at hr; simp at hr
    have e : n - j = (n - (j + 1)) + 1 := by omega
    rw [e, List.range'_succ, List.map_cons] at hr
    cases hr
    obtain ⟨ρ', e, h'⟩ := step j ρ hlt hI
    exact ⟨ρ', e, j + 1, hlt, rfl, h'⟩) ((List.range n).map fun (i : Nat) => D.int (i : Int)) ρ ⟨0, Nat.zero_le _, by rw [List.range_eq_range']; rfl, h⟩
  have : j = n := by
    rcases Nat.lt_or_ge j n with h | h
    · have e : n - j = (n - (j + 1)) + 1 := by omega
      rw [e, List.range'_succ] at hr
      simp at hr
    · omega
  subst this
  exact ⟨ρ', e, hI⟩
/-- within their bounds -/
structure Drawn (ds bs : List Int) : Prop where
  len : ds.length = bs.length
  at_ : ∀ (i : Nat) (d b : Int), ds[i]? = some d → bs[i]? = some b → 0 ≤ d ∧ d < b
theorem draws_tail (v l : D) (k cell rest : Int) (bs : List Int) (hb : ∀ b ∈ bs, 0 < b ∧ b < 1000000000000000) (hz : bs.length ≤ 1000) :
    ∃ ds : List Int, finO ((sSeq (sOwn [5] 5 mNil) (sSeq (sFor [5] 6 (wRng (mCons (mCall gLen (mCons (mVar 2) mNil)) mNil)) l0__law_draws) (sRet (mVar 5)))) [some v, some (.int k), some (.lst (bs.map .int)), some (.int cell), some (.int rest), none, none, none]) = some (.lst (ds.map .int)) ∧ Drawn ds bs := by
  obtain ⟨ρ', e, ds, rest', u, w, rfl, hl, ha⟩ := loop_rng (i := 6) (body := l0__law_draws) bs.length (fun j ρ => ∃ (ds : List Int) (rest : Int) (u w : Option D), ρ = [some v, some (.int k), some (.lst (bs.map .int)), some (.int cell), some (.int rest), some (.lst (ds.map .int)), u, w] ∧ ds.length = j ∧ ∀ (i : Nat) (d b : Int), ds[i]? = some d → bs[i]? = some b → 0 ≤ d ∧ d < b)
    (fun j ρ hj h => by
      obtain ⟨ds, rest, u, w, rfl, hl, ha⟩ := h
      have hbj := hb bs[j] (List.getElem_mem hj)
      have e1 : bs[j]? = some bs[j] := List.getElem?_eq_getElem hj
      generalize bs[j] = b at hbj e1
      have hd : ds.length < 16777216 := by omega
      have grow : ∀ d : Int, 0 ≤ d → d < b → ∀ (i : Nat) (d' b' : Int), (ds ++ [d])[i]? = some d' → bs[i]? = some b' → 0 ≤ d' ∧ d' < b' := fun d h0 h1 i d' b' hi hb' => by
        rcases Nat.lt_trichotomy i ds.length with h | h | h
        · rw [List.getElem?_append_left h] at hi
          exact ha i d' b' hi hb'
        · subst h
          rw [List.getElem?_concat_length] at hi
          rw [hl, e1] at hb'
          cases hi; cases hb'
          exact ⟨h0, h1⟩
        · rw [List.getElem?_eq_none (by simp; omega)] at hi; cases hi
      unfold l0__law_draws
      by_cases hr : 0 < rest
      · refine ⟨[some v, some (.int k), some (.lst (bs.map .int)), some (.int cell), some (.int (rest / b)), some (.lst ((ds ++ [rest % b]).map .int)), some (.int j), w], by simp [hr, e1, hbj.1, hbj.2, hd], ds ++ [rest % b], _, _, _, rfl, by simp [hl], grow _ (Int.emod_nonneg _ (by omega)) (Int.emod_lt_of_pos _ hbj.1)⟩
      · generalize hm1 : (cell * 48271 + k * 69621 + (j : Int) * 40692 + 12345) % 2147483647 = m1
        generalize hm2 : (m1 * m1 + (j : Int) * 16807 + 271) % 2147483563 = m2
        generalize hm3 : (m2 * m2 + m2 * 39373 + 7) % 2147483399 = m3
        have b1 : m1.natAbs < 18446744073709551616 := by omega
        have b2 : m2.natAbs < 18446744073709551616 := by omega
        refine ⟨[some v, some (.int k), some (.lst (bs.map .int)), some (.int cell), some (.int rest), some (.lst ((ds ++ [m3 / 16 % b]).map .int)), some (.int j), some (.int m3)], by simp [hr, e1, hbj.1, hbj.2, hd, hm1, b1, hm2, b2, hm3], ds ++ [m3 / 16 % b], _, _, _, rfl, by simp [hl], grow _ (Int.emod_nonneg _ (by omega)) (Int.emod_lt_of_pos _ hbj.1)⟩) [some v, some (.int k), some (.lst (bs.map .int)), some (.int cell), some (.int rest), some (.lst []), none, none] ⟨[], rest, none, none, rfl, rfl, fun i d b h => by simp at h⟩
  have hz' : (-1000000000 : Int) ≤ bs.length ∧ (bs.length : Int) ≤ 1000000000 := by omega
  exact ⟨ds, by simp [hz', e], hl, ha⟩
theorem r_draws (ns : List Int) (k : Int) (bs : List Int) (hk : 0 ≤ k) (hb : ∀ b ∈ bs, 0 < b ∧ b < 1000000000000000) (hz : bs.length ≤ 1000) :
    ∃ ds : List Int, m__law_draws [.ro ns, .int k, .lst (bs.map .int)] = some (.lst (ds.map .int)) ∧ Drawn ds bs := by
  unfold m__law_draws
  rw [show b__law_draws = sSeq (sAsg [5] 3 (mC (.int 0))) (sSeq (sAsg [5] 4 (mC (.int 0))) (sSeq (sIf (mOp gLt (mVar 1) (mCall gLen (mCons (mVar 0) mNil))) (sSeq (sAsg [5] 3 (mCall gInt (mCons (mOp gIx (mVar 0) (mVar 1)) mNil)))
    (sAsg [5] 4 (mCall gMax (mCons (mC (.int 0)) (mCons (mOp gSub (mVar 3) (mOp gPow (mC (.int 10)) (mC (.int 18)))) mNil))))) (sIf (mOp gGt (mCall gLen (mCons (mVar 0) mNil)) (mC (.int 0))) (sAsg [5] 3 (mCall gInt (mCons (mOp gIx (mVar 0) (mOp gMod (mCall gInt (mCons (mVar 1) mNil)) (mCall gLen (mCons (mVar 0) mNil)))) mNil))) sNext))
    (sSeq (sOwn [5] 5 mNil) (sSeq (sFor [5] 6 (wRng (mCons (mCall gLen (mCons (mVar 2) mNil)) mNil)) l0__law_draws) (sRet (mVar 5)))))) from rfl]
  rw [e_run3]
  have tail := fun cell rest => draws_tail (.ro ns) (.lst (bs.map .int)) k cell rest bs hb hz
  generalize (sSeq (sOwn [5] 5 mNil) (sSeq (sFor [5] 6 (wRng (mCons (mCall gLen (mCons (mVar 2) mNil)) mNil)) l0__law_draws) (sRet (mVar 5)))) = R at tail ⊢
  by_cases h1 : k < ns.length
  · have h2 : k.toNat < ns.length := by omega
    have e1 : ns[k.toNat]? = some ns[k.toNat] := List.getElem?_eq_getElem h2
    obtain ⟨ds, hd, hp⟩ := tail ns[k.toNat] (if (0 : Int) < ns[k.toNat] - 1000000000000000000 then ns[k.toNat] - 1000000000000000000 else 0)
    refine ⟨ds, ?_, hp⟩
    rw [← hd]
    simp [h1, hk, e1, h2]
  · by_cases h0 : 0 < ns.length
    · have h0' : (0 : Int) < ns.length := by omega
      have hm : (k % (ns.length : Int)).toNat < ns.length := by
        have := Int.emod_lt_of_pos k h0'
        have := Int.emod_nonneg k (show (ns.length : Int) ≠ 0 by omega)
        omega
      have hm0 : 0 ≤ k % (ns.length : Int) := Int.emod_nonneg k (by omega)
      have e1 : ns[(k % (ns.length : Int)).toNat]? = some ns[(k % (ns.length : Int)).toNat] := List.getElem?_eq_getElem hm
      obtain ⟨ds, hd, hp⟩ := tail ns[(k % (ns.length : Int)).toNat] 0
      refine ⟨ds, ?_, hp⟩
      rw [← hd]
      simp [h1, h0, h0', hm0, e1, hm]
    · obtain ⟨ds, hd, hp⟩ := tail 0 0
      refine ⟨ds, ?_, hp⟩
      rw [← hd]
      have h0' : ¬ (0 : Int) < ns.length := by omega
      simp [h1, h0, h0']
end ML
set_option Elab.async false
set_option linter.all false
set_option maxRecDepth 100000
set_option maxHeartbeats 4000000
namespace ML
open PySem PySem.Spec PyProof.Rows L2
theorem letters_len : letters.length = 26 := by decide +kernel
theorem cps_app (a b : Str) : (a ++ b).cps = a.cps ++ b.cps := rfl
theorem len_app (a b : Str) : (a ++ b).length = a.length + b.length := by
  show (a.cps ++ b.cps).size = _
  rw [Array.size_append]; rfl
theorem app_empty (a : Str) : a ++ Str.empty = a := by
  show (⟨a.cps ++ #[]⟩ : Str) = a
  rw [Array.append_empty]
@[simp] theorem x_ix_s (s : Str) (i : Int) (h : 0 ≤ i) : gIx (.str s) (.int i) = if s.length ≤ sizeLine then (s.cps.toList[i.toNat]?).map fun c => .str ⟨#[c]⟩ else none := by
  show (if s.length ≤ sizeLine then (L2.atI s.cps.toList i).map fun c => D.str ⟨#[c]⟩ else none) = _
  rw [atI_of _ i h]
theorem ix_letters (i : Int) (h0 : 0 ≤ i) (h : i < 26) : ∃ c ∈ letters, gIx (.str "abcdefghijklmnopqrstuvwxyz") (.int i) = some (.str ⟨#[c]⟩) := by
  have hl : i.toNat < letters.length := by rw [letters_len]; omega
  refine ⟨letters[i.toNat], List.getElem_mem hl, ?_⟩
  rw [x_ix_s _ _ h0]
  have e : (Str.ofString "abcdefghijklmnopqrstuvwxyz").length = 26 := letters_len
  rw [e, if_pos (by decide)]
  show (letters[i.toNat]?).map _ = _
  rw [List.getElem?_eq_getElem hl]; rfl
/-- letters only -/
def lets (s : Str) : Prop := ∀ c ∈ s.cps.toList, c ∈ letters
theorem lets_app {a b : Str} (ha : lets a) (hb : lets b) : lets (a ++ b) := fun c hc => by
  rw [cps_app, Array.toList_append, List.mem_append] at hc
  exact hc.elim (ha c) (hb c)
theorem ok_of {s : Str} (h1 : 1 ≤ s.length) (h8 : s.length ≤ 8) (hl : lets s) : okStr s = true := by
  unfold okStr
  simp only [Bool.and_eq_true, decide_eq_true_eq, List.all_eq_true]
  exact ⟨⟨h1, h8⟩, hl⟩
theorem name_of {s : Str} (h1 : 1 ≤ s.length) (h8 : s.length ≤ 8) (hl : lets s) (hn : s ∉ noNames) : nameS (.str s) = true := by
  simp [nameS, wordS, ok_of h1 h8 hl, isIn, hn]
theorem no_x : ∀ w ∈ noNames, w ++ ("x" : Str) ∉ noNames := by decide +kernel
theorem no_len : ∀ w ∈ noNames, w.length ≤ 5 := by decide +kernel
theorem no_z : ∀ w ∈ noNames, w.cps.toList.getLast? ≠ some 122 := by decide +kernel
theorem z_last (w : Str) : (w ++ ("z" : Str)).cps.toList.getLast? = some 122 := by
  have e : ("z" : Str).cps = #[122] := by decide +kernel
  rw [cps_app, e, Array.toList_append]
  simp
theorem app_z (w : Str) : w ++ ("z" : Str) ∉ noNames := fun h => no_z _ h (z_last w)
theorem lets_x : lets "x" := by unfold lets; decide +kernel
theorem lets_z : lets "z" := by unfold lets; decide +kernel
theorem r_word {num : Int} {len : Nat} (hlen : 1 ≤ len ∧ len ≤ 7) (a b c dr stp pl jj : D) (k : Int) (u0 : Option D) :
    ∃ (w : Str) (num' : Int) (u : Option D), loopS 10 (l1__law_pool m__law_draws) ((List.range len).map fun (i : Nat) => D.int (i : Int)) [some a, some b, some c, some dr, some (.int k), some stp, some pl, some jj, some (.int num), some (.str ""), u0] =
      some (.nx [some a, some b, some c, some dr, some (.int k), some stp, some pl, some jj, some (.int num'), some (.str w), u]) ∧ w.length = len ∧ lets w := by
  obtain ⟨ρ', e, w, num', u, rfl, hl, hw⟩ := loop_rng (i := 10) (body := l1__law_pool m__law_draws) len (fun j ρ => ∃ (w : Str) (num' : Int) (u : Option D), ρ = [some a, some b, some c, some dr, some (.int k), some stp, some pl, some jj, some (.int num'), some (.str w), u] ∧ w.length = j ∧ lets w)
    (fun j ρ hj h => by
      obtain ⟨w, num', u, rfl, hl, hw⟩ := h
      obtain ⟨ch, hch, ei⟩ := ix_letters (num' % 26) (Int.emod_nonneg _ (by decide)) (Int.emod_lt_of_pos _ (by decide))
      have h1 : w.length + (⟨#[ch]⟩ : Str).length ≤ 16777216 := by show w.length + 1 ≤ _; omega
      unfold l1__law_pool
      refine ⟨[some a, some b, some c, some dr, some (.int k), some stp, some pl, some jj, some (.int (num' / 26)), some (.str (w ++ ⟨#[ch]⟩)), some (.int j)], ?_, _, _, _, rfl, ?_, ?_⟩
      · simp [-x_ix_s, ei, h1]
      · rw [len_app]; show w.length + 1 = j + 1; omega
      · exact lets_app hw fun x hx => by
          have : x = ch := by simpa using hx
          rw [this]; exact hch) [some a, some b, some c, some dr, some (.int k), some stp, some pl, some jj, some (.int num), some (.str ""), u0] ⟨"", num, u0, rfl, by decide +kernel, fun c hc => by
        have e : ("" : Str).cps.toList = [] := by decide +kernel
        rw [e] at hc; cases hc⟩
  exact ⟨w, num', u, e, hl, hw⟩
theorem r_pool (ns : List Int) : ∃ ps : List Str, m__law_pool [.ro ns, .int 0, .int 5] = some (.lst (ps.map .str)) ∧ ps.length = 5 ∧ ∀ p ∈ ps, nameS (.str p) = true := by
  unfold m__law_pool
  rw [show b__law_pool m__law_draws = sSeq (sAsg [6] 3 (mCall m__law_draws (mCons (mVar 0) (mCons (mVar 1) (mCons (mLst (mCons (mC (.int 7)) (mCons (mOp gPow (mC (.int 26)) (mC (.int 8))) (mCons (mC (.int 9)) mNil)))) mNil)))))
    (sSeq (sAsg [6] 4 (mOp gAdd (mC (.int 1)) (mOp gIx (mVar 3) (mC (.int 0)))))
    (sSeq (sAsg [6] 5 (mOp gAdd (mC (.int 1)) (mOp gMul (mOp gIx (mVar 3) (mC (.int 2))) (mCall gInt (mCons (mOp gGt (mVar 4) (mC (.int 1))) mNil)))))
    (sSeq (sOwn [6] 6 mNil) (sSeq (sFor [6] 7 (wRng (mCons (mVar 2) mNil)) (l0__law_pool m__law_draws)) (sRet (mVar 6)))))) from rfl]
  rw [e_run3]
  obtain ⟨ds, hd, hl, ha⟩ := r_draws ns 0 [7, 208827064576, 9] (by decide) (by decide) (by decide)
  have hl3 : ds.length = 3 := hl
  match ds, hl3 with
  | [d0, d1, d2], _ =>
    have h0 := ha 0 d0 7 rfl rfl
    have h1 := ha 1 d1 _ rfl rfl
    have h2 := ha 2 d2 _ rfl rfl
    have hd : m__law_draws [.ro ns, .int 0, .lst [.int 7, .int 208827064576, .int 9]] = some (.lst [.int d0, .int d1, .int d2]) := hd
    obtain ⟨len, hlen⟩ : ∃ len : Nat, (1 : Int) + d0 = len := ⟨(1 + d0).toNat, by omega⟩
    obtain ⟨stp, hstp⟩ : ∃ stp : Int, stp = 1 + d2 * (if (1 : Int) < 1 + d0 then 1 else 0) := ⟨_, rfl⟩
    have hlr : 1 ≤ len ∧ len ≤ 7 := by omega
    have hlr' : (-1000000000 : Int) ≤ len ∧ (len : Int) ≤ 1000000000 := by omega
    obtain ⟨ρ', e, ps, u7, u8, u9, u10, rfl, hpl, hpn⟩ := loop_rng (i := 7) (body := l0__law_pool m__law_draws) 5 (fun j ρ => ∃ (ps : List Str) (u7 u8 u9 u10 : Option D), ρ = [some (.ro ns), some (.int 0), some (.int 5), some (.lst [.int d0, .int d1, .int d2]), some (.int len), some (.int stp), some (.lst (ps.map .str)), u7, u8, u9, u10] ∧ ps.length = j ∧ ∀ p ∈ ps, nameS (.str p) = true)
      (fun j ρ hj h => by
        obtain ⟨ps, u7, u8, u9, u10, rfl, hpl, hpn⟩ := h
        have hj2 : ((j : Int) / 2).natAbs < 18446744073709551616 := by omega
        have hpz : ps.length < 16777216 := by omega
        obtain ⟨w, num', u, e, hwl, hw⟩ := r_word (num := d1 + (j : Int) / 2 * stp) hlr (.ro ns) (.int 0) (.int 5) (.lst [.int d0, .int d1, .int d2]) (.int stp) (.lst (ps.map .str)) (.int j) (len : Int) u10
        have ei : isIn (.str w) ["if", "fork", "each", "fold", "start", "await", "max", "min"] = decide (w ∈ noNames) := rfl
        have l1 : w.length + ("x" : Str).length ≤ 16777216 := by have : ("x" : Str).length = 1 := by decide +kernel
                                                                 omega
        have fin : ∀ w' : Str, lets w' → 1 ≤ w'.length → w'.length ≤ 7 → w' ∉ noNames → ∀ r, r = (j : Int) % 2 → ∃ f : Str, nameS (.str f) = true ∧ (gMul (.str "z") (.int r)).bind (fun y => gAdd (.str w') y) = some (.str f) := fun w' h1 h2 h3 h4 r hr => by
          rcases (show r = 0 ∨ r = 1 by omega) with h | h
          · subst h
            refine ⟨w', name_of h2 (by omega) h1 h4, ?_⟩
            have e0 : Str.empty.length = 0 := rfl
            have l2 : w'.length + Str.empty.length ≤ 16777216 := by omega
            simp [l2, app_empty]
          · subst h
            have ez : ("z" : Str).length = 1 := by decide +kernel
            refine ⟨w' ++ "z", name_of (by rw [len_app]; omega) (by rw [len_app]; omega) (lets_app h1 lets_z) (app_z w'), ?_⟩
            have l2 : w'.length + ("z" : Str).length ≤ 16777216 := by omega
            simp [l2]
        unfold l0__law_pool
        unfold l1__law_pool at e
        by_cases hk : w ∈ noNames
        · have hx5 := no_len w hk
          have ex : ("x" : Str).length = 1 := by decide +kernel
          obtain ⟨f, hf, ef⟩ := fin (w ++ "x") (lets_app hw lets_x) (by rw [len_app]; omega) (by rw [len_app]; omega) (no_x w hk) _ rfl
          refine ⟨[some (.ro ns), some (.int 0), some (.int 5), some (.lst [.int d0, .int d1, .int d2]), some (.int len), some (.int stp), some (.lst ((ps ++ [f]).map .str)), some (.int j), some (.int num'), some (.str (w ++ "x")), u], ?_, ps ++ [f], _, _, _, _, rfl, by simp [hpl], fun p hp => ?_⟩
          · simp [-x_ix_s, hj2, hlr', e, ei, hk, l1, hpz]
            simp only [x_mul_s, bind_if, Option.bind_some, Option.bind_none, x_add_s, sl_val] at ef
            rw [ef]
            simp [hpz]
          · rcases List.mem_append.mp hp with h | h
            · exact hpn p h
            · have : p = f := by simpa using h
              rw [this]; exact hf
        · obtain ⟨f, hf, ef⟩ := fin w hw (by omega) (by omega) hk _ rfl
          refine ⟨[some (.ro ns), some (.int 0), some (.int 5), some (.lst [.int d0, .int d1, .int d2]), some (.int len), some (.int stp), some (.lst ((ps ++ [f]).map .str)), some (.int j), some (.int num'), some (.str w), u], ?_, ps ++ [f], _, _, _, _, rfl, by simp [hpl], fun p hp => ?_⟩
          · simp [-x_ix_s, hj2, hlr', e, ei, hk, l1, hpz]
            simp only [x_mul_s, bind_if, Option.bind_some, Option.bind_none, x_add_s, sl_val] at ef
            rw [ef]
            simp [hpz]
          · rcases List.mem_append.mp hp with h | h
            · exact hpn p h
            · have : p = f := by simpa using h
              rw [this]; exact hf) [some (.ro ns), some (.int 0), some (.int 5), some (.lst [.int d0, .int d1, .int d2]), some (.int len), some (.int stp), some (.lst []), none, none, none, none] ⟨[], none, none, none, none, rfl, rfl, fun p h => by cases h⟩
    have h2z : d2.natAbs < 18446744073709551616 := by omega
    refine ⟨ps, ?_, hpl, hpn⟩
    have hlen' : (1 : Int) < 1 + d0 ↔ 1 < len := by omega
    simp [hd, h2z]
    rw [← hstp, hlen, e]
    simp
end ML
set_option Elab.async false
set_option linter.all false
set_option maxRecDepth 100000
set_option maxHeartbeats 4000000
/-! the made program -/
namespace ML
open PySem PySem.Spec PyProof.Rows L2
theorem r_stream (ns : List Int) : ∃ st : List Int, m__law_stream [.ro ns, .int 1, .int 8] = some (.lst (st.map .int)) ∧ st.length = 48 ∧ ∀ x ∈ st, 0 ≤ x ∧ x < 2520 := by
  unfold m__law_stream
  rw [show b__law_stream m__law_draws = sSeq (sAsg [] 3 (mLst mNil)) (sSeq (sFor [] 4 (wRng (mCons (mVar 2) mNil)) (l0__law_stream m__law_draws)) (sRet (mVar 3))) from rfl]
  rw [e_run3]
  obtain ⟨ρ', e, st, u, rfl, hl, ha⟩ := loop_rng (i := 4) (body := l0__law_stream m__law_draws) 8 (fun j ρ => ∃ (st : List Int) (u : Option D), ρ = [some (.ro ns), some (.int 1), some (.int 8), some (.lst (st.map .int)), u] ∧ st.length = 6 * j ∧ ∀ x ∈ st, 0 ≤ x ∧ x < 2520)
    (fun j ρ hj h => by
      obtain ⟨st, u, rfl, hl, ha⟩ := h
      obtain ⟨ds, hd, hdl, hda⟩ := r_draws ns (1 + (j : Int)) [2520, 2520, 2520, 2520, 2520, 2520] (by omega) (by decide) (by decide)
      have hdl : ds.length = 6 := hdl
      have hd : m__law_draws [.ro ns, .int (1 + (j : Int)), .lst [.int 2520, .int 2520, .int 2520, .int 2520, .int 2520, .int 2520]] = some (.lst (ds.map .int)) := hd
      have hz : st.length + ds.length ≤ 16777216 := by omega
      unfold l0__law_stream
      refine ⟨[some (.ro ns), some (.int 1), some (.int 8), some (.lst ((st ++ ds).map .int)), some (.int j)], by simp [hd, hz], _, _, rfl, by rw [List.length_append]; omega, fun x hx => ?_⟩
      rcases List.mem_append.mp hx with h | h
      · exact ha x h
      · obtain ⟨i, hi, rfl⟩ := List.mem_iff_getElem.mp h
        have hb : [2520, 2520, 2520, 2520, 2520, 2520][i]? = some (2520 : Int) := by
          match i, (by omega : i < 6) with
          | 0, _ => rfl
          | 1, _ => rfl
          | 2, _ => rfl
          | 3, _ => rfl
          | 4, _ => rfl
          | 5, _ => rfl
        exact hda i _ _ (List.getElem?_eq_getElem hi) hb) [some (.ro ns), some (.int 1), some (.int 8), some (.lst []), none] ⟨[], none, rfl, rfl, fun x h => by cases h⟩
  exact ⟨st, by simp [e], hl, ha⟩
/-- the texts that may stand in what is made -/
def fixed : List Str := ["do", "+", "-", "*", "max", "min", "<", "=", "local", "word", "number", "await", "start", "fork", "if", "each", "fold", "add", "set", "", "A", "abcdefghi", "a1"]
def zs (ps : List Str) (s : Str) : Prop := s ∈ ps ++ fixed
theorem zs_p {ps : List Str} {s : Str} (h : s ∈ ps) : zs ps s := List.mem_append_left _ h
theorem zs_f {ps : List Str} {s : Str} (h : s ∈ fixed) : zs ps s := List.mem_append_right _ h
structure GE (ps L : List Str) (k c : Nat) (e : D) : Prop where
  ok : ∀ m, k ≤ m → exprF m L e = true
  dp : dep e ≤ k
  sz : cnt e ≤ c
  nl : noL e = true
  zz : allS (zs ps) e
theorem pick {α : Type} (xs : List α) (h : 0 < xs.length) (i : Int) : ∃ x ∈ xs, xs[(i % (xs.length : Int)).toNat]? = some x ∧ 0 ≤ i % (xs.length : Int) := by
  have h0 : (0 : Int) < xs.length := by omega
  have hm : (i % (xs.length : Int)).toNat < xs.length := by
    have := Int.emod_lt_of_pos i h0
    have := Int.emod_nonneg i (show (xs.length : Int) ≠ 0 by omega)
    omega
  exact ⟨_, List.getElem_mem hm, List.getElem?_eq_getElem hm, Int.emod_nonneg i (by omega)⟩
theorem pickN {α : Type} (xs : List α) (n : Nat) (h : xs.length = n) (h0 : 0 < n) (i : Int) : ∃ x ∈ xs, xs[(i % (n : Int)).toNat]? = some x ∧ 0 ≤ i % (n : Int) := by
  subst h; exact pick xs h0 i
def cE : Nat → Nat
  | 0 => 3
  | d + 1 => 3 + 2 * cE d
theorem r_gexpr (st : List Int) (ps L : List Str) (hst : 0 < st.length ∧ ∀ x ∈ st, 0 ≤ x ∧ x < 2520) (hps : 0 < ps.length ∧ ∀ p ∈ ps, nameS (.str p) = true) (hL : ∀ l ∈ L, l ∈ ps) :
    ∀ (n deep : Nat) (at_ : Int), deep < n → ∃ (e : D) (at' : Int), m__law_expression n [.lst (st.map .int), .int at_, .lst (ps.map .str), .lst (L.map .str), .int deep] = some (.tup [e, .int at']) ∧ GE ps L (deep + 1) (cE deep) e
  | 0, deep, at_, h => absurd h (Nat.not_lt_zero _)
  | n + 1, deep, at_, h => by
    show ∃ (e : D) (at' : Int), mRun 5 10 (b__law_expression (m__law_expression n)) _ = _ ∧ _
    unfold b__law_expression
    rw [e_run5]
    obtain ⟨nn, hnn, en, en0⟩ := pick st hst.1 at_
    have hn := hst.2 nn hnn
    have hst0 : ¬ st = [] := fun z => by have := hst.1; rw [z] at this; simp at this
    have hps0 : ¬ ps = [] := fun z => by have := hps.1; rw [z] at this; simp at this
    obtain ⟨w, hw, ew, ew0⟩ := pick ps hps.1 (nn / 7)
    have hwn := hps.2 w hw
    have one : ∀ (k : Str) (v : D), (∀ m, exprF (m + 1) L (.tup [.str k, v]) = true) → k ∈ fixed → noL v = true → dep v = 0 → cnt v = 1 → allS (zs ps) v → GE ps L (deep + 1) (cE deep) (.tup [.str k, v]) := fun k v h1 h2 h3 h4 h5 h6 =>
      ⟨fun m hm => by
        obtain ⟨m', rfl⟩ : ∃ m', m = m' + 1 := ⟨m - 1, by omega⟩
        exact h1 m', by simp [dep, deps, h4], by
          have : 3 ≤ cE deep := by cases deep <;> simp [cE]
          simp [cnt, cnts, h5]; omega, by simp [noL, noLs, h3], ⟨zs_f h2, h6, trivial⟩⟩
    by_cases c1 : nn % 7 = 6 ∧ 0 < deep
    · obtain ⟨c1, c2⟩ := c1
      obtain ⟨d', rfl⟩ : ∃ d', deep = d' + 1 := ⟨deep - 1, by omega⟩
      obtain ⟨a, at1, e1, ga⟩ := r_gexpr st ps L hst hps hL n d' (at_ + 1) (by omega)
      obtain ⟨b, at2, e2, gb⟩ := r_gexpr st ps L hst hps hL n d' at1 (by omega)
      obtain ⟨o, ho, eo, eo0⟩ := pickN ([.str "+", .str "-", .str "*", .str "max", .str "min", .str "<", .str "="] : List D) 7 rfl (by decide) (nn / 7)
      obtain ⟨o', ho', rfl⟩ : ∃ o', o' ∈ opsA ∧ o = .str o' := by
        have : o ∈ opsA.map D.str := ho
        obtain ⟨o', h1, h2⟩ := List.mem_map.mp this
        exact ⟨o', h1, h2.symm⟩
      have ed : ((d' + 1 : Nat) : Int) - 1 = (d' : Int) := by omega
      have c2' : (0 : Int) < ((d' + 1 : Nat) : Int) := by omega
      refine ⟨.tup [.str "do", .str o', a, b], at2, ?_, ?_⟩
      · have eo : ([.str "+", .str "-", .str "*", .str "max", .str "min", .str "<", .str "="] : List D)[(nn / 7 % 7).toNat]? = some (.str o') := eo
        have eo0 : 0 ≤ nn / 7 % 7 := eo0
        have c2 : (0 : Int) < (d' : Int) + 1 := by omega
        simp [hst0, hst.1, en, en0, c1, c2, e1, e2, eo, eo0]
      · have hof : o' ∈ fixed := by
          have : ∀ x ∈ opsA, x ∈ fixed := by decide +kernel
          exact this o' ho'
        refine ⟨fun m hm => ?_, ?_, ?_, ?_, ?_⟩
        · obtain ⟨m', rfl⟩ : ∃ m', m = m' + 1 := ⟨m - 1, by omega⟩
          have h1 := ga.ok m' (by omega)
          have h2 := gb.ok m' (by omega)
          simp [exprF, h1, h2, isIn, ho']
        · have := ga.dp; have := gb.dp
          simp [dep, deps]; omega
        · have := ga.sz; have := gb.sz
          simp [cnt, cnts, cE]; omega
        · simp [noL, noLs, ga.nl, gb.nl]
        · exact ⟨zs_f (by decide +kernel), zs_f hof, ga.zz, gb.zz, trivial⟩
    · by_cases c2 : 3 < nn % 7 ∧ 0 < L.length
      · obtain ⟨l, hl, el, el0⟩ := pick L c2.2 (nn / 7)
        have hln := hps.2 l (hL l hl)
        have c2' : ¬ L = [] := fun z => by have := c2.2; rw [z] at this; simp at this
        refine ⟨.tup [.str "local", .str l], at_ + 1, ?_, one "local" (.str l) (fun m => by simp [exprF, hln, isIn, hl]) (by decide +kernel) rfl rfl rfl (zs_p (hL l hl))⟩
        simp [hst0, hst.1, en, en0, c1, c2.1, c2.2, c2', el, el0]
      · by_cases c3 : 2 < nn % 7
        · have c2 : 3 < nn % 7 → L = [] := fun z => by
            rcases Nat.eq_zero_or_pos L.length with h | h
            · exact List.length_eq_zero_iff.mp h
            · exact absurd ⟨z, h⟩ c2
          refine ⟨.tup [.str "word", .str w], at_ + 1, ?_, one "word" (.str w) (fun m => by simp [exprF, hwn]) (by decide +kernel) rfl rfl rfl (zs_p hw)⟩
          by_cases h3 : 3 < nn % 7
          · have := c2 h3
            subst this
            simp [hst0, hps0, hst.1, hps.1, en, en0, c1, h3, c3, ew, ew0]
          · simp [hst0, hps0, hst.1, hps.1, en, en0, c1, h3, c3, ew, ew0]
        · obtain ⟨v, hv, ev, ev0⟩ := pickN ([.int 0, .int 1, .int 2, .int 3, .int 6, .int 7, .int 1000002, .int (nn / 7)] : List D) 8 rfl (by decide) (nn / 7)
          have hvi : ∃ i : Int, v = .int i ∧ 0 ≤ i ∧ i < 1000003 := by
            simp only [List.mem_cons, List.not_mem_nil, or_false] at hv
            rcases hv with h | h | h | h | h | h | h | h <;> exact ⟨_, h, by omega, by omega⟩
          obtain ⟨i, rfl, hi0, hi1⟩ := hvi
          have ev : ([.int 0, .int 1, .int 2, .int 3, .int 6, .int 7, .int 1000002, .int (nn / 7)] : List D)[(nn / 7 % 8).toNat]? = some (.int i) := ev
          have ev0 : 0 ≤ nn / 7 % 8 := ev0
          refine ⟨.tup [.str "number", .int i], at_ + 1, ?_, one "number" (.int i) (fun m => by simp [exprF, valS, hi0, hi1]) (by decide +kernel) rfl rfl rfl trivial⟩
          have h3 : ¬ 3 < nn % 7 := by omega
          simp [hst0, hst.1, en, en0, c1, h3, c3, ev, ev0]
end ML
set_option Elab.async false
set_option linter.all false
set_option maxRecDepth 100000
set_option maxHeartbeats 8000000
/-! made statements and blocks -/
namespace ML
open PySem PySem.Spec PyProof.Rows L2
def cS : Nat → Nat
  | 0 => 35
  | d + 1 => 3 + 4 * (1 + (if d = 3 then 6 else 2) * cS d)
def cB (d : Nat) : Nat := 1 + (if d = 3 then 6 else 2) * cS d
theorem cS_pos : ∀ d, 35 ≤ cS d
  | 0 => Nat.le_refl _
  | d + 1 => by
    have h1 := cS_pos d
    have h2 : 2 * cS d ≤ (if d = 3 then 6 else 2) * cS d := Nat.mul_le_mul_right _ (by split <;> omega)
    simp only [cS]; omega
theorem cB_pos (d : Nat) : 71 ≤ cB d := by
  have h1 := cS_pos d
  have h2 : 2 * cS d ≤ (if d = 3 then 6 else 2) * cS d := Nat.mul_le_mul_right _ (by split <;> omega)
  unfold cB; omega
theorem cS_succ (d : Nat) : cS (d + 1) = 3 + 4 * cB d := rfl
theorem deps_le {k : Nat} : ∀ {xs : List D}, (∀ x ∈ xs, dep x ≤ k) → deps xs ≤ k
  | [], _ => Nat.zero_le _
  | x :: xs, h => by
    have h1 := h x List.mem_cons_self
    have h2 := deps_le fun y hy => h y (List.mem_cons_of_mem _ hy)
    simp only [deps]; omega
theorem cnts_le {c : Nat} : ∀ {xs : List D}, (∀ x ∈ xs, cnt x ≤ c) → cnts xs ≤ xs.length * c
  | [], _ => by simp [cnts]
  | x :: xs, h => by
    have h1 := h x List.mem_cons_self
    have h2 := cnts_le fun y hy => h y (List.mem_cons_of_mem _ hy)
    have h3 : (xs.length + 1) * c = xs.length * c + c := Nat.succ_mul _ _
    simp only [cnts, List.length_cons]; omega
theorem noLs_of : ∀ {xs : List D}, (∀ x ∈ xs, noL x = true) → noLs xs = true := fun {xs} h => by
  rw [noLs_all]; exact List.all_eq_true.mpr h
theorem allSs_of {p : Str → Prop} : ∀ {xs : List D}, (∀ x ∈ xs, allS p x) → allSs p xs
  | [], _ => trivial
  | x :: xs, h => ⟨h x List.mem_cons_self, allSs_of fun y hy => h y (List.mem_cons_of_mem _ hy)⟩
structure GS (ps L T : List Str) (d : Nat) (s : D) : Prop where
  ok : ∀ m, 2 * d + 1 ≤ m → stF m L T s = true
  dp : dep s ≤ 4 + 3 * d
  sz : cnt s ≤ cS d
  nl : noL s = true
  zz : allS (zs ps) s
  st : ∀ x ∈ startOf s, x ∈ ps
structure GB (ps L T : List Str) (d : Nat) (b : D) : Prop where
  ok : ∀ m, 2 * d + 2 ≤ m → blF m L T b = true
  dp : dep b ≤ 5 + 3 * d
  sz : cnt b ≤ cB d
  nl : noL b = true
  zz : allS (zs ps) b
theorem kfix {k : Str} (h : k ∈ fixed) (ps : List Str) : zs ps k := zs_f h
section
variable {ps L T : List Str} {d : Nat}
theorem stF_succ {m : Nat} {s : D} (hm : 1 ≤ m) (h : stG (blF (m - 1)) L T s = true) : stF m L T s = true := by
  obtain ⟨m', rfl⟩ : ∃ m', m = m' + 1 := ⟨m - 1, by omega⟩
  exact h
theorem gs_await {t : Str} (ht : t ∈ T) (hn : nameS (.str t) = true) (hp : t ∈ ps) : GS ps L T d (.tup [.str "await", .str t]) :=
  ⟨fun m hm => stF_succ (by omega) (by simp [stG, hn, isIn, ht]), by simp [dep, deps]; omega, by have := cS_pos d; simp [cnt, cnts]; omega, by simp [noL, noLs], ⟨zs_f (by decide +kernel), zs_p hp, trivial⟩, fun x hx => by simp [startOf] at hx⟩
theorem gs_set {a : Str} {e : D} (hn : nameS (.str a) = true) (hp : a ∈ ps) (g : GE ps L 3 21 e) : GS ps L T d (.tup [.str "set", .str a, e]) :=
  ⟨fun m hm => stF_succ (by omega) (by simp [stG, hn, g.ok 40 (by omega)]), by have := g.dp; simp [dep, deps]; omega, by have := g.sz; have := cS_pos d; simp [cnt, cnts]; omega, by simp [noL, noLs, g.nl], ⟨zs_f (by decide +kernel), zs_p hp, g.zz, trivial⟩, fun x hx => by simp [startOf] at hx⟩
theorem gs_add {a o : Str} {e : D} (hn : nameS (.str a) = true) (hp : a ∈ ps) (ho : o ∈ opsB) (g : GE ps L 3 21 e) : GS ps L T d (.tup [.str "add", .str a, .str o, e]) :=
  ⟨fun m hm => stF_succ (by omega) (by simp [stG, hn, g.ok 40 (by omega), isIn, ho]), by have := g.dp; simp [dep, deps]; omega, by have := g.sz; have := cS_pos d; simp [cnt, cnts]; omega, by simp [noL, noLs, g.nl], ⟨zs_f (by decide +kernel), zs_p hp, zs_f ((by decide +kernel : ∀ x ∈ opsB, x ∈ fixed) o ho), g.zz, trivial⟩, fun x hx => by simp [startOf] at hx⟩
theorem gs_fold {a o c : Str} {e f : D} (hn : nameS (.str a) = true) (hp : a ∈ ps) (ho : o ∈ opsC) (hc : nameS (.str c) = true) (hcp : c ∈ ps) (g : GE ps L 3 21 e) (g2 : GE ps (L ++ [c]) 2 9 f) : GS ps L T d (.tup [.str "fold", .str a, .str o, .str c, e, f]) :=
  ⟨fun m hm => stF_succ (by omega) (by simp [stG, hn, hc, g.ok 40 (by omega), g2.ok 40 (by omega), isIn, ho, strs1]), by have := g.dp; have := g2.dp; simp [dep, deps]; omega, by have := g.sz; have := g2.sz; have := cS_pos d; simp [cnt, cnts]; omega, by simp [noL, noLs, g.nl, g2.nl],
    ⟨zs_f (by decide +kernel), zs_p hp, zs_f ((by decide +kernel : ∀ x ∈ opsC, x ∈ fixed) o ho), zs_p hcp, g.zz, g2.zz, trivial⟩, fun x hx => by simp [startOf] at hx⟩
theorem gs_if {a b c : D} (g : GE ps L 3 21 a) (h1 : GB ps L T d b) (h2 : GB ps L T d c) : GS ps L T (d + 1) (.tup [.str "if", a, b, c]) :=
  ⟨fun m hm => stF_succ (by omega) (by simp [stG, g.ok 40 (by omega), h1.ok (m - 1) (by omega), h2.ok (m - 1) (by omega)]), by have := g.dp; have := h1.dp; have := h2.dp; simp [dep, deps]; omega, by have := g.sz; have := h1.sz; have := h2.sz; have := cB_pos d; rw [cS_succ]; simp [cnt, cnts]; omega,
    by simp [noL, noLs, g.nl, h1.nl, h2.nl], ⟨zs_f (by decide +kernel), g.zz, h1.zz, h2.zz, trivial⟩, fun x hx => by unfold startOf at hx; split at hx <;> simp_all⟩
theorem gs_each {a : Str} {b c : D} (hn : nameS (.str a) = true) (hp : a ∈ ps) (g : GE ps L 3 21 b) (h1 : GB ps (L ++ [a]) T d c) : GS ps L T (d + 1) (.tup [.str "each", .str a, b, c]) :=
  ⟨fun m hm => stF_succ (by omega) (by simp [stG, hn, g.ok 40 (by omega), h1.ok (m - 1) (by omega), strs1]), by have := g.dp; have := h1.dp; simp [dep, deps]; omega, by have := g.sz; have := h1.sz; have := cB_pos d; rw [cS_succ]; simp [cnt, cnts]; omega,
    by simp [noL, noLs, g.nl, h1.nl], ⟨zs_f (by decide +kernel), zs_p hp, g.zz, h1.zz, trivial⟩, fun x hx => by simp [startOf] at hx⟩
theorem gs_start {a : Str} {b : D} (hn : nameS (.str a) = true) (hp : a ∈ ps) (h1 : GB ps L T d b) : GS ps L T (d + 1) (.tup [.str "start", .str a, b]) :=
  ⟨fun m hm => stF_succ (by omega) (by simp [stG, hn, h1.ok (m - 1) (by omega)]), by have := h1.dp; simp [dep, deps]; omega, by have := h1.sz; have := cB_pos d; rw [cS_succ]; simp [cnt, cnts]; omega,
    by simp [noL, noLs, h1.nl], ⟨zs_f (by decide +kernel), zs_p hp, h1.zz, trivial⟩, fun x hx => by
      simp [startOf] at hx
      rw [hx]; exact hp⟩
theorem gs_fork {bs : List D} (h0 : 1 ≤ bs.length) (h4 : bs.length ≤ 4) (h : ∀ b ∈ bs, GB ps L T d b) : GS ps L T (d + 1) (.tup [.str "fork", .tup bs]) :=
  ⟨fun m hm => stF_succ (by omega) (by
      simp [stG, forkS, h0, h4]
      exact fun b hb => (h b hb).ok (m - 1) (by omega)), by
      have := deps_le (k := 5 + 3 * d) fun b hb => (h b hb).dp
      simp [dep, deps]; omega, by
      have h5 := cnts_le (c := cB d) fun b hb => (h b hb).sz
      have h6 : bs.length * cB d ≤ 4 * cB d := Nat.mul_le_mul_right _ h4
      rw [cS_succ]; simp [cnt, cnts]; omega,
    by simp [noL, noLs]; exact noLs_of fun b hb => (h b hb).nl, ⟨zs_f (by decide +kernel), allSs_of fun b hb => (h b hb).zz, trivial⟩, fun x hx => by simp [startOf] at hx⟩
end
theorem seq_app {st : List Str → D → Bool} : ∀ (ss : List D) (T : List Str) (s : D), seqF st T (ss ++ [s]) = (seqF st T ss && st (T ++ ss.flatMap startOf) s)
  | [], T, s => by simp [seqF]
  | x :: r, T, s => by
    simp only [List.cons_append, seqF, seq_app r, List.flatMap_cons, Bool.and_assoc, List.append_assoc]
end ML
set_option Elab.async false
set_option linter.all false
set_option maxRecDepth 100000
set_option maxHeartbeats 8000000
/-! made statements and blocks: the walk -/
namespace ML
open PySem PySem.Spec PyProof.Rows L2
structure Seed (st : List Int) (ps : List Str) : Prop where
  sl : 0 < st.length
  sb : ∀ x ∈ st, 0 ≤ x ∧ x < 2520
  pl : 0 < ps.length
  pn : ∀ p ∈ ps, nameS (.str p) = true
def GenS (st : List Int) (ps : List Str) (n : Nat) : Prop := ∀ (d : Nat) (L T : List Str) (at_ : Int), 2 * d + 1 ≤ n → d ≤ 3 → (∀ l ∈ L, l ∈ ps) → (∀ t ∈ T, t ∈ ps) → L.length + d ≤ 1000 → T.length + 10 * d ≤ 1010 →
  ∃ (s : D) (at' : Int), m__law_statement n [.lst (st.map .int), .int at_, .lst (ps.map .str), .lst (L.map .str), .lst (T.map .str), .int d] = some (.tup [s, .int at']) ∧ GS ps L T d s
def GenB (st : List Int) (ps : List Str) (n : Nat) : Prop := ∀ (d : Nat) (L T : List Str) (at_ : Int), 2 * d + 2 ≤ n → d ≤ 3 → (∀ l ∈ L, l ∈ ps) → (∀ t ∈ T, t ∈ ps) → L.length + d ≤ 1000 → T.length + 10 * d ≤ 1000 →
  ∃ (b : D) (at' : Int), m__law_block n [.lst (st.map .int), .int at_, .lst (ps.map .str), .lst (L.map .str), .lst (T.map .str), .int d] = some (.tup [b, .int at']) ∧ GB ps L T d b
theorem opsMem {xs : List D} {os : List Str} (e : xs = os.map D.str) {o : D} (h : o ∈ xs) : ∃ o', o' ∈ os ∧ o = .str o' := by
  subst e
  obtain ⟨o', h1, h2⟩ := List.mem_map.mp h
  exact ⟨o', h1, h2.symm⟩
theorem gen_stmt {st : List Int} {ps : List Str} (S : Seed st ps) {n : Nat} (hB : GenB st ps n) : GenS st ps (n + 1) := by
  intro d L T at_ hd hd3 hL hT hLl hTl
  show ∃ (s : D) (at' : Int), mRun 6 16 (b__law_statement (m__law_block n) (m__law_expression 40)) _ = _ ∧ _
  obtain ⟨nn, hnn, en, en0⟩ := pick st S.sl at_
  have hn := S.sb nn hnn
  have sl := S.sl
  have pl := S.pl
  have sn : ¬ st = [] := fun z => by rw [z] at sl; simp at sl
  have pn : ¬ ps = [] := fun z => by rw [z] at pl; simp at pl
  obtain ⟨a, ha, ea, ea0⟩ := pick ps S.pl (nn / 12)
  obtain ⟨c, hc, ec, ec0⟩ := pick ps S.pl (nn / 60)
  have han := S.pn a ha
  have hcn := S.pn c hc
  obtain ⟨e, at1, ee, ge⟩ := r_gexpr st ps L ⟨S.sl, S.sb⟩ ⟨S.pl, S.pn⟩ hL 40 2 (at_ + 1) (by decide)
  have ee : m__law_expression 40 [.lst (st.map .int), .int (at_ + 1), .lst (ps.map .str), .lst (L.map .str), .int 2] = some (.tup [e, .int at1]) := ee
  have ge : GE ps L 3 21 e := ge
  -- the last one: set
  have fallSet : ∀ R : Option D, R = some (.tup [.tup [.str "set", .str a, e], .int at1]) → ∃ (s : D) (at' : Int), R = some (.tup [s, .int at']) ∧ GS ps L T d s := fun R h => ⟨_, _, h, gs_set han ha ge⟩
  rw [e_run6]
  have k12 : nn % 12 = 10 ∨ nn % 12 = 9 ∨ nn % 12 = 6 ∨ nn % 12 = 5 ∨ nn % 12 = 7 ∨ nn % 12 = 8 ∨ (nn % 12 = 3 ∨ nn % 12 = 4) ∨ (nn % 12 = 0 ∨ nn % 12 = 1 ∨ nn % 12 = 2 ∨ nn % 12 = 11) := by omega
  rcases k12 with hk | hk | hk | hk | hk | hk | hk | hk
  · -- await
    by_cases hT0 : T = []
    · subst hT0
      exact fallSet _ (by unfold b__law_statement; simp [sl, pl, sn, pn, en, en0, ea, ea0, ec, ec0, hk, ee])
    · have tl : 0 < T.length := List.length_pos_iff.mpr hT0
      obtain ⟨t, ht, et, et0⟩ := pick T tl (nn / 12)
      refine ⟨.tup [.str "await", .str t], at_ + 1, ?_, gs_await ht (S.pn t (hT t ht)) (hT t ht)⟩
      unfold b__law_statement
      simp [sl, pl, sn, pn, en, en0, ea, ea0, hk, hT0, tl, et, et0]
  · -- start
    cases d with
    | zero => exact fallSet _ (by unfold b__law_statement; simp [sl, pl, sn, pn, en, en0, ea, ea0, ec, ec0, hk, ee])
    | succ d =>
      obtain ⟨b, at2, eb, gb⟩ := hB d L T (at_ + 1) (by omega) (by omega) hL hT (by omega) (by omega)
      refine ⟨.tup [.str "start", .str a, b], at2, ?_, gs_start han ha gb⟩
      unfold b__law_statement
      have dp : (0 : Int) < (d : Int) + 1 := by omega
      simp [sl, pl, sn, pn, en, en0, ea, ea0, hk, eb, dp]
  · -- fork
    cases d with
    | zero => exact fallSet _ (by unfold b__law_statement; simp [sl, pl, sn, pn, en, en0, ea, ea0, ec, ec0, hk, ee])
    | succ d =>
      have dp : (0 : Int) < (d : Int) + 1 := by omega
      obtain ⟨cN, hcN⟩ : ∃ cN : Nat, 1 + nn / 12 % 4 = (cN : Int) := ⟨(1 + nn / 12 % 4).toNat, by omega⟩
      have hcr : 1 ≤ cN ∧ cN ≤ 4 := by omega
      have hcr' : (-1000000000 : Int) ≤ (cN : Int) ∧ (cN : Int) ≤ 1000000000 := by omega
      obtain ⟨ρ', ef, bs, at2, v9, v11, rfl, hbl, hbs⟩ := loop_rng (i := 11) (body := l0__law_statement (m__law_block n) (m__law_expression 40)) cN (fun j ρ => ∃ (bs : List D) (at2 : Int) (v9 v11 : Option D), ρ = [some (.lst (st.map .int)), some (.int at2), some (.lst (ps.map .str)), some (.lst (L.map .str)), some (.lst (T.map .str)), some (.int ((d : Int) + 1)), some (.int nn), some (.str a), some (.int 6), v9, some (.lst bs), v11, none, none, none, none] ∧ bs.length = j ∧ ∀ b ∈ bs, GB ps L T d b)
        (fun j ρ hj h => by
          obtain ⟨bs, at2, v9, v11, rfl, hbl, hbs⟩ := h
          obtain ⟨b, at3, eb, gb⟩ := hB d L T at2 (by omega) (by omega) hL hT (by omega) (by omega)
          have hz : bs.length < 16777216 := by omega
          refine ⟨[some (.lst (st.map .int)), some (.int at3), some (.lst (ps.map .str)), some (.lst (L.map .str)), some (.lst (T.map .str)), some (.int ((d : Int) + 1)), some (.int nn), some (.str a), some (.int 6), some (.tup [b, .int at3]), some (.lst (bs ++ [b])), some (.int j), none, none, none, none], ?_, bs ++ [b], at3, _, _, rfl, by simp [hbl], fun x hx => ?_⟩
          · unfold l0__law_statement
            have ed : (d : Int) + 1 - 1 = d := by omega
            simp [ed, eb, hz]
          · rcases List.mem_append.mp hx with h | h
            · exact hbs x h
            · have : x = b := by simpa using h
              rw [this]; exact gb) [some (.lst (st.map .int)), some (.int (at_ + 1)), some (.lst (ps.map .str)), some (.lst (L.map .str)), some (.lst (T.map .str)), some (.int ((d : Int) + 1)), some (.int nn), some (.str a), some (.int 6), none, some (.lst []), none, none, none, none, none] ⟨[], at_ + 1, none, none, rfl, rfl, fun b h => by cases h⟩
      refine ⟨.tup [.str "fork", .tup bs], at2, ?_, gs_fork (by omega) (by omega) hbs⟩
      unfold b__law_statement
      unfold l0__law_statement at ef
      simp [sl, pl, sn, pn, en, en0, ea, ea0, hk, dp, hcN, hcr', ef]
  · -- if
    cases d with
    | zero => exact fallSet _ (by unfold b__law_statement; simp [sl, pl, sn, pn, en, en0, ea, ea0, ec, ec0, hk, ee])
    | succ d =>
      have dp : (0 : Int) < (d : Int) + 1 := by omega
      obtain ⟨b, at2, eb, gb⟩ := hB d L T at1 (by omega) (by omega) hL hT (by omega) (by omega)
      obtain ⟨b2, at3, eb2, gb2⟩ := hB d L T at2 (by omega) (by omega) hL hT (by omega) (by omega)
      refine ⟨.tup [.str "if", e, b, b2], at3, ?_, gs_if ge gb gb2⟩
      unfold b__law_statement
      simp [sl, pl, sn, pn, en, en0, ea, ea0, hk, dp, ee, eb, eb2]
  · -- each
    cases d with
    | zero => exact fallSet _ (by unfold b__law_statement; simp [sl, pl, sn, pn, en, en0, ea, ea0, ec, ec0, hk, ee])
    | succ d =>
      have dp : (0 : Int) < (d : Int) + 1 := by omega
      have hLa : ∀ l ∈ L ++ [a], l ∈ ps := fun l hl => by
        rcases List.mem_append.mp hl with h | h
        · exact hL l h
        · have : l = a := by simpa using h
          rw [this]; exact ha
      obtain ⟨b, at2, eb, gb⟩ := hB d (L ++ [a]) T at1 (by omega) (by omega) hLa hT (by simp; omega) (by omega)
      rw [List.map_append] at eb
      have hz : L.length + 1 ≤ 16777216 := by omega
      refine ⟨.tup [.str "each", .str a, e, b], at2, ?_, gs_each han ha ge gb⟩
      unfold b__law_statement
      simp at eb
      simp [sl, pl, sn, pn, en, en0, ea, ea0, hk, dp, ee, hz, eb]
  · -- fold
    have hLc : ∀ l ∈ L ++ [c], l ∈ ps := fun l hl => by
      rcases List.mem_append.mp hl with h | h
      · exact hL l h
      · have : l = c := by simpa using h
        rw [this]; exact hc
    obtain ⟨f, at2, eF, gf⟩ := r_gexpr st ps (L ++ [c]) ⟨S.sl, S.sb⟩ ⟨S.pl, S.pn⟩ hLc 40 1 at1 (by decide)
    have eF : m__law_expression 40 [.lst (st.map .int), .int at1, .lst (ps.map .str), .lst ((L ++ [c]).map .str), .int 1] = some (.tup [f, .int at2]) := eF
    rw [List.map_append] at eF
    have gf : GE ps (L ++ [c]) 2 9 f := gf
    obtain ⟨o, ho, eo, eo0⟩ := pickN ([.str "+", .str "-", .str "*", .str "max", .str "min"] : List D) 5 rfl (by decide) (nn / 300)
    obtain ⟨o', ho', rfl⟩ := opsMem (os := opsC) rfl ho
    have eo : ([.str "+", .str "-", .str "*", .str "max", .str "min"] : List D)[(nn / 300 % 5).toNat]? = some (.str o') := eo
    have eo0 : 0 ≤ nn / 300 % 5 := eo0
    have hz : L.length + 1 ≤ 16777216 := by omega
    refine ⟨.tup [.str "fold", .str a, .str o', .str c, e, f], at2, ?_, gs_fold han ha ho' hcn hc ge gf⟩
    unfold b__law_statement
    simp at eF
    simp [sl, pl, sn, pn, en, en0, ea, ea0, ec, ec0, hk, ee, hz, eF, eo, eo0]
  · -- add
    obtain ⟨o, ho, eo, eo0⟩ := pickN ([.str "+", .str "*", .str "max", .str "min"] : List D) 4 rfl (by decide) (nn / 60)
    obtain ⟨o', ho', rfl⟩ := opsMem (os := opsB) rfl ho
    have eo : ([.str "+", .str "*", .str "max", .str "min"] : List D)[(nn / 60 % 4).toNat]? = some (.str o') := eo
    have eo0 : 0 ≤ nn / 60 % 4 := eo0
    refine ⟨.tup [.str "add", .str a, .str o', e], at1, ?_, gs_add han ha ho' ge⟩
    unfold b__law_statement
    rcases hk with hk | hk <;> simp [sl, pl, sn, pn, en, en0, ea, ea0, ec, ec0, hk, ee, eo, eo0]
  · refine fallSet _ ?_
    unfold b__law_statement
    rcases hk with hk | hk | hk | hk <;> simp [sl, pl, sn, pn, en, en0, ea, ea0, ec, ec0, hk, ee]
end ML
set_option Elab.async false
set_option linter.all false
set_option maxRecDepth 100000
set_option maxHeartbeats 8000000
/-! made blocks, the made program -/
namespace ML
open PySem PySem.Spec PyProof.Rows L2
theorem gen_block {st : List Int} {ps : List Str} (S : Seed st ps) {n : Nat} (hS : GenS st ps n) : GenB st ps (n + 1) := by
  intro d L T at_ hd hd3 hL hT hLl hTl
  show ∃ (s : D) (at' : Int), mRun 6 12 (b__law_block (m__law_statement n)) _ = _ ∧ _
  rw [show b__law_block (m__law_statement n) = sSeq (sAsg [7, 8] 6 (mOp gIx (mVar 0) (mOp gMod (mCall gInt (mCons (mVar 1) mNil)) (mCall gLen (mCons (mVar 0) mNil)))))
    (sSeq (sOwn [7, 8] 7 mNil)
    (sSeq (sOwn [7, 8] 8 (mListOf (mCons (mVar 4) mNil)))
    (sSeq (sAsg [7, 8] 1 (mOp gAdd (mVar 1) (mC (.int 1))))
    (sSeq (sAsg [7, 8] 9 (mOp gAdd (mOp gIx (mLst (mCons (mC (.int 0)) (mCons (mC (.int 1)) (mCons (mC (.int 1)) (mCons (mC (.int 1)) (mCons (mC (.int 2)) (mCons (mC (.int 2)) (mCons (mC (.int 1)) (mCons (mC (.int 1)) mNil))))))))) (mOp gMod (mCall gInt (mCons (mVar 6) mNil)) (mC (.int 8)))) (mOp gMul (mCall gInt (mCons (mOp gEq (mVar 5) (mC (.int 3))) mNil)) (mOp gAdd (mC (.int 1)) (mOp gMod (mCall gInt (mCons (mOp gDiv (mVar 6) (mC (.int 8))) mNil)) (mC (.int 4)))))))
    (sSeq (sFor [7, 8] 10 (wRng (mCons (mOp gMul (mVar 9) (mCall gInt (mCons (mOp gLt (mVar 1) (mC (.int 90))) mNil))) mNil)) (l0__law_block (m__law_statement n)))
    (sRet (mTup (mCons (mCall gTuple (mCons (mVar 7) mNil)) (mCons (mVar 1) mNil))))))))) from rfl]
  rw [e_run6]
  obtain ⟨nn, hnn, en, en0⟩ := pick st S.sl at_
  have hn := S.sb nn hnn
  have sl := S.sl
  have sn : ¬ st = [] := fun z => by rw [z] at sl; simp at sl
  obtain ⟨sz0, hsz0, es0, es00⟩ := pickN ([.int 0, .int 1, .int 1, .int 1, .int 2, .int 2, .int 1, .int 1] : List D) 8 rfl (by decide) nn
  have hs0 : ∃ z : Int, sz0 = .int z ∧ 0 ≤ z ∧ z ≤ 2 := by
    simp only [List.mem_cons, List.not_mem_nil, or_false] at hsz0
    rcases hsz0 with h | h | h | h | h | h | h | h <;> exact ⟨_, h, by decide, by decide⟩
  obtain ⟨z, rfl, hz0, hz2⟩ := hs0
  have es0 : ([.int 0, .int 1, .int 1, .int 1, .int 2, .int 2, .int 1, .int 1] : List D)[(nn % 8).toNat]? = some (.int z) := es0
  have es00 : 0 ≤ nn % 8 := es00
  obtain ⟨size, hsize⟩ : ∃ size : Int, size = z + (if (d : Int) = 3 then 1 else 0) * (1 + nn / 8 % 4) := ⟨_, rfl⟩
  obtain ⟨cN, hcN⟩ : ∃ cN : Nat, size * (if at_ + 1 < 90 then 1 else 0) = (cN : Int) ∧ (cN : Int) ≤ size := by
    have h1 : 0 ≤ size := by rw [hsize]; split <;> omega
    by_cases h : at_ + 1 < 90
    · exact ⟨size.toNat, by rw [if_pos h]; omega, by omega⟩
    · exact ⟨0, by rw [if_neg h]; omega, by omega⟩
  have hcb : cN ≤ (if d = 3 then 6 else 2) := by
    have h2 := hcN.2
    rw [hsize] at h2
    by_cases h : d = 3
    · have h' : (d : Int) = 3 := by omega
      rw [if_pos h'] at h2
      rw [if_pos h]
      omega
    · have h' : ¬ (d : Int) = 3 := by omega
      rw [if_neg h'] at h2
      rw [if_neg h]
      omega
  have hc6 : cN ≤ 6 := Nat.le_trans hcb (by split <;> omega)
  have hcr' : (-1000000000 : Int) ≤ (cN : Int) ∧ (cN : Int) ≤ 1000000000 := by omega
  obtain ⟨ρ', ef, ss, at2, v10, v11, rfl, hsl, hss, hseq, hst⟩ := loop_rng (i := 10) (body := l0__law_block (m__law_statement n)) cN (fun j ρ => ∃ (ss : List D) (at2 : Int) (v10 v11 : Option D), ρ = [some (.lst (st.map .int)), some (.int at2), some (.lst (ps.map .str)), some (.lst (L.map .str)), some (.lst (T.map .str)), some (.int d), some (.int nn), some (.lst ss), some (.lst ((T ++ ss.flatMap startOf).map .str)), some (.int size), v10, v11] ∧ ss.length = j ∧
      (∀ s ∈ ss, dep s ≤ 4 + 3 * d ∧ cnt s ≤ cS d ∧ noL s = true ∧ allS (zs ps) s) ∧ (∀ m, 2 * d + 1 ≤ m → seqF (stF m L) T ss = true) ∧ (∀ x ∈ ss.flatMap startOf, x ∈ ps) ∧ (ss.flatMap startOf).length ≤ j)
    (fun j ρ hj h => by
      obtain ⟨ss, at2, v10, v11, rfl, hsl, hss, hseq, hsp, hsn⟩ := h
      have hT' : ∀ t ∈ T ++ ss.flatMap startOf, t ∈ ps := fun t ht => by
        rcases List.mem_append.mp ht with h | h
        · exact hT t h
        · exact hsp t h
      obtain ⟨s, at3, e, gs⟩ := hS d L (T ++ ss.flatMap startOf) at2 (by omega) hd3 hL hT' hLl (by rw [List.length_append]; omega)
      have hz : ss.length < 16777216 := by omega
      have hz2 : (T ++ ss.flatMap startOf).length < 16777216 := by rw [List.length_append]; omega
      have hfl : (ss ++ [s]).flatMap startOf = ss.flatMap startOf ++ startOf s := by simp
      have hs1 : stG (blF (2 * d)) L (T ++ ss.flatMap startOf) s = true := gs.ok (2 * d + 1) (Nat.le_refl _)
      obtain ⟨k, r, rfl, hk⟩ := stG_shape hs1
      have nl := gs.nl
      have nl2 : noL (.tup [.tup (.str k :: r), .int at3]) = true := by
        simp only [noL, noLs, Bool.and_true] at nl ⊢
        exact nl
      refine ⟨[some (.lst (st.map .int)), some (.int at3), some (.lst (ps.map .str)), some (.lst (L.map .str)), some (.lst (T.map .str)), some (.int d), some (.int nn), some (.lst (ss ++ [.tup (.str k :: r)])), some (.lst ((T ++ (ss ++ [D.tup (.str k :: r)]).flatMap startOf).map .str)), some (.int size), some (.int j), some (.tup [.tup (.str k :: r), .int at3])], ?_, ss ++ [.tup (.str k :: r)], at3, _, _, rfl, by simp [hsl], fun x hx => ?_, fun m hm => ?_, fun x hx => ?_, ?_⟩
      · unfold l0__law_block
        rw [hfl]
        generalize hK : T ++ ss.flatMap startOf = K at e hz2
        have hK2 : T ++ (ss.flatMap startOf ++ startOf (D.tup (.str k :: r))) = K ++ startOf (D.tup (.str k :: r)) := by rw [← List.append_assoc, hK]
        rw [hK2]
        by_cases k1 : k = "start"
        · obtain ⟨a, r', rfl⟩ := hk k1
          subst k1
          have es : startOf (.tup (.str "start" :: .str a :: r')) = [a] := by simp [startOf]
          simp [e, nl2, hz, es, hz2]
        · have es : startOf (.tup (.str k :: r)) = [] := by
            unfold startOf
            split
            · rename_i heq; cases heq; simp [k1]
            · rfl
          simp [e, nl2, hz, es, k1]
      · rcases List.mem_append.mp hx with h | h
        · exact hss x h
        · have : x = .tup (.str k :: r) := by simpa using h
          rw [this]; exact ⟨gs.dp, gs.sz, gs.nl, gs.zz⟩
      · rw [seq_app, hseq m hm, Bool.true_and]
        exact gs.ok m hm
      · rw [hfl] at hx
        rcases List.mem_append.mp hx with h | h
        · exact hsp x h
        · exact gs.st x h
      · rw [hfl, List.length_append]
        have : (startOf (.tup (.str k :: r))).length ≤ 1 := by
          unfold startOf
          split
          · split <;> simp
          · simp
        omega) [some (.lst (st.map .int)), some (.int (at_ + 1)), some (.lst (ps.map .str)), some (.lst (L.map .str)), some (.lst (T.map .str)), some (.int d), some (.int nn), some (.lst []), some (.lst (T.map .str)), some (.int size), none, none] ⟨[], at_ + 1, none, none, by simp, rfl, (fun s h => by cases h), (fun m _ => rfl), (fun x h => by cases h), Nat.zero_le _⟩
  refine ⟨.tup ss, at2, ?_, ?_⟩
  · have hb1 : (if (d : Int) = 3 then (1 : Int) else 0).natAbs < 18446744073709551616 := by split <;> decide
    have hb2 : (if at_ + 1 < 90 then (1 : Int) else 0).natAbs < 18446744073709551616 := by split <;> decide
    simp [sl, sn, en, en0, es0, es00]
    rw [if_pos (Or.inl hb1), ← hsize, if_pos (Or.inr hb2), hcN.1, if_pos hcr']
    simp [ef]
  · refine ⟨fun m hm => ?_, ?_, ?_, ?_, allSs_of fun s hs => (hss s hs).2.2.2⟩
    · obtain ⟨m', rfl⟩ : ∃ m', m = m' + 1 := ⟨m - 1, by omega⟩
      exact hseq m' (by omega)
    · have := deps_le (k := 4 + 3 * d) fun s hs => (hss s hs).1
      simp only [dep]; omega
    · have h1 := cnts_le (c := cS d) fun s hs => (hss s hs).2.1
      have h2 : ss.length * cS d ≤ (if d = 3 then 6 else 2) * cS d := Nat.mul_le_mul_right _ (by omega)
      unfold cB
      simp only [cnt]; omega
    · simp only [noL]
      exact noLs_of fun s hs => (hss s hs).2.2.1
end ML
set_option Elab.async false
set_option linter.all false
set_option maxRecDepth 100000
set_option maxHeartbeats 8000000
/-! the made program; parts of data -/
namespace ML
open PySem PySem.Spec PyProof.Rows L2
theorem r_gen {st : List Int} {ps : List Str} (S : Seed st ps) : ∀ n, GenS st ps n ∧ GenB st ps n
  | 0 => ⟨fun d _ _ _ h => absurd h (by omega), fun d _ _ _ h => absurd h (by omega)⟩
  | n + 1 => ⟨gen_stmt S (r_gen S n).2, gen_block S (r_gen S n).1⟩
structure Made (ps : List Str) (ss : List D) : Prop where
  ok : seqF (stF 39 []) [] ss = true
  dp : ∀ s ∈ ss, dep s ≤ 13
  sz : cnts ss ≤ 110586
  nl : ∀ s ∈ ss, noL s = true
  zz : ∀ s ∈ ss, allS (zs ps) s
theorem seq_take {st : List Str → D → Bool} : ∀ (ss : List D) (T : List Str) (k : Nat), seqF st T ss = true → seqF st T (ss.take k) = true
  | [], T, k, h => by simp [seqF]
  | x :: r, T, 0, h => rfl
  | x :: r, T, k + 1, h => by
    simp only [seqF, Bool.and_eq_true, List.take_succ_cons] at h ⊢
    exact ⟨h.1, seq_take r _ k h.2⟩
theorem cnts_take : ∀ (ss : List D) (k : Nat), cnts (ss.take k) ≤ cnts ss
  | [], k => by simp [cnts]
  | x :: r, 0 => by simp [cnts]
  | x :: r, k + 1 => by
    have := cnts_take r k
    simp only [List.take_succ_cons, cnts]; omega
theorem Made.take {ps : List Str} {ss : List D} (h : Made ps ss) (k : Nat) : Made ps (ss.take k) :=
  ⟨seq_take ss [] k h.ok, fun s hs => h.dp s (List.mem_of_mem_take hs), Nat.le_trans (cnts_take ss k) h.sz, fun s hs => h.nl s (List.mem_of_mem_take hs), fun s hs => h.zz s (List.mem_of_mem_take hs)⟩
theorem Made.prog {ps : List Str} {ss : List D} (h : Made ps ss) : prog (.tup ss) = true := h.ok
theorem Made.dep {ps : List Str} {ss : List D} (h : Made ps ss) : dep (.tup ss) ≤ 14 := by
  have := deps_le h.dp
  simp only [ML.dep]; omega
theorem Made.cnt {ps : List Str} {ss : List D} (h : Made ps ss) : cnt (.tup ss) ≤ 110587 := by
  have := h.sz
  simp only [ML.cnt]; omega
theorem r_program (ns : List Int) {ps : List Str} (hp : ps.length = 5) (hn : ∀ p ∈ ps, nameS (.str p) = true) : ∃ ss : List D, m__law_program [.ro ns, .int 1, .lst (ps.map .str), .int 60] = some (.tup ss) ∧ Made ps ss := by
  unfold m__law_program
  rw [show b__law_program m__law_stream (m__law_block 40) (m__law_most 40) = sSeq (sAsg [] 4 (mOp gIx (mCall (m__law_block 40) (mCons (mCall m__law_stream (mCons (mVar 0) (mCons (mVar 1) (mCons (mC (.int 8)) mNil)))) (mCons (mC (.int 0)) (mCons (mVar 2) (mCons (mLst mNil) (mCons (mLst mNil) (mCons (mC (.int 3)) mNil))))))) (mC (.int 0))))
    (sSeq (sFor [] 5 (wRng (mCons (mC (.int 8)) mNil)) (l0__law_program m__law_stream (m__law_block 40) (m__law_most 40))) (sRet (mVar 4))) from rfl]
  rw [e_run4]
  obtain ⟨st, e1, hl, hb⟩ := r_stream ns
  have S : Seed st ps := ⟨by omega, hb, by omega, hn⟩
  obtain ⟨b, at', e2, gb⟩ := (r_gen S 40).2 3 [] [] 0 (by decide) (by decide) (fun l h => by cases h) (fun l h => by cases h) (by decide) (by decide)
  have e2 : m__law_block 40 [.lst (st.map .int), .int 0, .lst (ps.map .str), .lst [], .lst [], .int 3] = some (.tup [b, .int at']) := e2
  have hv := gb.ok 40 (by decide)
  obtain ⟨ss, rfl⟩ := bl_tup hv
  have M : Made ps ss := by
    have h1 := gb.dp
    have h2 := gb.sz
    have h3 := gb.nl
    have h4 : allSs (zs ps) ss := gb.zz
    have e : cB 3 = 110587 := by decide
    rw [e] at h2
    simp only [ML.dep, ML.cnt, noL] at h1 h2 h3
    rw [noLs_all] at h3
    have hz : ∀ (xs : List D), allSs (zs ps) xs → ∀ s ∈ xs, allS (zs ps) s := fun xs => by
      induction xs with
      | nil => intro _ s hs; cases hs
      | cons x xs ih =>
        intro h s hs
        rcases List.mem_cons.mp hs with e | e
        · subst e; exact h.1
        · exact ih h.2 s e
    exact ⟨hv, fun s hs => by have := deps_mem hs; omega, by omega, fun s hs => List.all_eq_true.mp h3 s hs, hz ss h4⟩
  obtain ⟨ρ', e3, ss', u, rfl, M'⟩ := loop_rng (i := 5) (body := l0__law_program m__law_stream (m__law_block 40) (m__law_most 40)) 8 (fun j ρ => ∃ (ss : List D) (u : Option D), ρ = [some (.ro ns), some (.int 1), some (.lst (ps.map .str)), some (.int 60), some (.tup ss), u] ∧ Made ps ss)
    (fun j ρ hj h => by
      obtain ⟨ss, u, rfl, M⟩ := h
      obtain ⟨i, ei⟩ := r_most 40 (.tup ss) [] [] 40 (by have := M.dep; omega) M.ok
      unfold l0__law_program
      by_cases hi : 60 < i
      · exact ⟨[some (.ro ns), some (.int 1), some (.lst (ps.map .str)), some (.int 60), some (.tup (ss.take (ss.length - 1))), some (.int j)], by simp [ei, hi], _, _, rfl, M.take _⟩
      · exact ⟨[some (.ro ns), some (.int 1), some (.lst (ps.map .str)), some (.int 60), some (.tup ss), some (.int j)], by simp [ei, hi], _, _, rfl, M⟩) [some (.ro ns), some (.int 1), some (.lst (ps.map .str)), some (.int 60), some (.tup ss), none] ⟨ss, none, rfl, M⟩
  exact ⟨ss', by simp [e1, e2, e3], M'⟩
/-! parts -/
inductive Sub : D → D → Prop
  | refl (d : D) : Sub d d
  | step {e x : D} {xs : List D} : x ∈ xs → Sub e x → Sub e (.tup xs)
theorem Sub.dep {e d : D} (h : Sub e d) : dep e ≤ dep d := by
  induction h with
  | refl => exact Nat.le_refl _
  | step hx _ ih =>
    have := deps_mem hx
    simp only [ML.dep]; omega
theorem Sub.cnt {e d : D} (h : Sub e d) : cnt e ≤ cnt d := by
  induction h with
  | refl => exact Nat.le_refl _
  | step hx _ ih =>
    have := cnt_mem hx
    simp only [ML.cnt]; omega
theorem allS_mem {p : Str → Prop} {x : D} : ∀ {xs : List D}, allSs p xs → x ∈ xs → allS p x
  | [], _, h => by cases h
  | y :: ys, h, hx => by
    rcases List.mem_cons.mp hx with e | e
    · subst e; exact h.1
    · exact allS_mem h.2 e
theorem Sub.allS {p : Str → Prop} {e d : D} (h : Sub e d) : allS p d → allS p e := by
  induction h with
  | refl => exact id
  | step hx _ ih => exact fun h => ih (allS_mem h hx)
theorem part_sub : ∀ (n : Nat) (d : D) (i : Nat), Sub (partF n d i) d
  | 0, d, i => .refl d
  | n + 1, d, i => by
    cases d with
    | tup xs =>
      have key : ∀ (ys : List D) (j : Nat), (∀ y ∈ ys, y ∈ xs) → Sub (partL (partF n) (.tup xs) ys j) (.tup xs) := fun ys => by
        induction ys with
        | nil => exact fun j _ => .refl _
        | cons y ys ih =>
          intro j hy
          unfold partL
          split
          · exact .step (hy y List.mem_cons_self) (part_sub n y j)
          · exact ih _ fun z hz => hy z (List.mem_cons_of_mem _ hz)
      show Sub (if i = 0 then _ else partL (partF n) (.tup xs) xs (i - 1)) _
      split
      · exact .refl _
      · exact key xs _ fun y hy => hy
    | _ =>
      simp only [partF]
      split <;> exact .refl _
mutual
theorem put_cnt : ∀ (n : Nat) (d : D) (i : Int) (new : D), cnt (putF n d i new) ≤ cnt d + cnt new
  | 0, d, i, new => by simp [putF]
  | n + 1, d, i, new => by
    cases d with
    | tup xs =>
      show cnt (if i = 0 then new else .tup (putL (putF n) new xs (i - 1))) ≤ _
      split
      · omega
      · have := putL_cnt n xs (i - 1) new
        simp only [cnt]
        split at this <;> omega
    | _ =>
      simp only [putF]
      split <;> omega
theorem putL_cnt : ∀ (n : Nat) (xs : List D) (i : Int) (new : D), cnts (putL (putF n) new xs i) ≤ cnts xs + (if 0 ≤ i then cnt new else 0)
  | n, [], i, new => by simp [putL, cnts]
  | n, x :: xs, i, new => by
    have h1 := put_cnt n x i new
    have h2 := putL_cnt n xs (i - cnt x) new
    have h3 := cnt_pos x
    unfold putL
    simp only [cnts]
    by_cases h0 : 0 ≤ i
    · by_cases hx : i < cnt x
      · rw [if_pos ⟨h0, hx⟩, if_pos h0]
        rw [if_neg (by omega)] at h2
        omega
      · rw [if_neg (by omega), if_pos h0]
        rw [if_pos (by omega)] at h2
        omega
    · rw [if_neg (by omega), if_neg h0]
      rw [if_neg (by omega)] at h2
      omega
end
mutual
theorem put_dep : ∀ (n : Nat) (d : D) (i : Int) (new : D), dep (putF n d i new) ≤ dep d + dep new
  | 0, d, i, new => by simp [putF]
  | n + 1, d, i, new => by
    cases d with
    | tup xs =>
      show dep (if i = 0 then new else .tup (putL (putF n) new xs (i - 1))) ≤ _
      split
      · omega
      · have := putL_dep n xs (i - 1) new
        simp only [dep]
        omega
    | _ =>
      simp only [putF]
      split <;> omega
theorem putL_dep : ∀ (n : Nat) (xs : List D) (i : Int) (new : D), deps (putL (putF n) new xs i) ≤ deps xs + dep new
  | n, [], i, new => by simp [putL, deps]
  | n, x :: xs, i, new => by
    have h1 := put_dep n x i new
    have h2 := putL_dep n xs (i - cnt x) new
    unfold putL
    simp only [deps]
    split <;> omega
end
mutual
theorem put_all {p : Str → Prop} : ∀ (n : Nat) (d : D) (i : Int) (new : D), allS p d → allS p new → allS p (putF n d i new)
  | 0, d, i, new, h, _ => h
  | n + 1, d, i, new, h, hn => by
    cases d with
    | tup xs =>
      show allS p (if i = 0 then new else .tup (putL (putF n) new xs (i - 1)))
      split
      · exact hn
      · exact putL_all n xs (i - 1) new h hn
    | _ =>
      simp only [putF]
      split <;> exact hn
theorem putL_all {p : Str → Prop} : ∀ (n : Nat) (xs : List D) (i : Int) (new : D), allSs p xs → allS p new → allSs p (putL (putF n) new xs i)
  | n, [], i, new, _, _ => trivial
  | n, x :: xs, i, new, h, hn => by
    unfold putL
    refine ⟨?_, putL_all n xs (i - cnt x) new h.2 hn⟩
    split
    · exact put_all n x i new h.1 hn
    · exact h.1
end
/-- data that the law may judge -/
structure Good (ps : List Str) (d : D) : Prop where
  dp : dep d ≤ 35
  sz : cnt d ≤ 800000
  zz : allS (zs ps) d
theorem zs_small {ps : List Str} (hn : ∀ p ∈ ps, nameS (.str p) = true) {s : Str} (h : zs ps s) : smS s := by
  rcases List.mem_append.mp h with h | h
  · have h1 := hn s h
    simp [nameS, wordS, okStr] at h1
    unfold smS; omega
  · have : ∀ x ∈ fixed, x.length ≤ 1000 := by decide +kernel
    exact this s h
mutual
theorem allS_imp {p q : Str → Prop} (h : ∀ s, p s → q s) : ∀ {d : D}, allS p d → allS q d
  | .str s, k => h s k
  | .tup xs, k => allSs_imp (xs := xs) h k
  | .non, _ => trivial
  | .bl _, _ => trivial
  | .int _, _ => trivial
  | .lst _, _ => trivial
  | .ro _, _ => trivial
theorem allSs_imp {p q : Str → Prop} (h : ∀ s, p s → q s) : ∀ {xs : List D}, allSs p xs → allSs q xs
  | [], _ => trivial
  | _ :: _, k => ⟨allS_imp h k.1, allSs_imp h k.2⟩
end
theorem Good.right {ps : List Str} (hp : ps.length = 5) (hn : ∀ p ∈ ps, nameS (.str p) = true) {d : D} (h : Good ps d) : m__law_is_right [d] = some (.bl true) := by
  refine r_right ⟨by have := h.dp; omega, allS_imp (fun s hs => zs_small hn hs) h.zz, by have := h.sz; omega⟩ (by have := h.sz; omega) fun _ => ?_
  have h1 := dd_len (l := nm d) (Z := ps ++ fixed) fun x hx => nm_sub h.zz x hx
  have h2 : (ps ++ fixed).length = 28 := by rw [List.length_append, hp]; rfl
  omega
theorem Made.good {ps : List Str} {ss : List D} (h : Made ps ss) : Good ps (.tup ss) := ⟨by have := h.dep; omega, by have := h.cnt; omega, allSs_of h.zz⟩
theorem good_put {ps : List Str} {d new : D} {n : Nat} {i : Int} (h1 : dep d ≤ 14) (h2 : cnt d ≤ 120000) (h3 : allS (zs ps) d) (k1 : dep new ≤ 20) (k2 : cnt new ≤ 600000) (k3 : allS (zs ps) new) : Good ps (putF n d i new) :=
  ⟨by have := put_dep n d i new; omega, by have := put_cnt n d i new; omega, put_all n d i new h3 k3⟩
end ML
set_option Elab.async false
set_option linter.all false
set_option maxRecDepth 100000
set_option maxHeartbeats 8000000
/-! a new part -/
namespace ML
open PySem PySem.Spec PyProof.Rows L2
/-- what may be put -/
structure New (ps : List Str) (d : D) : Prop where
  dp : dep d ≤ 20
  sz : cnt d ≤ 600000
  zz : allS (zs ps) d
theorem pos_at {α : Type} {xs : List α} {i : Int} (h0 : 0 ≤ i) (h : i < xs.length) : ∃ x ∈ xs, xs[i.toNat]? = some x := by
  have hl : i.toNat < xs.length := by omega
  exact ⟨_, List.getElem_mem hl, List.getElem?_eq_getElem hl⟩
theorem allSs_app {p : Str → Prop} : ∀ {xs ys : List D}, allSs p xs → allSs p ys → allSs p (xs ++ ys)
  | [], _, _, h => h
  | _ :: _, _, h, k => ⟨h.1, allSs_app h.2 k⟩
theorem cnts_app : ∀ (xs ys : List D), cnts (xs ++ ys) = cnts xs + cnts ys
  | [], ys => by simp [cnts]
  | x :: xs, ys => by
    have := cnts_app xs ys
    simp only [List.cons_append, cnts]; omega
theorem deps_app : ∀ (xs ys : List D), deps (xs ++ ys) = max (deps xs) (deps ys)
  | [], ys => by simp [deps]
  | x :: xs, ys => by
    have := deps_app xs ys
    simp only [List.cons_append, deps]; omega
theorem deps_sub {xs ys : List D} (h : ∀ x ∈ ys, x ∈ xs) : deps ys ≤ deps xs := deps_le fun x hx => deps_mem (h x hx)
theorem allSs_sub {p : Str → Prop} {xs ys : List D} (h : ∀ x ∈ ys, x ∈ xs) (k : allSs p xs) : allSs p ys := allSs_of fun x hx => allS_mem k (h x hx)
theorem cnts_drop : ∀ (ss : List D) (k : Nat), cnts (ss.drop k) ≤ cnts ss
  | [], k => by simp [cnts]
  | x :: r, 0 => Nat.le_refl _
  | x :: r, k + 1 => by
    have := cnts_drop r k
    simp only [List.drop_succ_cons, cnts]; omega
theorem cnts_rev : ∀ ss : List D, cnts ss.reverse = cnts ss
  | [] => rfl
  | x :: r => by
    rw [List.reverse_cons, cnts_app, cnts_rev r]
    simp only [cnts]; omega
/-- old parts -/
structure Old (ps : List Str) (d : D) : Prop where
  dp : dep d ≤ 14
  sz : cnt d ≤ 120000
  zz : allS (zs ps) d
theorem Old.new {ps : List Str} {d : D} (h : Old ps d) : New ps d := ⟨by have := h.dp; omega, by have := h.sz; omega, h.zz⟩
theorem Old.part {ps : List Str} {d : D} (h : Old ps d) (n i : Nat) : Old ps (partF n d i) := by
  have s := part_sub n d i
  exact ⟨Nat.le_trans s.dep h.dp, Nat.le_trans s.cnt h.sz, s.allS h.zz⟩
theorem new_tup {ps : List Str} {xs : List D} (h1 : deps xs ≤ 19) (h2 : cnts xs ≤ 599999) (h3 : allSs (zs ps) xs) : New ps (.tup xs) := ⟨by simp only [dep]; omega, by simp only [cnt]; omega, h3⟩
theorem zf {ps : List Str} {s : Str} (h : s ∈ fixed) : allS (zs ps) (.str s) := zs_f h
theorem zp {ps : List Str} {s : Str} (h : s ∈ ps) : allS (zs ps) (.str s) := zs_p h
theorem old_slice {ps : List Str} {xs ys : List D} (h : Old ps (.tup xs)) (hs : ∀ x ∈ ys, x ∈ xs) (hc : cnts ys ≤ cnts xs) : deps ys ≤ 13 ∧ cnts ys ≤ 119999 ∧ allSs (zs ps) ys := by
  have h1 := h.dp
  have h2 := h.sz
  have h3 : allSs (zs ps) xs := h.zz
  simp only [dep, cnt] at h1 h2
  have := deps_sub hs
  exact ⟨by omega, by omega, allSs_sub hs h3⟩
def rowA (old : D) (a : Str) : List D := [.non, .bl true, .bl false, .int (-1), .int 1000003, .int 1000002, .str "", .str "A", .str "abcdefghi", .str "max", .str "await", .str "a1", .tup [], .tup [old], .str a,
      .tup [.str "word", .str a], .tup [.str "number", .int 7], .tup [.str "number", .bl true], .tup [.str "local", .str a], .tup [.str "number", .int 1000003], .tup [.str "await", .str a], .tup [.str "start", .str a, .tup []], .tup [.str "set", .str a, .tup [.str "number", .int 1]],
      .str "-", .str "<", .str "max", .int 0, .tup [.str "fork", .tup []], .tup [.str "fork", .tup [.tup [], .tup [], .tup [], .tup [], .tup []]], .tup [.str "fork", .tup [.tup []]]]
def rowB (xs : List D) (a : Str) : List D := [.lst xs, .tup (xs.drop 1), .tup (xs.take (xs.length - 1)), .tup (xs ++ xs.drop (xs.length - 1)), .tup xs.reverse, .tup (xs ++ [.non]), .tup (xs ++ [.tup [.str "await", .str a]])]
@[simp] theorem finO_map (o : Option D) : finO (o.map Out.rt) = o := by cases o <;> rfl
theorem r_new_part {ps : List Str} (hp : ps.length = 5) {d0 d1 d2 : Int} (h0 : 0 ≤ d0) (h1 : 0 ≤ d1 ∧ d1 < 5) {old : D} (ho : Old ps old) :
    ∃ new : D, m__law_new_part [.lst [.int d0, .int d1, .int d2], old, .lst (ps.map .str)] = some new ∧ New ps new := by
  unfold m__law_new_part b__law_new_part
  rw [e_run3]
  obtain ⟨a, ha, ea⟩ := pos_at (xs := ps) (i := d1) h1.1 (by rw [hp]; exact h1.2)
  have hbase : ∀ x ∈ rowA old a, New ps x := by
    unfold rowA
    have o1 := ho.dp
    have o2 := ho.sz
    have f : ∀ s : Str, s ∈ fixed → New ps (.str s) := fun s h => ⟨by simp [dep], by simp [cnt], zf h⟩
    have i : ∀ s : Int, New ps (.int s) := fun s => ⟨by simp [dep], by simp [cnt], trivial⟩
    have b : ∀ s : Bool, New ps (.bl s) := fun s => ⟨by simp [dep], by simp [cnt], trivial⟩
    have fa : New ps (.str a) := ⟨by simp [dep], by simp [cnt], zp ha⟩
    simp only [List.forall_mem_cons]
    refine ⟨⟨by simp [dep], by simp [cnt], trivial⟩, b _, b _, i _, i _, i _, f _ (by decide +kernel), f _ (by decide +kernel), f _ (by decide +kernel), f _ (by decide +kernel), f _ (by decide +kernel), f _ (by decide +kernel), new_tup (by simp [deps]) (by simp [cnts]) trivial,
      new_tup (by simp [deps]; omega) (by simp [cnts]; omega) ⟨ho.zz, trivial⟩, fa, ?_⟩
    refine ⟨new_tup (by simp [deps, dep]) (by simp [cnts, cnt]) ⟨zf (by decide +kernel), zp ha, trivial⟩, new_tup (by simp [deps, dep]) (by simp [cnts, cnt]) ⟨zf (by decide +kernel), trivial, trivial⟩, new_tup (by simp [deps, dep]) (by simp [cnts, cnt]) ⟨zf (by decide +kernel), trivial, trivial⟩,
      new_tup (by simp [deps, dep]) (by simp [cnts, cnt]) ⟨zf (by decide +kernel), zp ha, trivial⟩, new_tup (by simp [deps, dep]) (by simp [cnts, cnt]) ⟨zf (by decide +kernel), trivial, trivial⟩, new_tup (by simp [deps, dep]) (by simp [cnts, cnt]) ⟨zf (by decide +kernel), zp ha, trivial⟩,
      new_tup (by simp [deps, dep]) (by simp [cnts, cnt]) ⟨zf (by decide +kernel), zp ha, trivial, trivial⟩, new_tup (by simp [deps, dep]) (by simp [cnts, cnt]) ⟨zf (by decide +kernel), zp ha, ⟨zf (by decide +kernel), trivial, trivial⟩, trivial⟩, ?_⟩
    exact ⟨f _ (by decide +kernel), f _ (by decide +kernel), f _ (by decide +kernel), i _, new_tup (by simp [deps, dep]) (by simp [cnts, cnt]) ⟨zf (by decide +kernel), trivial, trivial⟩,
      new_tup (by simp [deps, dep]) (by simp [cnts, cnt]) ⟨zf (by decide +kernel), ⟨trivial, trivial, trivial, trivial, trivial, trivial⟩, trivial⟩, new_tup (by simp [deps, dep]) (by simp [cnts, cnt]) ⟨zf (by decide +kernel), ⟨trivial, trivial⟩, trivial⟩, fun x h => by cases h⟩
  have ea' : (ps.map D.str)[d1.toNat]? = some (.str a) := by rw [List.getElem?_map, ea]; rfl
  cases old with
  | tup xs =>
    have o2 := ho.sz
    simp only [cnt] at o2
    have ol := len_cnts xs
    have hl : xs.length + (xs.length - (xs.length - 1)) ≤ 16777216 := by omega
    have hl2 : xs.length + 1 ≤ 16777216 := by omega
    have hmore : ∀ x ∈ rowB xs a, New ps x := by
      unfold rowB
      have s1 := old_slice ho (ys := xs) (fun x h => h) (Nat.le_refl _)
      have s2 := old_slice ho (ys := xs.drop 1) (fun x h => List.mem_of_mem_drop h) (cnts_drop _ _)
      have s3 := old_slice ho (ys := xs.take (xs.length - 1)) (fun x h => List.mem_of_mem_take h) (cnts_take _ _)
      have s4 := old_slice ho (ys := xs.drop (xs.length - 1)) (fun x h => List.mem_of_mem_drop h) (cnts_drop _ _)
      have s5 := old_slice ho (ys := xs.reverse) (fun x h => List.mem_reverse.mp h) (Nat.le_of_eq (cnts_rev _))
      simp only [List.forall_mem_cons]
      refine ⟨⟨by simp [dep], by simp [cnt], trivial⟩, new_tup (by omega) (by omega) s2.2.2, new_tup (by omega) (by omega) s3.2.2, new_tup (by rw [deps_app]; omega) (by rw [cnts_app]; omega) (allSs_app s1.2.2 s4.2.2), new_tup (by omega) (by omega) s5.2.2,
        new_tup (by rw [deps_app]; simp [deps, dep]; omega) (by rw [cnts_app]; simp [cnts, cnt]; omega) (allSs_app s1.2.2 ⟨trivial, trivial⟩), new_tup (by rw [deps_app]; simp [deps, dep]; omega) (by rw [cnts_app]; simp [cnts, cnt]; omega) (allSs_app s1.2.2 ⟨⟨zf (by decide +kernel), zp ha, trivial⟩, trivial⟩), fun x h => by cases h⟩
    obtain ⟨new, hn, en, en0⟩ := pickN (rowA (.tup xs) a ++ rowB xs a) 37 rfl (by decide) d0
    have en0 : 0 ≤ d0 % 37 := en0
    refine ⟨new, ?_, ?_⟩
    · rw [← en]
      unfold rowA rowB
      simp [h1.1, ea', ea, hl, hl2, en0]
    · rcases List.mem_append.mp hn with h | h
      · exact hbase new h
      · exact hmore new h
  | _ =>
    obtain ⟨new, hn, en, en0⟩ := pickN (rowA _ a) 30 rfl (by decide) d0
    have en0 : 0 ≤ d0 % 30 := en0
    refine ⟨new, ?_, hbase new hn⟩
    rw [← en]
    unfold rowA
    simp [h1.1, ea', ea, en0]
end ML
set_option Elab.async false
set_option linter.all false
set_option maxRecDepth 100000
set_option maxHeartbeats 8000000
/-! where each, fold and start stand -/
namespace ML
open PySem PySem.Spec PyProof.Rows L2
def kinds : List Str := ["each", "fold", "start"]
def isC : D → Bool
  | .tup (x :: y :: z :: _) => isIn x kinds
  | _ => false
mutual
def comp : D → Int → List Int
  | .tup xs, a => (if isC (.tup xs) = true then [a] else []) ++ comps xs (a + 1)
  | _, _ => []
def comps : List D → Int → List Int
  | [], _ => []
  | x :: xs, a => comp x a ++ comps xs (a + cnt x)
end
mutual
theorem comp_len : ∀ (d : D) (a : Int), (comp d a).length ≤ cnt d
  | .tup xs, a => by
    have := comps_len xs (a + 1)
    simp only [comp, List.length_append, cnt]
    split <;> simp <;> omega
  | .non, a => by simp [comp]
  | .bl _, a => by simp [comp]
  | .int _, a => by simp [comp]
  | .str _, a => by simp [comp]
  | .lst _, a => by simp [comp]
  | .ro _, a => by simp [comp]
theorem comps_len : ∀ (xs : List D) (a : Int), (comps xs a).length ≤ cnts xs
  | [], a => by simp [comps]
  | x :: xs, a => by
    have h1 := comp_len x a
    have h2 := comps_len xs (a + cnt x)
    simp only [comps, List.length_append, cnts]; omega
end
theorem noLs_ints : ∀ l : List Int, noLs (l.map .int) = true
  | [] => rfl
  | x :: l => by simp [noLs, noL, noLs_ints l]
theorem r_compounds : ∀ (n : Nat) (d : D) (a : Int), dep d < n → n ≤ 40 → cnt d ≤ 1000000 → m__law_compounds n [d, .int a] = some (.lst ((comp d a).map .int))
  | 0, d, a, h, _, _ => absurd h (Nat.not_lt_zero _)
  | n + 1, d, a, h, hn, hz => by
    show mRun 2 4 (b__law_compounds (m__law_compounds n) (m__law_count 40)) _ = _
    rw [show b__law_compounds (m__law_compounds n) (m__law_count 40) = sSeq (sOwn [2] 2 mNil)
      (sSeq (sIf (mUn (fun d => some (.bl (isK "tuple" d))) (mVar 0)) (sSeq (sIf (mAnd (mOp gGt (mCall gLen (mCons (mVar 0) mNil)) (mC (.int 2))) (mOp (gIn false) (mOp gIx (mVar 0) (mC (.int 0))) (mLst (mCons (mC (.str "each")) (mCons (mC (.str "fold")) (mCons (mC (.str "start")) mNil)))))) (sApp [2] 2 (mVar 1)) sNext)
      (sSeq (sAsg [2] 1 (mOp gAdd (mVar 1) (mC (.int 1))))
      (sFor [2] 3 (wTup (mVar 0)) (l0__law_compounds (m__law_compounds n) (m__law_count 40))))) sNext)
      (sRet (mVar 2))) from rfl]
    rw [e_run2]
    cases d with
    | tup xs =>
      have hcl := comp_len (.tup xs) a
      simp only [dep] at h
      simp only [cnt] at hz hcl
      have ek : ∀ x, isIn x ["each", "fold", "start"] = isIn x kinds := fun _ => rfl
      have key : ∀ acc : List Int, acc = (if isC (.tup xs) = true then [a] else []) → ∃ u b, loopS 3 (l0__law_compounds (m__law_compounds n) (m__law_count 40)) xs [some (.tup xs), some (.int (a + 1)), some (.lst (acc.map .int)), none] = some (.nx [some (.tup xs), some b, some (.lst ((comp (.tup xs) a).map .int)), u]) := fun acc hacc => by
        obtain ⟨ρ', e, acc', b, u, rfl, ha, _⟩ := loop_inv (i := 3) (body := l0__law_compounds (m__law_compounds n) (m__law_count 40))
          (fun r ρ => ∃ (acc : List Int) (b : Int) (u : Option D), ρ = [some (.tup xs), some (.int b), some (.lst (acc.map .int)), u] ∧ acc ++ comps r b = comp (.tup xs) a ∧ deps r < n ∧ cnts r ≤ 1000000) (fun x r ρ h => by
            obtain ⟨acc, b, u, rfl, ha, hd, hc⟩ := h
            simp only [deps, cnts, comps] at ha hd hc
            have e1 := r_compounds n x b (by omega) (by omega) (by omega)
            have e2 := r_count 40 x (by omega)
            have hl := congrArg List.length ha
            simp only [List.length_append] at hl
            have hl2 : acc.length + (comp x b).length ≤ 16777216 := by omega
            have hnl := noLs_ints (acc ++ comp x b)
            rw [List.map_append] at hnl
            unfold l0__law_compounds
            exact ⟨[some (.tup xs), some (.int (b + cnt x)), some (.lst ((acc ++ comp x b).map .int)), some x], by simp [e1, e2, hl2, hnl], acc ++ comp x b, _, _, rfl, by rw [List.append_assoc]; exact ha, by omega, by omega⟩) xs _ ⟨acc, a + 1, none, rfl, by rw [hacc]; rfl, by omega, by omega⟩
        simp [comps] at ha
        subst ha
        exact ⟨u, .int b, e⟩
      match xs, key with
      | [], key =>
        obtain ⟨u, b, e⟩ := key [] (by simp [isC])
        simp at e
        simp [e]
      | [x], key =>
        obtain ⟨u, b, e⟩ := key [] (by simp [isC])
        simp at e
        simp [e]
      | [x, y], key =>
        obtain ⟨u, b, e⟩ := key [] (by simp [isC])
        simp at e
        simp [e]
      | x :: y :: z :: r, key =>
        have l3 : (2 : Int) < (r.length : Int) + 1 + 1 + 1 := by omega
        by_cases hi : isIn x kinds = true
        · obtain ⟨u, b, e⟩ := key [a] (by simp [isC, hi])
          simp at e
          simp [l3, ek, hi, e]
        · obtain ⟨u, b, e⟩ := key [] (by simp [isC, hi])
          simp at e
          simp [l3, ek, hi, e]
    | _ => simp [comp]
mutual
theorem comp_at : ∀ (n : Nat) (d : D) (a : Int), dep d < n → ∀ p ∈ comp d a, ∃ i : Nat, p = a + i ∧ i < cnt d ∧ isC (partF n d i) = true
  | 0, d, a, h, _, _ => absurd h (Nat.not_lt_zero _)
  | n + 1, .tup xs, a, h, p, hp => by
    simp only [comp, List.mem_append] at hp
    rcases hp with hp | hp
    · by_cases hc : isC (.tup xs) = true
      · rw [if_pos hc] at hp
        have : p = a := by simpa using hp
        exact ⟨0, by omega, cnt_pos _, by simpa [partF] using hc⟩
      · rw [if_neg hc] at hp; cases hp
    · obtain ⟨i, h1, h2, h3⟩ := comps_at n xs (a + 1) (.tup xs) (by simp only [dep] at h; omega) p hp
      refine ⟨i + 1, by omega, by simp only [cnt]; omega, ?_⟩
      simpa [partF] using h3
  | n + 1, .non, a, h, p, hp => by simp [comp] at hp
  | n + 1, .bl _, a, h, p, hp => by simp [comp] at hp
  | n + 1, .int _, a, h, p, hp => by simp [comp] at hp
  | n + 1, .str _, a, h, p, hp => by simp [comp] at hp
  | n + 1, .lst _, a, h, p, hp => by simp [comp] at hp
  | n + 1, .ro _, a, h, p, hp => by simp [comp] at hp
theorem comps_at : ∀ (n : Nat) (xs : List D) (a : Int) (d : D), deps xs < n → ∀ p ∈ comps xs a, ∃ i : Nat, p = a + i ∧ i < cnts xs ∧ isC (partL (partF n) d xs i) = true
  | n, [], a, d, h, p, hp => by simp [comps] at hp
  | n, x :: xs, a, d, h, p, hp => by
    simp only [deps] at h
    simp only [comps, List.mem_append] at hp
    rcases hp with hp | hp
    · obtain ⟨i, h1, h2, h3⟩ := comp_at n x a (by omega) p hp
      exact ⟨i, h1, by simp only [cnts]; omega, by unfold partL; rw [if_pos h2]; exact h3⟩
    · obtain ⟨i, h1, h2, h3⟩ := comps_at n xs (a + cnt x) d (by omega) p hp
      refine ⟨cnt x + i, by omega, by simp only [cnts]; omega, ?_⟩
      unfold partL
      rw [if_neg (by omega)]
      have : cnt x + i - cnt x = i := by omega
      rw [this]; exact h3
end
/-! the shapes of what is told by each, fold, start -/
def headOk : List D → Prop
  | .str k :: a :: b :: r => (k = "fold" → 1 ≤ r.length) ∧ (k = "start" → ∃ ys, b = .tup ys)
  | _ => True
mutual
def shp : D → Prop
  | .tup xs => headOk xs ∧ shps xs
  | _ => True
def shps : List D → Prop
  | [] => True
  | x :: xs => shp x ∧ shps xs
end
theorem shps_mem {x : D} : ∀ {xs : List D}, shps xs → x ∈ xs → shp x
  | [], _, h => by cases h
  | y :: ys, h, hx => by
    rcases List.mem_cons.mp hx with e | e
    · subst e; exact h.1
    · exact shps_mem h.2 e
theorem shps_of : ∀ {xs : List D}, (∀ x ∈ xs, shp x) → shps xs
  | [], _ => trivial
  | x :: xs, h => ⟨h x List.mem_cons_self, shps_of fun y hy => h y (List.mem_cons_of_mem _ hy)⟩
theorem Sub.shp {e d : D} (h : Sub e d) : shp d → shp e := by
  induction h with
  | refl => exact id
  | step hx _ ih => exact fun h => ih (shps_mem h.2 hx)
theorem ex_shp : ∀ (m : Nat) (L : List Str) (d : D), exprF m L d = true → shp d
  | 0, _, _, h => by cases h
  | m + 1, L, d, h => by
    cases expr_inv h with
    | num i _ _ => exact ⟨trivial, trivial, trivial, trivial⟩
    | word s _ => exact ⟨trivial, trivial, trivial, trivial⟩
    | loc s _ => exact ⟨trivial, trivial, trivial, trivial⟩
    | op o b c hb hc => exact ⟨⟨fun z => by simp at z, fun z => by simp at z⟩, trivial, trivial, ex_shp m L b hb, ex_shp m L c hc, trivial⟩
theorem headOk_tups {xs : List D} (h : ∀ x ∈ xs, ∃ ys, x = .tup ys) : headOk xs := by
  match xs, h with
  | [], _ => trivial
  | x :: r, h =>
    obtain ⟨ys, rfl⟩ := h x List.mem_cons_self
    trivial
theorem bl_shp : ∀ (m : Nat), (∀ (L T : List Str) (d : D), blF m L T d = true → shp d) ∧ (∀ (L T : List Str) (d : D), stF m L T d = true → shp d)
  | 0 => ⟨(fun _ _ _ h => by cases h), (fun _ _ _ h => by cases h)⟩
  | m + 1 => by
    have ih := bl_shp m
    refine ⟨fun L T d h => ?_, fun L T d h => ?_⟩
    · obtain ⟨ss, rfl⟩ := bl_tup h
      have h : seqF (stF m L) T ss = true := h
      have ha := seq_all h
      refine ⟨headOk_tups fun x hx => ?_, shps_of fun x hx => ?_⟩
      · obtain ⟨T', h'⟩ := ha x hx
        exact (st_tup h').tup
      · obtain ⟨T', h'⟩ := ha x hx
        exact ih.2 L T' x h'
    · have hV : StV (blF m) L T d := st_inv h
      cases hV with
      | set a b hb => exact ⟨⟨fun z => by simp at z, fun z => by simp at z⟩, trivial, trivial, ex_shp _ _ b hb, trivial⟩
      | add a o c hc => exact ⟨⟨fun z => by simp at z, fun z => by simp at z⟩, trivial, trivial, trivial, ex_shp _ _ c hc, trivial⟩
      | fold a o c e f he hf => exact ⟨⟨fun _ => by simp, fun z => by simp at z⟩, trivial, trivial, trivial, trivial, ex_shp _ _ e he, ex_shp _ _ f hf, trivial⟩
      | if_ a b c ha hb hc => exact ⟨⟨fun z => by simp at z, fun z => by simp at z⟩, trivial, ex_shp _ _ a ha, ih.1 _ _ b hb, ih.1 _ _ c hc, trivial⟩
      | fork bs hbs => exact ⟨trivial, trivial, ⟨headOk_tups fun x hx => bl_tup (hbs x hx), shps_of fun x hx => ih.1 _ _ x (hbs x hx)⟩, trivial⟩
      | each a b c hb hc => exact ⟨⟨fun z => by simp at z, fun z => by simp at z⟩, trivial, trivial, ex_shp _ _ b hb, ih.1 _ _ c hc, trivial⟩
      | start a b hb => exact ⟨⟨fun z => by simp at z, fun _ => bl_tup hb⟩, trivial, trivial, ih.1 _ _ b hb, trivial⟩
      | await a => exact ⟨trivial, trivial, trivial, trivial⟩
end ML
set_option Elab.async false
set_option linter.all false
set_option maxRecDepth 100000
set_option maxHeartbeats 8000000
/-! the nearly right ones -/
namespace ML
open PySem PySem.Spec PyProof.Rows L2
section
variable {ps : List Str} {kk : Str} {a b c : D} {r : List D}
structure Kid (ps : List Str) (d : D) : Prop where
  dp : dep d ≤ 13
  sz : cnt d ≤ 119999
  zz : allS (zs ps) d
theorem Old.kids (h : Old ps (.tup (.str kk :: a :: b :: r))) : zs ps kk ∧ Kid ps a ∧ Kid ps b ∧ deps r ≤ 13 ∧ cnts r ≤ 119999 ∧ allSs (zs ps) r ∧ r.length ≤ 119999 ∧ cnt a + cnt b + cnts r ≤ 119999 := by
  have h1 := h.dp
  have h2 := h.sz
  have h3 : allSs (zs ps) (.str kk :: a :: b :: r) := h.zz
  have h4 := len_cnts r
  simp only [dep, deps, cnt, cnts] at h1 h2
  exact ⟨h3.1, ⟨by omega, by omega, h3.2.1⟩, ⟨by omega, by omega, h3.2.2.1⟩, by omega, by omega, h3.2.2.2, by omega, by omega⟩
theorem n_await {old a : D} (h : Old ps old) (ha : Kid ps a) : New ps (.tup [.str "fork", .tup [.tup [old, .tup [.str "await", a]]]]) := by
  have h1 := h.dp; have h2 := h.sz; have a1 := ha.dp; have a2 := ha.sz
  exact ⟨by simp [dep, deps]; omega, by simp [cnt, cnts]; omega, ⟨zf (by decide +kernel), ⟨⟨h.zz, ⟨zf (by decide +kernel), ha.zz, trivial⟩, trivial⟩, trivial⟩, trivial⟩⟩
theorem n_set {old a : D} (h : Old ps old) (ha : Kid ps a) : New ps (.tup [.str "fork", .tup [.tup [old, .tup [.str "set", a, .tup [.str "local", a]]]]]) := by
  have h1 := h.dp; have h2 := h.sz; have a1 := ha.dp; have a2 := ha.sz
  exact ⟨by simp [dep, deps]; omega, by simp [cnt, cnts]; omega, ⟨zf (by decide +kernel), ⟨⟨h.zz, ⟨zf (by decide +kernel), ha.zz, ⟨zf (by decide +kernel), ha.zz, trivial⟩, trivial⟩, trivial⟩, trivial⟩, trivial⟩⟩
theorem n_beside {old a : D} (h : Old ps old) (ha : Kid ps a) : New ps (.tup [.str "fork", .tup [.tup [old], .tup [.tup [.str "await", a]]]]) := by
  have h1 := h.dp; have h2 := h.sz; have a1 := ha.dp; have a2 := ha.sz
  exact ⟨by simp [dep, deps]; omega, by simp [cnt, cnts]; omega, ⟨zf (by decide +kernel), ⟨⟨h.zz, trivial⟩, ⟨⟨zf (by decide +kernel), ha.zz, trivial⟩, trivial⟩, trivial⟩, trivial⟩⟩
theorem n_each (h : Old ps (.tup (.str kk :: a :: b :: r))) : New ps (.tup (.str kk :: a :: .tup [.str "local", a] :: r)) := by
  obtain ⟨h1, h2, h3, h4, h5, h6, h7, h8⟩ := h.kids
  have a1 := h2.dp; have a2 := h2.sz
  exact ⟨by simp [dep, deps]; omega, by simp [cnt, cnts]; omega, ⟨h1, h2.zz, ⟨zf (by decide +kernel), h2.zz, trivial⟩, h6⟩⟩
theorem n_fold (h : Old ps (.tup (.str kk :: a :: b :: c :: r))) : New ps (.tup (.str kk :: a :: b :: c :: .tup [.str "local", c] :: r.drop 1)) := by
  obtain ⟨h1, h2, h3, h4, h5, h6, h7, h8⟩ := h.kids
  have a1 := h2.dp; have a2 := h2.sz; have b1 := h3.dp; have b2 := h3.sz
  simp only [deps, cnts] at h4 h5
  have k1 := deps_sub (xs := r) (ys := r.drop 1) fun x hx => List.mem_of_mem_drop hx
  have k2 := cnts_drop r 1
  have k3 := allSs_sub (p := zs ps) (xs := r) (ys := r.drop 1) (fun x hx => List.mem_of_mem_drop hx) h6.2
  exact ⟨by simp [-List.drop_one, dep, deps]; omega, by simp [-List.drop_one, cnt, cnts]; omega, ⟨h1, h2.zz, h3.zz, h6.1, ⟨zf (by decide +kernel), h6.1, trivial⟩, k3⟩⟩
theorem n_start {ys : List D} (h : Old ps (.tup (.str kk :: a :: .tup ys :: r))) : New ps (.tup [.str kk, a, .tup (ys ++ [.tup [.str "await", a]])]) := by
  obtain ⟨h1, h2, h3, h4, h5, h6, h7, h8⟩ := h.kids
  have a1 := h2.dp; have a2 := h2.sz; have b1 := h3.dp; have b2 := h3.sz
  simp only [dep, cnt] at b1 b2
  refine ⟨by simp [dep, deps, deps_app]; omega, by simp [cnt, cnts, cnts_app]; omega, ⟨h1, h2.zz, allSs_app h3.zz ⟨⟨zf (by decide +kernel), h2.zz, trivial⟩, trivial⟩, trivial⟩⟩
theorem Kid.fst (h : Old ps (.tup (.str kk :: a :: b :: r))) : Kid ps a := h.kids.2.1
theorem Kid.thd (h : Old ps (.tup (.str kk :: a :: b :: c :: r))) : Kid ps c := by
  obtain ⟨h1, h2, h3, h4, h5, h6, h7, h8⟩ := h.kids
  simp only [deps, cnts] at h4 h5
  exact ⟨by omega, by omega, h6.1⟩
end
theorem near_step {ps : List Str} {v0 v1 v2 v3 v4 v6 : D} {lg : D} {pl : List Int} (hlg : Old ps lg) (hsh : shp lg) (hpl : pl = comp lg 0) {p : Int} (hp : p ∈ pl) {cs : List D} (hcs : ∀ x ∈ cs, Good ps x) (hl : cs.length ≤ 1000) (u9 : Option D) :
    ∃ (cs' : List D) (u9' : Option D), l0__law_nearly_right m__law_draws (m__law_compounds 40) (m__law_part 40) (m__law_put 40) [some v0, some v1, some v2, some v3, some v4, some lg, some v6, some (.lst cs), some (.int p), u9, none] =
      some (.nx [some v0, some v1, some v2, some v3, some v4, some lg, some v6, some (.lst cs'), some (.int p), u9', none]) ∧ (∀ x ∈ cs', Good ps x) ∧ cs'.length ≤ cs.length + 3 := by
  have d1 := hlg.dp
  have d2 := hlg.sz
  subst hpl
  obtain ⟨i, hi, hic, hC⟩ := comp_at 40 lg 0 (by omega) p hp
  have hi : p = (i : Int) := by omega
  subst hi
  have ep := r_part 40 lg i (by omega) (by decide)
  have ho := hlg.part 40 i
  have hs := (part_sub 40 lg i).shp hsh
  generalize hold : partF 40 lg i = old at ep ho hs hC
  have eput : ∀ new, m__law_put 40 [lg, .int (i : Int), new] = some (putF 40 lg (i : Int) new) := fun new => r_put 40 lg i new (by omega) (by decide) (by omega)
  have gput : ∀ new, New ps new → Good ps (putF 40 lg (i : Int) new) := fun new hn => good_put hlg.dp hlg.sz hlg.zz hn.dp hn.sz hn.zz
  have grow : ∀ x y z, Good ps x → Good ps y → Good ps z → ∀ w ∈ cs ++ [x] ++ [y] ++ [z], Good ps w := fun x y z hx hy hz w hw => by
    simp only [List.mem_append, List.mem_singleton] at hw
    rcases hw with ((h | h) | h) | h
    · exact hcs w h
    · rw [h]; exact hx
    · rw [h]; exact hy
    · rw [h]; exact hz
  have l0 : cs.length < 16777216 := by omega
  have l1 : cs.length + 1 < 16777216 := by omega
  have l2 : cs.length + 1 + 1 < 16777216 := by omega
  cases old with
  | tup xs =>
    match xs, hC, ho, hs, ep with
    | k :: a :: b :: r, hC, ho, hs, ep =>
      have hC : isIn k kinds = true := hC
      obtain ⟨kk, rfl⟩ := isIn_str hC
      have hkk : kk = "each" ∨ kk = "fold" ∨ kk = "start" := by
        simpa [isIn, kinds] using hC
      obtain ⟨hs1, hs2⟩ := hs
      obtain ⟨q1, q2, q3, q4, q5, q6, q7, q8⟩ := ho.kids
      have lr : r.length + 1 + 1 + 1 ≤ 16777216 := by omega
      have lr2 : 3 + r.length ≤ 16777216 := by omega
      unfold l0__law_nearly_right
      rcases hkk with rfl | rfl | rfl
      · refine ⟨cs ++ [putF 40 lg i (.tup [.str "fork", .tup [.tup [.tup (.str "each" :: a :: b :: r), .tup [.str "await", a]]]])] ++ [putF 40 lg i (.tup (.str "each" :: a :: .tup [.str "local", a] :: r))] ++ [putF 40 lg i (.tup [.str "fork", .tup [.tup [.tup (.str "each" :: a :: b :: r), .tup [.str "set", a, .tup [.str "local", a]]]]])], some (.tup (.str "each" :: a :: b :: r)), ?_, grow _ _ _ (gput _ (n_await ho q2)) (gput _ (n_each ho)) (gput _ (n_set ho q2)), by simp⟩
        simp [ep, eput, l0, l1, l2, lr, lr2]
      · match r, hs1.1 rfl, ho, ep, lr, lr2, q7 with
        | c :: r, _, ho, ep, lr, lr2, q7 =>
          simp only [List.length_cons] at q7
          have lr3 : 5 + (r.length - 1) ≤ 16777216 := by omega
          refine ⟨cs ++ [putF 40 lg i (.tup [.str "fork", .tup [.tup [.tup (.str "fold" :: a :: b :: c :: r), .tup [.str "await", a]]]])] ++ [putF 40 lg i (.tup (.str "fold" :: a :: b :: c :: .tup [.str "local", c] :: r.drop 1))] ++ [putF 40 lg i (.tup [.str "fork", .tup [.tup [.tup (.str "fold" :: a :: b :: c :: r), .tup [.str "await", c]]]])], some (.tup (.str "fold" :: a :: b :: c :: r)), ?_, grow _ _ _ (gput _ (n_await ho q2)) (gput _ (n_fold ho)) (gput _ (n_await ho (Kid.thd ho))), by simp⟩
          simp [ep, eput, l0, l1, l2, lr3]
      · obtain ⟨ys, rfl⟩ := hs1.2 rfl
        have b2 := q3.sz
        simp only [cnt] at b2
        have lys := len_cnts ys
        have ly : ys.length + 1 ≤ 16777216 := by omega
        refine ⟨cs ++ [putF 40 lg i (.tup [.str "fork", .tup [.tup [.tup (.str "start" :: a :: .tup ys :: r), .tup [.str "await", a]]]])] ++ [putF 40 lg i (.tup [.str "fork", .tup [.tup [.tup (.str "start" :: a :: .tup ys :: r)], .tup [.tup [.str "await", a]]]])] ++ [putF 40 lg i (.tup [.str "start", a, .tup (ys ++ [.tup [.str "await", a]])])], some (.tup (.str "start" :: a :: .tup ys :: r)), ?_, grow _ _ _ (gput _ (n_await ho q2)) (gput _ (n_beside ho q2)) (gput _ (n_start ho)), by simp⟩
        simp [ep, eput, l0, l1, l2, ly]
    | [], hC, _, _, _ => cases hC
    | [_], hC, _, _, _ => cases hC
    | [_, _], hC, _, _, _ => cases hC
  | _ => cases hC
end ML
set_option Elab.async false
set_option linter.all false
set_option maxRecDepth 100000
set_option maxHeartbeats 8000000
/-! the law's mirror is True at every script -/
namespace ML
open PySem PySem.Spec PyProof.Rows L2
theorem b_nearly (a b c d : List D → Option D) : b__law_nearly_right a b c d =
  (sSeq (sAsg [7] 3 (mCall a (mCons (mVar 0) (mCons (mC (.int 14)) (mCons (mLst (mCons (mC (.int 5)) (mCons (mC (.int 5)) (mCons (mC (.int 5)) (mCons (mC (.int 5)) (mCons (mC (.int 1000)) (mCons (mC (.int 1000)) (mCons (mC (.int 1000)) mNil)))))))) mNil)))))
  (sSeq (sAsg [7] 4 (mTup (mCons (mTup (mCons (mC (.str "each")) (mCons (mOp gIx (mVar 2) (mOp gIx (mVar 3) (mC (.int 0)))) (mCons (mTup (mCons (mC (.str "number")) (mCons (mC (.int 2)) mNil))) (mCons (mTup mNil) mNil))))) (mCons (mTup (mCons (mC (.str "start")) (mCons (mOp gIx (mVar 2) (mOp gIx (mVar 3) (mC (.int 3)))) (mCons (mTup mNil) mNil)))) mNil))))
  (sSeq (sAsg [7] 4 (mOp gAdd (mVar 4) (mTup (mCons (mTup (mCons (mC (.str "fold")) (mCons (mOp gIx (mVar 2) (mOp gIx (mVar 3) (mC (.int 1)))) (mCons (mC (.str "+")) (mCons (mOp gIx (mVar 2) (mOp gIx (mVar 3) (mC (.int 2)))) (mCons (mTup (mCons (mC (.str "number")) (mCons (mC (.int 1)) mNil))) (mCons (mTup (mCons (mC (.str "local")) (mCons (mOp gIx (mVar 2) (mOp gIx (mVar 3) (mC (.int 2)))) mNil))) mNil))))))) mNil))))
  (sSeq (sAsg [7] 5 (mOp gAdd (mVar 4) (mVar 1)))
  (sSeq (sAsg [7] 6 (mCall b (mCons (mVar 5) (mCons (mC (.int 0)) mNil))))
  (sSeq (sOwn [7] 7 mNil)
  (sSeq (sFor [7] 8 (wLst (mOp gAdd (mUn (gSl none (some 3)) (mVar 6)) (mLc 10 (wLst (mUn (gSl (some 4) none) (mVar 3))) (mC (.bl true)) (mOp gIx (mVar 6) (mOp gMod (mCall gInt (mCons (mVar 10) mNil)) (mCall gLen (mCons (mVar 6) mNil))))))) (l0__law_nearly_right a b c d))
  (sRet (mVar 7))))))))) := rfl
theorem r_nearly (ns : List Int) {ps : List Str} (hp : ps.length = 5) (hn : ∀ p ∈ ps, nameS (.str p) = true) {ss : List D} (M : Made ps ss) :
    ∃ cs : List D, m__law_nearly_right [.ro ns, .tup ss, .lst (ps.map .str)] = some (.lst cs) ∧ ∀ x ∈ cs, Good ps x := by
  unfold m__law_nearly_right
  rw [b_nearly, e_run3]
  obtain ⟨ds, hd, hl, ha⟩ := r_draws ns 14 [5, 5, 5, 5, 1000, 1000, 1000] (by decide) (by decide) (by decide)
  have hl7 : ds.length = 7 := hl
  match ds, hl7 with
  | [d0, d1, d2, d3, d4, d5, d6], _ =>
    have h0 := ha 0 d0 5 rfl rfl
    have h1 := ha 1 d1 5 rfl rfl
    have h2 := ha 2 d2 5 rfl rfl
    have h3 := ha 3 d3 5 rfl rfl
    have h4 := ha 4 d4 1000 rfl rfl
    have h5 := ha 5 d5 1000 rfl rfl
    have h6 := ha 6 d6 1000 rfl rfl
    have hd : m__law_draws [.ro ns, .int 14, .lst [.int 5, .int 5, .int 5, .int 5, .int 1000, .int 1000, .int 1000]] = some (.lst [.int d0, .int d1, .int d2, .int d3, .int d4, .int d5, .int d6]) := hd
    obtain ⟨p0, m0, e0⟩ := pos_at (xs := ps) h0.1 (by rw [hp]; exact h0.2)
    obtain ⟨p1, m1, e1⟩ := pos_at (xs := ps) h1.1 (by rw [hp]; exact h1.2)
    obtain ⟨p2, m2, e2⟩ := pos_at (xs := ps) h2.1 (by rw [hp]; exact h2.2)
    obtain ⟨p3, m3, e3⟩ := pos_at (xs := ps) h3.1 (by rw [hp]; exact h3.2)
    obtain ⟨lg, hlg⟩ : ∃ lg : List D, lg = .tup [.str "each", .str p0, .tup [.str "number", .int 2], .tup []] :: .tup [.str "start", .str p3, .tup []] :: .tup [.str "fold", .str p1, .str "+", .str p2, .tup [.str "number", .int 1], .tup [.str "local", .str p2]] :: ss := ⟨_, rfl⟩
    have M1 := M.dep
    have M2 := M.cnt
    simp only [ML.dep, ML.cnt] at M1 M2
    have hold : Old ps (.tup lg) := by
      rw [hlg]
      refine ⟨by simp [ML.dep, deps]; omega, by simp [ML.cnt, cnts]; omega, ⟨⟨zf (by decide +kernel), zp m0, ⟨zf (by decide +kernel), trivial, trivial⟩, trivial, trivial⟩, ⟨zf (by decide +kernel), zp m3, trivial, trivial⟩,
        ⟨zf (by decide +kernel), zp m1, zf (by decide +kernel), zp m2, ⟨zf (by decide +kernel), trivial, trivial⟩, ⟨zf (by decide +kernel), zp m2, trivial⟩, trivial⟩, allSs_of M.zz⟩⟩
    have hshp : shp (.tup lg) := by
      have hs : shp (.tup ss) := (bl_shp 40).1 [] [] (.tup ss) M.ok
      rw [hlg]
      refine ⟨trivial, ⟨⟨fun z => by simp at z, fun z => by simp at z⟩, trivial, trivial, ⟨trivial, trivial, trivial, trivial⟩, ⟨trivial, trivial⟩, trivial⟩, ⟨⟨fun z => by simp at z, fun _ => ⟨_, rfl⟩⟩, trivial, trivial, ⟨trivial, trivial⟩, trivial⟩,
        ⟨⟨fun _ => by simp, fun z => by simp at z⟩, trivial, trivial, trivial, trivial, ⟨trivial, trivial, trivial, trivial⟩, ⟨trivial, trivial, trivial, trivial⟩, trivial⟩, hs.2⟩
    have o1 := hold.dp
    have o2 := hold.sz
    have ec := r_compounds 40 (.tup lg) 0 (by omega) (by decide) (by omega)
    have hpos : 0 < (comp (.tup lg) 0).length := by
      have : (1 : Int) ∈ comp (.tup lg) 0 := by
        rw [hlg]
        simp [comp, comps, isC, isIn, kinds]
      exact List.length_pos_of_mem this
    have hcl := comp_len (.tup lg) 0
    generalize hpl : comp (.tup lg) 0 = pl at ec hpos hcl
    have pn : ¬ pl = [] := fun z => by rw [z] at hpos; simp at hpos
    obtain ⟨q4, k4, f4, g4⟩ := pick pl hpos d4
    obtain ⟨q5, k5, f5, g5⟩ := pick pl hpos d5
    obtain ⟨q6, k6, f6, g6⟩ := pick pl hpos d6
    have hxs : ∀ x ∈ (pl.take 3).map D.int ++ [D.int q4, D.int q5, D.int q6], ∃ p ∈ pl, x = D.int p := fun x hx => by
      simp only [List.mem_append, List.mem_map, List.mem_cons, List.not_mem_nil, or_false] at hx
      rcases hx with ⟨p, hp', rfl⟩ | rfl | rfl | rfl
      · exact ⟨p, List.mem_of_mem_take hp', rfl⟩
      · exact ⟨_, k4, rfl⟩
      · exact ⟨_, k5, rfl⟩
      · exact ⟨_, k6, rfl⟩
    have hxl : ((pl.take 3).map D.int ++ [D.int q4, D.int q5, D.int q6]).length ≤ 6 := by
      simp only [List.length_append, List.length_map, List.length_take, List.length_cons, List.length_nil]; omega
    obtain ⟨more, hmore⟩ : ∃ more : D, more = .tup [.tup [.str "each", .str p0, .tup [.str "number", .int 2], .tup []], .tup [.str "start", .str p3, .tup []], .tup [.str "fold", .str p1, .str "+", .str p2, .tup [.str "number", .int 1], .tup [.str "local", .str p2]]] := ⟨_, rfl⟩
    obtain ⟨ρ', e, cs, v8, v9, rfl, hcs, _⟩ := loop_inv (i := 8) (body := l0__law_nearly_right m__law_draws (m__law_compounds 40) (m__law_part 40) (m__law_put 40))
      (fun r ρ => ∃ (cs : List D) (v8 v9 : Option D), ρ = [some (.ro ns), some (.tup ss), some (.lst (ps.map .str)), some (.lst [.int d0, .int d1, .int d2, .int d3, .int d4, .int d5, .int d6]), some more, some (.tup lg), some (.lst (pl.map .int)), some (.lst cs), v8, v9, none] ∧ (∀ x ∈ cs, Good ps x) ∧ (∀ x ∈ r, ∃ p ∈ pl, x = D.int p) ∧ cs.length + 3 * r.length ≤ 100) (fun x r ρ h => by
        obtain ⟨cs, v8, v9, rfl, hcs, hr, hl'⟩ := h
        obtain ⟨p, hp', rfl⟩ := hr x List.mem_cons_self
        simp only [List.length_cons] at hl'
        obtain ⟨cs', u9', es, hcs', hl2⟩ := near_step (v0 := .ro ns) (v1 := .tup ss) (v2 := .lst (ps.map .str)) (v3 := .lst [.int d0, .int d1, .int d2, .int d3, .int d4, .int d5, .int d6]) (v4 := more) (v6 := .lst (pl.map .int)) hold hshp hpl.symm hp' hcs (by omega) v9
        exact ⟨_, es, cs', _, _, rfl, hcs', fun y hy => hr y (List.mem_cons_of_mem _ hy), by omega⟩) ((pl.take 3).map D.int ++ [D.int q4, D.int q5, D.int q6]) [some (.ro ns), some (.tup ss), some (.lst (ps.map .str)), some (.lst [.int d0, .int d1, .int d2, .int d3, .int d4, .int d5, .int d6]), some more, some (.tup lg), some (.lst (pl.map .int)), some (.lst []), none, none, none] ⟨[], none, none, rfl, (fun x h => by cases h), hxs, by simp only [List.length_nil]; omega⟩
    refine ⟨cs, ?_, hcs⟩
    have lss := len_cnts ss
    have l1 : ss.length + 1 + 1 + 1 ≤ 16777216 := by omega
    have l2 : 3 + ss.length ≤ 16777216 := by omega
    have l3 : min 3 pl.length + 3 ≤ 16777216 := by omega
    have elc : lcLoop 10 (mC (.bl true)) (mOp gIx (mVar 6) (mOp gMod (mCall gInt (mCons (mVar 10) mNil)) (mCall gLen (mCons (mVar 6) mNil)))) [.int d4, .int d5, .int d6] [some (.ro ns), some (.tup ss), some (.lst (ps.map .str)), some (.lst [.int d0, .int d1, .int d2, .int d3, .int d4, .int d5, .int d6]), some more, some (.tup lg), some (.lst (pl.map .int)), none, none, none, none] = some [.int q4, .int q5, .int q6] := by
      simp [lcLoop, pn, hpos, f4, f5, f6, g4, g5, g6]
    rw [hlg] at ec e elc
    rw [hmore] at e elc
    simp [-List.map_take, hd, h0.1, h1.1, h2.1, h3.1, e0, e1, e2, e3, l1, l2, l3, ec, elc]
    rw [← List.map_take, e]
    simp
theorem b_law_eq (pool program isb right draws count part newp put near isp : List D → Option D) : b_law pool program isb right draws count part newp put near isp =
  (sSeq (sAsg [] 1 (mCall pool (mCons (mVar 0) (mCons (mC (.int 0)) (mCons (mC (.int 5)) mNil)))))
  (sSeq (sAsg [] 2 (mCall program (mCons (mVar 0) (mCons (mC (.int 1)) (mCons (mVar 1) (mCons (mC (.int 60)) mNil))))))
  (sSeq (sIf (mOr (mNot (mCall isb (mCons (mVar 2) (mCons (mLst mNil) (mCons (mLst mNil) mNil))))) (mNot (mCall right (mCons (mVar 2) mNil)))) (sRet (mC (.bl false))) sNext)
  (sSeq (sFor [] 3 (wRng (mCons (mC (.int 4)) mNil)) (l0_law pool program isb right draws count part newp put near isp))
  (sSeq (sFor [] 6 (wLst (mCall near (mCons (mVar 0) (mCons (mVar 2) (mCons (mVar 1) mNil))))) (l1_law pool program isb right draws count part newp put near isp))
  (sRet (mAnd (mOp gIs (mCall isp (mCons (mCall gList (mCons (mVar 2) mNil)) mNil)) (mC (.bl false))) (mAnd (mOp gIs (mCall isp (mCons (mTup mNil) mNil)) (mC (.bl true))) (mOp gIs (mCall isp (mCons (mC .non) mNil)) (mC (.bl false))))))))))) := rfl
theorem r_law (ns : List Int) : m_law [.ro ns] = some (.bl true) := by
  unfold m_law
  rw [b_law_eq, e_run1]
  obtain ⟨ps, ep, hp, hn⟩ := r_pool ns
  obtain ⟨ss, es, M⟩ := r_program ns hp hn
  obtain ⟨cs, ec, hcs⟩ := r_nearly ns hp hn M
  have hfit : ∀ {d : D}, Good ps d → Fit 40 d := fun {d} h => ⟨by have := h.dp; omega, allS_imp (fun s hs => zs_small hn hs) h.zz, by have := h.sz; omega⟩
  have eb := r__law_is_program (hfit M.good)
  rw [M.prog] at eb
  have er := M.good.right hp hn
  have M1 := M.dep
  have M2 := M.cnt
  obtain ⟨ρ1, e1, v3, v4, v5, v6, rfl⟩ := loop_rng (i := 3) (body := l0_law m__law_pool m__law_program (m__law_is_block 40) m__law_is_right m__law_draws (m__law_count 40) (m__law_part 40) m__law_new_part (m__law_put 40) m__law_nearly_right m_is_program) 4
    (fun j ρ => ∃ (v3 v4 v5 v6 : Option D), ρ = [some (.ro ns), some (.lst (ps.map .str)), some (.tup ss), v3, v4, v5, v6]) (fun j ρ hj h => by
      obtain ⟨v3, v4, v5, v6, rfl⟩ := h
      obtain ⟨ds, hd, hl, ha⟩ := r_draws ns (10 + (j : Int)) [60, 5, 1000000] (by omega) (by decide) (by decide)
      have hl3 : ds.length = 3 := hl
      match ds, hl3 with
      | [d0, d1, d2], _ =>
        have h0 := ha 0 d0 60 rfl rfl
        have h1 := ha 1 d1 5 rfl rfl
        have h2 := ha 2 d2 1000000 rfl rfl
        have hd : m__law_draws [.ro ns, .int (10 + (j : Int)), .lst [.int 60, .int 5, .int 1000000]] = some (.lst [.int d0, .int d1, .int d2]) := hd
        have ecn := r_count 40 (.tup ss) (by omega)
        have hcp : (0 : Int) < cnt (.tup ss) := by have := cnt_pos (.tup ss); omega
        have hc0 : ¬ cnt (D.tup ss) = 0 := by have := cnt_pos (.tup ss); omega
        obtain ⟨i, hi⟩ : ∃ i : Nat, d2 % (cnt (.tup ss) : Int) = (i : Int) := ⟨(d2 % (cnt (.tup ss) : Int)).toNat, by have := Int.emod_nonneg d2 (show (cnt (.tup ss) : Int) ≠ 0 by omega); omega⟩
        have epa := r_part 40 (.tup ss) i (by omega) (by decide)
        have ho : Old ps (.tup ss) := ⟨M1, by omega, allSs_of M.zz⟩
        obtain ⟨new, en, hnew⟩ := r_new_part (d2 := d2) hp h0.1 h1 (ho.part 40 i)
        have epu := r_put 40 (.tup ss) (i : Int) new (by omega) (by decide) (by omega)
        have hg : Good ps (putF 40 (.tup ss) (i : Int) new) := good_put ho.dp ho.sz ho.zz hnew.dp hnew.sz hnew.zz
        have er' := hg.right hp hn
        unfold l0_law
        exact ⟨[some (.ro ns), some (.lst (ps.map .str)), some (.tup ss), some (.int j), some (.lst [.int d0, .int d1, .int d2]), some (.int i), some (putF 40 (.tup ss) (i : Int) new)], by simp [hd, ecn, hcp, hc0, hi, epa, en, epu, er'], _, _, _, _, rfl⟩) [some (.ro ns), some (.lst (ps.map .str)), some (.tup ss), none, none, none, none] ⟨none, none, none, none, rfl⟩
  obtain ⟨ρ2, e2, u6, rfl, _⟩ := loop_inv (i := 6) (body := l1_law m__law_pool m__law_program (m__law_is_block 40) m__law_is_right m__law_draws (m__law_count 40) (m__law_part 40) m__law_new_part (m__law_put 40) m__law_nearly_right m_is_program)
    (fun r ρ => ∃ (v6 : Option D), ρ = [some (.ro ns), some (.lst (ps.map .str)), some (.tup ss), v3, v4, v5, v6] ∧ ∀ x ∈ r, Good ps x) (fun x r ρ h => by
      obtain ⟨v6, rfl, hr⟩ := h
      have er' := (hr x List.mem_cons_self).right hp hn
      unfold l1_law
      exact ⟨[some (.ro ns), some (.lst (ps.map .str)), some (.tup ss), v3, v4, v5, some x], by simp [er'], _, rfl, fun y hy => hr y (List.mem_cons_of_mem _ hy)⟩) cs [some (.ro ns), some (.lst (ps.map .str)), some (.tup ss), v3, v4, v5, v6] ⟨v6, rfl, hcs⟩
  have t1 := r_is_program (d := .lst ss) ⟨by simp [dep], trivial, by simp [cnt]⟩
  have t2 := r_is_program (d := .tup []) ⟨by simp [dep, deps], trivial, by simp [cnt, cnts]⟩
  have t3 := r_is_program (d := .non) ⟨by simp [dep], trivial, by simp [cnt]⟩
  have u1 : prog (.lst ss) = false := rfl
  have u2 : prog (.tup []) = true := rfl
  have u3 : prog .non = false := rfl
  rw [u1] at t1
  rw [u2] at t2
  rw [u3] at t3
  simp [ep, es, eb, er, e1, ec, e2, t1, t2, t3]
end ML
set_option Elab.async false
set_option linter.all false
set_option maxRecDepth 100000
set_option maxHeartbeats 4000000
/-! the end: what the top has left, read by names -/
namespace ML
open PySem PySem.Spec PyProof.Rows L2
/-- the function object by its name -/
def fdK (K : PySem.W.Frag) (a : Addr) : FuncData := match K.lookup a with
  | some ⟨_, _, .func fd, _⟩ => fd
  | _ => PySem.W.fnOf "" "" (defArgs s_law) [] (defScope s_law) .none .none .none .none none .none .none
def dfd (x : Str) (st : Stmt) : He.DefD := ⟨(x, none), x, x, defArgs st, defBody st, defScope st, [], []⟩
theorem fun_of {K : PySem.W.Frag} {p : Str × Option Str} {x qual : Str} {st : Stmt} (e : He.fnW K p = (He.DefD.mk p x qual (defArgs st) (defBody st) (defScope st) [] []).val) (c : (He.DefD.mk p x qual (defArgs st) (defBody st) (defScope st) [] []).ok K = true) :
    Fun K x qual st (He.fAd K p) (fdK K (He.fAd K p)) := by
  obtain ⟨fd, F⟩ := He.DefD.funD (d := ⟨p, x, qual, defArgs st, defBody st, defScope st, [], []⟩) e c
  obtain ⟨oc, od, dV, kV, doc, pm, an, cdv, ct, osl, h1, h2, h3, h4, h5⟩ := F.ex
  have hd : dV = .none := by
    rcases h4 with h | h
    · exact h.2
    · exact absurd rfl h.1
  subst hd
  have hf : fdK K (He.fAd K p) = fd := by unfold fdK; rw [h2]
  rw [hf]
  exact ⟨⟨oc, od, kV, doc, pm, an, cdv, ct, osl, h1, h2, h3⟩, F.kp⟩
/-! tables -/
theorem find_none {P : Params} {z : Str} : ∀ {l : List DictEntry} {ks : List Str}, l.map He.keyOf = He.keysIn P ks → z ∉ ks → l.find? (·.key.isStr z) = none ∧ l.any (·.refKey) = false
  | [], _, _, _ => ⟨rfl, rfl⟩
  | e :: r, [], h, _ => by cases h
  | e :: r, k :: ks, h, hz => by
    have h1 : He.keyOf e :: r.map He.keyOf = some (k, PyData.keyHash P k) :: He.keysIn P ks := h
    injection h1 with h2 h3
    obtain ⟨i1, i2⟩ := find_none h3 fun q => hz (List.mem_cons_of_mem _ q)
    unfold He.keyOf at h2
    split at h2
    · rename_i x t q
      have h4 := Option.some.inj h2
      obtain ⟨h5, h6⟩ := Prod.mk.inj h4
      subst h5
      have hne : ¬ x = z := fun w => hz (by rw [w]; exact List.mem_cons_self)
      have hk : e.key.isStr z = false := by
        rw [q]
        unfold Value.isStr
        simpa using hne
      have hr : e.refKey = false := by
        unfold DictEntry.refKey
        rw [q]
      refine ⟨?_, ?_⟩
      · rw [List.find?_cons, hk]; exact i1
      · rw [List.any_cons, hr, i2]; rfl
    · cases h2
theorem tab_of {K : PySem.W.Frag} {w : World} {a : Addr} {tbl : List (Str × Int)} (h : He.dicW K a = some (He.keysIn w.params (tbl.map (·.1)))) (hv : He.valsB K a (tbl.map fun q => (q.1, He.Dv.int q.2)) = true) : TabIs K w a tbl := by
  obtain ⟨es, n, kd⟩ := He.dicW_ok h
  refine ⟨⟨es, n, kd⟩, fun z i hz => ?_, fun z hz => ?_⟩
  · have hm : (z, i) ∈ tbl := by
      have : ∀ l : List (Str × Int), pLook l z = some i → (z, i) ∈ l := fun l => by
        induction l with
        | nil => intro q; cases q
        | cons p l ih =>
          intro q
          obtain ⟨k, v⟩ := p
          rw [lk] at q
          by_cases e : z = k
          · rw [if_pos e] at q
            cases q
            rw [e]; exact List.mem_cons_self
          · rw [if_neg e] at q
            exact List.mem_cons_of_mem _ (ih q)
      exact this tbl hz
    obtain ⟨u, h1, h2⟩ := He.valsB_ok hv (List.mem_map_of_mem (f := fun q : Str × Int => (q.1, He.Dv.int q.2)) hm)
    obtain ⟨t, ht⟩ := h2
    exact ⟨t, by rw [h1, ht]⟩
  · have hk : z ∉ tbl.map (·.1) := by
      have : ∀ l : List (Str × Int), pLook l z = none → z ∉ l.map (·.1) := fun l => by
        induction l with
        | nil => intro _ q; cases q
        | cons p l ih =>
          intro q
          obtain ⟨k, v⟩ := p
          rw [lk] at q
          by_cases e : z = k
          · rw [if_pos e] at q; cases q
          · rw [if_neg e] at q
            intro hm
            rcases List.mem_cons.mp hm with y | y
            · exact e y
            · exact ih q y
      exact this tbl hz
    have hl := kd.at_
    unfold He.dicW at h
    rw [hl] at h
    have h1 : (match decide ("dict" = "dict") && ((#[] : Array (Option Value)).isEmpty && !(a == sysModules)) with
      | true => some (es.toList.map He.keyOf)
      | false => none) = some (He.keysIn w.params (tbl.map (·.1))) := h
    rw [kd.low] at h1
    have h2 : es.toList.map He.keyOf = He.keysIn w.params (tbl.map (·.1)) := Option.some.inj h1
    obtain ⟨f1, f2⟩ := find_none h2 hk
    unfold PySem.W.nsIn
    rw [hl]
    show (match es.toList.find? (·.key.isStr z) with
      | some e => some (some e.val)
      | none => if es.toList.any (·.refKey) then none else some none) = some none
    rw [f1, f2]
    rfl
theorem tup_of {K : PySem.W.Frag} {x : Str} {ss : List Str} (h : He.tupB K x (ss.map He.Dv.str) = true) : TupIs K (He.ga K x) ss := fun H => by
  have q := He.tupB_ok h H
  rw [List.map_map] at q
  have e : ss.map (He.Dv.v K ∘ He.Dv.str) = ss.map V.str := rfl
  rw [e] at q
  exact .tup q (RpA.of_strs ss)
/-! the class -/
def oexB (K : PySem.W.Frag) (C : Addr) : Bool := match K.lookup C with
  | some ⟨.type "type", _, .cls cd, sl⟩ => (match cd.mro, sl.toList with
    | .ref C' :: bm, [_, _, _, _, some (.builtin n), _] => C' == C && n == "ValueError.__new__" && !cd.hasDel && cd.hasDict && PySem.HandSPX.refsVE bm
    | _, _ => false)
  | _ => false
theorem oexB_ok {K : PySem.W.Frag} {C : Addr} (q : oexB K C = true) : ∃ nm q N bs bm sn sub ab col dd k0 k1 k2 k3 k5, K.lookup C = some (excClassObj nm q C N bs bm true sn sub ab col dd k0 k1 k2 k3 k5 "ValueError.__new__") ∧ PySem.HandSPX.refsVE bm = true := by
  unfold oexB at q
  split at q
  · rename_i dd cd sl ho
    split at q
    · rename_i C' bm k0 k1 k2 k3 n k5 hm hs
      simp only [Bool.and_eq_true, beq_iff_eq, Bool.not_eq_true'] at q
      obtain ⟨⟨⟨⟨rfl, rfl⟩, hdel⟩, hd⟩, hve⟩ := q
      obtain ⟨nm, bs, mro, ns, qn, hd', sn, sub, ab, col, del⟩ := cd
      dsimp only at hm hdel hd
      subst hm hdel hd
      have hsl : sl = #[k0, k1, k2, k3, some (.builtin "ValueError.__new__"), k5] := by
        obtain ⟨l⟩ := sl
        simp only at hs
        rw [hs]
      subst hsl
      exact ⟨nm, qn, ns, bs, bm, sn, sub, ab, col, dd, k0, k1, k2, k3, k5, ho, hve⟩
    · cases q
  · cases q
end ML
set_option Elab.async false
set_option linter.all false
set_option maxRecDepth 100000
set_option maxHeartbeats 4000000
namespace ML
open PySem PySem.Spec PyProof.Rows L2
def dInit : He.DefD := ⟨("InvalidProgram", some "__init__"), "__init__", "InvalidProgram.__init__", defArgs s_inv, defBody s_inv, defScope s_inv, [], []⟩
def dl : List He.DefD := [dfd "is_integer" s_is_integer,
  dfd "is_value" s_is_value,
  dfd "is_word" s_is_word,
  dfd "is_name" s_is_name,
  dfd "is_one_of" s_is_one_of,
  dfd "begins_with_word" s_begins_with_word,
  dfd "is_expression" s_is_expression,
  dfd "is_set" s_is_set,
  dfd "is_statement" s_is_statement,
  dfd "is_block" s_is_block,
  dfd "is_program" s_is_program,
  dfd "need_program" s_need_program,
  dfd "names_in_expression" s_names_in_expression,
  dfd "names_in" s_names_in,
  dfd "words_of" s_words_of,
  dfd "_law_draws" s__law_draws,
  dfd "_law_equal" s__law_equal,
  dfd "_law_pool" s__law_pool,
  dfd "_law_stream" s__law_stream,
  dfd "_law_expression" s__law_expression,
  dfd "_law_statement" s__law_statement,
  dfd "_law_block" s__law_block,
  dfd "_law_turns" s__law_turns,
  dfd "_law_most" s__law_most,
  dfd "_law_program" s__law_program,
  dfd "_law_is_word" s__law_is_word,
  dfd "_law_is_expression" s__law_is_expression,
  dfd "_law_is_compound" s__law_is_compound,
  dfd "_law_is_statement" s__law_is_statement,
  dfd "_law_is_block" s__law_is_block,
  dfd "_law_names" s__law_names,
  dfd "_law_words_of" s__law_words_of,
  dfd "_law_count" s__law_count,
  dfd "_law_part" s__law_part,
  dfd "_law_put" s__law_put,
  dfd "_law_new_part" s__law_new_part,
  dfd "_law_told" s__law_told,
  dfd "_law_has_list" s__law_has_list,
  dfd "_law_is_right" s__law_is_right,
  dfd "_law_compounds" s__law_compounds,
  dfd "_law_nearly_right" s__law_nearly_right,
  dfd "law" s_law, dInit]
def fl : List He.Fa := [.glo "is_integer",
  .glo "is_value",
  .glo "is_word",
  .glo "is_name",
  .glo "is_one_of",
  .glo "begins_with_word",
  .glo "is_expression",
  .glo "is_set",
  .glo "is_statement",
  .glo "is_block",
  .glo "is_program",
  .glo "need_program",
  .glo "names_in_expression",
  .glo "names_in",
  .glo "words_of",
  .glo "_law_draws",
  .glo "_law_equal",
  .glo "_law_pool",
  .glo "_law_stream",
  .glo "_law_expression",
  .glo "_law_statement",
  .glo "_law_block",
  .glo "_law_turns",
  .glo "_law_most",
  .glo "_law_program",
  .glo "_law_is_word",
  .glo "_law_is_expression",
  .glo "_law_is_compound",
  .glo "_law_is_statement",
  .glo "_law_is_block",
  .glo "_law_names",
  .glo "_law_words_of",
  .glo "_law_count",
  .glo "_law_part",
  .glo "_law_put",
  .glo "_law_new_part",
  .glo "_law_told",
  .glo "_law_has_list",
  .glo "_law_is_right",
  .glo "_law_compounds",
  .glo "_law_nearly_right",
  .glo "law",
  .glo "InvalidProgram",
  .glo "NO_NAMES",
  .glo "OPS",
  .glo "ADD_OPS",
  .glo "FOLD_OPS",
  .glo "SIZES",
  .glo "PARTS",
  .free "isinstance",
  .free "int",
  .free "bool",
  .free "str",
  .free "tuple",
  .free "list",
  .free "len",
  .free "all",
  .free "max",
  .free "range",
  .free "sorted",
  .free "set",
  .int "PRIME" 1000003,
  .int "MOST_LETTERS" 8,
  .int "MOST_BLOCKS" 4,
  .str "LETTERS" "abcdefghijklmnopqrstuvwxyz",
  .noat "InvalidProgram" "value",
  .meth "InvalidProgram" "__init__",
  .exm "InvalidProgram" "InvalidProgram" true]
def exB (K : PySem.W.Frag) : Bool := oexB K (He.ga K "InvalidProgram") && (xfB K (He.ga K "InvalidProgram") && (decide (PySem.W.findIn K (.ref (He.ga K "InvalidProgram")) "__setattr__" = some (some (.builtin "object.__setattr__"))) && (decide (PySem.W.subIn K (.ref (He.ga K "InvalidProgram")) (.type "BaseException") = some true) &&
  (decide (PySem.W.typeIn K (.ref (He.ga K "InvalidProgram")) = some (.type "type")) && (PySem.W.keepIn K (.ref (He.ga K "InvalidProgram")) && (decide (PySem.W.typeIn K (.ref (He.ma K (He.ga K "InvalidProgram") "__init__")) = some (.type "function")) &&
  (He.tupB K "NO_NAMES" (noNames.map He.Dv.str) && (He.tupB K "OPS" (opsA.map He.Dv.str) && (He.tupB K "ADD_OPS" (opsB.map He.Dv.str) && (He.tupB K "FOLD_OPS" (opsC.map He.Dv.str) && (He.valsB K (He.ga K "SIZES") (tblS.map fun q => (q.1, He.Dv.int q.2)) && He.valsB K (He.ga K "PARTS") (tblP.map fun q => (q.1, He.Dv.int q.2)))))))))))))
theorem says_fun {fa : List He.Fa} {fn : List He.DefD} {K : PySem.W.Frag} (c : He.SaysD fa fn K) (i : Nat) {p : Str × Option Str} {x qual : Str} {st : Stmt} (h : fn[i]? = some (He.DefD.mk p x qual (defArgs st) (defBody st) (defScope st) [] [])) : Fun K x qual st (He.fAd K p) (fdK K (He.fAd K p)) := by
  have c2 := (He.ba (show ((fa.all fun f => f.ok K) && fn.all fun d => d.ok K) = true from congrArg (fun z : He.AlD => z.1) c)).2
  have e : fn.map (fun d => He.fnW K d.at_) = fn.map He.DefD.val := congrArg (fun z : He.AlD => z.2) c
  have e2 : (fn.map fun d => He.fnW K d.at_)[i]? = (fn.map He.DefD.val)[i]? := by rw [e]
  rw [List.getElem?_map, List.getElem?_map, h] at e2
  exact fun_of (Option.some.inj e2) (List.all_eq_true.mp c2 _ (List.mem_of_getElem? h))
theorem tops_of {w : World} {K : PySem.W.Frag} {h : Heap} {mg : Str → Option Value} (X : K.In h) (G : h.Ns mainGlobals mg) (c : He.SaysD fl dl K) (e : exB K = true)
    (s1 : He.dicW K (He.ga K "SIZES") = some (He.keysIn w.params (tblS.map (·.1)))) (s2 : He.dicW K (He.ga K "PARTS") = some (He.keysIn w.params (tblP.map (·.1)))) :
    Tops K w mg (fun x => He.ga K x) (fun x => fdK K (He.ga K x)) (He.ga K "InvalidProgram") (He.ma K (He.ga K "InvalidProgram") "__init__") (fdK K (He.ma K (He.ga K "InvalidProgram") "__init__")) := by
  unfold exB at e
  obtain ⟨e1, e⟩ := He.ba e
  obtain ⟨e2, e⟩ := He.ba e
  obtain ⟨e3, e⟩ := He.ba e
  obtain ⟨e4, e⟩ := He.ba e
  obtain ⟨e5, e⟩ := He.ba e
  obtain ⟨e6, e⟩ := He.ba e
  obtain ⟨e7, e⟩ := He.ba e
  obtain ⟨t1, e⟩ := He.ba e
  obtain ⟨t2, e⟩ := He.ba e
  obtain ⟨t3, e⟩ := He.ba e
  obtain ⟨t4, e⟩ := He.ba e
  obtain ⟨v1, v2⟩ := He.ba e
  have F0 : Fun K "is_integer" "is_integer" s_is_integer (He.ga K "is_integer") (fdK K (He.ga K "is_integer")) := says_fun c 0 rfl
  have T0 : TopD K mg "is_integer" s_is_integer ["value"] (He.ga K "is_integer") (fdK K (He.ga K "is_integer")) := ⟨F0, He.glo_ok X G (c.fact 0 rfl), F0.binds (ps := ["value"]) fun _ _ _ _ _ _ us hl => match us, hl with | [_], _ => rfl⟩
  have F1 : Fun K "is_value" "is_value" s_is_value (He.ga K "is_value") (fdK K (He.ga K "is_value")) := says_fun c 1 rfl
  have T1 : TopD K mg "is_value" s_is_value ["value"] (He.ga K "is_value") (fdK K (He.ga K "is_value")) := ⟨F1, He.glo_ok X G (c.fact 1 rfl), F1.binds (ps := ["value"]) fun _ _ _ _ _ _ us hl => match us, hl with | [_], _ => rfl⟩
  have F2 : Fun K "is_word" "is_word" s_is_word (He.ga K "is_word") (fdK K (He.ga K "is_word")) := says_fun c 2 rfl
  have T2 : TopD K mg "is_word" s_is_word ["value"] (He.ga K "is_word") (fdK K (He.ga K "is_word")) := ⟨F2, He.glo_ok X G (c.fact 2 rfl), F2.binds (ps := ["value"]) fun _ _ _ _ _ _ us hl => match us, hl with | [_], _ => rfl⟩
  have F3 : Fun K "is_name" "is_name" s_is_name (He.ga K "is_name") (fdK K (He.ga K "is_name")) := says_fun c 3 rfl
  have T3 : TopD K mg "is_name" s_is_name ["value"] (He.ga K "is_name") (fdK K (He.ga K "is_name")) := ⟨F3, He.glo_ok X G (c.fact 3 rfl), F3.binds (ps := ["value"]) fun _ _ _ _ _ _ us hl => match us, hl with | [_], _ => rfl⟩
  have F4 : Fun K "is_one_of" "is_one_of" s_is_one_of (He.ga K "is_one_of") (fdK K (He.ga K "is_one_of")) := says_fun c 4 rfl
  have T4 : TopD K mg "is_one_of" s_is_one_of ["value", "ops"] (He.ga K "is_one_of") (fdK K (He.ga K "is_one_of")) := ⟨F4, He.glo_ok X G (c.fact 4 rfl), F4.binds (ps := ["value", "ops"]) fun _ _ _ _ _ _ us hl => match us, hl with | [_, _], _ => rfl⟩
  have F5 : Fun K "begins_with_word" "begins_with_word" s_begins_with_word (He.ga K "begins_with_word") (fdK K (He.ga K "begins_with_word")) := says_fun c 5 rfl
  have T5 : TopD K mg "begins_with_word" s_begins_with_word ["value"] (He.ga K "begins_with_word") (fdK K (He.ga K "begins_with_word")) := ⟨F5, He.glo_ok X G (c.fact 5 rfl), F5.binds (ps := ["value"]) fun _ _ _ _ _ _ us hl => match us, hl with | [_], _ => rfl⟩
  have F6 : Fun K "is_expression" "is_expression" s_is_expression (He.ga K "is_expression") (fdK K (He.ga K "is_expression")) := says_fun c 6 rfl
  have T6 : TopD K mg "is_expression" s_is_expression ["value", "local_names"] (He.ga K "is_expression") (fdK K (He.ga K "is_expression")) := ⟨F6, He.glo_ok X G (c.fact 6 rfl), F6.binds (ps := ["value", "local_names"]) fun _ _ _ _ _ _ us hl => match us, hl with | [_, _], _ => rfl⟩
  have F7 : Fun K "is_set" "is_set" s_is_set (He.ga K "is_set") (fdK K (He.ga K "is_set")) := says_fun c 7 rfl
  have T7 : TopD K mg "is_set" s_is_set ["value", "local_names"] (He.ga K "is_set") (fdK K (He.ga K "is_set")) := ⟨F7, He.glo_ok X G (c.fact 7 rfl), F7.binds (ps := ["value", "local_names"]) fun _ _ _ _ _ _ us hl => match us, hl with | [_, _], _ => rfl⟩
  have F8 : Fun K "is_statement" "is_statement" s_is_statement (He.ga K "is_statement") (fdK K (He.ga K "is_statement")) := says_fun c 8 rfl
  have T8 : TopD K mg "is_statement" s_is_statement ["value", "local_names", "tickets"] (He.ga K "is_statement") (fdK K (He.ga K "is_statement")) := ⟨F8, He.glo_ok X G (c.fact 8 rfl), F8.binds (ps := ["value", "local_names", "tickets"]) fun _ _ _ _ _ _ us hl => match us, hl with | [_, _, _], _ => rfl⟩
  have F9 : Fun K "is_block" "is_block" s_is_block (He.ga K "is_block") (fdK K (He.ga K "is_block")) := says_fun c 9 rfl
  have T9 : TopD K mg "is_block" s_is_block ["value", "local_names", "tickets"] (He.ga K "is_block") (fdK K (He.ga K "is_block")) := ⟨F9, He.glo_ok X G (c.fact 9 rfl), F9.binds (ps := ["value", "local_names", "tickets"]) fun _ _ _ _ _ _ us hl => match us, hl with | [_, _, _], _ => rfl⟩
  have F10 : Fun K "is_program" "is_program" s_is_program (He.ga K "is_program") (fdK K (He.ga K "is_program")) := says_fun c 10 rfl
  have T10 : TopD K mg "is_program" s_is_program ["value"] (He.ga K "is_program") (fdK K (He.ga K "is_program")) := ⟨F10, He.glo_ok X G (c.fact 10 rfl), F10.binds (ps := ["value"]) fun _ _ _ _ _ _ us hl => match us, hl with | [_], _ => rfl⟩
  have F11 : Fun K "need_program" "need_program" s_need_program (He.ga K "need_program") (fdK K (He.ga K "need_program")) := says_fun c 11 rfl
  have T11 : TopD K mg "need_program" s_need_program ["value"] (He.ga K "need_program") (fdK K (He.ga K "need_program")) := ⟨F11, He.glo_ok X G (c.fact 11 rfl), F11.binds (ps := ["value"]) fun _ _ _ _ _ _ us hl => match us, hl with | [_], _ => rfl⟩
  have F12 : Fun K "names_in_expression" "names_in_expression" s_names_in_expression (He.ga K "names_in_expression") (fdK K (He.ga K "names_in_expression")) := says_fun c 12 rfl
  have T12 : TopD K mg "names_in_expression" s_names_in_expression ["expression"] (He.ga K "names_in_expression") (fdK K (He.ga K "names_in_expression")) := ⟨F12, He.glo_ok X G (c.fact 12 rfl), F12.binds (ps := ["expression"]) fun _ _ _ _ _ _ us hl => match us, hl with | [_], _ => rfl⟩
  have F13 : Fun K "names_in" "names_in" s_names_in (He.ga K "names_in") (fdK K (He.ga K "names_in")) := says_fun c 13 rfl
  have T13 : TopD K mg "names_in" s_names_in ["block"] (He.ga K "names_in") (fdK K (He.ga K "names_in")) := ⟨F13, He.glo_ok X G (c.fact 13 rfl), F13.binds (ps := ["block"]) fun _ _ _ _ _ _ us hl => match us, hl with | [_], _ => rfl⟩
  have F14 : Fun K "words_of" "words_of" s_words_of (He.ga K "words_of") (fdK K (He.ga K "words_of")) := says_fun c 14 rfl
  have T14 : TopD K mg "words_of" s_words_of ["program"] (He.ga K "words_of") (fdK K (He.ga K "words_of")) := ⟨F14, He.glo_ok X G (c.fact 14 rfl), F14.binds (ps := ["program"]) fun _ _ _ _ _ _ us hl => match us, hl with | [_], _ => rfl⟩
  have F15 : Fun K "_law_draws" "_law_draws" s__law_draws (He.ga K "_law_draws") (fdK K (He.ga K "_law_draws")) := says_fun c 15 rfl
  have T15 : TopD K mg "_law_draws" s__law_draws ["_law_script", "_law_k", "_law_bounds"] (He.ga K "_law_draws") (fdK K (He.ga K "_law_draws")) := ⟨F15, He.glo_ok X G (c.fact 15 rfl), F15.binds (ps := ["_law_script", "_law_k", "_law_bounds"]) fun _ _ _ _ _ _ us hl => match us, hl with | [_, _, _], _ => rfl⟩
  have F16 : Fun K "_law_equal" "_law_equal" s__law_equal (He.ga K "_law_equal") (fdK K (He.ga K "_law_equal")) := says_fun c 16 rfl
  have T16 : TopD K mg "_law_equal" s__law_equal ["_law_actual", "_law_expected"] (He.ga K "_law_equal") (fdK K (He.ga K "_law_equal")) := ⟨F16, He.glo_ok X G (c.fact 16 rfl), F16.binds (ps := ["_law_actual", "_law_expected"]) fun _ _ _ _ _ _ us hl => match us, hl with | [_, _], _ => rfl⟩
  have F17 : Fun K "_law_pool" "_law_pool" s__law_pool (He.ga K "_law_pool") (fdK K (He.ga K "_law_pool")) := says_fun c 17 rfl
  have T17 : TopD K mg "_law_pool" s__law_pool ["_law_script", "_law_k", "_law_size"] (He.ga K "_law_pool") (fdK K (He.ga K "_law_pool")) := ⟨F17, He.glo_ok X G (c.fact 17 rfl), F17.binds (ps := ["_law_script", "_law_k", "_law_size"]) fun _ _ _ _ _ _ us hl => match us, hl with | [_, _, _], _ => rfl⟩
  have F18 : Fun K "_law_stream" "_law_stream" s__law_stream (He.ga K "_law_stream") (fdK K (He.ga K "_law_stream")) := says_fun c 18 rfl
  have T18 : TopD K mg "_law_stream" s__law_stream ["_law_script", "_law_k", "_law_cells"] (He.ga K "_law_stream") (fdK K (He.ga K "_law_stream")) := ⟨F18, He.glo_ok X G (c.fact 18 rfl), F18.binds (ps := ["_law_script", "_law_k", "_law_cells"]) fun _ _ _ _ _ _ us hl => match us, hl with | [_, _, _], _ => rfl⟩
  have F19 : Fun K "_law_expression" "_law_expression" s__law_expression (He.ga K "_law_expression") (fdK K (He.ga K "_law_expression")) := says_fun c 19 rfl
  have T19 : TopD K mg "_law_expression" s__law_expression ["_law_stream_here", "_law_at", "_law_pool_here", "_law_locals_here", "_law_deep"] (He.ga K "_law_expression") (fdK K (He.ga K "_law_expression")) := ⟨F19, He.glo_ok X G (c.fact 19 rfl), F19.binds (ps := ["_law_stream_here", "_law_at", "_law_pool_here", "_law_locals_here", "_law_deep"]) fun _ _ _ _ _ _ us hl => match us, hl with | [_, _, _, _, _], _ => rfl⟩
  have F20 : Fun K "_law_statement" "_law_statement" s__law_statement (He.ga K "_law_statement") (fdK K (He.ga K "_law_statement")) := says_fun c 20 rfl
  have T20 : TopD K mg "_law_statement" s__law_statement ["_law_stream_here", "_law_at", "_law_pool_here", "_law_locals_here", "_law_tickets", "_law_deep"] (He.ga K "_law_statement") (fdK K (He.ga K "_law_statement")) := ⟨F20, He.glo_ok X G (c.fact 20 rfl), F20.binds (ps := ["_law_stream_here", "_law_at", "_law_pool_here", "_law_locals_here", "_law_tickets", "_law_deep"]) fun _ _ _ _ _ _ us hl => match us, hl with | [_, _, _, _, _, _], _ => rfl⟩
  have F21 : Fun K "_law_block" "_law_block" s__law_block (He.ga K "_law_block") (fdK K (He.ga K "_law_block")) := says_fun c 21 rfl
  have T21 : TopD K mg "_law_block" s__law_block ["_law_stream_here", "_law_at", "_law_pool_here", "_law_locals_here", "_law_tickets", "_law_deep"] (He.ga K "_law_block") (fdK K (He.ga K "_law_block")) := ⟨F21, He.glo_ok X G (c.fact 21 rfl), F21.binds (ps := ["_law_stream_here", "_law_at", "_law_pool_here", "_law_locals_here", "_law_tickets", "_law_deep"]) fun _ _ _ _ _ _ us hl => match us, hl with | [_, _, _, _, _, _], _ => rfl⟩
  have F22 : Fun K "_law_turns" "_law_turns" s__law_turns (He.ga K "_law_turns") (fdK K (He.ga K "_law_turns")) := says_fun c 22 rfl
  have T22 : TopD K mg "_law_turns" s__law_turns ["_law_expression_here"] (He.ga K "_law_turns") (fdK K (He.ga K "_law_turns")) := ⟨F22, He.glo_ok X G (c.fact 22 rfl), F22.binds (ps := ["_law_expression_here"]) fun _ _ _ _ _ _ us hl => match us, hl with | [_], _ => rfl⟩
  have F23 : Fun K "_law_most" "_law_most" s__law_most (He.ga K "_law_most") (fdK K (He.ga K "_law_most")) := says_fun c 23 rfl
  have T23 : TopD K mg "_law_most" s__law_most ["_law_block_here"] (He.ga K "_law_most") (fdK K (He.ga K "_law_most")) := ⟨F23, He.glo_ok X G (c.fact 23 rfl), F23.binds (ps := ["_law_block_here"]) fun _ _ _ _ _ _ us hl => match us, hl with | [_], _ => rfl⟩
  have F24 : Fun K "_law_program" "_law_program" s__law_program (He.ga K "_law_program") (fdK K (He.ga K "_law_program")) := says_fun c 24 rfl
  have T24 : TopD K mg "_law_program" s__law_program ["_law_script", "_law_k", "_law_pool_here", "_law_most_here"] (He.ga K "_law_program") (fdK K (He.ga K "_law_program")) := ⟨F24, He.glo_ok X G (c.fact 24 rfl), F24.binds (ps := ["_law_script", "_law_k", "_law_pool_here", "_law_most_here"]) fun _ _ _ _ _ _ us hl => match us, hl with | [_, _, _, _], _ => rfl⟩
  have F25 : Fun K "_law_is_word" "_law_is_word" s__law_is_word (He.ga K "_law_is_word") (fdK K (He.ga K "_law_is_word")) := says_fun c 25 rfl
  have T25 : TopD K mg "_law_is_word" s__law_is_word ["_law_value"] (He.ga K "_law_is_word") (fdK K (He.ga K "_law_is_word")) := ⟨F25, He.glo_ok X G (c.fact 25 rfl), F25.binds (ps := ["_law_value"]) fun _ _ _ _ _ _ us hl => match us, hl with | [_], _ => rfl⟩
  have F26 : Fun K "_law_is_expression" "_law_is_expression" s__law_is_expression (He.ga K "_law_is_expression") (fdK K (He.ga K "_law_is_expression")) := says_fun c 26 rfl
  have T26 : TopD K mg "_law_is_expression" s__law_is_expression ["_law_value", "_law_locals_here"] (He.ga K "_law_is_expression") (fdK K (He.ga K "_law_is_expression")) := ⟨F26, He.glo_ok X G (c.fact 26 rfl), F26.binds (ps := ["_law_value", "_law_locals_here"]) fun _ _ _ _ _ _ us hl => match us, hl with | [_, _], _ => rfl⟩
  have F27 : Fun K "_law_is_compound" "_law_is_compound" s__law_is_compound (He.ga K "_law_is_compound") (fdK K (He.ga K "_law_is_compound")) := says_fun c 27 rfl
  have T27 : TopD K mg "_law_is_compound" s__law_is_compound ["_law_value", "_law_locals_here", "_law_tickets"] (He.ga K "_law_is_compound") (fdK K (He.ga K "_law_is_compound")) := ⟨F27, He.glo_ok X G (c.fact 27 rfl), F27.binds (ps := ["_law_value", "_law_locals_here", "_law_tickets"]) fun _ _ _ _ _ _ us hl => match us, hl with | [_, _, _], _ => rfl⟩
  have F28 : Fun K "_law_is_statement" "_law_is_statement" s__law_is_statement (He.ga K "_law_is_statement") (fdK K (He.ga K "_law_is_statement")) := says_fun c 28 rfl
  have T28 : TopD K mg "_law_is_statement" s__law_is_statement ["_law_value", "_law_locals_here", "_law_tickets"] (He.ga K "_law_is_statement") (fdK K (He.ga K "_law_is_statement")) := ⟨F28, He.glo_ok X G (c.fact 28 rfl), F28.binds (ps := ["_law_value", "_law_locals_here", "_law_tickets"]) fun _ _ _ _ _ _ us hl => match us, hl with | [_, _, _], _ => rfl⟩
  have F29 : Fun K "_law_is_block" "_law_is_block" s__law_is_block (He.ga K "_law_is_block") (fdK K (He.ga K "_law_is_block")) := says_fun c 29 rfl
  have T29 : TopD K mg "_law_is_block" s__law_is_block ["_law_value", "_law_locals_here", "_law_tickets"] (He.ga K "_law_is_block") (fdK K (He.ga K "_law_is_block")) := ⟨F29, He.glo_ok X G (c.fact 29 rfl), F29.binds (ps := ["_law_value", "_law_locals_here", "_law_tickets"]) fun _ _ _ _ _ _ us hl => match us, hl with | [_, _, _], _ => rfl⟩
  have F30 : Fun K "_law_names" "_law_names" s__law_names (He.ga K "_law_names") (fdK K (He.ga K "_law_names")) := says_fun c 30 rfl
  have T30 : TopD K mg "_law_names" s__law_names ["_law_value"] (He.ga K "_law_names") (fdK K (He.ga K "_law_names")) := ⟨F30, He.glo_ok X G (c.fact 30 rfl), F30.binds (ps := ["_law_value"]) fun _ _ _ _ _ _ us hl => match us, hl with | [_], _ => rfl⟩
  have F31 : Fun K "_law_words_of" "_law_words_of" s__law_words_of (He.ga K "_law_words_of") (fdK K (He.ga K "_law_words_of")) := says_fun c 31 rfl
  have T31 : TopD K mg "_law_words_of" s__law_words_of ["_law_program_here"] (He.ga K "_law_words_of") (fdK K (He.ga K "_law_words_of")) := ⟨F31, He.glo_ok X G (c.fact 31 rfl), F31.binds (ps := ["_law_program_here"]) fun _ _ _ _ _ _ us hl => match us, hl with | [_], _ => rfl⟩
  have F32 : Fun K "_law_count" "_law_count" s__law_count (He.ga K "_law_count") (fdK K (He.ga K "_law_count")) := says_fun c 32 rfl
  have T32 : TopD K mg "_law_count" s__law_count ["_law_value"] (He.ga K "_law_count") (fdK K (He.ga K "_law_count")) := ⟨F32, He.glo_ok X G (c.fact 32 rfl), F32.binds (ps := ["_law_value"]) fun _ _ _ _ _ _ us hl => match us, hl with | [_], _ => rfl⟩
  have F33 : Fun K "_law_part" "_law_part" s__law_part (He.ga K "_law_part") (fdK K (He.ga K "_law_part")) := says_fun c 33 rfl
  have T33 : TopD K mg "_law_part" s__law_part ["_law_value", "_law_at"] (He.ga K "_law_part") (fdK K (He.ga K "_law_part")) := ⟨F33, He.glo_ok X G (c.fact 33 rfl), F33.binds (ps := ["_law_value", "_law_at"]) fun _ _ _ _ _ _ us hl => match us, hl with | [_, _], _ => rfl⟩
  have F34 : Fun K "_law_put" "_law_put" s__law_put (He.ga K "_law_put") (fdK K (He.ga K "_law_put")) := says_fun c 34 rfl
  have T34 : TopD K mg "_law_put" s__law_put ["_law_value", "_law_at", "_law_new"] (He.ga K "_law_put") (fdK K (He.ga K "_law_put")) := ⟨F34, He.glo_ok X G (c.fact 34 rfl), F34.binds (ps := ["_law_value", "_law_at", "_law_new"]) fun _ _ _ _ _ _ us hl => match us, hl with | [_, _, _], _ => rfl⟩
  have F35 : Fun K "_law_new_part" "_law_new_part" s__law_new_part (He.ga K "_law_new_part") (fdK K (He.ga K "_law_new_part")) := says_fun c 35 rfl
  have T35 : TopD K mg "_law_new_part" s__law_new_part ["_law_drawn", "_law_old", "_law_pool_here"] (He.ga K "_law_new_part") (fdK K (He.ga K "_law_new_part")) := ⟨F35, He.glo_ok X G (c.fact 35 rfl), F35.binds (ps := ["_law_drawn", "_law_old", "_law_pool_here"]) fun _ _ _ _ _ _ us hl => match us, hl with | [_, _, _], _ => rfl⟩
  have F36 : Fun K "_law_told" "_law_told" s__law_told (He.ga K "_law_told") (fdK K (He.ga K "_law_told")) := says_fun c 36 rfl
  have T36 : TopD K mg "_law_told" s__law_told ["_law_value"] (He.ga K "_law_told") (fdK K (He.ga K "_law_told")) := ⟨F36, He.glo_ok X G (c.fact 36 rfl), F36.binds (ps := ["_law_value"]) fun _ _ _ _ _ _ us hl => match us, hl with | [_], _ => rfl⟩
  have F37 : Fun K "_law_has_list" "_law_has_list" s__law_has_list (He.ga K "_law_has_list") (fdK K (He.ga K "_law_has_list")) := says_fun c 37 rfl
  have T37 : TopD K mg "_law_has_list" s__law_has_list ["_law_value"] (He.ga K "_law_has_list") (fdK K (He.ga K "_law_has_list")) := ⟨F37, He.glo_ok X G (c.fact 37 rfl), F37.binds (ps := ["_law_value"]) fun _ _ _ _ _ _ us hl => match us, hl with | [_], _ => rfl⟩
  have F38 : Fun K "_law_is_right" "_law_is_right" s__law_is_right (He.ga K "_law_is_right") (fdK K (He.ga K "_law_is_right")) := says_fun c 38 rfl
  have T38 : TopD K mg "_law_is_right" s__law_is_right ["_law_value"] (He.ga K "_law_is_right") (fdK K (He.ga K "_law_is_right")) := ⟨F38, He.glo_ok X G (c.fact 38 rfl), F38.binds (ps := ["_law_value"]) fun _ _ _ _ _ _ us hl => match us, hl with | [_], _ => rfl⟩
  have F39 : Fun K "_law_compounds" "_law_compounds" s__law_compounds (He.ga K "_law_compounds") (fdK K (He.ga K "_law_compounds")) := says_fun c 39 rfl
  have T39 : TopD K mg "_law_compounds" s__law_compounds ["_law_value", "_law_at"] (He.ga K "_law_compounds") (fdK K (He.ga K "_law_compounds")) := ⟨F39, He.glo_ok X G (c.fact 39 rfl), F39.binds (ps := ["_law_value", "_law_at"]) fun _ _ _ _ _ _ us hl => match us, hl with | [_, _], _ => rfl⟩
  have F40 : Fun K "_law_nearly_right" "_law_nearly_right" s__law_nearly_right (He.ga K "_law_nearly_right") (fdK K (He.ga K "_law_nearly_right")) := says_fun c 40 rfl
  have T40 : TopD K mg "_law_nearly_right" s__law_nearly_right ["_law_script", "_law_program_here", "_law_pool_here"] (He.ga K "_law_nearly_right") (fdK K (He.ga K "_law_nearly_right")) := ⟨F40, He.glo_ok X G (c.fact 40 rfl), F40.binds (ps := ["_law_script", "_law_program_here", "_law_pool_here"]) fun _ _ _ _ _ _ us hl => match us, hl with | [_, _, _], _ => rfl⟩
  have F41 : Fun K "law" "law" s_law (He.ga K "law") (fdK K (He.ga K "law")) := says_fun c 41 rfl
  have T41 : TopD K mg "law" s_law ["_law_script"] (He.ga K "law") (fdK K (He.ga K "law")) := ⟨F41, He.glo_ok X G (c.fact 41 rfl), F41.binds (ps := ["_law_script"]) fun _ _ _ _ _ _ us hl => match us, hl with | [_], _ => rfl⟩
  have FI : Fun K "__init__" "InvalidProgram.__init__" s_inv (He.ma K (He.ga K "InvalidProgram") "__init__") (fdK K (He.ma K (He.ga K "InvalidProgram") "__init__")) := says_fun c 42 rfl
  have bI : Binds K (fdK K (He.ma K (He.ga K "InvalidProgram") "__init__")) ["self", "value"] [] := FI.binds fun _ _ _ _ _ _ us hl => match us, hl with | [_, _], _ => rfl
  have hb : Blt mg := { isinstance := He.free_ok X G (c.fact 49 rfl), int := He.free_ok X G (c.fact 50 rfl), bool := He.free_ok X G (c.fact 51 rfl), str := He.free_ok X G (c.fact 52 rfl), tuple := He.free_ok X G (c.fact 53 rfl), list := He.free_ok X G (c.fact 54 rfl), len := He.free_ok X G (c.fact 55 rfl), all := He.free_ok X G (c.fact 56 rfl), max := He.free_ok X G (c.fact 57 rfl), range := He.free_ok X G (c.fact 58 rfl), sorted := He.free_ok X G (c.fact 59 rfl), set := He.free_ok X G (c.fact 60 rfl) }
  have hc : Cst K w mg := { prime := He.int_ok X G (c.fact 61 (f := .int "PRIME" 1000003) rfl), mostL := He.int_ok X G (c.fact 62 (f := .int "MOST_LETTERS" 8) rfl), mostB := He.int_ok X G (c.fact 63 (f := .int "MOST_BLOCKS" 4) rfl), letters := He.str_ok X G (c.fact 64 (f := .str "LETTERS" "abcdefghijklmnopqrstuvwxyz") rfl), noN := ⟨_, He.glo_ok X G (c.fact 43 rfl), tup_of t1⟩, ops := ⟨_, He.glo_ok X G (c.fact 44 rfl), tup_of t2⟩, addOps := ⟨_, He.glo_ok X G (c.fact 45 rfl), tup_of t3⟩, foldOps := ⟨_, He.glo_ok X G (c.fact 46 rfl), tup_of t4⟩, sizes := ⟨_, He.glo_ok X G (c.fact 47 rfl), tab_of s1 v1⟩, parts := ⟨_, He.glo_ok X G (c.fact 48 rfl), tab_of s2 v2⟩ }
  have hm := He.meth_ok (c.fact 66 (f := .meth "InvalidProgram" "__init__") rfl)
  have hi : InvC K mg (He.ga K "InvalidProgram") (He.ma K (He.ga K "InvalidProgram") "__init__") (fdK K (He.ma K (He.ga K "InvalidProgram") "__init__")) :=
    { gC := He.glo_ok X G (c.fact 42 rfl), ox := ⟨oexB_ok e1, of_decide_eq_true e3, of_decide_eq_true e4, of_decide_eq_true e5, e6⟩, xf := xfB_ok e2, noV := He.noat_ok (c.fact 65 (f := .noat "InvalidProgram" "value") rfl), iC := hm.at_, tI := of_decide_eq_true e7, F := FI, b := bI, te := He.exm_ok (c.fact 67 (f := .exm "InvalidProgram" "InvalidProgram" true) rfl) }
  have hk : KBinds K (fdK K (He.ga K "is_program")) ["value"] ["value"] (fun us ws => us ++ ws) (fun us ws => us ++ ws) := by
    obtain ⟨oc, od, kV, doc, pm, an, cdv, ct, osl, h1, h2, h3⟩ := F10.ex
    rw [h1]
    exact kb1 (fun u => rfl) (fun u => rfl)
  exact { B := hb, Cs := hc, I := hi, kb := hk, T_is_integer := T0, T_is_value := T1, T_is_word := T2, T_is_name := T3, T_is_one_of := T4, T_begins_with_word := T5, T_is_expression := T6, T_is_set := T7, T_is_statement := T8, T_is_block := T9, T_is_program := T10, T_need_program := T11, T_names_in_expression := T12, T_names_in := T13, T_words_of := T14, T__law_draws := T15, T__law_equal := T16, T__law_pool := T17, T__law_stream := T18, T__law_expression := T19, T__law_statement := T20, T__law_block := T21, T__law_turns := T22, T__law_most := T23, T__law_program := T24, T__law_is_word := T25, T__law_is_expression := T26, T__law_is_compound := T27, T__law_is_statement := T28, T__law_is_block := T29, T__law_names := T30, T__law_words_of := T31, T__law_count := T32, T__law_part := T33, T__law_put := T34, T__law_new_part := T35, T__law_told := T36, T__law_has_list := T37, T__law_is_right := T38, T__law_compounds := T39, T__law_nearly_right := T40, T_law := T41 }
theorem law_end {P : Program} {w : World} {K : PySem.W.Frag} {h : Heap} {mg : Str → Option Value} {fa : Addr} (X : K.In h) (G : h.Ns mainGlobals mg) (hfa : mg "law" = some (.ref fa)) (c : He.SaysD fl dl K) (e : exB K = true)
    (s1 : He.dicW K (He.ga K "SIZES") = some (He.keysIn w.params (tblS.map (·.1)))) (s2 : He.dicW K (He.ga K "PARTS") = some (He.keysIn w.params (tblP.map (·.1)))) :
    ∃ fd : FuncData, (∀ (s : Shared) (u : Value), BindsTo s fd ⟨[u], []⟩ [("_law_script", u)]) ∧ ∀ base : Heap, K.In base → base.Ns mainGlobals mg → FnOk P w K mg base CX0 123 fa fd ["_law_script"] (spM K 1 m_law) := by
  have T := tops_of X G c e s1 s2
  have eq := hfa.symm.trans T.T_law.g
  cases eq
  obtain ⟨oc, od, kV, doc, pm, an, cdv, ct, osl, h1, h2, h3⟩ := T.T_law.F.ex
  refine ⟨fdK K (He.ga K "law"), fun s u => ?_, fun base _ _ => R_law T⟩
  have h1 : fdK K (He.ga K "law") = _ := h1
  rw [h1]
  exact BindsTo.of_eq rfl
theorem law_asked {K : PySem.W.Frag} (H : Hp) (a : Addr) (ns : List Int) (hS : SqL K H a (ns.map V.int)) : spM K 1 m_law [.ref a] H (fun v _ => v = .bl true) fun _ _ _ => False :=
  ⟨H, [.ro ns], .bl true, Same.refl _, .cons (.ro hS) .nil, rfl, r_law ns, fun v H2 Hr st rv => by cases rv; rfl⟩
end ML
set_option Elab.async false
set_option maxRecDepth 1000000
set_option maxHeartbeats 0
open PySem PySem.W PyProof.Rows
open_top head for PySem.Challenge.rw_forkspan_k02_whole_what_is_a_program
set_option Elab.async false
set_option linter.all false
set_option maxRecDepth 1000000
set_option maxHeartbeats 0
open PySem PySem.W PyProof.Rows
theorem PySem.Challenge.cw_forkspan_k02_whole_what_is_a_program_holds : PySem.Challenge.rw_forkspan_k02_whole_what_is_a_program.Holds := by
  refine head (L2.walk_of (l := PySem.Challenge.rw_forkspan_k02_whole_what_is_a_program) (n := 63) (k := 123) (x := "_law_script") (CX := fun _ => L2.CX0) rfl (by decide) rfl ⟨rfl, by decide, by decide⟩ (fun w h Y => PySem.W.kIn_of Y) (fun w mg fa h KX G hmg => ML.law_end KX G hmg ?c1 ?c2 ?c3 ?c4) (fun w H a ns _ _ hS => ML.law_asked H a ns hS) fun _ _ _ _ _ z => z)
  case c1 =>
    show He.obsD ML.fl ML.dl _ = He.valD ML.dl
    kernel_rfl
  case c2 => kernel_rfl
  case c3 => kernel_rfl
  case c4 => kernel_rfl
#print axioms PySem.Challenge.cw_forkspan_k02_whole_what_is_a_program_holds
