import PyProof.Rows.All
import Wide.All
import OpenK.AllK
import Wide.FinOn
import HandS.ForMost
import HandS.IsInst
import HandS.Conv
import HandS.Strs
import HandS.Style
import HandS.TupAny
import HandS.DictComp
import HandS.Replace
import HandS.SortInts
import HandS.SetFor
import PySem.Challenge.RW_deedsagain_k42_whole_conditions_and_asks
set_option Elab.async false
set_option linter.all false
set_option maxRecDepth 100000
set_option maxHeartbeats 4000000
namespace KQ
open PySem L2

/-- a dict with one key, the tuple at a, of hash z -/
def OneAt (h : Heap) (d : Addr) (z : Int) (a : Addr) (u : Value) : Prop := ∃ o ep, h.get? d = some o ∧ o.ExactDict ∧ o.data = .dict #[⟨z, .ref a, u⟩] ep
def OneO (d a : Addr) (z : Int) (v : V) : HO := .ext fun h => ∃ u, RelV v u ∧ OneAt h d z a u
/-! ### data without a heap -/
inductive D where
  | non | bl (b : Bool) | int (i : Int) | str (s : Str) | ty (n : String) | emp | adr (a : Addr) | at (a : Addr) (d : D) | one (a : Addr) (z : Int) (d : D) | tup (xs : List D) | lst (xs : List D)

theorem seqT_same {K : PySem.W.Frag} {H H' : Hp} {a : Addr} {xs : List V} (e : Same H H') (h : SqT K H a xs) : SqT K H' a xs := by
  rcases h with (h | ⟨o, h⟩) | h
  · exact .inl (.inl (e _ _ h))
  · exact .inl (.inr ⟨o, e _ _ h⟩)
  · exact .inr h
theorem same_new {H : Hp} {p : Addr} {o : HO} (h : H p = none) : Same H (upd H p o) := fun b u e => by rw [upd_ne (ne_of_none e h)]; exact e

mutual
def Rp (K : PySem.W.Frag) (H : Hp) : D → V → Prop
  | .non, v => v = .non
  | .bl b, v => v = .bl b
  | .int i, v => v = .int i
  | .str s, v => v = .str s
  | .ty n, v => v = .ty n
  | .emp, v => ∃ a, v = .ref a ∧ H a = some (.dK [])
  | .adr a, v => v = .ref a
  | .at a d, v => v = .ref a ∧ Rp K H d v
  | .one a z d, v => ∃ p x, v = .ref p ∧ H p = some (OneO p a z x) ∧ Rp K H d x
  | .tup xs, v => ∃ a vs, v = .ref a ∧ SqT K H a vs ∧ Rps K H xs vs
  | .lst xs, v => ∃ a vs, v = .ref a ∧ SqL K H a vs ∧ Rps K H xs vs
def Rps (K : PySem.W.Frag) (H : Hp) : List D → List V → Prop
  | [], vs => vs = []
  | d :: ds, vs => ∃ v r, vs = v :: r ∧ Rp K H d v ∧ Rps K H ds r
end
section
variable {K : PySem.W.Frag} {H H' : Hp}
mutual
theorem Rp.same (e : Same H H') : ∀ (d : D) (v : V), Rp K H d v → Rp K H' d v
  | .non, _, h => by simpa [Rp] using h
  | .bl b, _, h => by simpa [Rp] using h
  | .int i, _, h => by simpa [Rp] using h
  | .str s, _, h => by simpa [Rp] using h
  | .ty n, _, h => by simpa [Rp] using h
  | .emp, v, h => by
    unfold Rp at h ⊢
    obtain ⟨a, rfl, h1⟩ := h
    exact ⟨a, rfl, e _ _ h1⟩
  | .adr a, _, h => by simpa [Rp] using h
  | .at a d, v, h => by
    unfold Rp at h ⊢
    exact ⟨h.1, Rp.same e d v h.2⟩
  | .one a z d, v, h => by
    unfold Rp at h ⊢
    obtain ⟨p, x, rfl, h1, h2⟩ := h
    exact ⟨p, x, rfl, e _ _ h1, Rp.same e d x h2⟩
  | .tup xs, v, h => by
    unfold Rp at h ⊢
    obtain ⟨a, vs, rfl, h1, h2⟩ := h
    exact ⟨a, vs, rfl, seqT_same e h1, Rps.same e xs vs h2⟩
  | .lst xs, v, h => by
    unfold Rp at h ⊢
    obtain ⟨a, vs, rfl, h1, h2⟩ := h
    exact ⟨a, vs, rfl, e.seq h1, Rps.same e xs vs h2⟩
theorem Rps.same (e : Same H H') : ∀ (ds : List D) (vs : List V), Rps K H ds vs → Rps K H' ds vs
  | [], _, h => by simpa [Rps] using h
  | d :: ds, _, h => by
    unfold Rps at h ⊢
    obtain ⟨v, r, rfl, h1, h2⟩ := h
    exact ⟨v, r, rfl, Rp.same e d v h1, Rps.same e ds r h2⟩
end
theorem Rp.s {d : D} {v : V} (h : Rp K H d v) (e : Same H H') : Rp K H' d v := Rp.same e d v h
theorem Rps.s {d : List D} {v : List V} (h : Rps K H d v) (e : Same H H') : Rps K H' d v := Rps.same e d v h
theorem Rps.nil : Rps K H [] [] := by simp [Rps]
theorem Rps.cons {d : D} {v : V} {ds : List D} {vs : List V} (h : Rp K H d v) (t : Rps K H ds vs) : Rps K H (d :: ds) (v :: vs) := by
  unfold Rps; exact ⟨v, vs, rfl, h, t⟩
theorem Rps.length : ∀ {ds : List D} {vs : List V}, Rps K H ds vs → vs.length = ds.length
  | [], _, h => by simp only [Rps] at h; subst h; rfl
  | d :: ds, _, h => by
    unfold Rps at h
    obtain ⟨v, r, rfl, h1, h2⟩ := h
    simp [Rps.length h2]
theorem Rps.get : ∀ {ds : List D} {vs : List V} {i : Nat} {d : D}, Rps K H ds vs → ds[i]? = some d → ∃ v, vs[i]? = some v ∧ Rp K H d v
  | [], _, _, _, _, e => by simp at e
  | d :: ds, _, 0, _, h, e => by
    unfold Rps at h
    obtain ⟨v, r, rfl, h1, h2⟩ := h
    simp at e; subst e
    exact ⟨v, rfl, h1⟩
  | d :: ds, _, i + 1, _, h, e => by
    unfold Rps at h
    obtain ⟨v, r, rfl, h1, h2⟩ := h
    obtain ⟨w, q1, q2⟩ := Rps.get (i := i) h2 (by simpa using e)
    exact ⟨w, by simpa using q1, q2⟩
theorem Rps.append : ∀ {ds es : List D} {vs ws : List V}, Rps K H ds vs → Rps K H es ws → Rps K H (ds ++ es) (vs ++ ws)
  | [], _, _, _, h, g => by simp only [Rps] at h; subst h; exact g
  | d :: ds, _, _, _, h, g => by
    unfold Rps at h
    obtain ⟨v, r, rfl, h1, h2⟩ := h
    exact .cons h1 (Rps.append h2 g)
theorem Rps.drop : ∀ {ds : List D} {vs : List V} (n : Nat), Rps K H ds vs → Rps K H (ds.drop n) (vs.drop n)
  | _, _, 0, h => h
  | [], _, _ + 1, h => by simp only [Rps] at h; subst h; exact .nil
  | d :: ds, _, n + 1, h => by
    unfold Rps at h
    obtain ⟨v, r, rfl, h1, h2⟩ := h
    exact Rps.drop n h2
theorem Rps.take : ∀ {ds : List D} {vs : List V} (n : Nat), Rps K H ds vs → Rps K H (ds.take n) (vs.take n)
  | _, _, 0, _ => .nil
  | [], _, _ + 1, h => by simp only [Rps] at h; subst h; exact .nil
  | d :: ds, _, n + 1, h => by
    unfold Rps at h
    obtain ⟨v, r, rfl, h1, h2⟩ := h
    exact .cons h1 (Rps.take n h2)
theorem Rps.reverse : ∀ {ds : List D} {vs : List V}, Rps K H ds vs → Rps K H ds.reverse vs.reverse
  | [], _, h => by simp only [Rps] at h; subst h; exact .nil
  | d :: ds, _, h => by
    unfold Rps at h
    obtain ⟨v, r, rfl, h1, h2⟩ := h
    simp only [List.reverse_cons]
    exact (Rps.reverse h2).append (.cons h1 .nil)
theorem Rp.tup {ds : List D} {a : Addr} {vs : List V} (h : SqT K H a vs) (r : Rps K H ds vs) : Rp K H (.tup ds) (.ref a) := by
  unfold Rp; exact ⟨a, vs, rfl, h, r⟩
theorem Rp.lst {ds : List D} {a : Addr} {vs : List V} (h : SqL K H a vs) (r : Rps K H ds vs) : Rp K H (.lst ds) (.ref a) := by
  unfold Rp; exact ⟨a, vs, rfl, h, r⟩
theorem Rp.tupE {ds : List D} {v : V} (h : Rp K H (.tup ds) v) : ∃ a vs, v = .ref a ∧ SqT K H a vs ∧ Rps K H ds vs := by unfold Rp at h; exact h
theorem Rp.lstE {ds : List D} {v : V} (h : Rp K H (.lst ds) v) : ∃ a vs, v = .ref a ∧ SqL K H a vs ∧ Rps K H ds vs := by unfold Rp at h; exact h
theorem Rp.intE {i : Int} {v : V} (h : Rp K H (.int i) v) : v = .int i := by unfold Rp at h; exact h
theorem Rp.blE {i : Bool} {v : V} (h : Rp K H (.bl i) v) : v = .bl i := by unfold Rp at h; exact h
theorem Rp.strE {i : Str} {v : V} (h : Rp K H (.str i) v) : v = .str i := by unfold Rp at h; exact h
theorem Rp.nonE {v : V} (h : Rp K H .non v) : v = .non := by unfold Rp at h; exact h
theorem Rp.tyE {i : String} {v : V} (h : Rp K H (.ty i) v) : v = .ty i := by unfold Rp at h; exact h
theorem Rp.empE {v : V} (h : Rp K H .emp v) : ∃ a, v = .ref a ∧ H a = some (.dK []) := by unfold Rp at h; exact h
theorem Rp.adrE {a : Addr} {v : V} (h : Rp K H (.adr a) v) : v = .ref a := by unfold Rp at h; exact h
theorem Rp.adr {a : Addr} : Rp K H (.adr a) (.ref a) := by unfold Rp; rfl
theorem Rp.atE {a : Addr} {d : D} {v : V} (h : Rp K H (.at a d) v) : v = .ref a ∧ Rp K H d (.ref a) := by
  unfold Rp at h
  obtain ⟨rfl, h⟩ := h
  exact ⟨rfl, h⟩
theorem Rp.at {a : Addr} {d : D} (h : Rp K H d (.ref a)) : Rp K H (.at a d) (.ref a) := by unfold Rp; exact ⟨rfl, h⟩
theorem Rp.oneE {a : Addr} {z : Int} {d : D} {v : V} (h : Rp K H (.one a z d) v) : ∃ p x, v = .ref p ∧ H p = some (OneO p a z x) ∧ Rp K H d x := by unfold Rp at h; exact h
theorem Rp.one' {p a : Addr} {z : Int} {d : D} {x : V} (h : H p = some (OneO p a z x)) (r : Rp K H d x) : Rp K H (.one a z d) (.ref p) := by unfold Rp; exact ⟨p, x, rfl, h, r⟩
theorem Rp.emp {a : Addr} (h : H a = some (.dK [])) : Rp K H .emp (.ref a) := by unfold Rp; exact ⟨a, rfl, h⟩
theorem Rp.int {i : Int} : Rp K H (.int i) (.int i) := by unfold Rp; rfl
theorem Rp.bl {i : Bool} : Rp K H (.bl i) (.bl i) := by unfold Rp; rfl
theorem Rp.str {i : Str} : Rp K H (.str i) (.str i) := by unfold Rp; rfl
theorem Rp.non : Rp K H .non .non := by unfold Rp; rfl
theorem Rp.ty {i : String} : Rp K H (.ty i) (.ty i) := by unfold Rp; rfl
/-- a new tuple, a new list -/
theorem Rp.tupN {ds : List D} {p : Addr} {vs : List V} (h : H p = none) (r : Rps K H ds vs) : Rp K (upd H p (.tup vs)) (.tup ds) (.ref p) := .tup (.inl (.inl upd_same)) (r.s (same_new h))
theorem Rp.lstN {ds : List D} {p : Addr} {vs : List V} (h : H p = none) (r : Rps K H ds vs) : Rp K (upd H p (.lst vs)) (.lst ds) (.ref p) := .lst (.inl (.inl upd_same)) (r.s (same_new h))
theorem Rps.ints : ∀ (ns : List Int), Rps K H (ns.map D.int) (ns.map V.int)
  | [] => .nil
  | n :: ns => .cons .int (Rps.ints ns)
theorem Rps.intsE : ∀ {ns : List Int} {vs : List V}, Rps K H (ns.map D.int) vs → vs = ns.map V.int
  | [], _, h => by simpa [Rps] using h
  | n :: ns, _, h => by
    simp only [List.map_cons] at h
    unfold Rps at h
    obtain ⟨v, r, rfl, h1, h2⟩ := h
    rw [h1.intE, Rps.intsE h2]; rfl
theorem Rps.bls : ∀ (ns : List Bool), Rps K H (ns.map D.bl) (ns.map V.bl)
  | [] => .nil
  | n :: ns => .cons .bl (Rps.bls ns)
theorem Rps.blsE : ∀ {ns : List Bool} {vs : List V}, Rps K H (ns.map D.bl) vs → vs = ns.map V.bl
  | [], _, h => by simpa [Rps] using h
  | n :: ns, _, h => by
    simp only [List.map_cons] at h
    unfold Rps at h
    obtain ⟨v, r, rfl, h1, h2⟩ := h
    rw [h1.blE, Rps.blsE h2]; rfl
end

/-! ### the slots -/
abbrev Env' := List (Option D)
def RE (K : PySem.W.Frag) (H : Hp) (env : Env') (σ : St) : Prop := env.length = σ.length ∧ ∀ (i : Nat) (d : D), env[i]? = some (some d) → ∃ v, σ[i]? = some (some v) ∧ Rp K H d v
theorem RE.s {K : PySem.W.Frag} {H H' : Hp} {env : Env'} {σ : St} (h : RE K H env σ) (e : Same H H') : RE K H' env σ :=
  ⟨h.1, fun i d q => let ⟨v, a, b⟩ := h.2 i d q; ⟨v, a, b.s e⟩⟩
theorem RE.set {K : PySem.W.Frag} {H : Hp} {env : Env'} {σ : St} (h : RE K H env σ) {d : D} {v : V} (r : Rp K H d v) (i : Nat) : RE K H (env.set i (some d)) (σ.set i (some v)) := by
  refine ⟨by simpa using h.1, fun j e q => ?_⟩
  by_cases hj : i = j
  · subst hj
    by_cases hi : i < env.length
    · rw [List.getElem?_set_self hi] at q
      cases q
      exact ⟨v, by rw [List.getElem?_set_self (by rw [← h.1]; exact hi)], r⟩
    · rw [List.getElem?_eq_none (by simpa using hi)] at q; cases q
  · rw [List.getElem?_set_ne hj] at q ⊢
    exact h.2 j e q
theorem RE.wipe1 {K : PySem.W.Frag} {H : Hp} {env : Env'} {σ : St} (h : RE K H env σ) (i : Nat) : RE K H (env.set i none) (σ.set i none) := by
  refine ⟨by simpa using h.1, fun j e q => ?_⟩
  by_cases hj : i = j
  · subst hj
    by_cases hi : i < env.length
    · rw [List.getElem?_set_self hi] at q; cases q
    · rw [List.getElem?_eq_none (by simpa using hi)] at q; cases q
  · rw [List.getElem?_set_ne hj] at q ⊢
    exact h.2 j e q
/-- less is known -/
theorem RE.less {K : PySem.W.Frag} {H : Hp} {env env' : Env'} {σ : St} (h : RE K H env σ) (hl : env'.length = env.length) (hs : ∀ (i : Nat) (d : D), env'[i]? = some (some d) → env[i]? = some (some d)) : RE K H env' σ :=
  ⟨hl.trans h.1, fun i d q => h.2 i d (hs i d q)⟩
theorem RE.nil {K : PySem.W.Frag} {H : Hp} : RE K H [] [] := ⟨rfl, fun i d q => by simp at q⟩
theorem RE.start {K : PySem.W.Frag} {H : Hp} {N : List Str} {ds : List D} {vs : List V} (h : Rps K H ds vs) : RE K H (ds.map some ++ List.replicate (N.length - ds.length) none) (L2.start N vs) := by
  have hl := h.length
  unfold L2.start
  refine ⟨by simp [hl], fun i d q => ?_⟩
  by_cases hi : i < ds.length
  · rw [List.getElem?_append_left (by simpa using hi), List.getElem?_map] at q
    obtain ⟨x, hx, e⟩ := Option.map_eq_some_iff.mp q
    cases e
    obtain ⟨v, h1, h2⟩ := h.get hx
    exact ⟨v, by rw [List.getElem?_append_left (by simpa [hl] using hi), List.getElem?_map, h1]; rfl, h2⟩
  · rw [List.getElem?_append_right (by simpa using hi), List.getElem?_replicate] at q
    split at q <;> cases q

/-! ### readings over data -/
abbrev DE := Env' → (D → Prop) → Prop
abbrev DT := Env' → (Bool → Prop) → Prop
abbrev DA := Env' → (List D → Prop) → Prop
def RD (K : PySem.W.Frag) (te : TE) (t : DE) : Prop := ∀ (env : Env') (Q : D → Prop) (σ : St) (H : Hp) (QV : VK), t env Q → RE K H env σ → (∀ v H' d, Same H H' → Rp K H' d v → Q d → QV v H') → te σ H QV
def RT (K : PySem.W.Frag) (te : TT) (t : DT) : Prop := ∀ (env : Env') (Q : Bool → Prop) (σ : St) (H : Hp) (QV : Bool → Hp → Prop), t env Q → RE K H env σ → (∀ b H', Same H H' → Q b → QV b H') → te σ H QV
def RA (K : PySem.W.Frag) (te : TA) (t : DA) : Prop := ∀ (env : Env') (Q : List D → Prop) (σ : St) (H : Hp) (QV : List V → Hp → Prop), t env Q → RE K H env σ → (∀ vs H' ds, Same H H' → Rps K H' ds vs → Q ds → QV vs H') → te σ H QV
structure PD (K : PySem.W.Frag) (X : Cx) (e : Expr) (te : TE) (t : DE) : Prop where
  pe : PE X e te
  rd : RD K te t
structure PTD (K : PySem.W.Frag) (X : Cx) (e : Expr) (te : TT) (t : DT) : Prop where
  pe : PT X e te
  rd : RT K te t
structure PWD (K : PySem.W.Frag) (X : Cx) (e : Expr) (te : TT) (t : DT) : Prop where
  pe : PW X e te
  rd : RT K te t
structure PAD (K : PySem.W.Frag) (X : Cx) (es : List Expr) (te : TA) (t : DA) : Prop where
  pe : PA X es te
  rd : RA K te t

section
variable {X : Cx} {K : PySem.W.Frag} {e a b : Expr} {ta tb te : TE} {da db de : DE} {pos : Pos}
def dVar (i : Nat) : DE := fun env Q => ∃ d, env[i]? = some (some d) ∧ Q d
theorem rd_var {i : Nat} : RD K (tVar i) (dVar i) := fun env Q σ H QV h he k => by
  obtain ⟨d, q1, q2⟩ := h
  obtain ⟨v, h1, h2⟩ := he.2 i d q1
  exact ⟨v, h1, k v H d (.refl H) h2 q2⟩
theorem pdv (i : Nat) {x : Str} {pos : Pos} (hN : X.N[i]? = some x := by rfl) (hv : Vis X.env.scope x := by first | exact Or.inl rfl | exact Or.inr (Or.inl rfl) | exact Or.inr (Or.inr rfl)) (hd : (x == ("__debug__" : Str)) = false := by decide)
    (hcd : (x == ("__classdict__" : Str)) = false := by decide) : PD K X (.Name x pos) (tVar i) (dVar i) := ⟨pe_var hN hv hd hcd, rd_var⟩
def dC (d : D) : DE := fun _ Q => Q d
theorem rd_c {v : V} {d : D} (h : ∀ H, Rp K H d v) : RD K (tC v) (dC d) := fun env Q σ H QV hq he k => k v H d (.refl H) (h H) hq
theorem pd_int {i j pos} : PD K X (.Constant (.int i) j pos) (tC (.int i)) (dC (.int i)) := ⟨pe_int, rd_c fun _ => .int⟩
theorem pd_bl {i j pos} : PD K X (.Constant (.bool i) j pos) (tC (.bl i)) (dC (.bl i)) := ⟨pe_bl, rd_c fun _ => .bl⟩
theorem pd_non {j pos} : PD K X (.Constant .none j pos) (tC .non) (dC .non) := ⟨pe_non, rd_c fun _ => .non⟩
theorem pd_str {i j pos} : PD K X (.Constant (.str i) j pos) (tC (.str i)) (dC (.str i)) := ⟨pe_str, rd_c fun _ => .str⟩
theorem pd_glob {x : Str} {v : V} {u : Value} {d : D} {pos : Pos} (hg : Gl X x) (hm : X.mg x = some u) (r : RelV v u) (h : ∀ H, Rp K H d v) (hd : (x == ("__debug__" : Str)) = false := by decide) : PD K X (.Name x pos) (tC v) (dC d) := ⟨pe_glob hg hm r hd, rd_c h⟩

/-- an operator of two values, by data -/
def DOp (K : PySem.W.Frag) (r : R2) (f : D → D → Option D) : Prop := ∀ (H : Hp) (x y : V) (dx dy d : D) (QV : VK), Rp K H dx x → Rp K H dy y → f dx dy = some d → (∀ v H', Same H H' → Rp K H' d v → QV v H') → r x y H QV
def dOp (f : D → D → Option D) (ta tb : DE) : DE := fun env Q => ta env fun dx => tb env fun dy => ∃ d, f dx dy = some d ∧ Q d
theorem rd_op {r : R2} {f : D → D → Option D} (hd : DOp K r f) (ha : RD K ta da) (hb : RD K tb db) : RD K (tOp r ta tb) (dOp f da db) := by
  intro env Q σ H QV h he k
  refine ha env _ σ H _ h he fun x H1 dx s1 rx h1 => ?_
  refine hb env _ σ H1 _ h1 (he.s s1) fun y H2 dy s2 ry h2 => ?_
  obtain ⟨d, c, q⟩ := h2
  exact hd H2 x y dx dy d _ (rx.s s2) ry c fun v H3 s3 rv => k v H3 d (s1.trans (s2.trans s3)) rv q
theorem pd_op {op : Operator} {r : R2} {f : D → D → Option D} (h1 : OpR X (binaryOp op) r) (hd : DOp K r f) (ha : PD K X a ta da) (hb : PD K X b tb db) : PD K X (.BinOp a op b pos) (tOp r ta tb) (dOp f da db) := ⟨pe_op h1 ha.pe hb.pe, rd_op hd ha.rd hb.rd⟩
theorem pd_cmp {op : CmpOp} {r : R2} {f : D → D → Option D} (h1 : OpR X (compareOp op) r) (hd : DOp K r f) (ha : PD K X a ta da) (hb : PD K X b tb db) (hm : behindInMarks op b = false) : PD K X (.Compare a [op] [b] pos) (tOp r ta tb) (dOp f da db) := ⟨pe_cmpR h1 ha.pe hb.pe hm, rd_op hd ha.rd hb.rd⟩
theorem pd_ix {r : R2} {f : D → D → Option D} (h1 : IxR X r) (hd : DOp K r f) (ha : PD K X a ta da) (hb : PD K X b tb db) (hs : PlainIx b := by intro _ _; rfl) : PD K X (.Subscript a b pos) (tOp r ta tb) (dOp f da db) := ⟨pe_ix h1 ha.pe hb.pe hs, rd_op hd ha.rd hb.rd⟩
/-- tests -/
def dB (t : DE) : DT := fun env Q => t env fun d => ∃ b, d = .bl b ∧ Q b
theorem rt_test {te : TE} {t : DE} (h : RD K te t) : RT K (tTest te) (dB t) := fun env Q σ H QV hq he k =>
  h env _ σ H _ hq he fun v H' d s r ⟨b, e, q⟩ => by subst e; exact ⟨b, r.blE, k b H' s q⟩
theorem rt_b {te : TE} {t : DE} (h : RD K te t) : RT K (tB te) (dB t) := fun env Q σ H QV hq he k =>
  h env _ σ H _ hq he fun v H' d s r ⟨b, e, q⟩ => by subst e; exact ⟨b, r.blE, k b H' s q⟩
theorem pt_cmpD {op : CmpOp} {r : R2} {f : D → D → Option D} (h1 : OpR X (compareOp op) r) (hd : DOp K r f) (ha : PD K X a ta da) (hb : PD K X b tb db) (hm : behindInMarks op b = false) : PTD K X (.Compare a [op] [b] pos) (tTest (tOp r ta tb)) (dB (dOp f da db)) :=
  ⟨pt_cmpR h1 ha.pe hb.pe hm, rt_test (rd_op hd ha.rd hb.rd)⟩
theorem pt_valD (h : PD K X e te de) (he : ∀ whole, isTrue e X.env whole = (do let v ← whole; standAt e.pos; holding [v] (truthy v)) := by intro _; rfl) : PTD K X e (tB te) (dB de) := ⟨pt_val h.pe he, rt_b h.rd⟩
variable {rest : List Expr} {tA tB' : TT} {dA dB' : DT}
def dAnd (t u : DT) : DT := fun env Q => t env fun b => if b = true then u env Q else Q false
def dOr (t u : DT) : DT := fun env Q => t env fun b => if b = true then Q true else u env Q
def dNot (t : DT) : DT := fun env Q => t env fun b => Q (!b)
theorem pt_notD (h : PTD K X a tA dA) : PTD K X (.UnaryOp .Not a pos) (tNot tA) (dNot dA) := ⟨pt_not h.pe, fun env Q σ H QV hq he k => h.rd env _ σ H _ hq he fun b H' s q => k (!b) H' s q⟩
theorem PWD.pt (h : PWD K X e tA dA) : PTD K X e tA dA := ⟨h.pe.pt, h.rd⟩
theorem pw_and1D (h : PTD K X a tA dA) : PWD K X (.BoolOp .And [a] pos) tA dA := ⟨pw_and1 h.pe, h.rd⟩
theorem pw_or1D (h : PTD K X a tA dA) : PWD K X (.BoolOp .Or [a] pos) tA dA := ⟨pw_or1 h.pe, h.rd⟩
theorem pw_andD (h : PTD K X a tA dA) (g : PWD K X (.BoolOp .And (b :: rest) pos) tB' dB') : PWD K X (.BoolOp .And (a :: b :: rest) pos) (tAnd tA tB') (dAnd dA dB') :=
  ⟨pw_and h.pe g.pe, fun env Q σ H QV hq he k => h.rd env _ σ H _ hq he fun c H' s q => by
    cases c with
    | true => exact g.rd env _ σ H' _ q (he.s s) fun b H2 s2 q2 => k b H2 (s.trans s2) q2
    | false => exact k false H' s q⟩
theorem pw_orD (h : PTD K X a tA dA) (g : PWD K X (.BoolOp .Or (b :: rest) pos) tB' dB') : PWD K X (.BoolOp .Or (a :: b :: rest) pos) (tOr tA tB') (dOr dA dB') :=
  ⟨pw_or h.pe g.pe, fun env Q σ H QV hq he k => h.rd env _ σ H _ hq he fun c H' s q => by
    cases c with
    | false => exact g.rd env _ σ H' _ q (he.s s) fun b H2 s2 q2 => k b H2 (s.trans s2) q2
    | true => exact k true H' s q⟩
/-- bools as values -/
def dAndV (t u : DE) : DE := fun env Q => t env fun d => ∃ b, d = .bl b ∧ if b = true then u env Q else Q (.bl false)
def dOrV (t u : DE) : DE := fun env Q => t env fun d => ∃ b, d = .bl b ∧ if b = true then Q (.bl true) else u env Q
def dNotV (t : DE) : DE := fun env Q => t env fun d => ∃ b, d = .bl b ∧ Q (.bl (!b))
theorem pd_one {op} (h : PD K X a ta da) : PD K X (.BoolOp op [a] pos) ta da := ⟨pe_one h.pe, h.rd⟩
theorem pd_and (h : PD K X a ta da) (g : PD K X (.BoolOp .And (b :: rest) pos) tb db) : PD K X (.BoolOp .And (a :: b :: rest) pos) (tAndV ta tb) (dAndV da db) :=
  ⟨pe_and h.pe g.pe, fun env Q σ H QV hq he k => h.rd env _ σ H _ hq he fun v H' d s r ⟨c, ec, q⟩ => by
    subst ec
    refine ⟨c, r.blE, ?_⟩
    cases c with
    | true => exact g.rd env _ σ H' _ q (he.s s) fun b H2 d2 s2 r2 q2 => k b H2 d2 (s.trans s2) r2 q2
    | false => exact k (.bl false) H' (.bl false) s .bl q⟩
theorem pd_or (h : PD K X a ta da) (g : PD K X (.BoolOp .Or (b :: rest) pos) tb db) : PD K X (.BoolOp .Or (a :: b :: rest) pos) (tOrV ta tb) (dOrV da db) :=
  ⟨pe_or h.pe g.pe, fun env Q σ H QV hq he k => h.rd env _ σ H _ hq he fun v H' d s r ⟨c, ec, q⟩ => by
    subst ec
    refine ⟨c, r.blE, ?_⟩
    cases c with
    | false => exact g.rd env _ σ H' _ q (he.s s) fun b H2 d2 s2 r2 q2 => k b H2 d2 (s.trans s2) r2 q2
    | true => exact k (.bl true) H' (.bl true) s .bl q⟩
theorem pd_not (h : PD K X a ta da) : PD K X (.UnaryOp .Not a pos) (tNotV ta) (dNotV da) :=
  ⟨pe_not h.pe, fun env Q σ H QV hq he k => h.rd env _ σ H _ hq he fun v H' d s r ⟨c, ec, q⟩ => by
    subst ec
    exact ⟨c, r.blE, k (.bl (!c)) H' (.bl (!c)) s .bl q⟩⟩
def dIf (t : DT) (u v : DE) : DE := fun env Q => t env fun b => if b = true then u env Q else v env Q
theorem pd_if {c : Expr} {tc : TT} {dc : DT} (hc : PTD K X c tc dc) (ha : PD K X a ta da) (hb : PD K X b tb db) : PD K X (.IfExp c a b pos) (tIf tc ta tb) (dIf dc da db) :=
  ⟨pe_ifExp hc.pe ha.pe hb.pe, fun env Q σ H QV hq he k => hc.rd env _ σ H _ hq he fun c H' s q => by
    cases c with
    | true => exact ha.rd env _ σ H' _ q (he.s s) fun b H2 d2 s2 r2 q2 => k b H2 d2 (s.trans s2) r2 q2
    | false => exact hb.rd env _ σ H' _ q (he.s s) fun b H2 d2 s2 r2 q2 => k b H2 d2 (s.trans s2) r2 q2⟩
/-- argument lists, displays -/
def dNil : DA := fun _ Q => Q []
def dCons (t : DE) (u : DA) : DA := fun env Q => t env fun d => u env fun ds => Q (d :: ds)
variable {es : List Expr} {tl : TA} {dl : DA}
theorem pa_nilD : PAD K X [] tNil dNil := ⟨pa_nil, fun env Q σ H QV hq he k => k [] H [] (.refl H) .nil hq⟩
theorem pa_consD (ha : PD K X e te de) (hr : PAD K X es tl dl) (hs : starEach (e :: es) X.env = (false, eval e X.env) :: starEach es X.env := by rfl) : PAD K X (e :: es) (tCons te tl) (dCons de dl) :=
  ⟨pa_cons ha.pe hr.pe hs, fun env Q σ H QV hq he k => ha.rd env _ σ H _ hq he fun v H1 d s r q => hr.rd env _ σ H1 _ q (he.s s) fun vs H2 ds s2 r2 q2 => k (v :: vs) H2 (d :: ds) (s.trans s2) (.cons (r.s s2) r2) q2⟩
def dTup (t : DA) : DE := fun env Q => t env fun ds => ds.length ≤ sizeLine ∧ Q (.tup ds)
def dLst (t : DA) : DE := fun env Q => t env fun ds => ds.length ≤ sizeLine ∧ Q (.lst ds)
theorem pd_tup {x1} (h : PAD K X es tl dl) : PD K X (.Tuple es x1 pos) (tTup tl) (dTup dl) :=
  ⟨pe_tup h.pe, fun env Q σ H QV hq he k => h.rd env _ σ H _ hq he fun vs H1 ds s r q => ⟨by rw [r.length]; exact q.1, fun p hp => k _ _ (.tup ds) (s.trans (same_new hp)) (.tupN hp r) q.2⟩⟩
theorem pd_lst (h : PAD K X es tl dl) : PD K X (.List es pos) (tLst tl) (dLst dl) :=
  ⟨pe_lst h.pe, fun env Q σ H QV hq he k => h.rd env _ σ H _ hq he fun vs H1 ds s r q => ⟨by rw [r.length]; exact q.1, fun p hp => k _ _ (.lst ds) (s.trans (same_new hp)) (.lstN hp r) q.2⟩⟩
/-- calls by values -/
def DCl (K : PySem.W.Frag) (r : List V → Hp → VK → Prop) (f : List D → Option D) : Prop := ∀ (H : Hp) (vs : List V) (ds : List D) (d : D) (QV : VK), Rps K H ds vs → f ds = some d → (∀ v H', Same H H' → Rp K H' d v → QV v H') → r vs H QV
def dCB (f : List D → Option D) (t : DA) : DE := fun env Q => t env fun ds => ∃ d, f ds = some d ∧ Q d
theorem rd_cb {r : List V → Hp → VK → Prop} {f : List D → Option D} (hd : DCl K r f) (h : RA K tl dl) : RD K (tCB r tl) (dCB f dl) := fun env Q σ H QV hq he k =>
  h env _ σ H _ hq he fun vs H1 ds s rv ⟨d, e1, q⟩ => hd H1 vs ds d _ rv e1 fun v H2 s2 r2 => k v H2 d (s.trans s2) r2 q
variable {x : Str} {p : Pos} {id T : String} {r : List V → Hp → VK → Prop} {f : List D → Option D}
theorem pd_callB (hc : CallR X (.builtin id) r) (hd : DCl K r f) (hg : Gl X x) (hm : X.mg x = none) (hv : bootBuiltins x = some (.builtin id)) (ha : PAD K X (e :: es) tl dl) (hn : x ≠ "__name__" := by decide) (hdb : (x == ("__debug__" : Str)) = false := by decide)
    (he : starEach (e :: es) X.env = (false, eval e X.env) :: starEach es X.env := by rfl) (hpl : (backTo pos (starEach es X.env)).any (·.1) = false := by rfl) : PD K X (.Call (.Name x p) (e :: es) [] pos) (tCB r tl) (dCB f dl) :=
  ⟨pe_callB hc hg hm hv ha.pe hn hdb he hpl, rd_cb hd ha.rd⟩
theorem pd_callTy (hc : CallR X (.type T) r) (hd : DCl K r f) (hg : Gl X x) (hm : X.mg x = none) (hv : bootBuiltins x = some (.type T)) (ha : PAD K X (e :: es) tl dl) (hn : x ≠ "__name__" := by decide) (hdb : (x == ("__debug__" : Str)) = false := by decide)
    (he : starEach (e :: es) X.env = (false, eval e X.env) :: starEach es X.env := by rfl) (hpl : (backTo pos (starEach es X.env)).any (·.1) = false := by rfl) : PD K X (.Call (.Name x p) (e :: es) [] pos) (tCB r tl) (dCB f dl) :=
  ⟨pe_callTy hc hg hm hv ha.pe hn hdb he hpl, rd_cb hd ha.rd⟩
/-- a def of data: S arguments answer -/
def spP (K : PySem.W.Frag) (n : Nat) (S : List D → D → Prop) : Sp := fun vs H Q _ => ∃ (ds : List D) (d : D), Rps K H ds vs ∧ ds.length = n ∧ S ds d ∧ ∀ v H', Same H H' → Rp K H' d v → Q v H'
theorem spP_len {K : PySem.W.Frag} {n : Nat} {S : List D → D → Prop} {vs : List V} {H : Hp} {Q : VK} {E : XK} (h : spP K n S vs H Q E) : vs.length = n := by
  obtain ⟨ds, d, r, l, _⟩ := h
  rw [r.length, l]
def dCall (S : List D → D → Prop) (n : Nat) (t : DA) : DE := fun env Q => t env fun ds => ds.length = n ∧ ∃ d, S ds d ∧ Q d
theorem rd_call {S : List D → D → Prop} {n : Nat} (h : RA K tl dl) : RD K (tCall (spP K n S) [] E0 tl) (dCall S n dl) := fun env Q σ H QV hq he k =>
  h env _ σ H _ hq he fun vs H1 ds s rv ⟨hn, d, hs, q⟩ => by
    show spP K n S (vs ++ []) H1 QV E0
    rw [List.append_nil]
    exact ⟨ds, d, rv, hn, hs, fun v H2 s2 r2 => k v H2 d (s.trans s2) r2 q⟩
theorem pd_call {P' : Program} {w' : World} {mg' : Str → Option Value} {base' : Heap} {kk : Nat} {g : Addr} {fd : FuncData} {ps : List Str} {S : List D → D → Prop} {n : Nat} (F : FnOk P' w' K mg' base' CX0 kk g fd ps (spP K n S)) (hr : Room kk X.A) (hm : mg' x = some (.ref g)) (hk : PySem.W.keepIn K (.ref g) = true) (hb : Binds K fd ps [])
    (ha : PAD K X (e :: es) tl dl) (hg : Gl X x := by rfl) (hdb : (x == ("__debug__" : Str)) = false := by decide) (he : starEach (e :: es) X.env = (false, eval e X.env) :: starEach es X.env := by rfl) (hpl : (backTo pos (starEach es X.env)).any (·.1) = false := by rfl) (q1 : X.prog = P' := by rfl) (q2 : X.w = w' := by rfl) (q3 : X.K = K := by rfl) (q4 : X.mg = mg' := by rfl) (q5 : X.base = base' := by rfl) :
    PD K X (.Call (.Name x p) (e :: es) [] pos) (tCall (spP K n S) [] E0 tl) (dCall S n dl) := by
  subst q1 q2 q3 q4 q5
  exact ⟨pe_call F hr hg hm hk hb .nil pass0 ha.pe hdb he hpl, rd_call ha.rd⟩
end
end KQ

set_option Elab.async false
set_option linter.all false
set_option maxRecDepth 100000
set_option maxHeartbeats 4000000
namespace KQ
open PySem L2

/-! ### operators on data -/
section
variable {K : PySem.W.Frag}
theorem DOp.or {r r' : R2} {f g : D → D → Option D} (h : DOp K r f) (h' : DOp K r' g) : DOp K (fun x y H Q => r x y H Q ∨ r' x y H Q) (fun a b => (f a b).or (g a b)) := fun H x y dx dy d QV rx ry e k => by
  replace e : (f dx dy).or (g dx dy) = some d := e
  cases hf : f dx dy with
  | some z => rw [hf] at e; cases e; exact .inl (h H x y dx dy d QV rx ry hf k)
  | none => rw [hf] at e; exact .inr (h' H x y dx dy d QV rx ry e k)
def fI2 (f : Int → Int → Option D) : D → D → Option D
  | .int i, .int j => f i j
  | _, _ => none
theorem fI2_some {f : Int → Int → Option D} {a b d : D} (h : fI2 f a b = some d) : ∃ i j, a = .int i ∧ b = .int j ∧ f i j = some d := by
  unfold fI2 at h; split at h
  · exact ⟨_, _, rfl, rfl, h⟩
  · cases h
theorem dop_rI0 {g : Int → Int → V} {f : Int → Int → D} (hg : ∀ i j H, Rp K H (f i j) (g i j)) : DOp K (rI0 g) (fI2 fun i j => some (f i j)) := fun H x y dx dy d QV rx ry e k => by
  obtain ⟨i, j, rfl, rfl, e⟩ := fI2_some e
  cases e
  exact ⟨i, j, rx.intE, ry.intE, k _ H (.refl H) (hg i j H)⟩
theorem dop_rI {C : Int → Int → Prop} {c : Int → Int → Bool} {g : Int → Int → V} {f : Int → Int → D} (hc : ∀ i j, c i j = true → C i j) (hg : ∀ i j H, Rp K H (f i j) (g i j)) : DOp K (rI C g) (fI2 fun i j => if c i j = true then some (f i j) else none) := fun H x y dx dy d QV rx ry e k => by
  obtain ⟨i, j, rfl, rfl, e'⟩ := fI2_some e
  replace e : (if c i j = true then some (f i j) else none) = some d := e'
  by_cases h : c i j = true
  · rw [if_pos h] at e; cases e
    exact ⟨i, j, rx.intE, ry.intE, hc i j h, k _ H (.refl H) (hg i j H)⟩
  · rw [if_neg h] at e; cases e
abbrev fAddI : D → D → Option D := fI2 fun i j => some (.int (i + j))
abbrev fSub : D → D → Option D := fI2 fun i j => some (.int (i - j))
abbrev fMul : D → D → Option D := fI2 fun i j => if (decide (-(2 ^ 64) < i ∧ i < 2 ^ 64) || decide (-(2 ^ 64) < j ∧ j < 2 ^ 64)) = true then some (.int (i * j)) else none
abbrev fDiv : D → D → Option D := fI2 fun i j => if (decide (0 < j ∧ j < 1073741824)) = true then some (.int (i / j)) else none
abbrev fMod : D → D → Option D := fI2 fun i j => if (decide (0 < j)) = true then some (.int (i % j)) else none
abbrev fLt : D → D → Option D := fI2 fun i j => some (.bl (decide (i < j)))
abbrev fLe : D → D → Option D := fI2 fun i j => some (.bl (decide (i ≤ j)))
abbrev fGt : D → D → Option D := fI2 fun i j => some (.bl (decide (j < i)))
abbrev fGe : D → D → Option D := fI2 fun i j => some (.bl (decide (j ≤ i)))
theorem d_addI : DOp K (rI0 fun i j => .int (i + j)) fAddI := dop_rI0 fun _ _ _ => .int
theorem d_sub : DOp K (rI0 fun i j => .int (i - j)) fSub := dop_rI0 fun _ _ _ => .int
theorem d_mul : DOp K (rI CMul fun i j => .int (i * j)) fMul := dop_rI (c := fun i j => decide (-(2 ^ 64) < i ∧ i < 2 ^ 64) || decide (-(2 ^ 64) < j ∧ j < 2 ^ 64)) (fun i j h => by
  rcases Bool.or_eq_true _ _ |>.mp h with h | h
  · exact .inl (of_decide_eq_true h)
  · exact .inr (of_decide_eq_true h)) fun _ _ _ => .int
theorem d_div : DOp K (rI CDiv fun i j => .int (i / j)) fDiv := dop_rI (c := fun i j => decide (0 < j ∧ j < 1073741824)) (fun i j h => by unfold CDiv; exact of_decide_eq_true h) fun _ _ _ => .int
theorem d_mod : DOp K (rI (fun _ j => 0 < j) fun i j => .int (i % j)) fMod := dop_rI (c := fun i j => decide (0 < j)) (fun i j h => of_decide_eq_true h) fun _ _ _ => .int
theorem d_lt : DOp K (rI0 fun i j => .bl (decide (i < j))) fLt := dop_rI0 fun _ _ _ => .bl
theorem d_le : DOp K (rI0 fun i j => .bl (decide (i ≤ j))) fLe := dop_rI0 fun _ _ _ => .bl
theorem d_gt : DOp K (rI0 fun i j => .bl (decide (j < i))) fGt := dop_rI0 fun _ _ _ => .bl
theorem d_ge : DOp K (rI0 fun i j => .bl (decide (j ≤ i))) fGe := dop_rI0 fun _ _ _ => .bl

/-! ### flat data -/
def toV : D → Option V
  | .non => some .non
  | .bl b => some (.bl b)
  | .int i => some (.int i)
  | .str s => some (.str s)
  | _ => none
theorem toV_some {d : D} {v w : V} {H : Hp} (h : toV d = some w) (r : Rp K H d v) : v = w ∧ flatV w = true := by
  cases d <;> simp only [toV] at h <;> first | cases h | skip
  · exact ⟨r.nonE, rfl⟩
  · exact ⟨r.blE, rfl⟩
  · exact ⟨r.intE, rfl⟩
  · exact ⟨r.strE, rfl⟩
def toVs : List D → Option (List V)
  | [] => some []
  | d :: ds => match toV d, toVs ds with
    | some v, some vs => some (v :: vs)
    | _, _ => none
theorem toVs_some {H : Hp} : ∀ {ds : List D} {vs ws : List V}, toVs ds = some ws → Rps K H ds vs → vs = ws ∧ ws.all flatV = true
  | [], vs, ws, h, r => by
    simp only [toVs] at h; cases h
    simp only [Rps] at r
    subst r; exact ⟨rfl, rfl⟩
  | d :: ds, vs, ws, h, r => by
    unfold Rps at r
    obtain ⟨v, q, rfl, h1, h2⟩ := r
    simp only [toVs] at h
    split at h
    · rename_i w qs e1 e2
      cases h
      obtain ⟨rfl, f1⟩ := toV_some e1 h1
      obtain ⟨rfl, f2⟩ := toVs_some e2 h2
      exact ⟨rfl, by simp [f1, f2]⟩
    · cases h
theorem toVs_ints : ∀ ns : List Int, toVs (ns.map D.int) = some (ns.map V.int)
  | [] => rfl
  | n :: ns => by simp [toVs, toV, toVs_ints ns]

/-- == of scalars, of lists of ints -/
def intsOf : List D → Option (List Int)
  | [] => some []
  | .int i :: ds => (intsOf ds).map (i :: ·)
  | _ :: _ => none
theorem intsOf_some : ∀ {ds : List D} {ns : List Int}, intsOf ds = some ns → ds = ns.map D.int
  | [], ns, h => by simp only [intsOf] at h; cases h; rfl
  | .int i :: ds, ns, h => by
    simp only [intsOf] at h
    obtain ⟨ms, e, rfl⟩ := Option.map_eq_some_iff.mp h
    rw [intsOf_some e]; rfl
  | .non :: ds, ns, h => by simp [intsOf] at h
  | .bl _ :: ds, ns, h => by simp [intsOf] at h
  | .str _ :: ds, ns, h => by simp [intsOf] at h
  | .ty _ :: ds, ns, h => by simp [intsOf] at h
  | .emp :: ds, ns, h => by simp [intsOf] at h
  | .adr _ :: ds, ns, h => by simp [intsOf] at h
  | .at _ _ :: ds, ns, h => by simp [intsOf] at h
  | .one _ _ _ :: ds, ns, h => by simp [intsOf] at h
  | .tup _ :: ds, ns, h => by simp [intsOf] at h
  | .lst _ :: ds, ns, h => by simp [intsOf] at h
theorem intsOf_ints : ∀ ns : List Int, intsOf (ns.map D.int) = some ns
  | [] => rfl
  | n :: ns => by simp [intsOf, intsOf_ints ns]
theorem dpInts {H : Hp} : ∀ ns : List Int, DpAll K H (ns.map V.int) (ns.map PyData.int)
  | [] => .nil
  | n :: ns => .cons (.int n) (dpInts ns)
theorem eqv_ints : ∀ ns ms : List Int, PyData.eqvAll (ns.map PyData.int) (ms.map PyData.int) = decide (ns = ms)
  | [], [] => by simp [PyData.eqvAll]
  | [], m :: ms => by simp [PyData.eqvAll]
  | n :: ns, [] => by simp [PyData.eqvAll]
  | n :: ns, m :: ms => by
    rw [List.map_cons, List.map_cons, PyData.eqvAll, eqv_ints ns ms]
    by_cases h : n = m
    · subst h; simp [PyData.eqv]
    · simp [PyData.eqv, h]
theorem ints_canLay : ∀ ns : List Int, PyData.canLayAll0 (ns.map PyData.int) = true
  | [] => by simp [PyData.canLayAll0]
  | n :: ns => by rw [List.map_cons, PyData.canLayAll0, ints_canLay ns]; simp [PyData.canLay0]
theorem ints_depth : ∀ ns : List Int, PyData.depthAll (ns.map PyData.int) = 0
  | [] => by simp [PyData.depthAll]
  | n :: ns => by rw [List.map_cons, PyData.depthAll, ints_depth ns]; simp [PyData.depth]
theorem ints_shaped (ns : List Int) : SeqAt.shaped (.list (ns.map PyData.int)) = true := by
  unfold SeqAt.shaped
  simp [PyData.canLay0, ints_canLay, PyData.depth, ints_depth]
def eqS : D → D → Option Bool
  | .non, .non => some true
  | .bl a, .bl b => some (decide (a = b))
  | .int a, .int b => some (decide (a = b))
  | .str a, .str b => some (decide (a = b))
  | _, _ => none
def fEq : D → D → Option D
  | .lst xs, .lst ys => match intsOf xs, intsOf ys with
    | some ns, some ms => some (.bl (decide (ns = ms)))
    | _, _ => none
  | a, b => (eqS a b).map .bl
def fNe : D → D → Option D
  | .lst xs, .lst ys => match intsOf xs, intsOf ys with
    | some ns, some ms => some (.bl (!decide (ns = ms)))
    | _, _ => none
  | a, b => (eqS a b).map fun c => .bl (!c)
theorem eqS_ok {H : Hp} {x y : V} {a b : D} {c : Bool} (h : eqS a b = some c) (rx : Rp K H a x) (ry : Rp K H b y) : scal x y = true ∧ decide (x = y) = c := by
  unfold eqS at h
  split at h <;> try (cases h)
  · rw [rx.nonE, ry.nonE]; exact ⟨rfl, by simp⟩
  · rw [rx.blE, ry.blE]; exact ⟨rfl, by simp⟩
  · rw [rx.intE, ry.intE]; exact ⟨rfl, by simp⟩
  · rw [rx.strE, ry.strE]; exact ⟨rfl, by simp⟩
def rEqQ (K : PySem.W.Frag) : R2 := fun x y H Q => rEq x y H Q ∨ rEqD K x y H Q
def rNeQ (K : PySem.W.Frag) : R2 := fun x y H Q => rNe x y H Q ∨ rNeD K x y H Q
theorem d_eq : DOp K (rEqQ K) fEq := fun H x y dx dy d QV rx ry e k => by
  unfold fEq at e
  split at e
  · rename_i xs ys
    split at e
    · rename_i ns ms e1 e2
      cases e
      have h1 := intsOf_some e1; have h2 := intsOf_some e2
      subst h1; subst h2
      obtain ⟨a, vs, rfl, q1, r1⟩ := rx.lstE
      obtain ⟨b, ws, rfl, q2, r2⟩ := ry.lstE
      cases r1.intsE; cases r2.intsE
      refine .inr ⟨.list (ns.map PyData.int), .list (ms.map PyData.int), .lst q1 (dpInts ns), .lst q2 (dpInts ms), ints_shaped ns, ints_shaped ms, ?_⟩
      have e3 : PyData.eqv (.list (ns.map PyData.int)) (.list (ms.map PyData.int)) = decide (ns = ms) := by rw [PyData.eqv, eqv_ints]
      rw [e3]
      exact k _ H (.refl H) .bl
    · cases e
  · obtain ⟨c, e1, rfl⟩ := Option.map_eq_some_iff.mp e
    obtain ⟨h1, h2⟩ := eqS_ok e1 rx ry
    refine .inl ⟨h1, ?_⟩
    rw [h2]
    exact k _ H (.refl H) .bl
theorem d_ne : DOp K (rNeQ K) fNe := fun H x y dx dy d QV rx ry e k => by
  unfold fNe at e
  split at e
  · rename_i xs ys
    split at e
    · rename_i ns ms e1 e2
      cases e
      have h1 := intsOf_some e1; have h2 := intsOf_some e2
      subst h1; subst h2
      obtain ⟨a, vs, rfl, q1, r1⟩ := rx.lstE
      obtain ⟨b, ws, rfl, q2, r2⟩ := ry.lstE
      cases r1.intsE; cases r2.intsE
      refine .inr ⟨.list (ns.map PyData.int), .list (ms.map PyData.int), .lst q1 (dpInts ns), .lst q2 (dpInts ms), ints_shaped ns, ints_shaped ms, ?_⟩
      have e3 : PyData.eqv (.list (ns.map PyData.int)) (.list (ms.map PyData.int)) = decide (ns = ms) := by rw [PyData.eqv, eqv_ints]
      rw [e3]
      exact k _ H (.refl H) .bl
    · cases e
  · obtain ⟨c, e1, rfl⟩ := Option.map_eq_some_iff.mp e
    obtain ⟨h1, h2⟩ := eqS_ok e1 rx ry
    refine .inl ⟨h1, ?_⟩
    rw [h2]
    exact k _ H (.refl H) .bl
theorem op_eqQ {X : Cx} (hu : X.A.units + 64 < cLine) (q : X.K = K := by rfl) : OpR X (compareOp .Eq) (rEqQ K) := by subst q; exact op_eq.or (op_eqD hu)
theorem op_neQ {X : Cx} (hu : X.A.units + 64 < cLine) (q : X.K = K := by rfl) : OpR X (compareOp .NotEq) (rNeQ K) := by subst q; exact op_ne.or (op_neD hu)
theorem k_in {X : Cx} (q : X.K = K := by rfl) : OpR X (compareOp .In) (rIn K false) := by subst q; exact op_in_seq
theorem k_notIn {X : Cx} (q : X.K = K := by rfl) : OpR X (compareOp .NotIn) (rIn K true) := by subst q; exact op_notIn_seq
theorem k_ix {X : Cx} (q : X.K = K := by rfl) : IxR X (rIx K) := by subst q; exact ix_seq
theorem k_len {X : Cx} (q : X.K = K := by rfl) : CallR X (.builtin "len") (fun xs H Q => ∃ x n, xs = [x] ∧ LenV K x H n ∧ Q (.int n) H) := by subst q; exact call_len
theorem k_listOf {X : Cx} (q : X.K = K := by rfl) : CallR X (.type "list") (fun xs H Q => ∃ p ys, xs = [.ref p] ∧ (SqL K H p ys ∨ SqT K H p ys) ∧ ∀ l, H l = none → Q (.ref l) (upd H l (.lst ys))) := by subst q; exact call_list_of
theorem k_tupOf {X : Cx} (q : X.K = K := by rfl) : CallR X (.type "tuple") (fun xs H Q => ∃ p ys, xs = [.ref p] ∧ ((SqL K H p ys ∧ ∀ l, H l = none → Q (.ref l) (upd H l (.tup ys))) ∨ (SqT K H p ys ∧ Q (.ref p) H))) := by subst q; exact call_tuple_of
theorem k_any {X : Cx} (hc : X.calm = true) (q : X.K = K := by rfl) : CallR X (.builtin "any") (rAny K) := by subst q; exact cr_any hc
theorem k_all {X : Cx} (hc : X.calm = true) (q : X.K = K := by rfl) : CallR X (.builtin "all") (rAll K) := by subst q; exact cr_all hc
theorem k_isi {X : Cx} (q : X.K = K := by rfl) : CallR X (.builtin "isinstance") (rIsi K) := by subst q; exact call_isi
/-- is None -/
def fIs : D → D → Option D
  | .non, .non => some (.bl true)
  | .bl _, .non => some (.bl false)
  | .int _, .non => some (.bl false)
  | .str _, .non => some (.bl false)
  | .tup _, .non => some (.bl false)
  | .lst _, .non => some (.bl false)
  | _, _ => none
theorem d_is : DOp K (fun x y H Q => y = .non ∧ Q (.bl (decide (x = .non))) H) fIs := fun H x y dx dy d QV rx ry e k => by
  unfold fIs at e
  split at e <;> cases e
  · rw [rx.nonE]; exact ⟨ry.nonE, k _ H (.refl H) .bl⟩
  · rw [rx.blE]; exact ⟨ry.nonE, k _ H (.refl H) .bl⟩
  · rw [rx.intE]; exact ⟨ry.nonE, k _ H (.refl H) .bl⟩
  · rw [rx.strE]; exact ⟨ry.nonE, k _ H (.refl H) .bl⟩
  · obtain ⟨a, vs, rfl, _⟩ := rx.tupE; exact ⟨ry.nonE, k _ H (.refl H) .bl⟩
  · obtain ⟨a, vs, rfl, _⟩ := rx.lstE; exact ⟨ry.nonE, k _ H (.refl H) .bl⟩
/-- in, not in a tuple or list of flat things -/
def inD (neg : Bool) (x : D) (ys : List D) : Option D := match toV x, toVs ys with
  | some v, some vs => some (.bl (if neg then !inV v vs else inV v vs))
  | _, _ => none
def fIn (neg : Bool) : D → D → Option D
  | x, .tup ys => inD neg x ys
  | x, .lst ys => inD neg x ys
  | _, _ => none
theorem d_in (neg : Bool) : DOp K (rIn K neg) (fIn neg) := fun H x y dx dy d QV rx ry e k => by
  unfold fIn at e
  split at e
  · unfold inD at e
    split at e
    · rename_i v vs e1 e2
      cases e
      obtain ⟨a, ws, rfl, q, r⟩ := ry.tupE
      obtain ⟨rfl, f1⟩ := toV_some e1 rx
      obtain ⟨rfl, f2⟩ := toVs_some e2 r
      exact ⟨a, _, rfl, .inr q, f1, f2, k _ H (.refl H) .bl⟩
    · cases e
  · unfold inD at e
    split at e
    · rename_i v vs e1 e2
      cases e
      obtain ⟨a, ws, rfl, q, r⟩ := ry.lstE
      obtain ⟨rfl, f1⟩ := toV_some e1 rx
      obtain ⟨rfl, f2⟩ := toVs_some e2 r
      exact ⟨a, _, rfl, .inl q, f1, f2, k _ H (.refl H) .bl⟩
    · cases e
  · cases e
/-- subscripts -/
def fIx : D → D → Option D
  | .tup xs, .int i => atI xs i
  | .lst xs, .int i => atI xs i
  | .str z, .int i => if z.length ≤ sizeLine then (atI z.cps.toList i).map fun c => .str ⟨#[c]⟩ else none
  | _, _ => none
theorem Rps.atI {H : Hp} {ds : List D} {vs : List V} {i : Int} {d : D} (r : Rps K H ds vs) (h : L2.atI ds i = some d) : ∃ v, L2.atI vs i = some v ∧ Rp K H d v := by
  unfold L2.atI at h ⊢
  obtain ⟨j, h1, h2⟩ := Option.bind_eq_some_iff.mp h
  obtain ⟨v, q1, q2⟩ := r.get h2
  exact ⟨v, by rw [r.length, h1]; exact q1, q2⟩
theorem d_ix : DOp K (rIx K) fIx := fun H x y dx dy d QV rx ry e k => by
  unfold fIx at e
  split at e
  · obtain ⟨a, vs, rfl, q, r⟩ := rx.tupE
    obtain ⟨v, h1, h2⟩ := r.atI e
    exact .inr (.inl ⟨a, vs, _, v, rfl, ry.intE, q, h1, k v H (.refl H) h2⟩)
  · obtain ⟨a, vs, rfl, q, r⟩ := rx.lstE
    obtain ⟨v, h1, h2⟩ := r.atI e
    exact .inl ⟨a, vs, _, v, rfl, ry.intE, q, h1, k v H (.refl H) h2⟩
  · rename_i z i
    split at e
    · rename_i hz
      obtain ⟨c, e1, rfl⟩ := Option.map_eq_some_iff.mp e
      exact .inr (.inr ⟨z, i, c, rx.strE, ry.intE, hz, e1, k _ H (.refl H) .str⟩)
    · cases e
  · cases e
/-- + -/
def fAddS : D → D → Option D
  | .str a, .str b => if a.length + b.length ≤ sizeLine then some (.str (a ++ b)) else none
  | .tup xs, .tup ys => if xs.length + ys.length ≤ sizeLine then some (.tup (xs ++ ys)) else none
  | _, _ => none
abbrev fAdd : D → D → Option D := fun a b => (fAddI a b).or (fAddS a b)
def rAddQ (K : PySem.W.Frag) : R2 := fun x y H Q => (fun x y H Q => rI0 (fun i j => .int (i + j)) x y H Q) x y H Q ∨ (fun x y H Q => (∃ i j, x = .str i ∧ y = .str j ∧ i.length + j.length ≤ sizeLine ∧ Q (.str (i ++ j)) H) ∨ rCatA K x y H Q) x y H Q
theorem op_addQ {X : Cx} (q : X.K = K := by rfl) : OpR X (binaryOp .Add) (rAddQ K) := by subst q; exact op_add.or (op_add_str.or op_catA)
theorem d_add : DOp K (rAddQ K) fAdd := DOp.or d_addI fun H x y dx dy d QV rx ry e k => by
  unfold fAddS at e
  split at e
  · split at e
    · cases e
      exact .inl ⟨_, _, rx.strE, ry.strE, by assumption, k _ H (.refl H) .str⟩
    · cases e
  · rename_i xs ys
    split at e
    · rename_i hz
      cases e
      obtain ⟨a, vs, rfl, q1, r1⟩ := rx.tupE
      obtain ⟨b, ws, rfl, q2, r2⟩ := ry.tupE
      refine .inr ⟨a, b, vs, ws, rfl, rfl, q1, q2, by rw [r1.length, r2.length]; exact hz, fun e => ?_, fun _ e => ?_, fun _ _ p hp => ?_⟩
      · subst e
        have : xs = [] := List.eq_nil_of_length_eq_zero (by rw [← r1.length]; rfl)
        subst this
        exact k _ H (.refl H) (.tup q2 r2)
      · subst e
        have : ys = [] := List.eq_nil_of_length_eq_zero (by rw [← r2.length]; rfl)
        subst this
        rw [List.append_nil] at k
        exact k _ H (.refl H) (.tup q1 r1)
      · exact k _ _ (same_new hp) (.tupN hp (r1.append r2))
    · cases e
  · cases e

/-! ### chains a < b < c -/
def dChain (f g : D → D → Option D) (ta tb tc : DE) : DE := fun env Q => ta env fun x => tb env fun y => ∃ b, f x y = some (.bl b) ∧ if b = true then tc env fun z => ∃ d, g y z = some d ∧ Q d else Q (.bl false)
theorem pd_chain {X : Cx} {a b c : Expr} {ta tb tc : TE} {da db dc : DE} {pos : Pos} {op op' : CmpOp} {r r' : R2} {f g : D → D → Option D} (ho : OpR X (compareOp op) r) (ho' : OpR X (compareOp op') r') (hf : DOp K r f) (hg : DOp K r' g) (ha : PD K X a ta da) (hb : PD K X b tb db) (hc : PD K X c tc dc)
    (hm : lastMarks [op, op'] [b, c] = false := by with_unfolding_all rfl) : PD K X (.Compare a [op, op'] [b, c] pos) (tChain r r' ta tb tc) (dChain f g da db dc) :=
  ⟨pe_chain ho ho' ha.pe hb.pe hc.pe hm, fun env Q σ H QV hq he k => ha.rd env _ σ H _ hq he fun x H1 dx s1 rx q1 => hb.rd env _ σ H1 _ q1 (he.s s1) fun y H2 dy s2 ry ⟨b, e1, q2⟩ => by
    refine hf H2 x y dx dy _ _ (rx.s s2) ry e1 fun v H3 s3 rv => ⟨b, rv.blE, ?_⟩
    have s03 := (s1.trans s2).trans s3
    cases b with
    | true => exact hc.rd env _ σ H3 _ q2 (he.s s03) fun z H4 dz s4 rz ⟨d, e2, q3⟩ => hg H4 y z dy dz d _ (ry.s (s3.trans s4)) rz e2 fun w H5 s5 rw' => k w H5 d ((s03.trans s4).trans s5) rw' q3
    | false => exact k _ _ _ s03 .bl q2⟩
theorem pt_chainD {X : Cx} {a b c : Expr} {ta tb tc : TE} {da db dc : DE} {pos : Pos} {op op' : CmpOp} {r r' : R2} {f g : D → D → Option D} (ho : OpR X (compareOp op) r) (ho' : OpR X (compareOp op') r') (hf : DOp K r f) (hg : DOp K r' g) (ha : PD K X a ta da) (hb : PD K X b tb db) (hc : PD K X c tc dc)
    (hm : lastMarks [op, op'] [b, c] = false := by with_unfolding_all rfl) : PTD K X (.Compare a [op, op'] [b, c] pos) (tTest (tChain r r' ta tb tc)) (dB (dChain f g da db dc)) :=
  ⟨pt_chain ho ho' ha.pe hb.pe hc.pe hm, rt_test (pd_chain (pos := pos) ho ho' hf hg ha hb hc hm).rd⟩

/-! ### built-in calls -/
/-- len -/
def fLen : List D → Option D
  | [.tup xs] => some (.int xs.length)
  | [.lst xs] => some (.int xs.length)
  | [.str z] => if z.length ≤ sizeLine then some (.int z.length) else none
  | _ => none
theorem d_len : DCl K (fun xs H Q => ∃ x n, xs = [x] ∧ LenV K x H n ∧ Q (.int n) H) fLen := fun H vs ds d QV r e k => by
  unfold fLen at e
  split at e
  · cases e
    unfold Rps at r; obtain ⟨v, q, rfl, h1, h2⟩ := r
    simp only [Rps] at h2; subst h2
    obtain ⟨a, ws, rfl, q, r⟩ := h1.tupE
    exact ⟨_, ws.length, rfl, .inr ⟨ws, q, rfl⟩, by rw [r.length]; exact k _ H (.refl H) .int⟩
  · cases e
    unfold Rps at r; obtain ⟨v, q, rfl, h1, h2⟩ := r
    simp only [Rps] at h2; subst h2
    obtain ⟨a, ws, rfl, q, r⟩ := h1.lstE
    exact ⟨_, ws.length, rfl, .inl ⟨ws, q, rfl⟩, by rw [r.length]; exact k _ H (.refl H) .int⟩
  · split at e
    · cases e
      unfold Rps at r; obtain ⟨v, q, rfl, h1, h2⟩ := r
      simp only [Rps] at h2; subst h2
      rename_i z hz
      rw [h1.strE]
      exact ⟨_, z.length, rfl, ⟨hz, rfl⟩, k _ H (.refl H) .int⟩
    · cases e
  · cases e
theorem Rps.one {H : Hp} {d : D} {vs : List V} (r : Rps K H [d] vs) : ∃ v, vs = [v] ∧ Rp K H d v := by
  unfold Rps at r; obtain ⟨v, q, rfl, h1, h2⟩ := r
  simp only [Rps] at h2; subst h2
  exact ⟨v, rfl, h1⟩
/-- list(x), tuple(x) -/
def fListOf : List D → Option D
  | [.tup xs] => some (.lst xs)
  | [.lst xs] => some (.lst xs)
  | _ => none
theorem d_listOf : DCl K (fun xs H Q => ∃ p ys, xs = [.ref p] ∧ (SqL K H p ys ∨ SqT K H p ys) ∧ ∀ l, H l = none → Q (.ref l) (upd H l (.lst ys))) fListOf := fun H vs ds d QV r e k => by
  unfold fListOf at e
  split at e
  · cases e
    obtain ⟨v, rfl, h1⟩ := r.one
    obtain ⟨a, ws, rfl, q, r⟩ := h1.tupE
    exact ⟨a, ws, rfl, .inr q, fun l hl => k _ _ (same_new hl) (.lstN hl r)⟩
  · cases e
    obtain ⟨v, rfl, h1⟩ := r.one
    obtain ⟨a, ws, rfl, q, r⟩ := h1.lstE
    exact ⟨a, ws, rfl, .inl q, fun l hl => k _ _ (same_new hl) (.lstN hl r)⟩
  · cases e
def fTupOf : List D → Option D
  | [.tup xs] => some (.tup xs)
  | [.lst xs] => some (.tup xs)
  | _ => none
theorem d_tupOf : DCl K (fun xs H Q => ∃ p ys, xs = [.ref p] ∧ ((SqL K H p ys ∧ ∀ l, H l = none → Q (.ref l) (upd H l (.tup ys))) ∨ (SqT K H p ys ∧ Q (.ref p) H))) fTupOf := fun H vs ds d QV r e k => by
  unfold fTupOf at e
  split at e
  · cases e
    obtain ⟨v, rfl, h1⟩ := r.one
    obtain ⟨a, ws, rfl, q, r⟩ := h1.tupE
    exact ⟨a, ws, rfl, .inr ⟨q, k _ H (.refl H) (.tup q r)⟩⟩
  · cases e
    obtain ⟨v, rfl, h1⟩ := r.one
    obtain ⟨a, ws, rfl, q, r⟩ := h1.lstE
    exact ⟨a, ws, rfl, .inl ⟨q, fun l hl => k _ _ (same_new hl) (.tupN hl r)⟩⟩
  · cases e
/-- any, all of a list of bools -/
def blsOf : List D → Option (List Bool)
  | [] => some []
  | .bl i :: ds => (blsOf ds).map (i :: ·)
  | _ :: _ => none
theorem blsOf_some : ∀ {ds : List D} {ns : List Bool}, blsOf ds = some ns → ds = ns.map D.bl
  | [], ns, h => by simp only [blsOf] at h; cases h; rfl
  | .bl i :: ds, ns, h => by
    simp only [blsOf] at h
    obtain ⟨ms, e, rfl⟩ := Option.map_eq_some_iff.mp h
    rw [blsOf_some e]; rfl
  | .non :: ds, ns, h => by simp [blsOf] at h
  | .int _ :: ds, ns, h => by simp [blsOf] at h
  | .str _ :: ds, ns, h => by simp [blsOf] at h
  | .ty _ :: ds, ns, h => by simp [blsOf] at h
  | .emp :: ds, ns, h => by simp [blsOf] at h
  | .adr _ :: ds, ns, h => by simp [blsOf] at h
  | .at _ _ :: ds, ns, h => by simp [blsOf] at h
  | .one _ _ _ :: ds, ns, h => by simp [blsOf] at h
  | .tup _ :: ds, ns, h => by simp [blsOf] at h
  | .lst _ :: ds, ns, h => by simp [blsOf] at h
theorem blsOf_bls : ∀ ns : List Bool, blsOf (ns.map D.bl) = some ns
  | [] => rfl
  | n :: ns => by simp [blsOf, blsOf_bls ns]
def fAny : List D → Option D
  | [.lst xs] => (blsOf xs).map fun bs => .bl (bs.any id)
  | _ => none
def fAll : List D → Option D
  | [.lst xs] => (blsOf xs).map fun bs => .bl (bs.all id)
  | _ => none
theorem d_any : DCl K (rAny K) fAny := fun H vs ds d QV r e k => by
  unfold fAny at e
  split at e
  · obtain ⟨bs, e1, rfl⟩ := Option.map_eq_some_iff.mp e
    obtain ⟨v, rfl, h1⟩ := r.one
    obtain ⟨a, ws, rfl, q, r⟩ := h1.lstE
    cases blsOf_some e1
    cases r.blsE
    exact ⟨a, bs, rfl, q, k _ H (.refl H) .bl⟩
  · cases e
theorem d_all : DCl K (rAll K) fAll := fun H vs ds d QV r e k => by
  unfold fAll at e
  split at e
  · obtain ⟨bs, e1, rfl⟩ := Option.map_eq_some_iff.mp e
    obtain ⟨v, rfl, h1⟩ := r.one
    obtain ⟨a, ws, rfl, q, r⟩ := h1.lstE
    cases blsOf_some e1
    cases r.blsE
    exact ⟨a, bs, rfl, q, k _ H (.refl H) .bl⟩
  · cases e
/-- int(n), int(b) -/
def fInt : List D → Option D
  | [.int i] => some (.int i)
  | [.bl b] => some (.int (if b then 1 else 0))
  | _ => none
theorem d_int : DCl K (fun xs H Q => (∃ i, xs = [.int i] ∧ Q (.int i) H) ∨ ∃ k, xs = [.bl k] ∧ Q (.int (if k then 1 else 0)) H) fInt := fun H vs ds d QV r e k => by
  unfold fInt at e
  split at e
  · cases e
    obtain ⟨v, rfl, h1⟩ := r.one
    exact .inl ⟨_, by rw [h1.intE], k _ H (.refl H) .int⟩
  · cases e
    obtain ⟨v, rfl, h1⟩ := r.one
    exact .inr ⟨_, by rw [h1.blE], k _ H (.refl H) .int⟩
  · cases e
/-- isinstance(x, T) -/
def isT : D → String → Option Bool
  | .non, t => kitB "NoneType" t
  | .bl _, t => kitB "bool" t
  | .int _, t => kitB "int" t
  | .str _, t => kitB "str" t
  | .tup _, t => kitB "tuple" t
  | .lst _, t => kitB "list" t
  | .ty _, _ => none
  | .emp, _ => none
  | .adr _, _ => none
  | .at _ _, _ => none
  | .one _ _ _, _ => none
def fIsi : List D → Option D
  | [x, .ty t] => (isT x t).map .bl
  | _ => none
theorem tyX_tup {H : Hp} {a : Addr} {vs : List V} (h : SqT K H a vs) : TyX K H (.ref a) (.type "tuple") := by
  rcases h with (h | ⟨o, h⟩) | ⟨o, its, n, hk, hc, _⟩
  · exact .base (.tup h)
  · exact .fTuple h
  · exact .kTuple hk hc
theorem tyX_lst {H : Hp} {a : Addr} {vs : List V} (h : SqL K H a vs) : TyX K H (.ref a) (.type "list") := by
  rcases h with (h | ⟨o, h⟩) | ⟨o, its, n, hk, hc, _⟩
  · exact .base (.lst h)
  · exact .base (.frz h)
  · exact .kList hk hc
theorem isT_ok {H : Hp} {d : D} {v : V} {t : String} {b : Bool} (h : isT d t = some b) (r : Rp K H d v) : ∃ n, TyX K H v (.type n) ∧ PySem.W.kitOne K (.type n) (.type t) = some b := by
  cases d with
  | non => rw [r.nonE]; exact ⟨_, .base .non, kit_ty h⟩
  | bl x => rw [r.blE]; exact ⟨_, .base (.bl x), kit_ty h⟩
  | int x => rw [r.intE]; exact ⟨_, .base (.int x), kit_ty h⟩
  | str x => rw [r.strE]; exact ⟨_, .base (.str x), kit_ty h⟩
  | tup x => obtain ⟨a, vs, rfl, q, _⟩ := r.tupE; exact ⟨_, tyX_tup q, kit_ty h⟩
  | lst x => obtain ⟨a, vs, rfl, q, _⟩ := r.lstE; exact ⟨_, tyX_lst q, kit_ty h⟩
  | ty x => cases h
  | emp => cases h
  | adr a => cases h
  | «at» a x => cases h
  | one a z x => cases h
theorem d_isi : DCl K (rIsi K) fIsi := fun H vs ds d QV r e k => by
  unfold fIsi at e
  split at e
  · obtain ⟨b, e1, rfl⟩ := Option.map_eq_some_iff.mp e
    unfold Rps at r; obtain ⟨v, q, rfl, h1, h2⟩ := r
    obtain ⟨w, rfl, h3⟩ := h2.one
    rw [h3.tyE]
    obtain ⟨n, t1, t2⟩ := isT_ok e1 h1
    exact ⟨v, _, _, _, b, rfl, .ty _, t1, t2, k _ H (.refl H) .bl⟩
  · cases e
end
end KQ

set_option Elab.async false
set_option linter.all false
set_option maxRecDepth 100000
set_option maxHeartbeats 4000000
namespace KQ
open PySem L2

/-! ### data without lists -/
mutual
def imm : D → Bool
  | .tup xs => immAll xs
  | .lst _ => false
  | .non => true
  | .bl _ => true
  | .int _ => true
  | .str _ => true
  | .ty _ => true
  | .emp => false
  | .adr _ => true
  | .at _ d => imm d
  | .one _ _ _ => false
def immAll : List D → Bool
  | [] => true
  | d :: ds => imm d && immAll ds
end
section
variable {K : PySem.W.Frag} {H H' : Hp}
theorem immAll_append : ∀ xs ys : List D, immAll (xs ++ ys) = (immAll xs && immAll ys)
  | [], ys => by simp [immAll]
  | x :: xs, ys => by simp [immAll, immAll_append xs ys, Bool.and_assoc]
theorem immAll_mem : ∀ {xs : List D}, immAll xs = true → ∀ x ∈ xs, imm x = true
  | [], _, _, h => by cases h
  | y :: ys, h, x, hx => by
    simp only [immAll, Bool.and_eq_true] at h
    rcases List.mem_cons.mp hx with rfl | hx
    · exact h.1
    · exact immAll_mem h.2 x hx
theorem immAll_of : ∀ {xs : List D}, (∀ x ∈ xs, imm x = true) → immAll xs = true
  | [], _ => by simp [immAll]
  | y :: ys, h => by
    simp only [immAll, Bool.and_eq_true]
    exact ⟨h y List.mem_cons_self, immAll_of fun x hx => h x (List.mem_cons_of_mem _ hx)⟩
/-- tuples stand whatever list (or dict) is changed: all tuples of H stand in H' -/
def TupS (H H' : Hp) : Prop := ∀ b, (∀ xs, H b = some (.tup xs) → H' b = some (.tup xs)) ∧ (∀ o xs, H b = some (.frz o (.tup xs)) → H' b = some (.frz o (.tup xs)))
theorem TupS.of_same (e : Same H H') : TupS H H' := fun b => ⟨fun xs h => e _ _ h, fun o xs h => e _ _ h⟩
theorem TupS.trans {H2 : Hp} (e : TupS H H') (g : TupS H' H2) : TupS H H2 := fun b => ⟨fun xs h => (g b).1 xs ((e b).1 xs h), fun o xs h => (g b).2 o xs ((e b).2 o xs h)⟩
/-- not a tuple -/
def NoTup : Option HO → Prop
  | some (.tup _) => False
  | some (.frz _ (.tup _)) => False
  | _ => True
theorem TupS.upd {a : Addr} {o : HO} (h : NoTup (H a)) : TupS H (upd H a o) := fun b => ⟨fun xs q => by
  have : b ≠ a := by rintro rfl; rw [q] at h; exact h
  rw [upd_ne this]; exact q, fun o xs q => by
  have : b ≠ a := by rintro rfl; rw [q] at h; exact h
  rw [upd_ne this]; exact q⟩
mutual
theorem Rp.tups (e : TupS H H') : ∀ (d : D) (v : V), imm d = true → Rp K H d v → Rp K H' d v
  | .non, _, _, h => by simpa [Rp] using h
  | .bl b, _, _, h => by simpa [Rp] using h
  | .int i, _, _, h => by simpa [Rp] using h
  | .str s, _, _, h => by simpa [Rp] using h
  | .ty n, _, _, h => by simpa [Rp] using h
  | .emp, _, m, _ => by simp [imm] at m
  | .adr a, _, _, h => by simpa [Rp] using h
  | .one _ _ _, _, m, _ => by simp [imm] at m
  | .at a d, v, m, h => by
    unfold Rp at h ⊢
    exact ⟨h.1, Rp.tups e d v (by simpa [imm] using m) h.2⟩
  | .tup xs, v, m, h => by
    unfold Rp at h ⊢
    obtain ⟨a, vs, rfl, h1, h2⟩ := h
    refine ⟨a, vs, rfl, ?_, Rps.tups e xs vs (by simpa [imm] using m) h2⟩
    rcases h1 with (h | ⟨o, h⟩) | h
    · exact .inl (.inl ((e a).1 _ h))
    · exact .inl (.inr ⟨o, (e a).2 _ _ h⟩)
    · exact .inr h
  | .lst xs, v, m, h => by simp [imm] at m
theorem Rps.tups (e : TupS H H') : ∀ (ds : List D) (vs : List V), immAll ds = true → Rps K H ds vs → Rps K H' ds vs
  | [], _, _, h => by simpa [Rps] using h
  | d :: ds, _, m, h => by
    simp only [immAll, Bool.and_eq_true] at m
    unfold Rps at h ⊢
    obtain ⟨v, r, rfl, h1, h2⟩ := h
    exact ⟨v, r, rfl, Rp.tups e d v m.1 h1, Rps.tups e ds r m.2 h2⟩
end
theorem Rp.t {d : D} {v : V} (h : Rp K H d v) (m : imm d = true) (e : TupS H H') : Rp K H' d v := Rp.tups e d v m h
theorem Rps.t {d : List D} {v : List V} (h : Rps K H d v) (m : immAll d = true) (e : TupS H H') : Rps K H' d v := Rps.tups e d v m h
/-- slots that hold no list: they stand -/
def immE (env : Env') : Bool := env.all fun o => match o with
  | some d => imm d
  | none => true
theorem RE.t {env : Env'} {σ : St} (h : RE K H env σ) (m : immE env = true) (e : TupS H H') : RE K H' env σ := ⟨h.1, fun i d q => by
  obtain ⟨v, a, b⟩ := h.2 i d q
  have := List.all_eq_true.mp m (some d) (List.mem_of_getElem? q)
  exact ⟨v, a, b.t this e⟩⟩
end

/-! ### list comprehensions -/
/-- the items one after the other: what is kept so far -/
def dLoop (i : Nat) (dt : DT) (de : DE) (env : Env') : List D → List D → (List D → Prop) → Prop
  | [], acc, Q => Q acc
  | x :: xs, acc, Q => dt (env.set i (some x)) fun b => if b = true then de (env.set i (some x)) fun d => acc.length < sizeLine ∧ imm d = true ∧ dLoop i dt de env xs (acc ++ [d]) Q else dLoop i dt de env xs acc Q
def dLcL (src : DE) (i : Nat) (dt : DT) (de : DE) : DE := fun env Q => src env fun s => ∃ xs, s = .lst xs ∧ dLoop i dt de env xs [] fun acc => Q (.lst acc)
def dLcT (src : DE) (i : Nat) (dt : DT) (de : DE) : DE := fun env Q => src env fun s => ∃ xs, s = .tup xs ∧ dLoop i dt de env xs [] fun acc => Q (.lst acc)
def rangeD (lo : Int) (n : Nat) : List D := (List.range n).map fun (j : Nat) => D.int (lo + (j : Nat))
def dLcR (src : DA) (i : Nat) (dt : DT) (de : DE) : DE := fun env Q => src env fun ds => ∃ j : Int, ds = [.int j] ∧ 0 ≤ j ∧ j < 2 ^ 62 ∧ dLoop i dt de env (rangeD 0 j.toNat) [] fun acc => Q (.lst acc)
section
variable {K : PySem.W.Frag} {tt : TT} {te : TE} {dt : DT} {de : DE} {i : Nat}
/-- where the loop stands: at n items done -/
def LcAt (K : PySem.W.Frag) (i : Nat) (dt : DT) (de : DE) (env : Env') (xs : List D) (Q : List D → Prop) (H1 : Hp) (D : Addr) (n : Nat) (H : Hp) : Prop :=
  Same H1 H ∧ ∃ accD accV, H D = some (.lst accV) ∧ Rps K H accD accV ∧ immAll accD = true ∧ dLoop i dt de env (xs.drop n) accD Q
theorem lc_turn {env : Env'} {xs : List D} {Q : List D → Prop} {H1 : Hp} {A : Addr} {n : Nat} {H : Hp} {σ : St} {d : D} {v : V} (ht : RT K tt dt) (he : RD K te de) (hA : H1 A = none) (re : RE K H1 env σ) (p : LcAt K i dt de env xs Q H1 A n H) (hd : xs[n]? = some d) (rv : Rp K H d v) :
    gName i v (wipe σ [i]) H fun σ2 H2 => wipe σ2 [i] = wipe σ [i] ∧ tt σ2 H2 fun b H3 =>
      if b = true then te σ2 H3 fun y H4 => ∃ acc, H4 A = some (.lst acc) ∧ acc.length < sizeLine ∧ LcAt K i dt de env xs Q H1 A (n + 1) (upd H4 A (.lst (acc ++ [y]))) else LcAt K i dt de env xs Q H1 A (n + 1) H3 := by
  obtain ⟨s, accD, accV, h1, h2, h3, h4⟩ := p
  have hlt : n < xs.length := (List.getElem?_eq_some_iff.mp hd).1
  have e1 : xs.drop n = d :: xs.drop (n + 1) := by
    rw [List.drop_eq_getElem_cons hlt]
    congr 1
    exact (List.getElem?_eq_some_iff.mp hd).2
  rw [e1] at h4
  have re1 : RE K H (env.set i (some d)) ((wipe σ [i]).set i (some v)) := by
    have := ((re.s s).wipe1 i).set rv i
    rwa [List.set_set] at this
  refine ⟨by show ((σ.set i none).set i (some v)).set i none = σ.set i none; rw [List.set_set, List.set_set], ?_⟩
  refine ht _ _ _ H _ h4 re1 fun b H3 s3 q3 => ?_
  cases b with
  | false => exact ⟨s.trans s3, accD, accV, s3 _ _ h1, h2.s s3, h3, q3⟩
  | true =>
    refine he _ _ _ H3 _ q3 (re1.s s3) fun y H4 dy s4 ry ⟨q4, q5, q6⟩ => ?_
    have hD4 : H4 A = some (.lst accV) := s4 _ _ (s3 _ _ h1)
    have tu : TupS H4 (upd H4 A (.lst (accV ++ [y]))) := .upd (by rw [hD4]; trivial)
    refine ⟨accV, hD4, by rw [h2.length]; exact q4, fun b o e => ?_, accD ++ [dy], accV ++ [y], upd_same, ?_, ?_, q6⟩
    · rw [upd_ne (ne_of_none e hA)]
      exact s4 _ _ (s3 _ _ (s _ _ e))
    · exact (((h2.s s3).s s4).t h3 tu).append (.cons (ry.t q5 tu) .nil)
    · rw [immAll_append, h3]; simp [immAll, q5]
theorem lc_start {env : Env'} {xs : List D} {Q : List D → Prop} {H1 : Hp} {A : Addr} (hA : H1 A = none) (q : dLoop i dt de env xs [] Q) : LcAt K i dt de env xs Q H1 A 0 (upd H1 A (.lst [])) :=
  ⟨same_new hA, [], [], upd_same, .nil, by simp [immAll], q⟩
theorem lc_done {env : Env'} {xs : List D} {Q : D → Prop} {H1 H : Hp} {A : Addr} {n : Nat} {QV : VK} {H0 : Hp} (s0 : Same H0 H1) (hn : xs.length ≤ n) (p : LcAt K i dt de env xs (fun acc => Q (.lst acc)) H1 A n H)
    (k : ∀ v H' d, Same H0 H' → Rp K H' d v → Q d → QV v H') : QV (.ref A) H := by
  obtain ⟨s, accD, accV, h1, h2, h3, h4⟩ := p
  rw [List.drop_of_length_le hn] at h4
  exact k _ H (.lst accD) (s0.trans s) (.lst (.inl (.inl h1)) h2) h4
theorem rd_lcL {tl : TE} {dl : DE} (hl : RD K tl dl) (ht : RT K tt dt) (he : RD K te de) : RD K (tLc (iList K tl) (gName i) tt te [i]) (dLcL dl i dt de) := fun env Q σ H QV h re k => by
  refine hl env _ σ H _ h re fun v H1 d s1 rv ⟨xs, e, q⟩ => ?_
  subst e
  obtain ⟨a, vs, rfl, hq, rs⟩ := rv.lstE
  refine ⟨a, rfl, ⟨vs, hq⟩, fun A hA => ?_⟩
  refine lc_list (K := K) (a := a) (xs := vs) (Qd := fun H => QV (.ref A) H) (LcAt K i dt de env xs (fun acc => Q (.lst acc)) H1 A) (lc_start hA q) (fun n H' _ p => p.1.seq hq) (fun n x H' hx p => ?_) fun H' p => lc_done s1 (by rw [rs.length]; exact Nat.le_refl _) p k
  have hlt : n < xs.length := by rw [← rs.length]; exact (List.getElem?_eq_some_iff.mp hx).1
  obtain ⟨w, e1, r1⟩ := rs.get (List.getElem?_eq_getElem hlt)
  rw [hx] at e1; cases e1
  exact lc_turn ht he hA (re.s s1) p (List.getElem?_eq_getElem hlt) (r1.s p.1)
theorem rd_lcT {tl : TE} {dl : DE} (hl : RD K tl dl) (ht : RT K tt dt) (he : RD K te de) : RD K (tLc (iTup K tl) (gName i) tt te [i]) (dLcT dl i dt de) := fun env Q σ H QV h re k => by
  refine hl env _ σ H _ h re fun v H1 d s1 rv ⟨xs, e, q⟩ => ?_
  subst e
  obtain ⟨a, vs, rfl, hq, rs⟩ := rv.tupE
  refine ⟨a, rfl, ⟨vs, hq⟩, fun A hA => ?_⟩
  refine lc_tup (K := K) (a := a) (xs := vs) (Qd := fun H => QV (.ref A) H) (LcAt K i dt de env xs (fun acc => Q (.lst acc)) H1 A) (lc_start hA q) (fun n H' _ p => seqT_same p.1 hq) (fun n x H' hx p => ?_) fun H' p => lc_done s1 (by rw [rs.length]; exact Nat.le_refl _) p k
  have hlt : n < xs.length := by rw [← rs.length]; exact (List.getElem?_eq_some_iff.mp hx).1
  obtain ⟨w, e1, r1⟩ := rs.get (List.getElem?_eq_getElem hlt)
  rw [hx] at e1; cases e1
  exact lc_turn ht he hA (re.s s1) p (List.getElem?_eq_getElem hlt) (r1.s p.1)
theorem rangeD_get {lo : Int} {n j : Nat} (h : j < n) : (rangeD lo n)[j]? = some (.int (lo + (j : Nat))) := by
  unfold rangeD
  rw [List.getElem?_map, List.getElem?_range h]; rfl
theorem rangeD_len {lo : Int} {n : Nat} : (rangeD lo n).length = n := by unfold rangeD; rw [List.length_map, List.length_range]
theorem rd_lcR {tl : TA} {dl : DA} (hl : RA K tl dl) (ht : RT K tt dt) (he : RD K te de) : RD K (tLc (iRng1 tl) (gName i) tt te [i]) (dLcR dl i dt de) := fun env Q σ H QV h re k => by
  refine hl env _ σ H _ h re fun v H1 d s1 rv ⟨j, e, hj0, hj, q⟩ => ?_
  subst e
  obtain ⟨w, rfl, h1⟩ := rv.one
  refine ⟨j, by rw [h1.intE], by omega, hj, fun A hA => ?_⟩
  refine lc_range (lo := 0) (n := j.toNat) (Qd := fun H => QV (.ref A) H) (LcAt K i dt de env (rangeD 0 j.toNat) (fun acc => Q (.lst acc)) H1 A) (lc_start hA q) (fun n H' hn p => ?_) fun H' p => lc_done s1 (by rw [rangeD_len]; exact Nat.le_refl _) p k
  exact lc_turn ht he hA (re.s s1) p (rangeD_get hn) .int
end
section
variable {X : Cx} {K : PySem.W.Frag} {elt iter : Expr} {ifs : List Expr} {scope : Scope} {x : Str} {i : Nat} {pos tpos : Pos} {tt : TT} {te tl : TE} {dt : DT} {de dl : DE} {tla : TA} {dla : DA}
structure PTsD (K : PySem.W.Frag) (X : Cx) (ifs : List Expr) (te : TT) (t : DT) : Prop where
  pe : PTs X ifs te
  rd : RT K te t
def dYes : DT := fun _ Q => Q true
theorem pts_nilD : PTsD K X [] tYes dYes := ⟨pts_nil, fun env Q σ H QV h re k => k true H (.refl H) h⟩
theorem pts_oneD {c : Expr} {t : TT} {d : DT} (h : PTD K X c t d) : PTsD K X [c] t d := ⟨pts_one h.pe, h.rd⟩
theorem pd_lcL (hc : X.calm = true) (hN : X.N.Nodup) (hi : PD K X iter tl dl) (ok : BlkOk X.N X.env.scope scope [(x, i)])
    (hg : ∀ (s : Shared) (H : Hp) (C : Addr) (cl : List (Str × Addr)) (fp : List Addr), PG (X.blk s H scope (compEnvC scope cl C X.env) fp) (.Name x tpos) (gName i)) (ht : ∀ (s : Shared) (H : Hp) (C : Addr) (cl : List (Str × Addr)) (fp : List Addr), PTsD K (X.blk s H scope (compEnvC scope cl C X.env) fp) ifs tt dt) (he : ∀ (s : Shared) (H : Hp) (C : Addr) (cl : List (Str × Addr)) (fp : List Addr), PD K (X.blk s H scope (compEnvC scope cl C X.env) fp) elt te de) (hs : ∀ x, foldedSetIterable iter X.env x = pure x := by intro _; rfl) (q : X.K = K := by rfl) :
    PD K X (.ListComp elt [⟨.Name x tpos, iter, ifs, 0⟩] scope pos) (tLc (iList K tl) (gName i) tt te [i]) (dLcL dl i dt de) := by
  subst q
  exact ⟨pe_lc (own := [(x, i)]) hc hN (pi_list hi.pe) ok hg (fun s H C cl fp => (ht s H C cl fp).pe) (fun s H C cl fp => (he s H C cl fp).pe) hs, rd_lcL hi.rd (ht X.s_0 X.H_0 0 [] []).rd (he X.s_0 X.H_0 0 [] []).rd⟩
theorem pd_lcT (hc : X.calm = true) (hN : X.N.Nodup) (hi : PD K X iter tl dl) (ok : BlkOk X.N X.env.scope scope [(x, i)])
    (hg : ∀ (s : Shared) (H : Hp) (C : Addr) (cl : List (Str × Addr)) (fp : List Addr), PG (X.blk s H scope (compEnvC scope cl C X.env) fp) (.Name x tpos) (gName i)) (ht : ∀ (s : Shared) (H : Hp) (C : Addr) (cl : List (Str × Addr)) (fp : List Addr), PTsD K (X.blk s H scope (compEnvC scope cl C X.env) fp) ifs tt dt) (he : ∀ (s : Shared) (H : Hp) (C : Addr) (cl : List (Str × Addr)) (fp : List Addr), PD K (X.blk s H scope (compEnvC scope cl C X.env) fp) elt te de) (hs : ∀ x, foldedSetIterable iter X.env x = pure x := by intro _; rfl) (q : X.K = K := by rfl) :
    PD K X (.ListComp elt [⟨.Name x tpos, iter, ifs, 0⟩] scope pos) (tLc (iTup K tl) (gName i) tt te [i]) (dLcT dl i dt de) := by
  subst q
  exact ⟨pe_lc (own := [(x, i)]) hc hN (pi_tup hi.pe) ok hg (fun s H C cl fp => (ht s H C cl fp).pe) (fun s H C cl fp => (he s H C cl fp).pe) hs, rd_lcT hi.rd (ht X.s_0 X.H_0 0 [] []).rd (he X.s_0 X.H_0 0 [] []).rd⟩
theorem pd_lcR {a : Expr} {p rpos : Pos} (hc : X.calm = true) (hN : X.N.Nodup) (hgl : Gl X "range") (hm : X.mg "range" = none) (hi : PAD K X [a] tla dla) (ok : BlkOk X.N X.env.scope scope [(x, i)])
    (hg : ∀ (s : Shared) (H : Hp) (C : Addr) (cl : List (Str × Addr)) (fp : List Addr), PG (X.blk s H scope (compEnvC scope cl C X.env) fp) (.Name x tpos) (gName i)) (ht : ∀ (s : Shared) (H : Hp) (C : Addr) (cl : List (Str × Addr)) (fp : List Addr), PTsD K (X.blk s H scope (compEnvC scope cl C X.env) fp) ifs tt dt) (he : ∀ (s : Shared) (H : Hp) (C : Addr) (cl : List (Str × Addr)) (fp : List Addr), PD K (X.blk s H scope (compEnvC scope cl C X.env) fp) elt te de) (hst : starEach [a] X.env = [(false, eval a X.env)] := by rfl) (hs : ∀ x, foldedSetIterable (.Call (.Name "range" p) [a] [] rpos) X.env x = pure x := by intro _; rfl) :
    PD K X (.ListComp elt [⟨.Name x tpos, .Call (.Name "range" p) [a] [] rpos, ifs, 0⟩] scope pos) (tLc (iRng1 tla) (gName i) tt te [i]) (dLcR dla i dt de) :=
  ⟨pe_lc (own := [(x, i)]) hc hN (pi_range1 hgl hm hi.pe hst) ok hg (fun s H C cl fp => (ht s H C cl fp).pe) (fun s H C cl fp => (he s H C cl fp).pe) hs, rd_lcR hi.rd (ht X.s_0 X.H_0 0 [] []).rd (he X.s_0 X.H_0 0 [] []).rd⟩
end
/-- what a comprehension comes to -/
theorem dLoop_of {i : Nat} {dt : DT} {de : DE} {env : Env'} (p : D → Bool) (f : D → D) : ∀ (xs : List D) (acc : List D) (Q : List D → Prop),
    (∀ x ∈ xs, ∀ R : Bool → Prop, R (p x) → dt (env.set i (some x)) R) → (∀ x ∈ xs, p x = true → ∀ R : D → Prop, R (f x) → de (env.set i (some x)) R) → (∀ x ∈ xs, p x = true → imm (f x) = true) →
    acc.length + xs.length ≤ sizeLine → Q (acc ++ (xs.filter p).map f) → dLoop i dt de env xs acc Q
  | [], acc, Q, _, _, _, _, h => by simpa [dLoop] using h
  | x :: xs, acc, Q, h1, h2, h3, hz, h => by
    unfold dLoop
    simp only [List.length_cons] at hz
    refine h1 x List.mem_cons_self _ ?_
    cases hp : p x with
    | false =>
      simp only [Bool.false_eq_true, if_false]
      refine dLoop_of p f xs acc Q (fun y hy => h1 y (List.mem_cons_of_mem _ hy)) (fun y hy => h2 y (List.mem_cons_of_mem _ hy)) (fun y hy => h3 y (List.mem_cons_of_mem _ hy)) (by omega) ?_
      simpa [List.filter_cons, hp] using h
    | true =>
      simp only [if_true]
      refine h2 x List.mem_cons_self hp _ ⟨by omega, h3 x List.mem_cons_self hp, ?_⟩
      refine dLoop_of p f xs (acc ++ [f x]) Q (fun y hy => h1 y (List.mem_cons_of_mem _ hy)) (fun y hy => h2 y (List.mem_cons_of_mem _ hy)) (fun y hy => h3 y (List.mem_cons_of_mem _ hy)) (by simp; omega) ?_
      simpa [List.filter_cons, hp] using h
end KQ

set_option Elab.async false
set_option linter.all false
set_option maxRecDepth 100000
set_option maxHeartbeats 4000000
namespace KQ
open PySem L2

/-! ### statements over data -/
structure EndsD where
  nx : Env' → Prop
  rt : D → Prop
abbrev DS := EndsD → Env' → Prop
def RS (K : PySem.W.Frag) (ts : TS) (t : DS) : Prop := ∀ (env : Env') (DD : EndsD) (σ : St) (H : Hp) (D : Ends), t DD env → RE K H env σ →
  (∀ env' σ' H', Same H H' → RE K H' env' σ' → DD.nx env' → D.nx σ' H') → (∀ d v H', Same H H' → Rp K H' d v → DD.rt d → D.rt v H') → ts D σ H
structure PSD (K : PySem.W.Frag) (X : Cx) (s : Stmt) (ts : TS) (t : DS) : Prop where
  pe : PS X s ts
  rd : RS K ts t
structure PSsD (K : PySem.W.Frag) (X : Cx) (s : List Stmt) (ts : TS) (t : DS) : Prop where
  pe : PSs X s ts
  rd : RS K ts t
section
variable {X : Cx} {K : PySem.W.Frag} {st : Stmt} {rest : List Stmt} {ts us : TS} {t u : DS} {e : Expr} {te : TE} {de : DE} {pos : Pos}
def dSeq (t u : DS) : DS := fun DD env => t { DD with nx := u DD } env
theorem rs_seq (h1 : RS K ts t) (h2 : RS K us u) : RS K (tSeq ts us) (dSeq t u) := fun env DD σ H D hq re kn kr =>
  h1 env _ σ H _ hq re (fun env' σ' H' s r q => h2 env' DD σ' H' D q r (fun e2 σ2 H2 s2 => kn e2 σ2 H2 (s.trans s2)) fun d v H2 s2 => kr d v H2 (s.trans s2)) kr
theorem psd_cons (h1 : PSD K X st ts t) (h2 : PSsD K X rest us u) : PSsD K X (st :: rest) (tSeq ts us) (dSeq t u) := ⟨pss_cons h1.pe h2.pe, rs_seq h1.rd h2.rd⟩
theorem psd_one (h1 : PSD K X st ts t) : PSsD K X [st] ts t := ⟨pss_one h1.pe, h1.rd⟩
def dNext : DS := fun DD env => DD.nx env
theorem psd_nil : PSsD K X [] tNext dNext := ⟨pss_nil, fun env DD σ H D hq re kn kr => kn env σ H (.refl H) re hq⟩
def dRet (t : DE) : DS := fun DD env => t env DD.rt
theorem ps_retD (h : PD K X e te de) : PSD K X (.Return (some e) pos) (tRet te) (dRet de) := ⟨ps_ret h.pe, fun env DD σ H D hq re kn kr => h.rd env _ σ H _ hq re fun v H' d s r q => kr d v H' s r q⟩
def dSet (t : DE) (i : Nat) : DS := fun DD env => t env fun d => DD.nx (env.set i (some d))
theorem rs_set {i : Nat} (h : RD K te de) : RS K (tAsg te (gName i)) (dSet de i) := fun env DD σ H D hq re kn kr => h env _ σ H _ hq re fun v H' d s r q => kn _ _ H' s ((re.s s).set r i) q
theorem ps_setD {i : Nat} {x : Str} {pos' : Pos} (hN : X.N.Nodup) (h : PD K X e te de) (hi : X.N[i]? = some x := by rfl) (hx : Loc X.env.scope x := by first | exact .inl rfl | exact .inr rfl) (hs : swapsWith e (some (.Name x pos')) pos.line X.env = pure false := by rfl) (hf : X.fn x = true ∨ X.env.scope.names.lookup x = some .local := by first | exact .inl rfl | exact .inr rfl | assumption) :
    PSD K X (.Assign [.Name x pos'] e pos) (tAsg te (gName i)) (dSet de i) := ⟨ps_set hN hi hx h.pe hs hf, rs_set h.rd⟩
def dIfS (c : DT) (t u : DS) : DS := fun DD env => c env fun b => if b = true then t DD env else u DD env
theorem ps_ifD {c : Expr} {a b : List Stmt} {tc : TT} {dc : DT} (hc : PTD K X c tc dc) (ha : PSsD K X a ts t) (hb : PSsD K X b us u) : PSD K X (.If c a b pos) (tIfS tc ts us) (dIfS dc t u) :=
  ⟨ps_if hc.pe ha.pe hb.pe, fun env DD σ H D hq re kn kr => hc.rd env _ σ H _ hq re fun b H1 s q => by
    cases b with
    | true => exact ha.rd env DD σ H1 D q (re.s s) (fun e2 σ2 H2 s2 => kn e2 σ2 H2 (s.trans s2)) fun d v H2 s2 => kr d v H2 (s.trans s2)
    | false => exact hb.rd env DD σ H1 D q (re.s s) (fun e2 σ2 H2 s2 => kn e2 σ2 H2 (s.trans s2)) fun d v H2 s2 => kr d v H2 (s.trans s2)⟩
def dNever : DS := fun _ _ => False
theorem ps_neverD : PSD K X st tNever dNever := ⟨ps_never, fun _ _ _ _ _ h => h.elim⟩
/-- a, b = x, y -/
def dPar (i j : Nat) (t : DA) : DS := fun DD env => t env fun ds => ∃ a b, ds = [a, b] ∧ DD.nx ((env.set i (some a)).set j (some b))
theorem ps_parD {i j : Nat} {x y : Str} {a b : Expr} {ta : TA} {da : DA} {px py pt : Pos} {kt k2 pt2} (hc : X.calm = true) (hN : X.N.Nodup) (hi : X.N[i]? = some x) (hj : X.N[j]? = some y) (hij : i ≠ j)
    (hx : X.env.scope.names.lookup x = some .local) (hy : X.env.scope.names.lookup y = some .local) (ha : PAD K X [a, b] ta da)
    (hw : swappedStores [.Tuple [.Name x px, .Name y py] kt pt] (.Tuple [a, b] k2 pt2) X.env = pure (some [x, y]))
    (hs : swapsWithSole [.Tuple [.Name x px, .Name y py] kt pt] (.Tuple [a, b] k2 pt2) pos.line X.env = pure false := by rfl) :
    PSD K X (.Assign [.Tuple [.Name x px, .Name y py] kt pt] (.Tuple [a, b] k2 pt2) pos) (tPar i j ta) (dPar i j da) :=
  ⟨ps_par hc hN hi hj hij hx hy ha.pe hw hs, fun env DD σ H D hq re kn kr => ha.rd env _ σ H _ hq re fun vs H1 ds s r ⟨d1, d2, e, q⟩ => by
    subst e
    unfold Rps at r; obtain ⟨v, vr, rfl, h1, h2⟩ := r
    obtain ⟨w, rfl, h3⟩ := h2.one
    exact ⟨v, w, rfl, kn _ _ H1 s (((re.s s).set h1 i).set h3 j) q⟩⟩
/-- for x in a list -/
def dForL (i : Nat) (tb : DS) : List D → DS
  | [], DD, env => DD.nx env
  | x :: xs, DD, env => tb { DD with nx := dForL i tb xs DD } (env.set i (some x))
def dFor (src : DE) (i : Nat) (tb : DS) : DS := fun DD env => src env fun s => ∃ xs, s = .lst xs ∧ dForL i tb xs DD env
theorem rs_for {tl : TE} {dl : DE} {i : Nat} {tb : TS} {db : DS} (hl : RD K tl dl) (hb : RS K tb db) : RS K (tFor (iList K tl) (gName i) tb) (dFor dl i db) := fun env DD σ H D hq re kn kr => by
  refine hl env _ σ H _ hq re fun v H1 d s1 rv ⟨xs, e, q⟩ => ?_
  subst e
  obtain ⟨a, vs, rfl, hq, rs⟩ := rv.lstE
  refine ⟨a, rfl, ⟨vs, hq⟩, ?_⟩
  refine for_list (K := K) (a := a) (xs := vs) (fun n σ' H' => Same H1 H' ∧ ∃ env', RE K H' env' σ' ∧ dForL i db (xs.drop n) DD env') ⟨.refl _, env, re.s s1, q⟩ (fun n σ' H' _ p => p.1.seq hq) (fun n x σ' H' hx p => ?_) fun σ' H' p => ?_
  · obtain ⟨s2, env', re', q'⟩ := p
    have hlt : n < xs.length := by rw [← rs.length]; exact (List.getElem?_eq_some_iff.mp hx).1
    obtain ⟨w, e1, r1⟩ := rs.get (List.getElem?_eq_getElem hlt)
    rw [hx] at e1; cases e1
    rw [List.drop_eq_getElem_cons hlt] at q'
    refine hb (env'.set i (some xs[n])) _ (σ'.set i (some x)) H' _ q' (re'.set (r1.s s2) i) (fun e3 σ3 H3 s3 r3 q3 => ⟨s2.trans s3, e3, r3, q3⟩) fun d v H3 s3 r3 q3 => kr d v H3 (s1.trans (s2.trans s3)) r3 q3
  · obtain ⟨s2, env', re', q'⟩ := p
    rw [List.drop_of_length_le (by rw [rs.length]; exact Nat.le_refl _)] at q'
    exact kn env' σ' H' (s1.trans s2) re' q'
theorem ps_forD {iter : Expr} {body : List Stmt} {tl : TE} {dl : DE} {i : Nat} {x : Str} {tb : TS} {db : DS} {tpos : Pos} (hp : PassesOwn (model X.prog X.w) X.A X.env X.xe) (hc : X.calm = true) (hi : PD K X iter tl dl) (hg : PG X (.Name x tpos) (gName i)) (hb : PSsD K X body tb db)
    (hs : ∀ x, foldedSetIterable iter X.env x = pure x := by intro _; rfl) (q : X.K = K := by rfl) : PSD K X (.For (.Name x tpos) iter body [] pos) (tFor (iList K tl) (gName i) tb) (dFor dl i db) := by
  subst q
  exact ⟨ps_for hp hc (pi_list hi.pe) hg hb.pe hs, rs_for hi.rd hb.rd⟩
end

/-! ### a def by its body over data -/
section
variable {P : Program} {w : World} {K : PySem.W.Frag} {mg : Str → Option Value} {base : Heap}
def env0 (N : List Str) (ds : List D) : Env' := ds.map some ++ List.replicate (N.length - ds.length) none
theorem fn_pd {x qual : Str} {st : Stmt} {f : Addr} {fd : FuncData} {N ps : List Str} {k : Nat} {S : List D → D → Prop} (F : Fun K x qual st f fd) (sc : FnScope N ps (defScope st))
    (body : ∀ (cdv : Value) (A : Around) (outer : List Env) (s : Shared) (H : Hp) (E : XK), Room k (A.deeper (PyProof.Rows.envOfC qual (defScope st) s.heap.objs.size f cdv)) → ∀ ds d, ds.length = ps.length → S ds d →
      ∃ ts t, PSsD K (cxOf CX0 P w K mg base N qual (defScope st) f cdv A outer s H E).nox (defBody st) ts t ∧ t ⟨fun _ => d = .non, fun d' => d' = d⟩ (env0 N ds)) :
    FnOk P w K mg base CX0 (k + 1) f fd ps (spP K ps.length S) := by
  refine F.ok sc (fun vs H Q E h => spP_len h) fun cdv A outer s H vs Q E hr h => ?_
  obtain ⟨ds, d, r, hl, hs, q⟩ := h
  obtain ⟨ts, t, h1, h2⟩ := body cdv A outer s H E hr ds d hl hs
  refine ⟨ts, h1.pe, h1.rd _ _ _ H _ h2 (RE.start r) (fun env' σ' H' s' _ e => ?_) fun d' v H' s' r' e => ?_⟩
  · subst e
    exact q .non H' s' .non
  · subst e
    exact q v H' s' r'
end
end KQ

set_option Elab.async false
set_option linter.all false
set_option maxRecDepth 100000
set_option maxHeartbeats 4000000
namespace KQ
open PySem L2 PyProof.Rows PySem.Spec

/-! ### xs[-2::-1] of a list -/
theorem fm_congr {α β : Type} {f g : α → Option β} : ∀ l : List α, (∀ x ∈ l, f x = g x) → l.filterMap f = l.filterMap g
  | [], _ => rfl
  | x :: l, h => by rw [List.filterMap_cons, List.filterMap_cons, h x List.mem_cons_self, fm_congr l fun y hy => h y (List.mem_cons_of_mem _ hy)]
theorem pick_back (items : Array Value) : slicePick items (some (-2)) none (some (-1)) = items.toList.dropLast.reverse.toArray := by
  have hb : sliceBounds (some (-2)) none (some (-1)) items.size = (((items.size - 1 : Nat) : Int) - 1, -1, -1) := by
    unfold sliceBounds
    have h1 : ¬ ((-1 : Int) > 0) := by decide
    simp only [Option.getD_some, h1, if_false]
    have h2 : (-2 : Int) < 0 := by decide
    simp only [h2, if_true]
    congr 1
    omega
  have e0 := PySem.W.krv_pick items.toList.dropLast.toArray
  unfold slicePick at e0 ⊢
  rw [hb]
  rw [PySem.W.krv_bounds] at e0
  have es : items.toList.dropLast.toArray.size = items.size - 1 := by simp
  rw [es] at e0
  rw [show items.toList.dropLast.toArray.toList = items.toList.dropLast from rfl] at e0
  rw [← e0]
  congr 1
  show List.filterMap (fun x => items[x]?) (sliceRange (((items.size - 1 : Nat) : Int) - 1) (-1) (-1)) = List.filterMap (fun x => items.toList.dropLast.toArray[x]?) (sliceRange (((items.size - 1 : Nat) : Int) - 1) (-1) (-1))
  rw [PySem.W.krv_sliceRange]
  refine fm_congr _ fun j hj => ?_
  obtain ⟨k, hk, rfl⟩ := List.mem_map.mp hj
  have hk' := List.mem_range.mp hk
  have e1 : items.toList.dropLast.toArray[items.size - 1 - 1 - k]? = items.toList.dropLast[items.size - 1 - 1 - k]? := by simp
  rw [e1, List.getElem?_dropLast, if_pos (by simp; omega)]
  simp
def tBack (K : PySem.W.Frag) (te : TE) : TE := fun σ H Q => te σ H fun x H1 => ∃ a xs, x = .ref a ∧ SqL K H1 a xs ∧ ∀ p, H1 p = none → Q (.ref p) (upd H1 p (.lst xs.dropLast.reverse))
section
variable {X : Cx} {K : PySem.W.Frag}
theorem pe_back {e : Expr} {te : TE} {k k2 : Nat} {p1 p2 p3 p4 p5 pos : Pos} (he : PE X e te) : PE X (.Subscript e (.Slice (some (.UnaryOp .USub (.Constant (.int 2) k2 p4) p5)) none (some (.UnaryOp .USub (.Constant (.int 1) k p1) p2)) p3) pos) (tBack X.K te) := by
  refine ⟨fun pins s σ H Q I h => ?_⟩
  refine Subscript_ (thn (he.run pins s σ H _ I h) fun v s1 ⟨x, H1, I1, r1, q1⟩ => ?_)
  obtain ⟨a, xs, ex, hx, q⟩ := q1
  subst ex
  cases r1
  have hst : PO X (some (.UnaryOp .USub (.Constant (.int 1) k p1) p2)) (tPart (tUn (rU fun i => .int (-i)) (tC (.int 1)))) := po_some (pe_un un_neg pe_int)
  have hlo : PO X (some (.UnaryOp .USub (.Constant (.int 2) k2 p4) p5)) (tPart (tUn (rU fun i => .int (-i)) (tC (.int 2)))) := po_some (pe_un un_neg pe_int)
  refine wpAny_Slice (thn (hlo.run pins s1 σ H1 (fun o H2 => o = some (-2) ∧ H2 = H1) I1 ⟨2, rfl, -2, rfl, rfl, rfl⟩) fun vl s2 ⟨l, H2, I2, pl, el, e2⟩ => ?_)
  subst el e2
  refine thn (po_none.run pins s2 σ H2 (fun o H3 => o = none ∧ H3 = H2) I2 ⟨rfl, rfl⟩) fun vu s3 ⟨u, H3, I3, pu, eu, e3⟩ => ?_
  subst eu e3
  refine thn (hst.run pins s3 σ H3 (fun o H4 => o = some (-1) ∧ H4 = H3) I3 ⟨1, rfl, -1, rfl, rfl, rfl⟩) fun vs s4 ⟨o, H4, I4, ps, eo, e4⟩ => ?_
  subst eo e4
  have I5 : Inv X pins σ H4 { s4 with heap := s4.heap.push { cls := .type "slice", data := .fields #[vl, vu, vs] } } := I4.kept (t' := s4.toks) fun b ob q => Heap.get?_push_of_some _ q
  obtain ⟨its, r, ht, hz⟩ := I5.list hx
  have hlen := r.length
  show wpAny (model X.prog X.w) X.A (subscriptTail e (.Slice (some (.UnaryOp .USub (.Constant (.int 2) k2 p4) p5)) none (some (.UnaryOp .USub (.Constant (.int 1) k p1) p2)) p3) (.ref a) (.ref s4.heap.objs.size)) (EP X pins σ Q) X.xe { s4 with heap := s4.heap.push { cls := .type "slice", data := .fields #[vl, vu, vs] } }
  refine tail_any (ops := [.ref a, .ref s4.heap.objs.size]) ht.isList.typeIs (PySem.slot_list_getitem.lookup) ?_ (by with_unfolding_all rfl)
  refine wpAny_getItem_list_slice ht.isList (Heap.IsSliceOf.new _ vl vu vs) pl pu ps (by decide) ?_ (by rw [List.size_toArray]; omega)
  rw [pick_back]
  refine ⟨.ref _, _, I5.laid (t' := s4.toks) (o := .lst xs.dropLast.reverse) (fun b ob q => Heap.get?_push_of_some _ q) (Nat.le_refl _) ?_, rfl, q _ (I5.hok.fresh (Nat.le_refl _))⟩
  exact ⟨by rw [List.length_reverse, List.length_dropLast]; omega, _, 0, (Vals.dropLast r).reverse, Heap.get?_push_size _ rfl⟩
def dBack (t : DE) : DE := fun env Q => t env fun d => ∃ xs, d = .lst xs ∧ Q (.lst xs.dropLast.reverse)
theorem Rps.dropLast {H : Hp} {ds : List D} {vs : List V} (r : Rps K H ds vs) : Rps K H ds.dropLast vs.dropLast := by
  rw [List.dropLast_eq_take, List.dropLast_eq_take, r.length]
  exact r.take _
theorem pd_back {e : Expr} {te : TE} {de : DE} {k k2 : Nat} {p1 p2 p3 p4 p5 pos : Pos} (he : PD K X e te de) (q : X.K = K := by rfl) : PD K X (.Subscript e (.Slice (some (.UnaryOp .USub (.Constant (.int 2) k2 p4) p5)) none (some (.UnaryOp .USub (.Constant (.int 1) k p1) p2)) p3) pos) (tBack K te) (dBack de) :=
  ⟨by subst q; exact pe_back he.pe, fun env Q σ H QV hq re k => he.rd env _ σ H _ hq re fun v H1 d s r ⟨xs, e1, q⟩ => by
    subst e1
    obtain ⟨a, vs, rfl, hq, rs⟩ := r.lstE
    exact ⟨a, vs, rfl, hq, fun p hp => k _ _ (.lst xs.dropLast.reverse) (s.trans (same_new hp)) (.lstN hp rs.dropLast.reverse) q⟩⟩
def dRevL (t : DE) : DE := fun env Q => t env fun d => ∃ xs, d = .lst xs ∧ Q (.lst xs.reverse)
theorem pd_revL {e : Expr} {te : TE} {de : DE} {k : Nat} {p1 p2 p3 pos : Pos} (he : PD K X e te de) (q : X.K = K := by rfl) : PD K X (.Subscript e (.Slice none none (some (.UnaryOp .USub (.Constant (.int 1) k p1) p2)) p3) pos) (tRevL K te) (dRevL de) :=
  ⟨by subst q; exact pe_revL he.pe, fun env Q σ H QV hq re k => he.rd env _ σ H _ hq re fun v H1 d s r ⟨xs, e1, q⟩ => by
    subst e1
    obtain ⟨a, vs, rfl, hq, rs⟩ := r.lstE
    exact ⟨a, vs, rfl, hq, fun p hp => k _ _ (.lst xs.reverse) (s.trans (same_new hp)) (.lstN hp rs.reverse) q⟩⟩
/-- t[k:] of a tuple, k written and not negative -/
def dFrom (n : Nat) (t : DE) : DE := fun env Q => t env fun d => ∃ xs, d = .tup xs ∧ Q (.tup (xs.drop n))
theorem cutV_from (vs : List V) (n : Nat) : cutV vs (some (n : Int)) none = vs.drop n := by
  unfold cutV
  rw [HT.sIx_none, HT.sIx_nat]
  by_cases h : n ≤ vs.length
  · rw [Nat.min_eq_left h]
    exact List.take_of_length_le (by rw [List.length_drop]; exact Nat.le_refl _)
  · rw [Nat.min_eq_right (by omega), List.drop_of_length_le (Nat.le_refl _), List.drop_of_length_le (by omega)]; simp
theorem pd_from {e : Expr} {te : TE} {de : DE} {n k : Nat} {p1 p2 pos : Pos} (he : PD K X e te de) (q : X.K = K := by rfl) : PD K X (.Subscript e (.Slice (some (.Constant (.int (n : Int)) k p1)) none none p2) pos) (tSl (rSlA K) te (tPart (tC (.int n))) tNoPart) (dFrom n de) :=
  ⟨by subst q; exact pe_slice sl_tupA he.pe (po_some pe_int) po_none, fun env Q σ H QV hq re k => he.rd env _ σ H _ hq re fun v H1 d s r ⟨xs, e1, q⟩ => by
    subst e1
    obtain ⟨a, vs, rfl, hq, rs⟩ := r.tupE
    refine ⟨(n : Int), rfl, a, vs, rfl, hq, fun hw => ?_, fun _ p hp => ?_⟩
    · have e0 : vs.drop n = vs := by
        rw [← cutV_from]; unfold cutV
        rw [hw.1, hw.2]; simp
      have hn : xs.drop n = xs := by
        have h2 : n = 0 ∨ vs.length = 0 := by
          rw [HT.sIx_nat] at hw
          have := hw.1
          omega
        rcases h2 with h2 | h2
        · subst h2; rfl
        · have : xs = [] := List.eq_nil_of_length_eq_zero (by rw [← rs.length, h2])
          subst this; simp
      exact k _ H1 (.tup (xs.drop n)) s (by rw [hn]; exact .tup hq rs) q
    · rw [cutV_from]
      exact k _ _ (.tup (xs.drop n)) (s.trans (same_new hp)) (.tupN hp (rs.drop n)) q⟩
/-- -n, n written -/
def dNeg (t : DE) : DE := fun env Q => t env fun d => ∃ i, d = .int i ∧ Q (.int (-i))
theorem pd_neg {e : Expr} {te : TE} {de : DE} {pos : Pos} (he : PD K X e te de) : PD K X (.UnaryOp .USub e pos) (tUn (rU fun i => .int (-i)) te) (dNeg de) :=
  ⟨pe_un un_neg he.pe, fun env Q σ H QV hq re k => he.rd env _ σ H _ hq re fun v H1 d s r ⟨i, e1, q⟩ => by
    subst e1
    exact ⟨i, r.intE, k _ H1 (.int (-i)) s .int q⟩⟩
/-- a built-in class as a value -/
theorem pd_ty {n : String} {x : Str} {pos : Pos} (hg : Gl X x) (hm : X.mg x = none) (hv : bootBuiltins x = some (.type n)) (hn : x ≠ "__name__" := by decide) (hd : (x == ("__debug__" : Str)) = false := by decide) : PD K X (.Name x pos) (tC (.ty n)) (dC (.ty n)) :=
  ⟨pe_bltn hg hm hv rfl hn hd, rd_c fun _ => .ty⟩
def fIsNot : D → D → Option D
  | .non, .non => some (.bl false)
  | .bl _, .non => some (.bl true)
  | .int _, .non => some (.bl true)
  | .str _, .non => some (.bl true)
  | .tup _, .non => some (.bl true)
  | .lst _, .non => some (.bl true)
  | _, _ => none
theorem d_isnot : DOp K (fun x y H Q => y = .non ∧ Q (.bl (!decide (x = .non))) H) fIsNot := fun H x y dx dy d QV rx ry e k => by
  unfold fIsNot at e
  split at e <;> cases e
  · rw [rx.nonE]; exact ⟨ry.nonE, k _ H (.refl H) .bl⟩
  · rw [rx.blE]; exact ⟨ry.nonE, k _ H (.refl H) .bl⟩
  · rw [rx.intE]; exact ⟨ry.nonE, k _ H (.refl H) .bl⟩
  · rw [rx.strE]; exact ⟨ry.nonE, k _ H (.refl H) .bl⟩
  · obtain ⟨a, vs, rfl, _⟩ := rx.tupE; exact ⟨ry.nonE, k _ H (.refl H) .bl⟩
  · obtain ⟨a, vs, rfl, _⟩ := rx.lstE; exact ⟨ry.nonE, k _ H (.refl H) .bl⟩
/-- list(range(n)) -/
def dListRg (t : DE) : DE := fun env Q => t env fun d => ∃ n : Int, d = .int n ∧ 0 ≤ n ∧ n ≤ 16777216 ∧ Q (.lst (rangeD 0 n.toNat))
theorem rgV_rangeD {H : Hp} (n : Int) : Rps K H (rangeD 0 n.toNat) (rgV 0 n) := by
  unfold rangeD rgV
  rw [show (n - 0).toNat = n.toNat by rw [Int.sub_zero]]
  have : ∀ l : List Nat, Rps K H (l.map fun (j : Nat) => D.int (0 + (j : Nat))) (l.map fun (j : Nat) => V.int (0 + (j : Nat))) := by
    intro l
    induction l with
    | nil => exact .nil
    | cons x l ih => exact .cons .int ih
  exact this _
theorem pd_listRg {a : Expr} {ta : TE} {da : DE} {p p2 pos pos2 : Pos} (hc : X.calm = true) (hg : Gl X "list") (hm : X.mg "list" = none) (hg2 : Gl X "range") (hm2 : X.mg "range" = none) (ha : PD K X a ta da)
    (na : starEach [a] X.env = (false, eval a X.env) :: starEach [] X.env := by rfl) (na2 : starEach [.Call (.Name "range" p2) [a] [] pos2] X.env = (false, eval (.Call (.Name "range" p2) [a] [] pos2) X.env) :: starEach [] X.env := by rfl) :
    PD K X (.Call (.Name "list" p) [.Call (.Name "range" p2) [a] [] pos2] [] pos) (tLstRg (tRg1 ta)) (dListRg da) :=
  ⟨pe_listRg hc hg hm (prg_1 hg2 hm2 ha.pe na) na2, fun env Q σ H QV hq re k => ha.rd env _ σ H _ hq re fun v H1 d s r ⟨n, e1, h0, h1, q⟩ => by
    subst e1
    refine ⟨n, r.intE, .of_le (by decide) h1 (by decide) h0, fun p hp => ?_⟩
    exact k _ _ (.lst (rangeD 0 n.toNat)) (s.trans (same_new hp)) (.lstN hp (rgV_rangeD n)) q⟩
end
end KQ

set_option Elab.async false
set_option linter.all false
set_option maxRecDepth 100000
set_option maxHeartbeats 8000000
namespace PySem
open PySem.Spec PyProof.Rows L2
open Sem (wp)
section
variable {P : Program} {w : World} {A : Around} {E : Value → Shared → Prop} {s : Shared}
/-- the set as set.__new__ lays it -/
abbrev newSetOb (w : World) : Obj := { cls := .type "set", dict := none, data := .set #[] 0 (.fresh 0 0 (!w.params.followText "set-order")) }
theorem kq_set_list {l : Addr} {items : Array Value} (ns : List Int) {Q : Value → Shared → Prop} (hh : A.handled = none) (hl : s.heap.IsList l items) (hit : IntsAre items.toList ns) (hb : ns.length + 1 < scanBound)
    (h : ∀ (h' : Heap) (tk c : Nat), SetR w h' s.heap.objs.size (fun j => decide (j ∈ ns)) c → c ≤ ns.length → (∀ b o, s.heap.get? b = some o → h'.get? b = some o) → Q (.ref s.heap.objs.size) { s with heap := h', toks := tk }) :
    wpAny (model P w) A (call (.type "set") [.ref l]) Q E s := by
  have hisz : items.size = ns.length := by have q := IntsAre.length hit; rw [Array.length_toList] at q; exact q
  obtain ⟨c, tl, hmro⟩ := F.called_set.mro
  have m1 := F.called_set.made; have m2 := F.called_set.sub
  refine wpAny_call (codeAny_of_tree ?_)
  show wpAny _ _ (callAny (.type "set") _) _ _ _
  refine wpAny_pure ⟨Code.quiet_builtin _ (by decide +kernel), codeAny_builtin F.entry_type_call ?_⟩
  rw [Around.under_plain (weight_type_call_type "set" [.ref l] []) rfl]
  have m3 := F.called_set.notType; have m4 := F.called_set.canCreate; have m5 := F.typeCall_set_1 (.ref l)
  repeat (any_goals (first | assumption | wp_step))
  refine codeAny_mono (code_set_led1 (.ref l) (E := E) (Q₁ := fun obj s₁ => obj = .ref s.heap.objs.size ∧ s₁ = { s with heap := s.heap.push (newSetOb w) }) ⟨rfl, rfl⟩) fun r s₁ hr => ?_
  cases r with
  | error e => exact hr
  | ok fl =>
    cases fl with
    | ret obj =>
      obtain ⟨rfl, rfl⟩ := hr
      have hS : (s.heap.push (newSetOb w)).get? s.heap.objs.size = some (newSetOb w) := Heap.get?_push_size _ rfl
      have hT : Shared.TypeIs { s with heap := s.heap.push (newSetOb w) } (.ref s.heap.objs.size) "set" := ⟨_, hS, rfl⟩
      have n1 := F.called_set.init.lookup; have n2 := F.called_set.init.bind (.ref s.heap.objs.size)
      repeat (any_goals (first | assumption | wp_step))
      refine codeAny_mono (codeAny_call_builtin (R := wants (fun r s₂ => r = .none ∧ ∃ h' tk c, s₂ = { s with heap := h', toks := tk } ∧ SetR w h' s.heap.objs.size (fun j => decide (j ∈ ns)) c ∧ c ≤ ns.length ∧
          (∀ b o, s.heap.get? b = some o → h'.get? b = some o)) E) F.called_set.init.plain F.entry_set_init (check_set_init_1 hT ?_)) fun r₂ s₂ hr₂ => ?_
      · obtain ⟨ol, hol, hcl, hdi, nl, hdl⟩ : ∃ ol : Obj, s.heap.get? l = some ol ∧ ol.cls = .type "list" ∧ True ∧ ∃ nl, ol.data = .seq items nl := by
          obtain ⟨ol, hol, hcl, nl, hdl⟩ := hl
          exact ⟨ol, hol, hcl, True.intro, nl, hdl⟩
        obtain ⟨ocls, odict, odata, oslots⟩ := ol
        simp only at hcl hdl
        subst hcl; subst hdl
        have hol' : (s.heap.push (newSetOb w)).get? l = some { cls := .type "list", dict := odict, data := .seq items nl, slots := oslots } := Heap.get?_push_of_some _ hol
        have b1 := F.sub_list_set; have b2 := F.sub_list_frozenset
        have b3 : (Value.type "list" == Value.type "dict") = false := by decide
        have hl1 : (s.heap.push (newSetOb w)).IsList l items := ⟨_, hol', rfl, nl, rfl⟩
        unfold Builtin.«set.__init__» noKeywords Builtin.Frozenset.updateFrom
        generalize hPI : pyIter = PI
        wp_walk
        subst hPI
        refine wpAny_pyIter_list hl1 ?_
        refine wpAny_bind (wpAny_runValue ?_)
        have hlS : l < s.heap.objs.size := Heap.lt_size hol
        have hh3 : A.in1.in1.in1.handled = none := by simp [hh]
        have hneI : l ≠ (s.heap.push (newSetOb w)).objs.size := by rw [Heap.size_push]; exact Nat.ne_of_lt (Nat.lt_succ_of_lt hlS)
        have hSf : s.heap.objs.size ∉ [(s.heap.push (newSetOb w)).objs.size, l] := by
          rw [Heap.size_push]; simp only [List.mem_cons, List.mem_singleton, List.not_mem_nil, or_false, not_or]; exact ⟨Nat.ne_of_lt (Nat.lt_succ_self _), Nat.ne_of_gt hlS⟩
        have hval : ∀ (i : Nat) (v : Value), items[i]? = some v → ∃ k t, ns[i]? = some k ∧ v = .int k t := fun i v hv => by
          have hi : i < ns.length := by rw [← hisz]; exact (Array.getElem?_eq_some_iff.mp hv).1
          obtain ⟨t, e⟩ := PyProof.Rows.IntsAre.int_at hit i v (by rw [Array.getElem?_toList]; exact hv)
          refine ⟨ns[i], t, List.getElem?_eq_getElem hi, ?_⟩
          rw [e, List.getD_eq_getElem?_getD, List.getElem?_eq_getElem hi] <;> rfl
        refine set_update_ints ((Walks.list hh3 _ l hneI items).toS) s.heap.objs.size hSf ns hisz hb hval (items.size - 0) 0 _ (by omega) (Nat.zero_le _) ⟨⟨_, Heap.get?_push_size _ rfl, rfl, rfl⟩, (hl1.push _)⟩ ?hS0 ?hR
        case hS0 => exact ⟨0, Nat.le_refl 0, setR_new_at (Heap.get?_push_of_some _ hS)⟩
        case hR =>
          intro s' c' hm hc' hS'
          obtain ⟨h', g2, d', tk', os'⟩ := s'
          obtain rfl : g2 = s.gens := hm.gens
          obtain rfl : d' = s.drawn := hm.drawn
          obtain rfl : os' = s.os := hm.os
          show wpAny _ _ _ _ _ _
          refine wpAny_pure ?_
          show wpAny _ _ (ret Value.none) _ _ _
          rw [hisz] at hc'
          refine wpAny_pure ⟨rfl, h', tk', c', rfl, hS', hc', fun b o e => ?_⟩
          have hb0 : b < s.heap.objs.size := Heap.lt_size e
          have hb2 : b ≠ (s.heap.push (newSetOb w)).objs.size := by rw [Heap.size_push]; exact Nat.ne_of_lt (Nat.lt_succ_of_lt hb0)
          exact hm.heap b o (by simp only [List.mem_cons, List.mem_singleton, List.not_mem_nil, or_false, not_or]; exact ⟨Nat.ne_of_lt hb0, hb2⟩) (Heap.get?_push_of_some _ (Heap.get?_push_of_some _ e))
      · cases r₂ with
        | error e => exact hr₂
        | ok fl₂ =>
          cases fl₂ with
          | ret r =>
            obtain ⟨rfl, h', tk, c', rfl, hS', hc', hk'⟩ := hr₂
            repeat (any_goals (first | assumption | wp_step))
            exact h _ _ _ hS' hc' hk'
          | _ => exact hr₂.elim
    | _ => exact hr.elim
end
end PySem
namespace KQ
open PySem L2 PyProof.Rows PySem.Spec
/-- set(xs), xs a list of ints -/
def rSetL (w : World) (K : PySem.W.Frag) : List V → Hp → VK → Prop := fun vs H Q => ∃ (a : Addr) (ns : List Int), vs = [.ref a] ∧ SqL K H a (ns.map V.int) ∧ ns.length < 64 ∧ ∀ p c, c ≤ ns.length → H p = none → Q (.ref p) (upd H p (SetO w p (fun j => decide (j ∈ ns)) c))
section
variable {X : Cx} {K : PySem.W.Frag}
theorem cr_setL (hc : X.calm = true) : CallR X (.type "set") (rSetL X.w X.K) := by
  intro pins s σ H vs us Q I r h
  obtain ⟨a, ns, rfl, hq, h64, q⟩ := h
  rw [Vals.ref1 r]
  obtain ⟨its, rv, pl, hz⟩ := I.list hq
  refine kq_set_list ns (I.ok.hd hc) pl.isList (by simpa using Vals.ints rv) (by unfold scanBound; omega) fun h' tk c hS hc' hk => ?_
  exact ⟨.ref _, upd H s.heap.objs.size (SetO X.w s.heap.objs.size (fun j => decide (j ∈ ns)) c), I.laid (t' := tk) hk (Nat.le_refl _) (setO_new hS), rfl, q _ c hc' (I.hok.fresh (Nat.le_refl _))⟩
def dSortSet (t : DE) : DE := fun env Q => t env fun d => ∃ ns ms : List Int, d = .lst (ns.map D.int) ∧ ns.length < 64 ∧ ms.Pairwise (· < ·) ∧ (∀ k, k ∈ ms ↔ k ∈ ns) ∧ Q (.lst (ms.map D.int))
theorem asc_unique : ∀ {xs ys : List Int}, xs.Pairwise (· < ·) → ys.Pairwise (· < ·) → (∀ k, k ∈ xs ↔ k ∈ ys) → xs = ys
  | [], [], _, _, _ => rfl
  | [], y :: ys, _, _, h => by have := (h y).mpr List.mem_cons_self; cases this
  | x :: xs, [], _, _, h => by have := (h x).mp List.mem_cons_self; cases this
  | x :: xs, y :: ys, h1, h2, h => by
    rw [List.pairwise_cons] at h1 h2
    have e : x = y := by
      have a := (h x).mp List.mem_cons_self
      have b := (h y).mpr List.mem_cons_self
      rcases List.mem_cons.mp a with a | a
      · exact a
      · rcases List.mem_cons.mp b with b | b
        · exact b.symm
        · have := h1.1 y b; have := h2.1 x a; omega
    subst e
    congr 1
    refine asc_unique h1.2 h2.2 fun k => ⟨fun q => ?_, fun q => ?_⟩
    · rcases List.mem_cons.mp ((h k).mp (List.mem_cons_of_mem _ q)) with e | e
      · subst e; have := h1.1 k q; omega
      · exact e
    · rcases List.mem_cons.mp ((h k).mpr (List.mem_cons_of_mem _ q)) with e | e
      · subst e; have := h2.1 k q; omega
      · exact e
theorem pd_sortSet {e : Expr} {te : TE} {de : DE} {p p2 pos pos2 : Pos} (hc : X.calm = true) (hg : Gl X "sorted") (hm : X.mg "sorted" = none) (hg2 : Gl X "set") (hm2 : X.mg "set" = none) (he : PD K X e te de)
    (n1 : starEach [e] X.env = (false, eval e X.env) :: starEach [] X.env := by rfl) (n2 : starEach [.Call (.Name "set" p2) [e] [] pos2] X.env = (false, eval (.Call (.Name "set" p2) [e] [] pos2) X.env) :: starEach [] X.env := by rfl) (q : X.K = K := by rfl) :
    PD K X (.Call (.Name "sorted" p) [.Call (.Name "set" p2) [e] [] pos2] [] pos) (tCB (rSortedSet X.w) (tCons (tCB (rSetL X.w K) (tCons te tNil)) tNil)) (dSortSet de) :=
  ⟨by subst q; exact pe_callB (cr_sortedSet hc) hg hm (by decide +kernel) (pa_cons (pe_callTy (cr_setL hc) hg2 hm2 (by decide +kernel) (pa_cons he.pe pa_nil n1) (by decide) (by decide) n1 (by rfl)) pa_nil n2) (by decide) (by decide) n2 (by rfl), fun env Q σ H QV hq re k => by
    refine he.rd env _ σ H _ hq re fun v H1 d s r ⟨ns, ms, e1, h64, hp, hmem, q⟩ => ?_
    subst e1
    obtain ⟨a, vs, rfl, hq, rs⟩ := r.lstE
    cases rs.intsE
    refine ⟨a, ns, rfl, hq, h64, fun p c hc' hp0 => ?_⟩
    refine ⟨p, fun j => decide (j ∈ ns), c, rfl, upd_same, by omega, fun ks p2 hk hkm _ hp2 => ?_⟩
    have e2 : ks = ms := asc_unique hk hp fun j => by rw [hkm, hmem]; simp
    subst e2
    exact k _ _ (.lst (ks.map D.int)) ((s.trans (same_new hp0)).trans (same_new hp2)) (.lstN hp2 (Rps.ints ks)) q⟩
end
end KQ

set_option Elab.async false
set_option linter.all false
set_option maxRecDepth 100000
set_option maxHeartbeats 4000000
namespace KQ
open PySem L2

/-! ### a def with one list of its own, in slot o, that it changes -/
/-- the slots without lists -/
def imm1 (env : Env') : Env' := env.map fun o => match o with
  | some d => if imm d = true then some d else none
  | none => none
theorem imm1_imm (env : Env') : immE (imm1 env) = true := by
  unfold immE imm1
  rw [List.all_map]
  refine List.all_eq_true.mpr fun o _ => ?_
  cases o with
  | none => rfl
  | some d =>
    simp only [Function.comp]
    by_cases h : imm d = true
    · simp [h]
    · simp [h]
theorem imm1_less {env : Env'} {i : Nat} {d : D} (h : (imm1 env)[i]? = some (some d)) : env[i]? = some (some d) := by
  unfold imm1 at h
  rw [List.getElem?_map] at h
  cases e : env[i]? with
  | none => rw [e] at h; cases h
  | some o =>
    rw [e] at h
    simp only [Option.map_some, Option.some.injEq] at h
    cases o with
    | none => cases h
    | some x =>
      simp only at h
      split at h
      · cases h; rfl
      · cases h
theorem imm1_len (env : Env') : (imm1 env).length = env.length := by unfold imm1; rw [List.length_map]
structure REO (K : PySem.W.Frag) (H0 H : Hp) (env : Env') (σ : St) (o : Nat) (xs : List D) : Prop where
  re : RE K H env σ
  s0 : Same H0 H
  own : ∃ a vs, σ[o]? = some (some (.ref a)) ∧ H a = some (.lst vs) ∧ Rps K H xs vs ∧ H0 a = none
  im : immAll xs = true
  no : ∀ d, env[o]? ≠ some (some d)
/-- the slots with the list to be read -/
def star (env : Env') (o : Nat) (xs : List D) : Env' := env.set o (some (.lst xs))
section
variable {K : PySem.W.Frag} {H0 H H' : Hp} {env : Env'} {σ : St} {o : Nat} {xs : List D}
theorem REO.star (r : REO K H0 H env σ o xs) : RE K H (star env o xs) σ := by
  obtain ⟨a, vs, h1, h2, h3, _⟩ := r.own
  have := r.re.set (Rp.lst (.inl (.inl h2)) h3) o
  have e : σ.set o (some (.ref a)) = σ := by
    refine List.ext_getElem? fun j => ?_
    by_cases hj : o = j
    · subst hj
      have ho : o < σ.length := (List.getElem?_eq_some_iff.mp h1).1
      rw [List.getElem?_set_self ho, h1]
    · rw [List.getElem?_set_ne hj]
  rwa [e] at this
theorem REO.s (r : REO K H0 H env σ o xs) (e : Same H H') : REO K H0 H' env σ o xs := by
  obtain ⟨a, vs, h1, h2, h3, h4⟩ := r.own
  exact ⟨r.re.s e, r.s0.trans e, ⟨a, vs, h1, e _ _ h2, h3.s e, h4⟩, r.im, r.no⟩
theorem REO.set (r : REO K H0 H env σ o xs) {i : Nat} (hi : i ≠ o) {d : D} {v : V} (rv : Rp K H d v) : REO K H0 H (env.set i (some d)) (σ.set i (some v)) o xs := by
  obtain ⟨a, vs, h1, h2, h3, h4⟩ := r.own
  refine ⟨r.re.set rv i, r.s0, ⟨a, vs, by rw [List.getElem?_set_ne hi]; exact h1, h2, h3, h4⟩, r.im, fun e => ?_⟩
  rw [List.getElem?_set_ne hi]; exact r.no e
/-- the list is changed -/
theorem REO.upd (r : REO K H0 H env σ o xs) {a : Addr} {vs vs' : List V} {xs' : List D} (h1 : σ[o]? = some (some (.ref a))) (h2 : H a = some (.lst vs)) (h4 : H0 a = none) (m : immAll xs' = true) (r' : Rps K H xs' vs') : REO K H0 (L2.upd H a (.lst vs')) (imm1 env) σ o xs' := by
  have tu : TupS H (L2.upd H a (.lst vs')) := .upd (by rw [h2]; trivial)
  refine ⟨((r.re.less (imm1_len env) fun i d q => imm1_less q).t (imm1_imm env) tu), fun b u e => ?_, ⟨a, vs', h1, upd_same, r'.t m tu, h4⟩, m, fun d e => r.no d (imm1_less e)⟩
  rw [upd_ne (ne_of_none e h4)]
  exact r.s0 _ _ e
end
structure EndsO where
  nx : Env' → List D → Prop
  rt : D → Prop
abbrev DSO := EndsO → Env' → List D → Prop
def RSO (K : PySem.W.Frag) (o : Nat) (ts : TS) (t : DSO) : Prop := ∀ (H0 : Hp) (env : Env') (xs : List D) (DD : EndsO) (σ : St) (H : Hp) (D' : Ends), t DD env xs → REO K H0 H env σ o xs →
  (∀ env' xs' σ' H', REO K H0 H' env' σ' o xs' → DD.nx env' xs' → D'.nx σ' H') → (∀ d v H', Same H0 H' → Rp K H' d v → DD.rt d → D'.rt v H') → ts D' σ H
structure PSO (K : PySem.W.Frag) (X : Cx) (o : Nat) (s : Stmt) (ts : TS) (t : DSO) : Prop where
  pe : PS X s ts
  rd : RSO K o ts t
structure PSsO (K : PySem.W.Frag) (X : Cx) (o : Nat) (s : List Stmt) (ts : TS) (t : DSO) : Prop where
  pe : PSs X s ts
  rd : RSO K o ts t
section
variable {X : Cx} {K : PySem.W.Frag} {o : Nat} {st : Stmt} {rest : List Stmt} {ts us : TS} {t u : DSO} {e : Expr} {te : TE} {de : DE} {pos : Pos}
def oSeq (t u : DSO) : DSO := fun DD env xs => t { DD with nx := u DD } env xs
theorem pso_cons (h1 : PSO K X o st ts t) (h2 : PSsO K X o rest us u) : PSsO K X o (st :: rest) (tSeq ts us) (oSeq t u) := ⟨pss_cons h1.pe h2.pe, fun H0 env xs DD σ H D' hq r kn kr =>
  h1.rd H0 env xs _ σ H _ hq r (fun env' xs' σ' H' r' q' => h2.rd H0 env' xs' DD σ' H' D' q' r' kn kr) kr⟩
theorem pso_one (h1 : PSO K X o st ts t) : PSsO K X o [st] ts t := ⟨pss_one h1.pe, h1.rd⟩
def oNext : DSO := fun DD env xs => DD.nx env xs
theorem pso_nil : PSsO K X o [] tNext oNext := ⟨pss_nil, fun H0 env xs DD σ H D' hq r kn kr => kn env xs σ H r hq⟩
def oRet (o : Nat) (t : DE) : DSO := fun DD env xs => t (star env o xs) DD.rt
theorem ps_retO (h : PD K X e te de) : PSO K X o (.Return (some e) pos) (tRet te) (oRet o de) := ⟨ps_ret h.pe, fun H0 env xs DD σ H D' hq r kn kr => h.rd _ _ σ H _ hq r.star fun v H' d s rv q => kr d v H' (r.s0.trans s) rv q⟩
def oSet (o : Nat) (t : DE) (i : Nat) : DSO := fun DD env xs => t (star env o xs) fun d => DD.nx (env.set i (some d)) xs
theorem ps_setO {i : Nat} {x : Str} {pos' : Pos} (hN : X.N.Nodup) (h : PD K X e te de) (hio : i ≠ o := by decide) (hi : X.N[i]? = some x := by rfl) (hx : Loc X.env.scope x := by first | exact .inl rfl | exact .inr rfl) (hs : swapsWith e (some (.Name x pos')) pos.line X.env = pure false := by rfl) (hf : X.fn x = true ∨ X.env.scope.names.lookup x = some .local := by first | exact .inl rfl | exact .inr rfl | assumption) :
    PSO K X o (.Assign [.Name x pos'] e pos) (tAsg te (gName i)) (oSet o de i) := ⟨ps_set hN hi hx h.pe hs hf, fun H0 env xs DD σ H D' hq r kn kr => h.rd _ _ σ H _ hq r.star fun v H' d s rv q => kn _ xs _ H' ((r.s s).set hio rv) q⟩
def oIf (o : Nat) (c : DT) (t u : DSO) : DSO := fun DD env xs => c (star env o xs) fun b => if b = true then t DD env xs else u DD env xs
theorem ps_ifO {c : Expr} {a b : List Stmt} {tc : TT} {dc : DT} (hc : PTD K X c tc dc) (ha : PSsO K X o a ts t) (hb : PSsO K X o b us u) : PSO K X o (.If c a b pos) (tIfS tc ts us) (oIf o dc t u) :=
  ⟨ps_if hc.pe ha.pe hb.pe, fun H0 env xs DD σ H D' hq r kn kr => hc.rd _ _ σ H _ hq r.star fun b H1 s q => by
    cases b with
    | true => exact ha.rd H0 env xs DD σ H1 D' q (r.s s) kn kr
    | false => exact hb.rd H0 env xs DD σ H1 D' q (r.s s) kn kr⟩
/-- o.append(e) -/
def oApp (o : Nat) (t : DE) : DSO := fun DD env xs => t (star env o xs) fun d => imm d = true ∧ xs.length < sizeLine ∧ DD.nx (imm1 env) (xs ++ [d])
theorem ps_appO {x : Str} {p apos cpos : Pos} (h : PD K X e te de)
    (pe : PE X e te → PE X (.Call (.Attribute (.Name x p) "append" apos) [e] [] cpos) (tBM X.K "list" rAppend (tVar o) (tCons te tNil))) (hs : swapsWith (.Call (.Attribute (.Name x p) "append" apos) [e] [] cpos) none pos.line X.env = pure false := by rfl) :
    PSO K X o (.Expr (.Call (.Attribute (.Name x p) "append" apos) [e] [] cpos) pos) (tDrop (tBM X.K "list" rAppend (tVar o) (tCons te tNil))) (oApp o de) :=
  ⟨ps_expr (pe h.pe) hs, fun H0 env xs DD σ H D' hq r kn kr => by
    obtain ⟨a, vs, h1, h2, h3, h4⟩ := r.own
    refine ⟨_, h1, .inl ⟨rfl, _, .inl (.inl h2)⟩, ?_⟩
    refine h.rd _ _ σ H _ hq r.star fun v H' d s rv ⟨m, hz, q⟩ => ?_
    refine ⟨a, vs, v, rfl, rfl, s _ _ h2, by rw [h3.length]; exact hz, ?_⟩
    exact kn _ _ _ _ ((r.s s).upd h1 (s _ _ h2) h4 (by rw [immAll_append, r.im]; simp [immAll, m]) ((h3.s s).append (.cons rv .nil))) q⟩
/-- a fresh list -/
def RF (K : PySem.W.Frag) (te : TE) (t : DA) : Prop := ∀ (env : Env') (Q : List D → Prop) (σ : St) (H : Hp) (QV : VK), t env Q → RE K H env σ → (∀ p vs H' ds, Same H H' → H p = none → H' p = some (.lst vs) → Rps K H' ds vs → Q ds → QV (.ref p) H') → te σ H QV
structure PF (K : PySem.W.Frag) (X : Cx) (e : Expr) (te : TE) (t : DA) : Prop where
  pe : PE X e te
  rd : RF K te t
/-- o.extend(fresh) -/
def oExt (o : Nat) (t : DA) : DSO := fun DD env xs => t (star env o xs) fun ds => immAll ds = true ∧ xs.length + ds.length ≤ sizeLine ∧ DD.nx (imm1 env) (xs ++ ds)
theorem ps_extO {dl : DA} {x : Str} {p apos cpos : Pos} (h : PF K X e te dl)
    (pe : PE X e te → PE X (.Call (.Attribute (.Name x p) "extend" apos) [e] [] cpos) (tBM X.K "list" rExtend (tVar o) (tCons te tNil))) (hs : swapsWith (.Call (.Attribute (.Name x p) "extend" apos) [e] [] cpos) none pos.line X.env = pure false := by rfl) :
    PSO K X o (.Expr (.Call (.Attribute (.Name x p) "extend" apos) [e] [] cpos) pos) (tDrop (tBM X.K "list" rExtend (tVar o) (tCons te tNil))) (oExt o dl) :=
  ⟨ps_expr (pe h.pe) hs, fun H0 env xs DD σ H D' hq r kn kr => by
    obtain ⟨a, vs, h1, h2, h3, h4⟩ := r.own
    refine ⟨_, h1, .inl ⟨rfl, _, .inl (.inl h2)⟩, ?_⟩
    refine h.rd _ _ σ H _ hq r.star fun b ws H' ds s hb hb' rv ⟨m, hz, q⟩ => ?_
    refine ⟨a, b, vs, ws, rfl, rfl, s _ _ h2, hb', by rw [h3.length, rv.length]; exact hz, ?_⟩
    exact kn _ _ _ _ ((r.s s).upd h1 (s _ _ h2) h4 (by rw [immAll_append, r.im, m]; rfl) ((h3.s s).append rv)) q⟩
/-- o = a fresh list -/
def oNew (t : DA) : EndsO → Env' → Prop := fun DD env => t env fun ds => immAll ds = true ∧ DD.nx env ds
/-- x, y = o.pop(): a pair from the end -/
def oPop2 (i j : Nat) : DSO := fun DD env xs => ∃ (ys : List D) (a b : D), xs = ys ++ [.tup [a, b]] ∧ DD.nx (((imm1 env).set i (some a)).set j (some b)) ys
/-- while -/
def oWhile (o : Nat) (c : DT) (tb : DSO) : DSO := fun DD env xs => ∃ I : Nat → Env' → List D → Prop, (∃ n, I n env xs) ∧ ∀ n env xs, I n env xs → c (star env o xs) fun b => if b = true then tb { DD with nx := fun env' xs' => ∃ n', n' < n ∧ I n' env' xs' } env xs else DD.nx env xs
theorem ps_whileO {c : Expr} {body : List Stmt} {tc : TT} {dc : DT} (hp : PassesOwn (model X.prog X.w) X.A X.env X.xe) (hc : PTD K X c tc dc) (hb : PSsO K X o body ts t) : PSO K X o (.While c body [] pos) (tWhile tc ts) (oWhile o dc t) :=
  ⟨ps_while hp hc.pe hb.pe, fun H0 env xs DD σ H D' hq r kn kr => by
    obtain ⟨I, ⟨n, h0⟩, hI⟩ := hq
    refine ⟨fun m σ' H' => ∃ env' xs', REO K H0 H' env' σ' o xs' ∧ I m env' xs', ⟨n, env, xs, r, h0⟩, ?_⟩
    rintro m σ1 H1 ⟨env1, xs1, r1, i1⟩
    refine hc.rd _ _ σ1 H1 _ (hI m env1 xs1 i1) r1.star fun b H2 s q => ?_
    cases b with
    | false => exact iteF (kn env1 xs1 σ1 H2 (r1.s s) q)
    | true =>
      refine iteT ⟨fun σ' H' => ∃ n', n' < m ∧ ∃ env' xs', REO K H0 H' env' σ' o xs' ∧ I n' env' xs', fun σ' H' h => h, ?_⟩
      refine hb.rd H0 env1 xs1 _ σ1 H2 _ q (r1.s s) (fun env' xs' σ' H' r' ⟨n', hn, i'⟩ => ⟨n', hn, env', xs', r', i'⟩) kr⟩
/-- for x in a list of data, for x in range(n) -/
def oForL (i : Nat) (tb : DSO) : List D → DSO
  | [], DD, env, xs => DD.nx env xs
  | x :: ys, DD, env, xs => tb { DD with nx := oForL i tb ys DD } (env.set i (some x)) xs
def oForR (o : Nat) (src : DA) (i : Nat) (tb : DSO) : DSO := fun DD env xs => src (star env o xs) fun ds => ∃ n : Int, ds = [.int n] ∧ 0 ≤ n ∧ n < 2 ^ 62 ∧ oForL i tb (rangeD 0 n.toNat) DD env xs
theorem ps_forRO {a : Expr} {body : List Stmt} {tl : TA} {dl : DA} {i : Nat} {x : Str} {p tpos rpos : Pos} (hp : PassesOwn (model X.prog X.w) X.A X.env X.xe) (hc : X.calm = true) (hgl : Gl X "range") (hm : X.mg "range" = none) (hi : PAD K X [a] tl dl) (hg : PG X (.Name x tpos) (gName i)) (hb : PSsO K X o body ts t) (hio : i ≠ o := by decide)
    (hst : starEach [a] X.env = [(false, eval a X.env)] := by rfl) (hs : ∀ x, foldedSetIterable (.Call (.Name "range" p) [a] [] rpos) X.env x = pure x := by intro _; rfl) :
    PSO K X o (.For (.Name x tpos) (.Call (.Name "range" p) [a] [] rpos) body [] pos) (tFor (iRng1 tl) (gName i) ts) (oForR o dl i t) :=
  ⟨ps_for hp hc (pi_range1 hgl hm hi.pe hst) hg hb.pe hs, fun H0 env xs DD σ H D' hq r kn kr => by
    refine hi.rd _ _ σ H _ hq r.star fun vs H1 ds s rv ⟨n, e, hn0, hn, q⟩ => ?_
    subst e
    obtain ⟨v, rfl, h1⟩ := rv.one
    refine ⟨n, by rw [h1.intE], by omega, hn, ?_⟩
    refine for_range (lo := 0) (n := n.toNat) (fun m σ' H' => ∃ env' xs', REO K H0 H' env' σ' o xs' ∧ oForL i t ((rangeD 0 n.toNat).drop m) DD env' xs') ⟨env, xs, r.s s, q⟩ (fun m σ' H' hm ⟨env', xs', r', q'⟩ => ?_) fun σ' H' ⟨env', xs', r', q'⟩ => ?_
    · have hlt : m < (rangeD 0 n.toNat).length := by rw [rangeD_len]; exact hm
      have e1 : (rangeD 0 n.toNat)[m] = .int (0 + (m : Nat)) := (List.getElem?_eq_some_iff.mp (rangeD_get hm)).2
      rw [List.drop_eq_getElem_cons hlt, e1] at q'
      exact hb.rd H0 _ xs' _ _ H' _ q' (r'.set hio .int) (fun e3 x3 σ3 H3 r3 q3 => ⟨e3, x3, r3, q3⟩) kr
    · rw [List.drop_of_length_le (by rw [rangeD_len]; exact Nat.le_refl _)] at q'
      exact kn env' xs' σ' H' r' q'⟩
def oFor (o : Nat) (src : DE) (i : Nat) (tb : DSO) : DSO := fun DD env xs => src (star env o xs) fun s => ∃ ys, s = .lst ys ∧ immAll ys = true ∧ xs.length ≠ ys.length ∧ oForL i tb ys DD env xs
def mask (H : Hp) (a : Addr) : Hp := fun b => if b = a then none else H b
theorem mask_at {H : Hp} {a : Addr} : mask H a a = none := by unfold mask; rw [if_pos rfl]
theorem mask_ne {H : Hp} {a b : Addr} (h : b ≠ a) : mask H a b = H b := by unfold mask; rw [if_neg h]
theorem mask_same {H H' : Hp} {a : Addr} : Same (mask H a) H := fun b u e => by
  by_cases h : b = a
  · subst h; rw [mask_at] at e; cases e
  · rwa [mask_ne h] at e
theorem same_mask {H0 H : Hp} {a : Addr} (s : Same H0 H) (h : H0 a = none) : Same H0 (mask H a) := fun b u e => by rw [mask_ne (ne_of_none e h)]; exact s _ _ e
theorem REO.base {H0 H1 H : Hp} {env : Env'} {σ : St} {xs : List D} (r : REO K H1 H env σ o xs) (s : Same H0 H1) : REO K H0 H env σ o xs := by
  obtain ⟨a, vs, h1, h2, h3, h4⟩ := r.own
  exact ⟨r.re, s.trans r.s0, ⟨a, vs, h1, h2, h3, s.free h4⟩, r.im, r.no⟩
theorem ps_forO {iter : Expr} {body : List Stmt} {tl : TE} {dl : DE} {i : Nat} {x : Str} {tpos : Pos} (hp : PassesOwn (model X.prog X.w) X.A X.env X.xe) (hc : X.calm = true) (hi : PD K X iter tl dl) (hg : PG X (.Name x tpos) (gName i)) (hb : PSsO K X o body ts t) (hio : i ≠ o := by decide)
    (hs : ∀ x, foldedSetIterable iter X.env x = pure x := by intro _; rfl) (q : X.K = K := by rfl) : PSO K X o (.For (.Name x tpos) iter body [] pos) (tFor (iList K tl) (gName i) ts) (oFor o dl i t) := by
  refine ⟨by subst q; exact ps_for hp hc (pi_list hi.pe) hg hb.pe hs, fun H0 env xs DD σ H D' hq r kn kr => ?_⟩
  obtain ⟨a, ws, h1, h2, h3, h4⟩ := r.own
  refine hi.rd _ _ σ H _ hq r.star fun v H1 d s rv ⟨ys, e, m, hne, q'⟩ => ?_
  subst e
  obtain ⟨b, vs, rfl, hq', rs⟩ := rv.lstE
  have h2' := s _ _ h2
  have s01 : Same H0 (mask H1 a) := same_mask (r.s0.trans s) h4
  have bstay : ∀ H', Same (mask H1 a) H' → SqL K H' b vs := fun H' hk => by
    rcases hq' with (h | ⟨ob, h⟩) | h
    · refine .inl (.inl (hk _ _ ?_))
      rw [mask_ne]; exact h
      intro e; subst e
      rw [h2'] at h; cases h
      exact hne (by rw [← h3.length, ← rs.length])
    · refine .inl (.inr ⟨ob, hk _ _ ?_⟩)
      rw [mask_ne]; exact h
      intro e; subst e
      rw [h2'] at h; cases h
    · exact .inr h
  have tst : ∀ H', Same (mask H1 a) H' → TupS H1 H' := fun H' hk c => ⟨fun us hu => hk _ _ (by rw [mask_ne]; exact hu; intro e; subst e; rw [h2'] at hu; cases hu), fun ob us hu => hk _ _ (by rw [mask_ne]; exact hu; intro e; subst e; rw [h2'] at hu; cases hu)⟩
  have r1 : REO K (mask H1 a) H1 env σ o xs := ⟨r.re.s s, mask_same (H' := H1), ⟨a, ws, h1, h2', h3.s s, mask_at⟩, r.im, r.no⟩
  refine ⟨b, rfl, ⟨vs, hq'⟩, ?_⟩
  refine for_list (K := K) (a := b) (xs := vs) (fun n σ' H' => ∃ env' xs', REO K (mask H1 a) H' env' σ' o xs' ∧ oForL i t (ys.drop n) DD env' xs') ⟨env, xs, r1, q'⟩
    (fun n σ' H' _ ⟨_, _, r', _⟩ => bstay H' r'.s0) (fun n x σ' H' hx ⟨env', xs', r', q2⟩ => ?_) fun σ' H' ⟨env', xs', r', q2⟩ => ?_
  · have hlt : n < ys.length := by rw [← rs.length]; exact (List.getElem?_eq_some_iff.mp hx).1
    obtain ⟨w, e1, rw1⟩ := (rs.t m (tst H' r'.s0)).get (List.getElem?_eq_getElem hlt)
    rw [hx] at e1; cases e1
    rw [List.drop_eq_getElem_cons hlt] at q2
    exact hb.rd (mask H1 a) _ xs' _ _ H' _ q2 (r'.set hio rw1) (fun e3 x3 σ3 H3 r3 q3 => ⟨e3, x3, r3, q3⟩) fun d v H3 s3 => kr d v H3 (s01.trans s3)
  · rw [List.drop_of_length_le (by rw [rs.length]; exact Nat.le_refl _)] at q2
    exact kn env' xs' σ' H' (r'.base s01) q2
/-- x, y = o.pop() -/
theorem ps_pop2O {i j : Nat} {tg : Expr} {x : Str} {p apos cpos : Pos} (hio : i ≠ o := by decide) (hjo : j ≠ o := by decide)
    (pe : PE X (.Call (.Attribute (.Name x p) "pop" apos) [] [] cpos) (tBM0 X.K "list" rPop (tVar o))) (pg : PG X tg (gTup X.K 2 (gCons (gName i) (gCons (gName j) gNil))))
    (hs : swapsWithSole [tg] (.Call (.Attribute (.Name x p) "pop" apos) [] [] cpos) pos.line X.env = pure false := by rfl) (hw : swappedStores [tg] (.Call (.Attribute (.Name x p) "pop" apos) [] [] cpos) X.env = pure none := by rfl) (h1 : (assignEach [tg] X.env).map (·.2) = [assign tg X.env] := by rfl) (q : X.K = K := by rfl) :
    PSO K X o (.Assign [tg] (.Call (.Attribute (.Name x p) "pop" apos) [] [] cpos) pos) (tAsg (tBM0 X.K "list" rPop (tVar o)) (gTup X.K 2 (gCons (gName i) (gCons (gName j) gNil)))) (oPop2 i j) :=
  ⟨ps_asg pe pg hs hw h1, fun H0 env xs DD σ H D' hq r kn kr => by
    subst q
    obtain ⟨ys, d1, d2, rfl, q⟩ := hq
    obtain ⟨a, vs, e1, e2, e3, e4⟩ := r.own
    obtain ⟨m1, m2⟩ : immAll ys = true ∧ immAll [.tup [d1, d2]] = true := by have := r.im; rw [immAll_append, Bool.and_eq_true] at this; exact this
    have hl := e3.length
    simp only [List.length_append, List.length_cons, List.length_nil] at hl
    obtain ⟨v, hv, rv⟩ := e3.get (i := ys.length) (d := .tup [d1, d2]) (by simp)
    have hv' : vs[vs.length - 1]? = some v := by rw [hl]; simpa using hv
    have r3 := e3.dropLast
    rw [List.dropLast_concat] at r3
    have tu : TupS H (L2.upd H a (.lst vs.dropLast)) := .upd (by rw [e2]; trivial)
    have r' := r.upd e1 e2 e4 m1 r3
    have rv' : Rp X.K (L2.upd H a (.lst vs.dropLast)) (.tup [d1, d2]) v := rv.t (by simpa [immAll] using m2) tu
    obtain ⟨b, us, rfl, hb, ru⟩ := rv'.tupE
    unfold Rps at ru
    obtain ⟨u1, r1, rfl, g1, g2⟩ := ru
    obtain ⟨u2, rfl, g3⟩ := g2.one
    refine ⟨_, e1, .inl ⟨rfl, _, .inl (.inl e2)⟩, a, vs, _, rfl, rfl, e2, hv', ?_⟩
    refine ⟨b, _, rfl, hb, rfl, u1, [u2], rfl, u2, [], rfl, rfl, ?_⟩
    exact kn _ _ _ _ ((r'.set hio g1).set hjo g3) q⟩
/-- the own list is made -/
def dOwn (o : Nat) (dl : DA) (t : DSO) : DS := fun DD env => o < env.length ∧ dl env fun ds => immAll ds = true ∧ t ⟨fun _ _ => False, DD.rt⟩ (env.set o none) ds
theorem psd_own {dl : DA} {x : Str} {pos' : Pos} (hN : X.N.Nodup) (h : PF K X e te dl) (hr : PSsO K X o rest ts t) (hi : X.N[o]? = some x := by rfl) (hx : Loc X.env.scope x := by first | exact .inl rfl | exact .inr rfl) (hs : swapsWith e (some (.Name x pos')) pos.line X.env = pure false := by rfl) (hf : X.fn x = true ∨ X.env.scope.names.lookup x = some .local := by first | exact .inl rfl | exact .inr rfl | assumption) : PSsD K X (.Assign [.Name x pos'] e pos :: rest) (tSeq (tAsg te (gName o)) ts) (dOwn o dl t) :=
  ⟨pss_cons (ps_set hN hi hx h.pe hs hf) hr.pe, fun env DD σ H D' hq re kn kr => by
    obtain ⟨hlt, hq⟩ := hq
    rw [re.1] at hlt
    refine h.rd _ _ σ H _ hq re fun p vs H1 ds s hp hp' rv ⟨m, q⟩ => ?_
    · refine hr.rd H (env.set o none) ds _ (σ.set o (some (.ref p))) H1 D' q ⟨?_, s, ⟨p, vs, by rw [List.getElem?_set_self hlt], hp', rv, hp⟩, m, fun d e => ?_⟩ (fun _ _ _ _ _ z => z.elim) kr
      · refine ⟨by simpa using re.1, fun j d e => ?_⟩
        by_cases hj : o = j
        · subst hj
          rw [List.getElem?_set_self (by rw [re.1]; exact hlt)] at e; cases e
        · rw [List.getElem?_set_ne hj] at e ⊢
          exact (re.s s).2 j d e
      · rw [List.getElem?_set_self (by rw [re.1]; exact hlt)] at e; cases e⟩
/-- a written list, a comprehension: new -/
theorem pf_lst {es : List Expr} {tl : TA} {dl : DA} (h : PAD K X es tl dl) : PF K X (.List es pos) (tLst tl) (fun env Q => dl env fun ds => ds.length ≤ sizeLine ∧ Q ds) :=
  ⟨pe_lst h.pe, fun env Q σ H QV hq re k => h.rd env _ σ H _ hq re fun vs H1 ds s r q => ⟨by rw [r.length]; exact q.1, fun p hp => k p vs _ ds (s.trans (same_new hp)) (s.free hp) upd_same (r.s (same_new hp)) q.2⟩⟩
theorem lc_doneF {i : Nat} {dt : DT} {de : DE} {env : Env'} {xs : List D} {Q : List D → Prop} {H1 H : Hp} {A : Addr} {n : Nat} {QV : VK} {H0 : Hp} (s0 : Same H0 H1) (hA : H1 A = none) (hn : xs.length ≤ n) (p : LcAt K i dt de env xs Q H1 A n H)
    (k : ∀ p vs H' ds, Same H0 H' → H0 p = none → H' p = some (.lst vs) → Rps K H' ds vs → Q ds → QV (.ref p) H') : QV (.ref A) H := by
  obtain ⟨s, accD, accV, h1, h2, h3, h4⟩ := p
  rw [List.drop_of_length_le hn] at h4
  exact k A accV H accD (s0.trans s) (s0.free hA) h1 h2 h4
def dLcLF (src : DE) (i : Nat) (dt : DT) (de : DE) : DA := fun env Q => src env fun s => ∃ xs, s = .lst xs ∧ dLoop i dt de env xs [] Q
def dLcRF (src : DA) (i : Nat) (dt : DT) (de : DE) : DA := fun env Q => src env fun ds => ∃ j : Int, ds = [.int j] ∧ 0 ≤ j ∧ j < 2 ^ 62 ∧ dLoop i dt de env (rangeD 0 j.toNat) [] Q
variable {i : Nat} {tt : TT} {dt : DT} {tl : TE} {dl : DE} {tla : TA} {dla : DA} {elt iter : Expr} {ifs : List Expr} {scope : Scope} {x : Str} {tpos : Pos}
theorem rf_lcL (hl : RD K tl dl) (ht : RT K tt dt) (he : RD K te de) : RF K (tLc (iList K tl) (gName i) tt te [i]) (dLcLF dl i dt de) := fun env Q σ H QV h re k => by
  refine hl env _ σ H _ h re fun v H1 d s1 rv ⟨xs, e, q⟩ => ?_
  subst e
  obtain ⟨a, vs, rfl, hq, rs⟩ := rv.lstE
  refine ⟨a, rfl, ⟨vs, hq⟩, fun A hA => ?_⟩
  refine lc_list (K := K) (a := a) (xs := vs) (Qd := fun H => QV (.ref A) H) (LcAt K i dt de env xs Q H1 A) (lc_start hA q) (fun n H' _ p => p.1.seq hq) (fun n x H' hx p => ?_) fun H' p => lc_doneF s1 hA (by rw [rs.length]; exact Nat.le_refl _) p k
  have hlt : n < xs.length := by rw [← rs.length]; exact (List.getElem?_eq_some_iff.mp hx).1
  obtain ⟨w, e1, r1⟩ := rs.get (List.getElem?_eq_getElem hlt)
  rw [hx] at e1; cases e1
  exact lc_turn ht he hA (re.s s1) p (List.getElem?_eq_getElem hlt) (r1.s p.1)
theorem rf_lcR (hl : RA K tla dla) (ht : RT K tt dt) (he : RD K te de) : RF K (tLc (iRng1 tla) (gName i) tt te [i]) (dLcRF dla i dt de) := fun env Q σ H QV h re k => by
  refine hl env _ σ H _ h re fun v H1 d s1 rv ⟨j, e, hj0, hj, q⟩ => ?_
  subst e
  obtain ⟨w, rfl, h1⟩ := rv.one
  refine ⟨j, by rw [h1.intE], by omega, hj, fun A hA => ?_⟩
  refine lc_range (lo := 0) (n := j.toNat) (Qd := fun H => QV (.ref A) H) (LcAt K i dt de env (rangeD 0 j.toNat) Q H1 A) (lc_start hA q) (fun n H' hn p => ?_) fun H' p => lc_doneF s1 hA (by rw [rangeD_len]; exact Nat.le_refl _) p k
  exact lc_turn ht he hA (re.s s1) p (rangeD_get hn) .int
theorem pf_lcL (hc : X.calm = true) (hN : X.N.Nodup) (hi : PD K X iter tl dl) (ok : BlkOk X.N X.env.scope scope [(x, i)])
    (hg : ∀ (s : Shared) (H : Hp) (C : Addr) (cl : List (Str × Addr)) (fp : List Addr), PG (X.blk s H scope (compEnvC scope cl C X.env) fp) (.Name x tpos) (gName i)) (ht : ∀ (s : Shared) (H : Hp) (C : Addr) (cl : List (Str × Addr)) (fp : List Addr), PTsD K (X.blk s H scope (compEnvC scope cl C X.env) fp) ifs tt dt)
    (he : ∀ (s : Shared) (H : Hp) (C : Addr) (cl : List (Str × Addr)) (fp : List Addr), PD K (X.blk s H scope (compEnvC scope cl C X.env) fp) elt te de) (hs : ∀ x, foldedSetIterable iter X.env x = pure x := by intro _; rfl) (q : X.K = K := by rfl) :
    PF K X (.ListComp elt [⟨.Name x tpos, iter, ifs, 0⟩] scope pos) (tLc (iList K tl) (gName i) tt te [i]) (dLcLF dl i dt de) := by
  subst q
  exact ⟨pe_lc (own := [(x, i)]) hc hN (pi_list hi.pe) ok hg (fun s H C cl fp => (ht s H C cl fp).pe) (fun s H C cl fp => (he s H C cl fp).pe) hs, rf_lcL hi.rd (ht X.s_0 X.H_0 0 [] []).rd (he X.s_0 X.H_0 0 [] []).rd⟩
theorem pf_lcR {a : Expr} {p rpos : Pos} (hc : X.calm = true) (hN : X.N.Nodup) (hgl : Gl X "range") (hm : X.mg "range" = none) (hi : PAD K X [a] tla dla) (ok : BlkOk X.N X.env.scope scope [(x, i)])
    (hg : ∀ (s : Shared) (H : Hp) (C : Addr) (cl : List (Str × Addr)) (fp : List Addr), PG (X.blk s H scope (compEnvC scope cl C X.env) fp) (.Name x tpos) (gName i)) (ht : ∀ (s : Shared) (H : Hp) (C : Addr) (cl : List (Str × Addr)) (fp : List Addr), PTsD K (X.blk s H scope (compEnvC scope cl C X.env) fp) ifs tt dt)
    (he : ∀ (s : Shared) (H : Hp) (C : Addr) (cl : List (Str × Addr)) (fp : List Addr), PD K (X.blk s H scope (compEnvC scope cl C X.env) fp) elt te de) (hst : starEach [a] X.env = [(false, eval a X.env)] := by rfl) (hs : ∀ x, foldedSetIterable (.Call (.Name "range" p) [a] [] rpos) X.env x = pure x := by intro _; rfl) :
    PF K X (.ListComp elt [⟨.Name x tpos, .Call (.Name "range" p) [a] [] rpos, ifs, 0⟩] scope pos) (tLc (iRng1 tla) (gName i) tt te [i]) (dLcRF dla i dt de) :=
  ⟨pe_lc (own := [(x, i)]) hc hN (pi_range1 hgl hm hi.pe hst) ok hg (fun s H C cl fp => (ht s H C cl fp).pe) (fun s H C cl fp => (he s H C cl fp).pe) hs, rf_lcR hi.rd (ht X.s_0 X.H_0 0 [] []).rd (he X.s_0 X.H_0 0 [] []).rd⟩
end
end KQ

set_option Elab.async false
set_option linter.all false
set_option maxRecDepth 100000
set_option maxHeartbeats 8000000
namespace KQ
open PySem L2
def top (i : Nat) : Stmt := PySem.Challenge.pw_deedsagain_k42_whole_conditions_and_asks.main.body.getD i (.Pass ⟨0, 0, 0, 0⟩)
abbrev s__wall : Stmt := top 0
def n__wall : List Str := ["k"]
abbrev s_is_whole : Stmt := top 3
def n_is_whole : List Str := ["value"]
abbrev s_name_of : Stmt := top 4
def n_name_of : List Str := ["value"]
abbrev s_inner_conditions : Stmt := top 5
def n_inner_conditions : List Str := ["world", "part", "name"]
abbrev s_is_condition_to : Stmt := top 6
def n_is_condition_to : List Str := ["world", "value", "most", "waiting", "part", "depth", "inner", "item"]
abbrev s_is_condition : Stmt := top 7
def n_is_condition : List Str := ["world", "value"]
abbrev s_atoms_of : Stmt := top 8
def n_atoms_of : List Str := ["world"]
abbrev s_holds : Stmt := top 9
def n_holds : List Str := ["condition", "atom", "name"]
abbrev s_atoms_where : Stmt := top 10
def n_atoms_where : List Str := ["world", "condition", "atom"]
abbrev s_joined : Stmt := top 11
def n_joined : List Str := ["name", "items", "found", "item"]
abbrev s_atom_condition : Stmt := top 12
def n_atom_condition : List Str := ["world", "atom", "found", "i"]
abbrev s_condition_of : Stmt := top 13
def n_condition_of : List Str := ["world", "atoms", "rows", "atom"]
abbrev s_same_condition : Stmt := top 14
def n_same_condition : List Str := ["world", "one", "two"]
abbrev s_stops : Stmt := top 19
def n_stops : List Str := ["term", "atom", "name"]
abbrev s_then_term : Stmt := top 22
def n_then_term : List Str := ["move", "term"]
abbrev s_found_moves : Stmt := top 23
def n_found_moves : List Str := ["term", "atom", "deed", "name", "found", "move"]
abbrev s_after_deed : Stmt := top 24
def n_after_deed : List Str := ["state", "atom", "deed", "found", "term"]
abbrev s_stops_of : Stmt := top 25
def n_stops_of : List Str := ["world", "state", "term", "atom"]
abbrev s_steps_of : Stmt := top 26
def n_steps_of : List Str := ["world", "found", "atom", "deed"]
abbrev s_searched : Stmt := top 28
def n_searched : List Str := ["world", "one", "two", "start", "ways", "row", "at", "first", "second", "way", "stops_one", "stops_two", "atom", "unlike", "deed", "pair"]
abbrev s_are_alike : Stmt := top 29
def n_are_alike : List Str := ["world", "one", "two"]
abbrev s_is_nothing : Stmt := top 30
def n_is_nothing : List Str := ["world", "term"]
abbrev s_broken_term : Stmt := top 32
def n_broken_term : List Str := ["before", "term", "after"]
abbrev s_keeps : Stmt := top 33
def n_keeps : List Str := ["world", "before", "term", "after"]
abbrev s_last_atoms : Stmt := top 34
def n_last_atoms : List Str := ["world", "term", "atom", "found", "waiting", "seen", "state", "first", "deed", "left", "goal"]
abbrev s_weakest : Stmt := top 35
def n_weakest : List Str := ["world", "term", "after", "good", "rows", "last", "atom"]
abbrev s_write_condition : Stmt := top 40
def n_write_condition : List Str := ["condition", "name", "sign"]
abbrev s_Reader___init__ : Stmt := inClass (top 41) 0
def n_Reader___init__ : List Str := ["self", "text"]
abbrev s_Reader_take : Stmt := inClass (top 41) 1
def n_Reader_take : List Str := ["self", "sign"]
abbrev s_Reader_first_of : Stmt := inClass (top 41) 2
def n_Reader_first_of : List Str := ["self", "signs", "sign"]
abbrev s_Reader_deeper : Stmt := inClass (top 41) 3
def n_Reader_deeper : List Str := ["self"]
abbrev s_Reader_back : Stmt := inClass (top 41) 4
def n_Reader_back : List Str := ["self", "found"]
abbrev s_Reader_condition : Stmt := inClass (top 41) 5
def n_Reader_condition : List Str := ["self", "word", "first", "name", "second"]
abbrev s_Reader_term : Stmt := inClass (top 41) 6
def n_Reader_term : List Str := ["self", "word", "found", "first", "name"]
abbrev s_Reader_program : Stmt := inClass (top 41) 7
def n_Reader_program : List Str := ["self"]
abbrev s_Reader_end : Stmt := inClass (top 41) 8
def n_Reader_end : List Str := ["self", "found"]
abbrev s_read_condition : Stmt := top 42
def n_read_condition : List Str := ["world", "text", "reader", "found"]
abbrev s__law_same : Stmt := top 44
def n__law_same : List Str := ["actual", "due", "k"]
abbrev s__law_pool : Stmt := top 45
def n__law_pool : List Str := ["script", "salt", "cell"]
abbrev s__law_spread : Stmt := top 46
def n__law_spread : List Str := ["cell", "mixed", "total", "k"]
abbrev s__law_draw : Stmt := top 47
def n__law_draw : List Str := ["pool", "many", "cell", "mixed", "value"]
abbrev s__law_pick : Stmt := top 48
def n__law_pick : List Str := ["pool", "items"]
abbrev s__law_world : Stmt := top 49
def n__law_world : List Str := ["pool", "most", "row"]
abbrev s__law_condition : Stmt := top 50
def n__law_condition : List Str := ["pool", "world", "deep", "turn"]
abbrev s_law : Stmt := top 51
def n_law : List Str := ["script", "pool", "world", "b", "c", "told", "other"]
structure Blt (mg : Str → Option Value) : Prop where
  len : mg "len" = none
  list : mg "list" = none
  tuple : mg "tuple" = none
  range : mg "range" = none
  any : mg "any" = none
  all : mg "all" = none
  sorted : mg "sorted" = none
  set : mg "set" = none
  isinstance : mg "isinstance" = none
  int : mg "int" = none
  bool : mg "bool" = none
  str : mg "str" = none
structure Df (K : PySem.W.Frag) (mg : Str → Option Value) (x : Str) (st : Stmt) (ps : List Str) (f : Addr) (fd : FuncData) : Prop where
  F : Fun K x x st f fd
  m : mg x = some (.ref f)
  b : Binds K fd ps []

/-! ### conditions -/
inductive Cnd where
  | no | yes | test (i : Nat) | not (c : Cnd) | and (a b : Cnd) | or (a b : Cnd)
  deriving DecidableEq
namespace Cnd
def enc : Cnd → D
  | .no => .tup [.str "no"]
  | .yes => .tup [.str "yes"]
  | .test i => .tup [.str "test", .int i]
  | .not c => .tup [.str "not", enc c]
  | .and a b => .tup [.str "and", enc a, enc b]
  | .or a b => .tup [.str "or", enc a, enc b]
def dep : Cnd → Nat
  | .no | .yes | .test _ => 1
  | .not c => dep c + 1
  | .and a b | .or a b => max (dep a) (dep b) + 1
def wf (t : Nat) : Cnd → Prop
  | .no | .yes => True
  | .test i => i < t
  | .not c => wf t c
  | .and a b | .or a b => wf t a ∧ wf t b
def ev : Cnd → Nat → Bool
  | .no, _ => false
  | .yes, _ => true
  | .test i, a => a / 2 ^ i % 2 == 1
  | .not c, a => !ev c a
  | .and b c, a => ev b a && ev c a
  | .or b c, a => ev b a || ev c a
end Cnd

def wD (t d : Nat) : D := .tup [.int t, .int d]
def aD (ns : List Nat) : List D := ns.map fun (n : Nat) => D.int n
theorem rangeD_eq (n : Nat) : rangeD 0 n = aD (List.range n) := by unfold rangeD aD; exact List.map_congr_left fun x _ => by rw [Int.zero_add]
theorem aD_ints (ns : List Nat) : aD ns = (ns.map fun (n : Nat) => (n : Int)).map D.int := by unfold aD; rw [List.map_map]; rfl
def wok (t d : Nat) : Prop := 1 ≤ t ∧ t ≤ 3 ∧ 1 ≤ d ∧ d ≤ 3
theorem iteF' {b : Bool} {A B : Prop} (h : b = false) (x : B) : if b = true then A else B := by rw [h]; exact iteF x
theorem iteT' {b : Bool} {A B : Prop} (h : b = true) (x : A) : if b = true then A else B := by rw [h]; exact iteT x
theorem iteB {b : Bool} {A B : Prop} (h1 : b = true → A) (h2 : b = false → B) : if b = true then A else B := by
  cases b with
  | true => exact iteT (h1 rfl)
  | false => exact iteF (h2 rfl)
local macro_rules | `(tactic| walk_at "r") => `(tactic| repeat (first | (refine ⟨_, rfl, ?_⟩) | (refine ⟨by decide, ?_⟩) | (refine iteF' (by decide +kernel) ?_) | (refine iteT' (by decide +kernel) ?_)))
theorem atom_bit (a i : Nat) : (decide ((a : Int) / 2 ^ i % 2 = 1)) = (a / 2 ^ i % 2 == 1) := by
  have h : ((a : Int) / 2 ^ i % 2) = ((a / 2 ^ i % 2 : Nat) : Int) := by
    rw [Int.natCast_emod, Int.natCast_ediv, Int.natCast_pow]; rfl
  rw [h, Bool.beq_eq_decide_eq]
  exact decide_eq_decide.mpr (by omega)
section
variable {P : Program} {w : World} {K : PySem.W.Frag} {mg : Str → Option Value} {base : Heap}
theorem sc_is_whole : FnScope n_is_whole ["value"] (defScope s_is_whole) := ⟨rfl, rfl, rfl, by decide +kernel, rfl, by decide +kernel, by decide +kernel⟩
theorem sc_name_of : FnScope n_name_of ["value"] (defScope s_name_of) := ⟨rfl, rfl, rfl, by decide +kernel, rfl, by decide +kernel, by decide +kernel⟩
theorem sc_inner_conditions : FnScope n_inner_conditions ["world", "part"] (defScope s_inner_conditions) := ⟨rfl, rfl, rfl, by decide +kernel, rfl, by decide +kernel, by decide +kernel⟩
theorem sc_is_condition : FnScope n_is_condition ["world", "value"] (defScope s_is_condition) := ⟨rfl, rfl, rfl, by decide +kernel, rfl, by decide +kernel, by decide +kernel⟩
theorem sc_atoms_of : FnScope n_atoms_of ["world"] (defScope s_atoms_of) := ⟨rfl, rfl, rfl, by decide +kernel, rfl, by decide +kernel, by decide +kernel⟩
theorem sc_holds : FnScope n_holds ["condition", "atom"] (defScope s_holds) := ⟨rfl, rfl, rfl, by decide +kernel, rfl, by decide +kernel, by decide +kernel⟩
theorem sc_atoms_where : FnScope n_atoms_where ["world", "condition"] (defScope s_atoms_where) := ⟨rfl, rfl, rfl, by decide +kernel, rfl, by decide +kernel, by decide +kernel⟩
theorem sc_joined : FnScope n_joined ["name", "items"] (defScope s_joined) := ⟨rfl, rfl, rfl, by decide +kernel, rfl, by decide +kernel, by decide +kernel⟩
theorem sc_condition_of : FnScope n_condition_of ["world", "atoms"] (defScope s_condition_of) := ⟨rfl, rfl, rfl, by decide +kernel, rfl, by decide +kernel, by decide +kernel⟩
theorem sc_same_condition : FnScope n_same_condition ["world", "one", "two"] (defScope s_same_condition) := ⟨rfl, rfl, rfl, by decide +kernel, rfl, by decide +kernel, by decide +kernel⟩
theorem sc_stops : FnScope n_stops ["term", "atom"] (defScope s_stops) := ⟨rfl, rfl, rfl, by decide +kernel, rfl, by decide +kernel, by decide +kernel⟩
theorem sc_stops_of : FnScope n_stops_of ["world", "state"] (defScope s_stops_of) := ⟨rfl, rfl, rfl, by decide +kernel, rfl, by decide +kernel, by decide +kernel⟩
theorem sc_are_alike : FnScope n_are_alike ["world", "one", "two"] (defScope s_are_alike) := ⟨rfl, rfl, rfl, by decide +kernel, rfl, by decide +kernel, by decide +kernel⟩
theorem sc_is_nothing : FnScope n_is_nothing ["world", "term"] (defScope s_is_nothing) := ⟨rfl, rfl, rfl, by decide +kernel, rfl, by decide +kernel, by decide +kernel⟩
theorem sc_broken_term : FnScope n_broken_term ["before", "term", "after"] (defScope s_broken_term) := ⟨rfl, rfl, rfl, by decide +kernel, rfl, by decide +kernel, by decide +kernel⟩
theorem sc_keeps : FnScope n_keeps ["world", "before", "term", "after"] (defScope s_keeps) := ⟨rfl, rfl, rfl, by decide +kernel, rfl, by decide +kernel, by decide +kernel⟩
theorem sc_weakest : FnScope n_weakest ["world", "term", "after"] (defScope s_weakest) := ⟨rfl, rfl, rfl, by decide +kernel, rfl, by decide +kernel, by decide +kernel⟩
theorem sc_write_condition : FnScope n_write_condition ["condition"] (defScope s_write_condition) := ⟨rfl, rfl, rfl, by decide +kernel, rfl, by decide +kernel, by decide +kernel⟩
def S_holds (L : Nat) : List D → D → Prop := fun ds d => ∃ (c : Cnd) (a : Nat), ds = [c.enc, .int a] ∧ c.dep ≤ L ∧ c.wf 3 ∧ d = .bl (c.ev a)
theorem ok_holds (B : Blt mg) {f : Addr} {fd : FuncData} (d_holds : Df K mg "holds" s_holds ["condition", "atom"] f fd) (L : Nat) : FnOk P w K mg base CX0 (L + 1) f fd ["condition", "atom"] (spP K 2 (S_holds L)) := by
  induction L with
  | zero =>
    refine fn_pd d_holds.F sc_holds fun cdv A outer s H E hr ds d _ hS => ?_
    obtain ⟨c, a, rfl, h1, _⟩ := hS
    cases c <;> simp [Cnd.dep] at h1
  | succ L ih =>
    have G_holds := ih
    refine fn_pd d_holds.F sc_holds fun cdv A outer s H E hr ds d _ hS => ⟨_, _, (psd_cons (ps_setD (i := 2) sc_holds.nd (pd_ix (k_ix (K := K)) d_ix (pdv 0) pd_int))
        (psd_cons (ps_ifD (pt_cmpD (k_in (K := K)) (d_in false) (pdv 2) (pd_tup (pa_consD pd_str (pa_consD pd_str pa_nilD))) (by rfl)) (psd_one (ps_retD (pd_cmp (op_eqQ (K := K) hr.units) d_eq (pdv 2) pd_str (nomark _)))) psd_nil)
        (psd_cons (ps_ifD (pt_cmpD (op_eqQ (K := K) hr.units) d_eq (pdv 2) pd_str (nomark _)) (psd_one (ps_retD (pd_cmp (op_eqQ (K := K) hr.units) d_eq (pd_op op_mod d_mod (pd_op op_fdiv d_div (pdv 1) (pd_ix (k_ix (K := K)) d_ix (pd_tup (pa_consD pd_int (pa_consD pd_int (pa_consD pd_int pa_nilD)))) (pd_ix (k_ix (K := K)) d_ix (pdv 0) pd_int))) pd_int) pd_int (nomark _)))) psd_nil)
        (psd_cons (ps_ifD (pt_cmpD (op_eqQ (K := K) hr.units) d_eq (pdv 2) pd_str (nomark _)) (psd_one (ps_retD (pd_not (pd_call G_holds (hr.mono (by omega)) d_holds.m d_holds.F.kp d_holds.b (pa_consD (pd_ix (k_ix (K := K)) d_ix (pdv 0) pd_int) (pa_consD (pdv 1) pa_nilD)))))) psd_nil)
        (psd_cons (ps_ifD (pt_cmpD (op_eqQ (K := K) hr.units) d_eq (pdv 2) pd_str (nomark _)) (psd_one (ps_retD (pd_and (pd_call G_holds (hr.mono (by omega)) d_holds.m d_holds.F.kp d_holds.b (pa_consD (pd_ix (k_ix (K := K)) d_ix (pdv 0) pd_int) (pa_consD (pdv 1) pa_nilD))) (pd_one (pd_call G_holds (hr.mono (by omega)) d_holds.m d_holds.F.kp d_holds.b (pa_consD (pd_ix (k_ix (K := K)) d_ix (pdv 0) pd_int) (pa_consD (pdv 1) pa_nilD))))))) psd_nil)
        (psd_one (ps_retD (pd_or (pd_call G_holds (hr.mono (by omega)) d_holds.m d_holds.F.kp d_holds.b (pa_consD (pd_ix (k_ix (K := K)) d_ix (pdv 0) pd_int) (pa_consD (pdv 1) pa_nilD))) (pd_one (pd_call G_holds (hr.mono (by omega)) d_holds.m d_holds.F.kp d_holds.b (pa_consD (pd_ix (k_ix (K := K)) d_ix (pdv 0) pd_int) (pa_consD (pdv 1) pa_nilD)))))))))))), ?_⟩
    obtain ⟨c, a, rfl, h1, h2, rfl⟩ := hS
    cases c with
    | no => walk_at "r"; exact congrArg D.bl (show decide (Str.ofString "no" = Str.ofString "yes") = false by decide +kernel)
    | yes => walk_at "r"; exact congrArg D.bl (show decide (Str.ofString "yes" = Str.ofString "yes") = true by decide +kernel)
    | test i =>
      walk_at "r"
      simp only [Cnd.wf] at h2
      have h3 : i = 0 ∨ i = 1 ∨ i = 2 := by omega
      have e := atom_bit a i
      rcases h3 with rfl | rfl | rfl <;> (walk_at "r"; exact congrArg D.bl e)
    | not c =>
      walk_at "r"
      simp only [Cnd.dep] at h1
      exact ⟨rfl, _, ⟨c, a, rfl, by omega, h2, rfl⟩, _, rfl, rfl⟩
    | and b c =>
      walk_at "r"
      simp only [Cnd.dep] at h1
      refine ⟨rfl, _, ⟨b, a, rfl, by omega, h2.1, rfl⟩, _, rfl, iteB (fun e => ?_) fun e => ?_⟩
      · walk_at "r"
        exact ⟨rfl, _, ⟨c, a, rfl, by omega, h2.2, rfl⟩, by show D.bl _ = D.bl (b.ev a && c.ev a); rw [e]; rfl⟩
      · show D.bl _ = D.bl (b.ev a && c.ev a); rw [e]; rfl
    | or b c =>
      walk_at "r"
      simp only [Cnd.dep] at h1
      refine ⟨rfl, _, ⟨b, a, rfl, by omega, h2.1, rfl⟩, _, rfl, iteB (fun e => ?_) fun e => ?_⟩
      · show D.bl _ = D.bl (b.ev a || c.ev a); rw [e]; rfl
      · walk_at "r"
        exact ⟨rfl, _, ⟨c, a, rfl, by omega, h2.2, rfl⟩, by show D.bl _ = D.bl (b.ev a || c.ev a); rw [e]; rfl⟩

def S_atoms_of : List D → D → Prop := fun ds d => ∃ t k, wok t k ∧ ds = [wD t k] ∧ d = .lst (aD (List.range (2 ^ t)))
theorem ok_atoms_of (B : Blt mg) {f : Addr} {fd : FuncData} (d_atoms_of : Df K mg "atoms_of" s_atoms_of ["world"] f fd) : FnOk P w K mg base CX0 1 f fd ["world"] (spP K 1 S_atoms_of) := by
  refine fn_pd d_atoms_of.F sc_atoms_of fun cdv A outer s H E hr ds d _ hS => ⟨_, _, (psd_one (ps_retD (pd_listRg rfl (by rfl) B.list (by rfl) B.range (pd_ix (k_ix (K := K)) d_ix (pd_tup (pa_consD pd_int (pa_consD pd_int (pa_consD pd_int pa_nilD)))) (pd_op op_sub d_sub (pd_ix (k_ix (K := K)) d_ix (pdv 0) pd_int) pd_int))))), ?_⟩
  obtain ⟨t, k, ⟨h1, h2, _⟩, rfl, rfl⟩ := hS
  walk_at "r"
  have h3 : t = 1 ∨ t = 2 ∨ t = 3 := by omega
  rcases h3 with rfl | rfl | rfl <;> (walk_at "r"; exact congrArg D.lst (rangeD_eq _))

theorem filter_aD (p : Nat → Bool) (q : D → Bool) (h : ∀ n : Nat, q (.int n) = p n) (ns : List Nat) : (aD ns).filter q = aD (ns.filter p) := by
  unfold aD
  rw [List.filter_map]
  congr 1
  exact congrArg (fun z => List.filter z ns) (funext fun n => h n)
def nat (d : D) : Nat := match d with
  | .int i => i.toNat
  | _ => 0
theorem mem_aD {ns : List Nat} {d : D} (h : d ∈ aD ns) : ∃ n : Nat, n ∈ ns ∧ d = .int n := by
  unfold aD at h
  obtain ⟨n, h1, rfl⟩ := List.mem_map.mp h
  exact ⟨n, h1, rfl⟩
theorem aD_length (ns : List Nat) : (aD ns).length = ns.length := by unfold aD; rw [List.length_map]
theorem small_line {n : Nat} (h : n ≤ 1000) : n ≤ sizeLine := by rw [sizeLine_eq]; omega
theorem pow_small {t : Nat} (h : t ≤ 3) : 2 ^ t ≤ 8 := by
  have h3 : t = 0 ∨ t = 1 ∨ t = 2 ∨ t = 3 := by omega
  rcases h3 with rfl | rfl | rfl | rfl <;> decide
/-- where a condition holds -/
def whr (t : Nat) (c : Cnd) : List Nat := (List.range (2 ^ t)).filter c.ev
def S_atoms_where (L : Nat) : List D → D → Prop := fun ds d => ∃ (t k : Nat) (c : Cnd), wok t k ∧ ds = [wD t k, c.enc] ∧ c.dep ≤ L ∧ c.wf 3 ∧ d = .lst (aD (whr t c))
theorem ok_atoms_where (B : Blt mg) {f f1 f2 : Addr} {fd fd1 fd2 : FuncData} (d_atoms_where : Df K mg "atoms_where" s_atoms_where ["world", "condition"] f fd) (d_atoms_of : Df K mg "atoms_of" s_atoms_of ["world"] f1 fd1)
    (d_holds : Df K mg "holds" s_holds ["condition", "atom"] f2 fd2) (L : Nat) : FnOk P w K mg base CX0 (L + 2) f fd ["world", "condition"] (spP K 2 (S_atoms_where L)) := by
  have G_holds := ok_holds (P := P) (w := w) (base := base) B d_holds L
  have G_atoms_of := ok_atoms_of (P := P) (w := w) (base := base) B d_atoms_of
  refine fn_pd d_atoms_where.F sc_atoms_where fun cdv A outer s H E hr ds d _ hS => ⟨_, _, (psd_one (ps_retD (pd_lcL rfl sc_atoms_where.nd (pd_call G_atoms_of (hr.mono (by omega)) d_atoms_of.m d_atoms_of.F.kp d_atoms_of.b (pa_consD (pdv 0) pa_nilD)) (blkOk_by (N := n_atoms_where) (sc := defScope s_atoms_where) (by decide +kernel)) (fun _ _ _ _ _ => pg_name (i := 2) sc_atoms_where.nd rfl (Or.inl rfl)) (fun _ _ _ _ _ => (pts_oneD (pt_valD (pd_call G_holds (hr.mono (by omega)) d_holds.m d_holds.F.kp d_holds.b (pa_consD (pdv 1) (pa_consD (pdv 2) pa_nilD)))))) (fun _ _ _ _ _ => (pdv 2))))), ?_⟩
  obtain ⟨t, k, c, hw, rfl, h1, h2, rfl⟩ := hS
  walk_at "r"
  refine ⟨rfl, _, ⟨t, k, hw, rfl, rfl⟩, _, rfl, ?_⟩
  have hp := pow_small hw.2.1
  refine dLoop_of (fun d => c.ev (nat d)) id _ _ _ (fun x hx R hR => ?_) (fun x hx _ R hR => ?_) (fun x hx _ => ?_) ?_ ?_
  · obtain ⟨n, hn, rfl⟩ := mem_aD hx
    walk_at "r"
    exact ⟨rfl, _, ⟨c, n, rfl, h1, h2, rfl⟩, _, rfl, hR⟩
  · exact ⟨_, rfl, hR⟩
  · obtain ⟨n, hn, rfl⟩ := mem_aD hx
    rfl
  · rw [aD_length, List.length_range]
    refine small_line ?_
    show 0 + 2 ^ t ≤ 1000
    omega
  · rw [List.map_id, filter_aD c.ev _ fun n => rfl]; rfl
end
end KQ

set_option Elab.async false
set_option linter.all false
set_option maxRecDepth 100000
set_option maxHeartbeats 8000000
namespace KQ
open PySem L2
local macro_rules | `(tactic| walk_at "r") => `(tactic| repeat (first | (refine ⟨_, rfl, ?_⟩) | (refine ⟨by decide, ?_⟩) | (refine ⟨small_line (Nat.le_of_ble_eq_true rfl), ?_⟩) | (refine iteF' (by decide +kernel) ?_) | (refine iteT' (by decide +kernel) ?_)))
section
variable {P : Program} {w : World} {K : PySem.W.Frag} {mg : Str → Option Value} {base : Heap}
theorem sc_atom_condition : FnScope n_atom_condition ["world", "atom"] (defScope s_atom_condition) := ⟨rfl, rfl, rfl, by decide +kernel, rfl, by decide +kernel, by decide +kernel⟩
theorem sc_steps_of : FnScope n_steps_of ["world"] (defScope s_steps_of) := ⟨rfl, rfl, rfl, by decide +kernel, rfl, by decide +kernel, by decide +kernel⟩
theorem sc_is_condition_to : FnScope n_is_condition_to ["world", "value", "most"] (defScope s_is_condition_to) := ⟨rfl, rfl, rfl, by decide +kernel, rfl, by decide +kernel, by decide +kernel⟩
/-! ### joined -/
def joinD (n : Str) : List D → D
  | [] => .non
  | [x] => x
  | x :: y :: r => .tup [.str n, x, joinD n (y :: r)]
theorem joinD_fold (n : Str) : ∀ (xs : List D) (l : D), xs.reverse.foldl (fun f x => D.tup [.str n, x, f]) l = joinD n (xs ++ [l])
  | [], l => rfl
  | [x], l => rfl
  | x :: y :: r, l => by
    rw [List.reverse_cons, List.foldl_append]
    rw [joinD_fold n (y :: r) l]
    rfl
def S_joined : List D → D → Prop := fun ds d => ∃ (n : Str) (xs : List D) (l : D), ds = [.str n, .lst (xs ++ [l])] ∧ d = joinD n (xs ++ [l])
theorem atI_last' (xs : List D) (l : D) : L2.atI (xs ++ [l]) (-1) = some l := L2.atI_last xs l
theorem joined_loop (n : Str) (zs : List D) (nx : Env' → Prop) (rt : D → Prop) : ∀ (ys : List D) (f : D) (o : Option D), (∀ o', nx [some (.str n), some (.lst zs), some (ys.foldl (fun f x => D.tup [.str n, x, f]) f), o']) →
    dForL 3 (dSet (dTup (dCons (dVar 0) (dCons (dVar 3) (dCons (dVar 2) dNil)))) 2) ys ⟨nx, rt⟩ [some (.str n), some (.lst zs), some f, o]
  | [], f, o, h => h o
  | x :: ys, f, o, h => by
    unfold dForL
    walk_at "r"
    exact joined_loop n zs nx rt ys _ _ h
theorem ok_joined (B : Blt mg) {f : Addr} {fd : FuncData} (d_joined : Df K mg "joined" s_joined ["name", "items"] f fd) : FnOk P w K mg base CX0 1 f fd ["name", "items"] (spP K 2 S_joined) := by
  refine fn_pd d_joined.F sc_joined fun cdv A outer s H E hr ds d _ hS => ⟨_, _, (psd_cons (ps_setD (i := 2) sc_joined.nd (pd_ix (k_ix (K := K)) d_ix (pdv 1) (pd_neg pd_int)))
        (psd_cons (ps_forD PassesOwn.never rfl (pd_back (pdv 1)) (pg_name (i := 3) sc_joined.nd rfl (Or.inl rfl)) (psd_one (ps_setD (i := 2) sc_joined.nd (pd_tup (pa_consD (pdv 0) (pa_consD (pdv 3) (pa_consD (pdv 2) pa_nilD)))))))
        (psd_one (ps_retD (pdv 2))))), ?_⟩
  obtain ⟨n, xs, l, rfl, rfl⟩ := hS
  walk_at "r"
  refine ⟨l, atI_last' xs l, ?_⟩
  walk_at "r"
  rw [List.dropLast_concat]
  refine joined_loop n _ _ _ _ _ _ fun o' => ?_
  walk_at "r"
  exact joinD_fold n xs l
/-! ### the condition of one atom -/
def joinC (op : Cnd → Cnd → Cnd) : List Cnd → Cnd
  | [] => .no
  | [x] => x
  | x :: y :: r => op x (joinC op (y :: r))
theorem joinC_and : ∀ {xs : List Cnd}, xs ≠ [] → joinD "and" (xs.map Cnd.enc) = (joinC .and xs).enc
  | [x], _ => rfl
  | x :: y :: r, _ => by
    show D.tup [.str "and", x.enc, joinD "and" ((y :: r).map Cnd.enc)] = _
    rw [joinC_and (List.cons_ne_nil y r)]; rfl
theorem joinC_or : ∀ {xs : List Cnd}, xs ≠ [] → joinD "or" (xs.map Cnd.enc) = (joinC .or xs).enc
  | [x], _ => rfl
  | x :: y :: r, _ => by
    show D.tup [.str "or", x.enc, joinD "or" ((y :: r).map Cnd.enc)] = _
    rw [joinC_or (List.cons_ne_nil y r)]; rfl
def lit (a i : Nat) : Cnd := if a / 2 ^ i % 2 == 1 then .test i else .not (.test i)
def atomC (t a : Nat) : Cnd := joinC .and ((List.range t).map (lit a))
def S_atom_condition : List D → D → Prop := fun ds d => ∃ t k a, wok t k ∧ ds = [wD t k, .int (a : Nat)] ∧ d = (atomC t a).enc
theorem lit_read (a i : Nat) (R : D → Prop) (h : R (lit a i).enc) : (a / 2 ^ i % 2 == 1) = true → R (Cnd.test i).enc := fun e => by unfold lit at h; rw [if_pos e] at h; exact h
theorem lit_read' (a i : Nat) (R : D → Prop) (h : R (lit a i).enc) : (a / 2 ^ i % 2 == 1) = false → R (Cnd.not (.test i)).enc := fun e => by unfold lit at h; rw [if_neg (by rw [e]; decide)] at h; exact h
theorem lit_imm (a i : Nat) : imm (lit a i).enc = true := by unfold lit; split <;> rfl
theorem lits_imm (a : Nat) : ∀ l : List Nat, immAll (l.map fun i => (lit a i).enc) = true
  | [] => rfl
  | x :: l => by simp [immAll, lit_imm, lits_imm a l]
/-- the loop: one literal after the other -/
theorem ac_loop {a t k : Nat} {nx : Env' → List D → Prop} {rt : D → Prop} {tb : DSO} (htb : ∀ (DD : EndsO) (i : Nat) (xs : List D) (o : Option D), i < 3 → xs.length < sizeLine → DD.nx [some (wD t k), some (.int (a : Nat)), none, some (.int (i : Nat))] (xs ++ [(lit a i).enc]) → tb DD [some (wD t k), some (.int (a : Nat)), none, some (.int (i : Nat))] xs) :
    ∀ (l : List Nat) (xs : List D) (o : Option D), (∀ i ∈ l, i < 3) → xs.length + l.length ≤ 1000 → (∀ o', nx [some (wD t k), some (.int (a : Nat)), none, o'] (xs ++ l.map fun i => (lit a i).enc)) →
      oForL 3 tb (aD l) ⟨nx, rt⟩ [some (wD t k), some (.int (a : Nat)), none, o] xs
  | [], xs, o, _, _, h => by simpa [aD, oForL] using h o
  | i :: l, xs, o, h1, h2, h => by
    show tb _ [some (wD t k), some (.int (a : Nat)), none, some (.int (i : Nat))] xs
    simp only [List.length_cons] at h2
    refine htb _ i xs o (h1 i List.mem_cons_self) (by rw [sizeLine_eq]; omega) ?_
    refine ac_loop htb l _ _ (fun j hj => h1 j (List.mem_cons_of_mem _ hj)) (by simp; omega) fun o' => ?_
    simpa using h o'
theorem ok_atom_condition (B : Blt mg) {f f1 f2 : Addr} {fd fd1 fd2 : FuncData} (d_atom_condition : Df K mg "atom_condition" s_atom_condition ["world", "atom"] f fd) (d_holds : Df K mg "holds" s_holds ["condition", "atom"] f1 fd1)
    (d_joined : Df K mg "joined" s_joined ["name", "items"] f2 fd2) : FnOk P w K mg base CX0 3 f fd ["world", "atom"] (spP K 2 S_atom_condition) := by
  have G_holds := ok_holds (P := P) (w := w) (base := base) B d_holds 1
  have G_joined := ok_joined (P := P) (w := w) (base := base) B d_joined
  refine fn_pd d_atom_condition.F sc_atom_condition fun cdv A outer s H E hr ds d _ hS => ⟨_, _, (psd_own (o := 2) sc_atom_condition.nd (pf_lst pa_nilD) (pso_cons (ps_forRO PassesOwn.never rfl (by rfl) B.range (pa_consD (pd_ix (k_ix (K := K)) d_ix (pdv 0) pd_int) pa_nilD) (pg_name (i := 3) sc_atom_condition.nd rfl (Or.inl rfl)) (pso_one (ps_appO (pd_if (pt_valD (pd_call G_holds (hr.mono (by omega)) d_holds.m d_holds.F.kp d_holds.b (pa_consD (pd_tup (pa_consD pd_str (pa_consD (pdv 3) pa_nilD))) (pa_consD (pdv 1) pa_nilD)))) (pd_tup (pa_consD pd_str (pa_consD (pdv 3) pa_nilD))) (pd_tup (pa_consD pd_str (pa_consD (pd_tup (pa_consD pd_str (pa_consD (pdv 3) pa_nilD))) pa_nilD)))) (fun z => pe_bm PySem.F.plainAttrs_list PySem.F.slot_list_append PySem.F.type_list_append mt_append (pv 2) (pa_cons z pa_nil)))))
        (pso_one (ps_retO (pd_call G_joined (hr.mono (by omega)) d_joined.m d_joined.F.kp d_joined.b (pa_consD pd_str (pa_consD (pdv 2) pa_nilD))))))), ?_⟩
  obtain ⟨t, k, a, hw, rfl, rfl⟩ := hS
  obtain ⟨h1, h3, _⟩ := hw
  refine ⟨by show 2 < 4; decide, by decide, rfl, ?_⟩
  walk_at "r"
  refine ⟨by omega, by omega, ?_⟩
  rw [show ((t : Int)).toNat = t from rfl, rangeD_eq]
  refine ac_loop (t := t) (k := k) (a := a) (fun DD i xs o hi hz q => ?_) _ [] none (fun i hi => by have := List.mem_range.mp hi; omega) (by simp; omega) fun o' => ?_
  · walk_at "r"
    refine ⟨rfl, _, ⟨.test i, a, rfl, Nat.le_refl 1, hi, rfl⟩, _, rfl, iteB (fun e => ?_) fun e => ?_⟩
    · walk_at "r"
      have e' : (a / 2 ^ i % 2 == 1) = true := e
      unfold lit at q
      rw [if_pos e'] at q
      exact ⟨rfl, hz, q⟩
    · walk_at "r"
      have e' : (a / 2 ^ i % 2 == 1) = false := e
      unfold lit at q
      rw [if_neg (by rw [e']; decide)] at q
      exact ⟨rfl, hz, q⟩
  · walk_at "r"
    have e0 : ∃ xs l, (List.range t).map (fun i => (lit a i).enc) = xs ++ [l] := by
      have : (List.range t).map (fun i => (lit a i).enc) ≠ [] := by
        intro e
        have := congrArg List.length e
        simp at this; omega
      exact ⟨_, _, (List.dropLast_concat_getLast this).symm⟩
    obtain ⟨xs, l, e0⟩ := e0
    refine ⟨rfl, _, ⟨"and", xs, l, by rw [← e0]; rfl, rfl⟩, ?_⟩
    rw [← e0]
    show joinD "and" ((List.range t).map fun i => (lit a i).enc) = _
    have := joinC_and (xs := (List.range t).map (lit a)) (by intro e; have := congrArg List.length e; simp at this; omega)
    rw [List.map_map] at this
    exact this
end
end KQ

set_option Elab.async false
set_option linter.all false
set_option maxRecDepth 100000
set_option maxHeartbeats 8000000
namespace KQ
open PySem L2
local macro_rules | `(tactic| walk_at "r") => `(tactic| repeat (first | (refine ⟨_, rfl, ?_⟩) | (refine ⟨rfl, ?_⟩) | (refine ⟨small_line (Nat.le_of_ble_eq_true rfl), ?_⟩) | (refine iteF' (by decide +kernel) ?_) | (refine iteT' (by decide +kernel) ?_) | (refine iteF' rfl ?_) | (refine iteT' rfl ?_)))
section
variable {P : Program} {w : World} {K : PySem.W.Frag} {mg : Str → Option Value} {base : Heap}
/-! ### condition_of -/
/-- the atoms among ns, ascending -/
def rowsOf (t : Nat) (ns : List Nat) : List Nat := (List.range (2 ^ t)).filter fun a => decide (a ∈ ns)
def condC (t : Nat) (ns : List Nat) : Cnd := if (rowsOf t ns).length = 0 then .no else if (rowsOf t ns).length = 2 ^ t then .yes else joinC .or ((rowsOf t ns).map (atomC t))
def S_condition_of : List D → D → Prop := fun ds d => ∃ (t k : Nat) (ns : List Nat), wok t k ∧ ds = [wD t k, .lst (aD ns)] ∧ (∀ a ∈ ns, a < 2 ^ t) ∧ ns.length < 64 ∧ d = (condC t ns).enc
theorem rows_asc (t : Nat) (ns : List Nat) : ((rowsOf t ns).map fun (n : Nat) => (n : Int)).Pairwise (· < ·) := by
  rw [List.pairwise_map]
  unfold rowsOf
  refine List.Pairwise.filter _ ?_
  exact (List.pairwise_lt_range).imp fun h => by omega
theorem rows_mem {t : Nat} {ns : List Nat} (h : ∀ a ∈ ns, a < 2 ^ t) (k : Int) : k ∈ (rowsOf t ns).map (fun (n : Nat) => (n : Int)) ↔ k ∈ ns.map (fun (n : Nat) => (n : Int)) := by
  simp only [List.mem_map]
  constructor
  · rintro ⟨a, ha, rfl⟩
    unfold rowsOf at ha
    obtain ⟨_, h2⟩ := List.mem_filter.mp ha
    exact ⟨a, of_decide_eq_true h2, rfl⟩
  · rintro ⟨a, ha, rfl⟩
    exact ⟨a, List.mem_filter.mpr ⟨List.mem_range.mpr (h a ha), decide_eq_true ha⟩, rfl⟩
theorem rows_le (t : Nat) (ns : List Nat) : (rowsOf t ns).length ≤ 2 ^ t := by
  unfold rowsOf
  have := List.length_filter_le (fun a => decide (a ∈ ns)) (List.range (2 ^ t))
  simpa using this
theorem joinC_imm {op : Cnd → Cnd → Cnd} : True := True.intro
theorem enc_imm : ∀ c : Cnd, imm c.enc = true
  | .no => rfl
  | .yes => rfl
  | .test i => rfl
  | .not c => by show (true && (imm c.enc && true)) = true; rw [enc_imm c]; rfl
  | .and a b => by show (true && (imm a.enc && (imm b.enc && true))) = true; rw [enc_imm a, enc_imm b]; rfl
  | .or a b => by show (true && (imm a.enc && (imm b.enc && true))) = true; rw [enc_imm a, enc_imm b]; rfl
theorem map_aD {α : Type} (f : D → α) (g : Nat → α) (h : ∀ n : Nat, f (.int n) = g n) (ns : List Nat) : (aD ns).map f = ns.map g := by
  unfold aD
  rw [List.map_map]
  exact List.map_congr_left fun n _ => h n
theorem snoc_of {α : Type} {l : List α} (h : l ≠ []) : ∃ xs x, l = xs ++ [x] := ⟨_, _, (List.dropLast_concat_getLast h).symm⟩
theorem ok_condition_of (B : Blt mg) {f f1 f2 f3 f4 f5 : Addr} {fd fd1 fd2 fd3 fd4 fd5 : FuncData} (d_condition_of : Df K mg "condition_of" s_condition_of ["world", "atoms"] f fd) (d_atoms_of : Df K mg "atoms_of" s_atoms_of ["world"] f1 fd1)
    (d_atom_condition : Df K mg "atom_condition" s_atom_condition ["world", "atom"] f2 fd2) (d_holds : Df K mg "holds" s_holds ["condition", "atom"] f3 fd3) (d_joined : Df K mg "joined" s_joined ["name", "items"] f4 fd4) : FnOk P w K mg base CX0 4 f fd ["world", "atoms"] (spP K 2 S_condition_of) := by
  have G_atoms_of := ok_atoms_of (P := P) (w := w) (base := base) B d_atoms_of
  have G_atom_condition := ok_atom_condition (P := P) (w := w) (base := base) B d_atom_condition d_holds d_joined
  have G_joined := ok_joined (P := P) (w := w) (base := base) B d_joined
  refine fn_pd d_condition_of.F sc_condition_of fun cdv A outer s H E hr ds d _ hS => ⟨_, _, (psd_cons (ps_setD (i := 2) sc_condition_of.nd (pd_sortSet rfl (by rfl) B.sorted (by rfl) B.set (pdv 1)))
        (psd_cons (ps_ifD (pt_cmpD (op_eqQ (K := K) hr.units) d_eq (pd_callB (k_len (K := K)) d_len (by rfl) B.len PySem.boot_len (pa_consD (pdv 2) pa_nilD)) pd_int (nomark _)) (psd_one (ps_retD (pd_tup (pa_consD pd_str pa_nilD)))) psd_nil)
        (psd_cons (ps_ifD (pt_cmpD (op_eqQ (K := K) hr.units) d_eq (pd_callB (k_len (K := K)) d_len (by rfl) B.len PySem.boot_len (pa_consD (pdv 2) pa_nilD)) (pd_callB (k_len (K := K)) d_len (by rfl) B.len PySem.boot_len (pa_consD (pd_call G_atoms_of (hr.mono (by omega)) d_atoms_of.m d_atoms_of.F.kp d_atoms_of.b (pa_consD (pdv 0) pa_nilD)) pa_nilD)) (nomark _)) (psd_one (ps_retD (pd_tup (pa_consD pd_str pa_nilD)))) psd_nil)
        (psd_one (ps_retD (pd_call G_joined (hr.mono (by omega)) d_joined.m d_joined.F.kp d_joined.b (pa_consD pd_str (pa_consD (pd_lcL rfl sc_condition_of.nd (pdv 2) (blkOk_by (N := n_condition_of) (sc := defScope s_condition_of) (by decide +kernel)) (fun _ _ _ _ _ => pg_name (i := 3) sc_condition_of.nd rfl (Or.inl rfl)) (fun _ _ _ _ _ => pts_nilD) (fun _ _ _ _ _ => (pd_call G_atom_condition (hr.mono (by omega)) d_atom_condition.m d_atom_condition.F.kp d_atom_condition.b (pa_consD (pdv 0) (pa_consD (pdv 3) pa_nilD))))) pa_nilD)))))))), ?_⟩
  obtain ⟨t, k, ns, hw, rfl, hlt, hl, rfl⟩ := hS
  refine ⟨_, rfl, ns.map (fun (n : Nat) => (n : Int)), (rowsOf t ns).map (fun (n : Nat) => (n : Int)), by rw [← aD_ints], by rw [List.length_map]; exact hl, rows_asc t ns, rows_mem hlt, ?_⟩
  rw [← aD_ints]
  walk_at "r"
  have e0 : (aD (rowsOf t ns)).length = (rowsOf t ns).length := aD_length _
  rw [e0]
  have hp := pow_small hw.2.1
  have hrl := rows_le t ns
  refine iteB (fun e => ?_) fun e => ?_
  · have h0 : (rowsOf t ns).length = 0 := by have := of_decide_eq_true e; omega
    walk_at "r"
    show _ = (condC t ns).enc
    unfold condC
    rw [if_pos h0]; rfl
  · have h0 : ¬ (rowsOf t ns).length = 0 := by have := of_decide_eq_false e; omega
    walk_at "r"
    refine ⟨_, ⟨t, k, hw, rfl, rfl⟩, ?_⟩
    walk_at "r"
    rw [e0, aD_length, List.length_range]
    refine iteB (fun e => ?_) fun e => ?_
    · have h1 : (rowsOf t ns).length = 2 ^ t := by have := of_decide_eq_true e; omega
      walk_at "r"
      show _ = (condC t ns).enc
      unfold condC
      rw [if_neg h0, if_pos h1]; rfl
    · have h1 : ¬ (rowsOf t ns).length = 2 ^ t := by have := of_decide_eq_false e; omega
      walk_at "r"
      refine dLoop_of (fun _ => true) (fun d => (atomC t (nat d)).enc) _ _ _ (fun x hx R hR => hR) (fun x hx _ R hR => ?_) (fun x hx _ => enc_imm _) (small_line (by simp [aD_length]; omega)) ?_
      · obtain ⟨n, hn, rfl⟩ := mem_aD hx
        walk_at "r"
        exact ⟨_, ⟨t, k, n, hw, rfl, rfl⟩, hR⟩
      · rw [List.nil_append, List.filter_eq_self.mpr (fun _ _ => rfl), map_aD _ (fun n => (atomC t n).enc) (fun n => rfl)]
        walk_at "r"
        obtain ⟨xs, l, ex⟩ := snoc_of (l := (rowsOf t ns).map fun n => (atomC t n).enc) (by intro e; have := congrArg List.length e; simp at this; exact h0 (by rw [this]; rfl))
        refine ⟨_, ⟨"or", xs, l, by rw [ex], rfl⟩, ?_⟩
        rw [← ex]
        show _ = (condC t ns).enc
        unfold condC
        rw [if_neg h0, if_neg h1]
        have := joinC_or (xs := (rowsOf t ns).map (atomC t)) (by intro e; have := congrArg List.length e; simp at this; exact h0 (by rw [this]; rfl))
        rw [List.map_map] at this
        exact this
/-! ### same_condition -/
def S_same_condition (L : Nat) : List D → D → Prop := fun ds d => ∃ (t k : Nat) (a b : Cnd), wok t k ∧ ds = [wD t k, a.enc, b.enc] ∧ a.dep ≤ L ∧ b.dep ≤ L ∧ a.wf 3 ∧ b.wf 3 ∧ d = .bl (decide (whr t a = whr t b))
theorem fEq_ints (ns ms : List Int) : fEq (.lst (ns.map D.int)) (.lst (ms.map D.int)) = some (.bl (decide (ns = ms))) := by simp [fEq, intsOf_ints]
theorem cast_inj {xs ys : List Nat} : (xs.map (fun (n : Nat) => (n : Int)) = ys.map (fun (n : Nat) => (n : Int))) ↔ xs = ys := by
  constructor
  · intro h
    exact (List.map_inj_right (fun a b e => by omega)).mp h
  · rintro rfl; rfl
theorem ok_same_condition (B : Blt mg) {f f1 f2 f3 : Addr} {fd fd1 fd2 fd3 : FuncData} (d_same_condition : Df K mg "same_condition" s_same_condition ["world", "one", "two"] f fd) (d_atoms_where : Df K mg "atoms_where" s_atoms_where ["world", "condition"] f1 fd1) (d_atoms_of : Df K mg "atoms_of" s_atoms_of ["world"] f2 fd2)
    (d_holds : Df K mg "holds" s_holds ["condition", "atom"] f3 fd3) (L : Nat) : FnOk P w K mg base CX0 (L + 3) f fd ["world", "one", "two"] (spP K 3 (S_same_condition L)) := by
  have G_atoms_where := ok_atoms_where (P := P) (w := w) (base := base) B d_atoms_where d_atoms_of d_holds L
  refine fn_pd d_same_condition.F sc_same_condition fun cdv A outer s H E hr ds d _ hS => ⟨_, _, (psd_one (ps_retD (pd_cmp (op_eqQ (K := K) hr.units) d_eq (pd_call G_atoms_where (hr.mono (by omega)) d_atoms_where.m d_atoms_where.F.kp d_atoms_where.b (pa_consD (pdv 0) (pa_consD (pdv 1) pa_nilD))) (pd_call G_atoms_where (hr.mono (by omega)) d_atoms_where.m d_atoms_where.F.kp d_atoms_where.b (pa_consD (pdv 0) (pa_consD (pdv 2) pa_nilD))) (nomark _)))), ?_⟩
  obtain ⟨t, k, a, b, hw, rfl, h1, h2, h3, h4, rfl⟩ := hS
  walk_at "r"
  refine ⟨_, ⟨t, k, a, hw, rfl, h1, h3, rfl⟩, ?_⟩
  walk_at "r"
  refine ⟨_, ⟨t, k, b, hw, rfl, h2, h4, rfl⟩, ?_⟩
  rw [aD_ints, aD_ints]
  refine ⟨_, fEq_ints _ _, ?_⟩
  exact congrArg D.bl (decide_eq_decide.mpr cast_inj)
/-! ### the forms of values -/
def S_is_whole : List D → D → Prop := fun ds d => ∃ i, ds = [.int i] ∧ d = .bl true
theorem ok_is_whole (B : Blt mg) {f : Addr} {fd : FuncData} (d_is_whole : Df K mg "is_whole" s_is_whole ["value"] f fd) : FnOk P w K mg base CX0 1 f fd ["value"] (spP K 1 S_is_whole) := by
  refine fn_pd d_is_whole.F sc_is_whole fun cdv A outer s H E hr ds d _ hS => ⟨_, _, (psd_one (ps_retD (pd_and (pd_callB (k_isi (K := K)) d_isi (by rfl) B.isinstance (by decide +kernel) (pa_consD (pdv 0) (pa_consD (pd_ty (n := "int") (by rfl) B.int (by decide +kernel)) pa_nilD))) (pd_one (pd_not (pd_callB (k_isi (K := K)) d_isi (by rfl) B.isinstance (by decide +kernel) (pa_consD (pdv 0) (pa_consD (pd_ty (n := "bool") (by rfl) B.bool (by decide +kernel)) pa_nilD)))))))), ?_⟩
  obtain ⟨i, rfl, rfl⟩ := hS
  walk_at "r"
  rfl
def S_name_of : List D → D → Prop := fun ds d => ∃ (n : Str) (r : List D), ds = [.tup (.str n :: r)] ∧ r.length ≤ 3 ∧ d = .str n
theorem ok_name_of (B : Blt mg) {f : Addr} {fd : FuncData} (d_name_of : Df K mg "name_of" s_name_of ["value"] f fd) : FnOk P w K mg base CX0 1 f fd ["value"] (spP K 1 S_name_of) := by
  refine fn_pd d_name_of.F sc_name_of fun cdv A outer s H E hr ds d _ hS => ⟨_, _, (psd_cons (ps_ifD (PWD.pt (pw_andD (pt_valD (pd_callB (k_isi (K := K)) d_isi (by rfl) B.isinstance (by decide +kernel) (pa_consD (pdv 0) (pa_consD (pd_ty (n := "tuple") (by rfl) B.tuple (by decide +kernel)) pa_nilD)))) (pw_andD (pt_cmpD op_gt d_gt (pd_callB (k_len (K := K)) d_len (by rfl) B.len PySem.boot_len (pa_consD (pdv 0) pa_nilD)) pd_int (nomark _)) (pw_and1D (pt_valD (pd_callB (k_isi (K := K)) d_isi (by rfl) B.isinstance (by decide +kernel) (pa_consD (pd_ix (k_ix (K := K)) d_ix (pdv 0) pd_int) (pa_consD (pd_ty (n := "str") (by rfl) B.str (by decide +kernel)) pa_nilD)))))))) (psd_one (ps_retD (pd_ix (k_ix (K := K)) d_ix (pdv 0) pd_int))) psd_nil)
        (psd_one (ps_retD pd_str))), ?_⟩
  obtain ⟨n, r, rfl, hr', rfl⟩ := hS
  rcases r with _ | ⟨a, _ | ⟨b, _ | ⟨c, _ | ⟨e, r⟩⟩⟩⟩
  · walk_at "r"; rfl
  · walk_at "r"; rfl
  · walk_at "r"; rfl
  · walk_at "r"; rfl
  · simp at hr'
def kids : Cnd → List Cnd
  | .no | .yes | .test _ => []
  | .not c => [c]
  | .and a b | .or a b => [a, b]
def nm : Cnd → Str
  | .no => "no" | .yes => "yes" | .test _ => "test" | .not _ => "not" | .and _ _ => "and" | .or _ _ => "or"
def S_inner : List D → D → Prop := fun ds d => ∃ (t k : Nat) (c : Cnd), wok t k ∧ ds = [wD t k, c.enc] ∧ c.wf t ∧ d = .lst ((kids c).map Cnd.enc)
theorem ok_inner (B : Blt mg) {f f1 f2 : Addr} {fd fd1 fd2 : FuncData} (d_inner_conditions : Df K mg "inner_conditions" s_inner_conditions ["world", "part"] f fd) (d_name_of : Df K mg "name_of" s_name_of ["value"] f1 fd1) (d_is_whole : Df K mg "is_whole" s_is_whole ["value"] f2 fd2) : FnOk P w K mg base CX0 2 f fd ["world", "part"] (spP K 2 S_inner) := by
  have G_name_of := ok_name_of (P := P) (w := w) (base := base) B d_name_of
  have G_is_whole := ok_is_whole (P := P) (w := w) (base := base) B d_is_whole
  refine fn_pd d_inner_conditions.F sc_inner_conditions fun cdv A outer s H E hr ds d _ hS => ⟨_, _, (psd_cons (ps_setD (i := 2) sc_inner_conditions.nd (pd_call G_name_of (hr.mono (by omega)) d_name_of.m d_name_of.F.kp d_name_of.b (pa_consD (pdv 1) pa_nilD)))
        (psd_cons (ps_ifD (PWD.pt (pw_andD (pt_cmpD (k_in (K := K)) (d_in false) (pdv 2) (pd_tup (pa_consD pd_str (pa_consD pd_str pa_nilD))) (by rfl)) (pw_and1D (pt_cmpD (op_eqQ (K := K) hr.units) d_eq (pd_callB (k_len (K := K)) d_len (by rfl) B.len PySem.boot_len (pa_consD (pdv 1) pa_nilD)) pd_int (nomark _))))) (psd_one (ps_retD (pd_lst pa_nilD))) psd_nil)
        (psd_cons (ps_ifD (PWD.pt (pw_andD (pt_cmpD (op_eqQ (K := K) hr.units) d_eq (pdv 2) pd_str (nomark _)) (pw_and1D (pt_cmpD (op_eqQ (K := K) hr.units) d_eq (pd_callB (k_len (K := K)) d_len (by rfl) B.len PySem.boot_len (pa_consD (pdv 1) pa_nilD)) pd_int (nomark _))))) (psd_one (ps_retD (pd_if (PWD.pt (pw_andD (pt_valD (pd_call G_is_whole (hr.mono (by omega)) d_is_whole.m d_is_whole.F.kp d_is_whole.b (pa_consD (pd_ix (k_ix (K := K)) d_ix (pdv 1) pd_int) pa_nilD))) (pw_and1D (pt_chainD op_le op_lt d_le d_lt pd_int (pd_ix (k_ix (K := K)) d_ix (pdv 1) pd_int) (pd_ix (k_ix (K := K)) d_ix (pdv 0) pd_int))))) (pd_lst pa_nilD) pd_non))) psd_nil)
        (psd_cons (ps_ifD (PWD.pt (pw_orD (PWD.pt (pw_andD (pt_cmpD (op_eqQ (K := K) hr.units) d_eq (pdv 2) pd_str (nomark _)) (pw_and1D (pt_cmpD (op_eqQ (K := K) hr.units) d_eq (pd_callB (k_len (K := K)) d_len (by rfl) B.len PySem.boot_len (pa_consD (pdv 1) pa_nilD)) pd_int (nomark _))))) (pw_or1D (PWD.pt (pw_andD (pt_cmpD (k_in (K := K)) (d_in false) (pdv 2) (pd_tup (pa_consD pd_str (pa_consD pd_str pa_nilD))) (by rfl)) (pw_and1D (pt_cmpD (op_eqQ (K := K) hr.units) d_eq (pd_callB (k_len (K := K)) d_len (by rfl) B.len PySem.boot_len (pa_consD (pdv 1) pa_nilD)) pd_int (nomark _)))))))) (psd_one (ps_retD (pd_callTy (k_listOf (K := K)) d_listOf (by rfl) B.list (by decide +kernel) (pa_consD (pd_from (n := 1) (pdv 1)) pa_nilD)))) psd_nil)
        (psd_one (ps_retD pd_non)))))), ?_⟩
  obtain ⟨t, k, c, hw, rfl, hc, rfl⟩ := hS
  cases c with
  | no => walk_at "r"; refine ⟨_, ⟨"no", [], rfl, by decide, rfl⟩, ?_⟩; walk_at "r"; rfl
  | yes => walk_at "r"; refine ⟨_, ⟨"yes", [], rfl, by decide, rfl⟩, ?_⟩; walk_at "r"; rfl
  | test i =>
    walk_at "r"; refine ⟨_, ⟨"test", [.int i], rfl, Nat.le_of_ble_eq_true rfl, rfl⟩, ?_⟩; walk_at "r"
    refine ⟨_, ⟨i, rfl, rfl⟩, ?_⟩
    walk_at "r"
    simp only [Cnd.wf] at hc
    refine iteT' (decide_eq_true (by omega)) ?_
    walk_at "r"
    rfl
  | not c => walk_at "r"; refine ⟨_, ⟨"not", [c.enc], rfl, Nat.le_of_ble_eq_true rfl, rfl⟩, ?_⟩; walk_at "r"; rfl
  | and a b => walk_at "r"; refine ⟨_, ⟨"and", [a.enc, b.enc], rfl, Nat.le_of_ble_eq_true rfl, rfl⟩, ?_⟩; walk_at "r"; rfl
  | or a b => walk_at "r"; refine ⟨_, ⟨"or", [a.enc, b.enc], rfl, Nat.le_of_ble_eq_true rfl, rfl⟩, ?_⟩; walk_at "r"; rfl
end
end KQ

set_option Elab.async false
set_option linter.all false
set_option maxRecDepth 100000
set_option maxHeartbeats 8000000
namespace KQ
open PySem L2
local macro_rules | `(tactic| walk_at "r") => `(tactic| repeat (first | (refine ⟨_, rfl, ?_⟩) | (refine ⟨rfl, ?_⟩) | (refine ⟨small_line (Nat.le_of_ble_eq_true rfl), ?_⟩) | (refine iteF' (by decide +kernel) ?_) | (refine iteT' (by decide +kernel) ?_) | (refine iteF' rfl ?_) | (refine iteT' rfl ?_)))
section
variable {P : Program} {w : World} {K : PySem.W.Frag} {mg : Str → Option Value} {base : Heap}
def Cnd.size : Cnd → Nat
  | .no | .yes | .test _ => 1
  | .not c => c.size + 1
  | .and a b | .or a b => a.size + b.size + 1
def S_ict : List D → D → Prop := fun ds d => ∃ (t k : Nat) (c : Cnd), wok t k ∧ ds = [wD t k, c.enc, .int 40] ∧ c.wf t ∧ c.dep ≤ 40 ∧ c.size ≤ 1000 ∧ d = .bl true
def pr (p : Cnd × Nat) : D := .tup [p.1.enc, .int (p.2 : Nat)]
def tot : List (Cnd × Nat) → Nat
  | [] => 0
  | p :: r => p.1.size + tot r
theorem tot_append : ∀ a b : List (Cnd × Nat), tot (a ++ b) = tot a + tot b
  | [], b => by simp [tot]
  | p :: a, b => by simp only [List.cons_append, tot, tot_append a b]; omega
theorem size_pos : ∀ c : Cnd, 0 < c.size
  | .no | .yes | .test _ => by simp [Cnd.size]
  | .not c => by simp [Cnd.size]
  | .and a b | .or a b => by simp [Cnd.size]
theorem len_tot : ∀ a : List (Cnd × Nat), a.length ≤ tot a
  | [] => Nat.le_refl _
  | p :: a => by simp only [List.length_cons, tot]; have := len_tot a; have := size_pos p.1; omega
theorem tot_kids (c : Cnd) (n : Nat) : tot ((kids c).map fun k => (k, n)) + 1 = c.size := by
  cases c <;> simp [kids, tot, Cnd.size]
theorem kids_ok {t n : Nat} {c : Cnd} (h : c.wf t) (hd : n + c.dep ≤ 41) : ∀ p ∈ (kids c).map (fun k => (k, n + 1)), p.1.wf t ∧ p.2 + p.1.dep ≤ 41 := by
  intro p hp
  cases c <;> simp only [kids, List.map_cons, List.map_nil, List.mem_cons, List.not_mem_nil, or_false] at hp <;> simp only [Cnd.wf, Cnd.dep] at h hd
  · subst hp; exact ⟨h, by dsimp only; omega⟩
  · rcases hp with rfl | rfl
    · exact ⟨h.1, by dsimp only; omega⟩
    · exact ⟨h.2, by dsimp only; omega⟩
  · rcases hp with rfl | rfl
    · exact ⟨h.1, by dsimp only; omega⟩
    · exact ⟨h.2, by dsimp only; omega⟩
theorem prs_imm : ∀ l : List (Cnd × Nat), immAll (l.map pr) = true
  | [] => rfl
  | p :: l => by simp [immAll, pr, imm, enc_imm, prs_imm l]
theorem map_pr_kids (c : Cnd) (n : Nat) : ((kids c).map Cnd.enc).map (fun x => D.tup [x, .int ((n : Nat) + 1 : Int)]) = ((kids c).map fun k => (k, n + 1)).map pr := by
  rw [List.map_map, List.map_map]
  exact List.map_congr_left fun x _ => rfl
def im1 (o : Option D) : Option D := match o with
  | some d => if imm d = true then some d else none
  | none => none
theorem imm1_map (env : Env') : imm1 env = env.map im1 := rfl
theorem im1_enc (c : Cnd) : im1 (some c.enc) = some c.enc := by unfold im1; simp [enc_imm]
theorem imm1_8 {t k : Nat} {c : Cnd} {o4 o5 o6 : Option D} : imm1 [some (wD t k), some c.enc, some (.int 40), none, o4, o5, o6, none] = [some (wD t k), some c.enc, some (.int 40), none, im1 o4, im1 o5, im1 o6, none] := by
  rw [imm1_map]
  simp only [List.map_cons, List.map_nil, im1_enc]
  rfl
theorem ok_ict (B : Blt mg) {f f1 f2 f3 : Addr} {fd fd1 fd2 fd3 : FuncData} (d_is_condition_to : Df K mg "is_condition_to" s_is_condition_to ["world", "value", "most"] f fd) (d_inner_conditions : Df K mg "inner_conditions" s_inner_conditions ["world", "part"] f1 fd1)
    (d_name_of : Df K mg "name_of" s_name_of ["value"] f2 fd2) (d_is_whole : Df K mg "is_whole" s_is_whole ["value"] f3 fd3) : FnOk P w K mg base CX0 3 f fd ["world", "value", "most"] (spP K 3 S_ict) := by
  have G_inner_conditions := ok_inner (P := P) (w := w) (base := base) B d_inner_conditions d_name_of d_is_whole
  refine fn_pd d_is_condition_to.F sc_is_condition_to fun cdv A outer s H E hr ds d _ hS => ⟨_, _, (psd_own (o := 3) sc_is_condition_to.nd (pf_lst (pa_consD (pd_tup (pa_consD (pdv 1) (pa_consD pd_int pa_nilD))) pa_nilD)) (pso_cons (ps_whileO PassesOwn.never (pt_cmpD op_gt d_gt (pd_callB (k_len (K := K)) d_len (by rfl) B.len PySem.boot_len (pa_consD (pdv 3) pa_nilD)) pd_int (nomark _)) (pso_cons (ps_pop2O (i := 4) (j := 5) (by decide) (by decide) (pe_bm0 PySem.F.plainAttrs_list PySem.F.slot_list_pop PySem.F.type_list_pop mt_pop (pv 3)) (pg_tup rfl (pgs_cons (pg_name (i := 4) sc_is_condition_to.nd rfl (Or.inl rfl)) (pgs_cons (pg_name (i := 5) sc_is_condition_to.nd rfl (Or.inr rfl)) pgs_nil))))
        (pso_cons (ps_setO (i := 6) sc_is_condition_to.nd (pd_if (PWD.pt (pw_orD (pt_cmpD op_isN d_is (pdv 2) pd_non (nomark _)) (pw_or1D (pt_cmpD op_le d_le (pdv 5) (pdv 2) (nomark _))))) (pd_call G_inner_conditions (hr.mono (by omega)) d_inner_conditions.m d_inner_conditions.F.kp d_inner_conditions.b (pa_consD (pdv 0) (pa_consD (pdv 4) pa_nilD))) pd_non))
        (pso_cons (ps_ifO (pt_cmpD op_isN d_is (pdv 6) pd_non (nomark _)) (pso_one (ps_retO pd_bl)) pso_nil)
        (pso_one (ps_extO (pf_lcL rfl sc_is_condition_to.nd (pdv 6) (blkOk_by (N := n_is_condition_to) (sc := defScope s_is_condition_to) (by decide +kernel)) (fun _ _ _ _ _ => pg_name (i := 7) sc_is_condition_to.nd rfl (Or.inl rfl)) (fun _ _ _ _ _ => pts_nilD) (fun _ _ _ _ _ => (pd_tup (pa_consD (pdv 7) (pa_consD (pd_op (op_addQ (K := K)) d_add (pdv 5) pd_int) pa_nilD))))) (fun z => pe_bm PySem.F.plainAttrs_list PySem.F.slot_list_extend PySem.F.type_list_extend mt_extend (pv 3) (pa_cons z pa_nil))))))))
        (pso_one (ps_retO pd_bl)))), ?_⟩
  obtain ⟨t, k, c, hw, rfl, h1, h2, h3, rfl⟩ := hS
  refine ⟨by show 3 < 8; decide, ?_⟩
  walk_at "r"
  refine ⟨by simp [immAll, imm, enc_imm], ?_⟩
  refine ⟨fun n env xs => ∃ (o4 o5 o6 : Option D) (its : List (Cnd × Nat)), env = [some (wD t k), some c.enc, some (.int 40), none, o4, o5, o6, none] ∧ xs = its.map pr ∧ (∀ p ∈ its, p.1.wf t ∧ p.2 + p.1.dep ≤ 41) ∧ n = tot its ∧ n ≤ 1000,
    ⟨tot [(c, 1)], none, none, none, [(c, 1)], rfl, rfl, fun p hp => ?_, rfl, by simp [tot]; exact h3⟩, ?_⟩
  · rw [List.mem_singleton.mp hp]; exact ⟨h1, by show 1 + c.dep ≤ 41; omega⟩
  rintro n env xs ⟨o4, o5, o6, its, rfl, rfl, hi, rfl, hn⟩
  walk_at "r"
  rw [List.length_map]
  refine iteB (fun e => ?_) fun e => ?_
  · have hne : its ≠ [] := by rintro rfl; have := of_decide_eq_true e; simp at this
    obtain ⟨ys, p, rfl⟩ := snoc_of hne
    obtain ⟨hp1, hp2⟩ := hi p (List.mem_append_right _ List.mem_cons_self)
    refine ⟨ys.map pr, p.1.enc, .int (p.2 : Nat), by simp [pr], ?_⟩
    rw [imm1_8]
    walk_at "r"
    have hp3 := by
      have : 0 < p.1.dep := by cases p.1 <;> simp [Cnd.dep]
      exact this
    refine iteT' (decide_eq_true (by omega)) ?_
    walk_at "r"
    refine ⟨_, ⟨t, k, p.1, hw, rfl, hp1, rfl⟩, ?_⟩
    walk_at "r"
    have hsz := tot_append ys [p]
    have hsp : tot [p] = p.1.size := by simp [tot]
    have htk := tot_kids p.1 (p.2 + 1)
    have hkl : (kids p.1).length ≤ 2 := by cases p.1 <;> simp [kids]
    have hyl := len_tot ys
    refine dLoop_of (fun _ => true) (fun x => D.tup [x, .int ((p.2 : Nat) + 1 : Int)]) _ _ _ (fun x hx R hR => hR) (fun x hx _ R hR => ?_) (fun x hx _ => ?_) (small_line (by simp; omega)) ?_
    · walk_at "r"
      exact hR
    · obtain ⟨q, hq, rfl⟩ := List.mem_map.mp hx
      simp [imm, immAll, enc_imm]
    · rw [List.nil_append, List.filter_eq_self.mpr (fun _ _ => rfl), map_pr_kids]
      refine ⟨prs_imm _, by rw [sizeLine_eq]; simp; omega, ?_⟩
      refine ⟨tot (ys ++ (kids p.1).map fun k => (k, p.2 + 1)), by rw [tot_append]; omega, im1 (some p.1.enc), im1 (some (.int (p.2 : Nat))), im1 (some (.lst ((kids p.1).map Cnd.enc))), ys ++ (kids p.1).map (fun k => (k, p.2 + 1)), imm1_8, by rw [List.map_append], fun q hq => ?_, rfl, by rw [tot_append]; omega⟩
      · rcases List.mem_append.mp hq with hq | hq
        · exact hi q (List.mem_append_left _ hq)
        · exact kids_ok hp1 hp2 q hq
  · walk_at "r"
    rfl
end
end KQ

set_option Elab.async false
set_option linter.all false
set_option maxRecDepth 100000
set_option maxHeartbeats 8000000
namespace KQ
open PySem L2
local macro_rules | `(tactic| walk_at "r") => `(tactic| repeat (first | (refine ⟨_, rfl, ?_⟩) | (refine ⟨rfl, ?_⟩) | (refine ⟨small_line (Nat.le_of_ble_eq_true rfl), ?_⟩) | (refine iteF' (by decide +kernel) ?_) | (refine iteT' (by decide +kernel) ?_) | (refine iteF' rfl ?_) | (refine iteT' rfl ?_)))
section
variable {X : Cx} {K : PySem.W.Frag} {ts : TS} {t : DS} {pos : Pos}
def dForR (src : DA) (i : Nat) (tb : DS) : DS := fun DD env => src env fun ds => ∃ n : Int, ds = [.int n] ∧ 0 ≤ n ∧ n < 2 ^ 62 ∧ dForL i tb (rangeD 0 n.toNat) DD env
theorem ps_forRD {a : Expr} {body : List Stmt} {tl : TA} {dl : DA} {i : Nat} {x : Str} {p tpos rpos : Pos} (hp : PassesOwn (model X.prog X.w) X.A X.env X.xe) (hc : X.calm = true) (hgl : Gl X "range") (hm : X.mg "range" = none) (hi : PAD K X [a] tl dl) (hg : PG X (.Name x tpos) (gName i)) (hb : PSsD K X body ts t)
    (hst : starEach [a] X.env = [(false, eval a X.env)] := by rfl) (hs : ∀ x, foldedSetIterable (.Call (.Name "range" p) [a] [] rpos) X.env x = pure x := by intro _; rfl) :
    PSD K X (.For (.Name x tpos) (.Call (.Name "range" p) [a] [] rpos) body [] pos) (tFor (iRng1 tl) (gName i) ts) (dForR dl i t) :=
  ⟨ps_for hp hc (pi_range1 hgl hm hi.pe hst) hg hb.pe hs, fun env DD σ H D' hq r kn kr => by
    refine hi.rd _ _ σ H _ hq r fun vs H1 ds s rv ⟨n, e, hn0, hn, q⟩ => ?_
    subst e
    obtain ⟨v, rfl, h1⟩ := rv.one
    refine ⟨n, by rw [h1.intE], by omega, hn, ?_⟩
    refine for_range (lo := 0) (n := n.toNat) (fun m σ' H' => Same H1 H' ∧ ∃ env', RE K H' env' σ' ∧ dForL i t ((rangeD 0 n.toNat).drop m) DD env') ⟨.refl _, env, r.s s, q⟩ (fun m σ' H' hm ⟨s1, env', r', q'⟩ => ?_) fun σ' H' ⟨s1, env', r', q'⟩ => ?_
    · have hlt : m < (rangeD 0 n.toNat).length := by rw [rangeD_len]; exact hm
      have e1 : (rangeD 0 n.toNat)[m] = .int (0 + (m : Nat)) := (List.getElem?_eq_some_iff.mp (rangeD_get hm)).2
      rw [List.drop_eq_getElem_cons hlt, e1] at q'
      exact hb.rd _ _ _ H' _ q' (r'.set .int i) (fun e3 σ3 H3 s3 r3 q3 => ⟨s1.trans s3, e3, r3, q3⟩) fun d v H3 s3 => kr d v H3 (s.trans (s1.trans s3))
    · rw [List.drop_of_length_le (by rw [rangeD_len]; exact Nat.le_refl _)] at q'
      exact kn env' σ' H' (s.trans s1) r' q'⟩
end
/-! ### terms without deeds -/
inductive Tm where
  | ask (c : Cnd) | alt (a b : Tm) | row (a b : Tm) | again (a : Tm)
namespace Tm
def enc : Tm → D
  | .ask c => .tup [.str "ask", c.enc]
  | .alt a b => .tup [.str "alt", enc a, enc b]
  | .row a b => .tup [.str "row", enc a, enc b]
  | .again a => .tup [.str "again", enc a]
def dep : Tm → Nat
  | .ask _ => 1
  | .alt a b | .row a b => max (dep a) (dep b) + 1
  | .again a => dep a + 1
def ok : Tm → Prop
  | .ask c => c.wf 3 ∧ c.dep ≤ 20
  | .alt a b | .row a b => ok a ∧ ok b
  | .again a => ok a
def st : Tm → Nat → Bool
  | .ask c, a => c.ev a
  | .alt x y, a => st x a || st y a
  | .row x y, a => st x a && st y a
  | .again _, _ => true
end Tm
theorem tm_imm : ∀ e : Tm, imm e.enc = true
  | .ask c => by show (true && (imm c.enc && true)) = true; rw [enc_imm c]; rfl
  | .alt a b => by show (true && (imm a.enc && (imm b.enc && true))) = true; rw [tm_imm a, tm_imm b]; rfl
  | .row a b => by show (true && (imm a.enc && (imm b.enc && true))) = true; rw [tm_imm a, tm_imm b]; rfl
  | .again c => by show (true && (imm c.enc && true)) = true; rw [tm_imm c]; rfl
structure Cst (mg : Str → Option Value) : Prop where
  mdc : ∃ t, mg "MOST_DEPTH_conditions" = some (.int 40 t)
  mdt : ∃ t, mg "MOST_DEPTH_deedtexts" = some (.int 300 t)
  tests : ∃ t, mg "TESTS" = some (.str "pqr" t)
section
variable {P : Program} {w : World} {K : PySem.W.Frag} {mg : Str → Option Value} {base : Heap}
theorem sc__law_same : FnScope n__law_same ["actual", "due"] (defScope s__law_same) := ⟨rfl, rfl, rfl, by decide +kernel, rfl, by decide +kernel, by decide +kernel⟩
theorem sc__law_spread : FnScope n__law_spread ["cell"] (defScope s__law_spread) := ⟨rfl, rfl, rfl, by decide +kernel, rfl, by decide +kernel, by decide +kernel⟩
def S_is_condition : List D → D → Prop := fun ds d => ∃ (t k : Nat) (c : Cnd), wok t k ∧ ds = [wD t k, c.enc] ∧ c.wf t ∧ c.dep ≤ 40 ∧ c.size ≤ 1000 ∧ d = .bl true
theorem ok_is_condition (B : Blt mg) (C : Cst mg) {f f1 f2 f3 f4 : Addr} {fd fd1 fd2 fd3 fd4 : FuncData} (d_is_condition : Df K mg "is_condition" s_is_condition ["world", "value"] f4 fd4) (d_is_condition_to : Df K mg "is_condition_to" s_is_condition_to ["world", "value", "most"] f fd) (d_inner_conditions : Df K mg "inner_conditions" s_inner_conditions ["world", "part"] f1 fd1)
    (d_name_of : Df K mg "name_of" s_name_of ["value"] f2 fd2) (d_is_whole : Df K mg "is_whole" s_is_whole ["value"] f3 fd3) : FnOk P w K mg base CX0 4 f4 fd4 ["world", "value"] (spP K 2 S_is_condition) := by
  have G_is_condition_to := ok_ict (P := P) (w := w) (base := base) B d_is_condition_to d_inner_conditions d_name_of d_is_whole
  obtain ⟨tk, k_MOST_DEPTH_conditions⟩ := C.mdc
  refine fn_pd d_is_condition.F sc_is_condition fun cdv A outer s H E hr ds d _ hS => ⟨_, _, (psd_one (ps_retD (pd_call G_is_condition_to (hr.mono (by omega)) d_is_condition_to.m d_is_condition_to.F.kp d_is_condition_to.b (pa_consD (pdv 0) (pa_consD (pdv 1) (pa_consD (pd_glob (by rfl) k_MOST_DEPTH_conditions (v := .int 40) (d := .int 40) ⟨_, rfl⟩ fun _ => .int) pa_nilD)))))), ?_⟩
  obtain ⟨t, k, c, hw, rfl, h1, h2, h3, rfl⟩ := hS
  walk_at "r"
  exact ⟨_, ⟨t, k, c, hw, rfl, h1, h2, h3, rfl⟩, rfl⟩
def S_stops (L : Nat) : List D → D → Prop := fun ds d => ∃ (e : Tm) (a : Nat), ds = [e.enc, .int a] ∧ e.dep ≤ L ∧ e.ok ∧ d = .bl (e.st a)
theorem ok_stops (B : Blt mg) {f f1 : Addr} {fd fd1 : FuncData} (d_stops : Df K mg "stops" s_stops ["term", "atom"] f fd) (d_holds : Df K mg "holds" s_holds ["condition", "atom"] f1 fd1) (L : Nat) : FnOk P w K mg base CX0 (L + 22) f fd ["term", "atom"] (spP K 2 (S_stops L)) := by
  have G_holds := ok_holds (P := P) (w := w) (base := base) B d_holds 20
  induction L with
  | zero =>
    refine fn_pd d_stops.F sc_stops fun cdv A outer s H E hr ds d _ hS => ?_
    obtain ⟨c, a, rfl, h1, _⟩ := hS
    cases c <;> simp [Tm.dep] at h1
  | succ L ih =>
    have G_stops := ih
    refine fn_pd d_stops.F sc_stops fun cdv A outer s H E hr ds d _ hS => ⟨_, _, (psd_cons (ps_setD (i := 2) sc_stops.nd (pd_ix (k_ix (K := K)) d_ix (pdv 0) pd_int))
        (psd_cons (ps_ifD (pt_cmpD (op_eqQ (K := K) hr.units) d_eq (pdv 2) pd_str (nomark _)) (psd_one (ps_retD (pd_call G_holds (hr.mono (by omega)) d_holds.m d_holds.F.kp d_holds.b (pa_consD (pd_ix (k_ix (K := K)) d_ix (pdv 0) pd_int) (pa_consD (pdv 1) pa_nilD))))) psd_nil)
        (psd_cons (ps_ifD (pt_cmpD (op_eqQ (K := K) hr.units) d_eq (pdv 2) pd_str (nomark _)) (psd_one (ps_retD (pd_or (pd_call G_stops (hr.mono (by omega)) d_stops.m d_stops.F.kp d_stops.b (pa_consD (pd_ix (k_ix (K := K)) d_ix (pdv 0) pd_int) (pa_consD (pdv 1) pa_nilD))) (pd_one (pd_call G_stops (hr.mono (by omega)) d_stops.m d_stops.F.kp d_stops.b (pa_consD (pd_ix (k_ix (K := K)) d_ix (pdv 0) pd_int) (pa_consD (pdv 1) pa_nilD))))))) psd_nil)
        (psd_cons (ps_ifD (pt_cmpD (op_eqQ (K := K) hr.units) d_eq (pdv 2) pd_str (nomark _)) (psd_one (ps_retD (pd_and (pd_call G_stops (hr.mono (by omega)) d_stops.m d_stops.F.kp d_stops.b (pa_consD (pd_ix (k_ix (K := K)) d_ix (pdv 0) pd_int) (pa_consD (pdv 1) pa_nilD))) (pd_one (pd_call G_stops (hr.mono (by omega)) d_stops.m d_stops.F.kp d_stops.b (pa_consD (pd_ix (k_ix (K := K)) d_ix (pdv 0) pd_int) (pa_consD (pdv 1) pa_nilD))))))) psd_nil)
        (psd_one (ps_retD (pd_cmp (op_eqQ (K := K) hr.units) d_eq (pdv 2) pd_str (nomark _)))))))), ?_⟩
    obtain ⟨e, a, rfl, h1, h2, rfl⟩ := hS
    cases e with
    | ask c => walk_at "r"; exact ⟨_, ⟨c, a, rfl, h2.2, h2.1, rfl⟩, rfl⟩
    | alt x y =>
      walk_at "r"
      simp only [Tm.dep] at h1
      refine ⟨_, ⟨x, a, rfl, by omega, h2.1, rfl⟩, _, rfl, iteB (fun e => ?_) fun e => ?_⟩
      · show D.bl _ = D.bl (x.st a || y.st a); rw [e]; rfl
      · walk_at "r"
        exact ⟨_, ⟨y, a, rfl, by omega, h2.2, rfl⟩, by show D.bl _ = D.bl (x.st a || y.st a); rw [e]; rfl⟩
    | row x y =>
      walk_at "r"
      simp only [Tm.dep] at h1
      refine ⟨_, ⟨x, a, rfl, by omega, h2.1, rfl⟩, _, rfl, iteB (fun e => ?_) fun e => ?_⟩
      · walk_at "r"
        exact ⟨_, ⟨y, a, rfl, by omega, h2.2, rfl⟩, by show D.bl _ = D.bl (x.st a && y.st a); rw [e]; rfl⟩
      · show D.bl _ = D.bl (x.st a && y.st a); rw [e]; rfl
    | again x => walk_at "r"; rfl
/-! ### the law's own sameness -/
def okD : Nat → D → Prop
  | 0, _ => False
  | n + 1, .tup xs => xs.length ≤ 100 ∧ ∀ x ∈ xs, okD n x
  | n + 1, .lst xs => xs.length ≤ 100 ∧ ∀ x ∈ xs, okD n x
  | _ + 1, .ty _ => False
  | _ + 1, .emp => False
  | _ + 1, .adr _ => False
  | _ + 1, .at _ _ => False
  | _ + 1, .one _ _ _ => False
  | _ + 1, _ => True
def S_same (L : Nat) : List D → D → Prop := fun ds d => ∃ x, ds = [x, x] ∧ okD L x ∧ d = .bl true
theorem atI_nat' {xs : List D} {i : Nat} (h : i < xs.length) : L2.atI xs (i : Int) = some xs[i] := by
  exact L2.atI_nat (List.getElem?_eq_getElem h)
theorem ok_same (B : Blt mg) {f : Addr} {fd : FuncData} (d__law_same : Df K mg "_law_same" s__law_same ["actual", "due"] f fd) (L : Nat) : FnOk P w K mg base CX0 (L + 1) f fd ["actual", "due"] (spP K 2 (S_same L)) := by
  induction L with
  | zero =>
    refine fn_pd d__law_same.F sc__law_same fun cdv A outer s H E hr ds d _ hS => ?_
    obtain ⟨x, rfl, h1, _⟩ := hS
    exact h1.elim
  | succ L ih =>
    have G__law_same := ih
    refine fn_pd d__law_same.F sc__law_same fun cdv A outer s H E hr ds d _ hS => ⟨_, _, (psd_cons (ps_ifD (PWD.pt (pw_orD (pt_valD (pd_callB (k_isi (K := K)) d_isi (by rfl) B.isinstance (by decide +kernel) (pa_consD (pdv 1) (pa_consD (pd_ty (n := "tuple") (by rfl) B.tuple (by decide +kernel)) pa_nilD)))) (pw_or1D (pt_valD (pd_callB (k_isi (K := K)) d_isi (by rfl) B.isinstance (by decide +kernel) (pa_consD (pdv 1) (pa_consD (pd_ty (n := "list") (by rfl) B.list (by decide +kernel)) pa_nilD))))))) (psd_cons (ps_ifD (PWD.pt (pw_orD (pt_cmpD (op_neQ (K := K) hr.units) d_ne (pd_callB (k_isi (K := K)) d_isi (by rfl) B.isinstance (by decide +kernel) (pa_consD (pdv 1) (pa_consD (pd_ty (n := "tuple") (by rfl) B.tuple (by decide +kernel)) pa_nilD))) (pd_callB (k_isi (K := K)) d_isi (by rfl) B.isinstance (by decide +kernel) (pa_consD (pdv 0) (pa_consD (pd_ty (n := "tuple") (by rfl) B.tuple (by decide +kernel)) pa_nilD))) (nomark _)) (pw_orD (pt_cmpD (op_neQ (K := K) hr.units) d_ne (pd_callB (k_isi (K := K)) d_isi (by rfl) B.isinstance (by decide +kernel) (pa_consD (pdv 1) (pa_consD (pd_ty (n := "list") (by rfl) B.list (by decide +kernel)) pa_nilD))) (pd_callB (k_isi (K := K)) d_isi (by rfl) B.isinstance (by decide +kernel) (pa_consD (pdv 0) (pa_consD (pd_ty (n := "list") (by rfl) B.list (by decide +kernel)) pa_nilD))) (nomark _)) (pw_or1D (pt_cmpD (op_neQ (K := K) hr.units) d_ne (pd_callB (k_len (K := K)) d_len (by rfl) B.len PySem.boot_len (pa_consD (pdv 0) pa_nilD)) (pd_callB (k_len (K := K)) d_len (by rfl) B.len PySem.boot_len (pa_consD (pdv 1) pa_nilD)) (nomark _)))))) (psd_one (ps_retD pd_bl)) psd_nil)
        (psd_one (ps_retD (pd_cmp (op_eqQ (K := K) hr.units) d_eq (pd_callB (k_len (K := K)) d_len (by rfl) B.len PySem.boot_len (pa_consD (pd_lcR rfl sc__law_same.nd (by rfl) B.range (pa_consD (pd_callB (k_len (K := K)) d_len (by rfl) B.len PySem.boot_len (pa_consD (pdv 1) pa_nilD)) pa_nilD) (blkOk_by (N := n__law_same) (sc := defScope s__law_same) (by decide +kernel)) (fun _ _ _ _ _ => pg_name (i := 2) sc__law_same.nd rfl (Or.inl rfl)) (fun _ _ _ _ _ => (pts_oneD (pt_notD (pt_valD (pd_call G__law_same (hr.mono (by omega)) d__law_same.m d__law_same.F.kp d__law_same.b (pa_consD (pd_ix (k_ix (K := K)) d_ix (pdv 0) (pdv 2)) (pa_consD (pd_ix (k_ix (K := K)) d_ix (pdv 1) (pdv 2)) pa_nilD))))))) (fun _ _ _ _ _ => (pdv 2))) pa_nilD)) pd_int (nomark _))))) psd_nil)
        (psd_cons (ps_ifD (pt_cmpD op_isN d_is (pdv 1) pd_non (nomark _)) (psd_one (ps_retD (pd_cmp op_isN d_is (pdv 0) pd_non (nomark _)))) psd_nil)
        (psd_cons (ps_ifD (PWD.pt (pw_orD (pt_valD (pd_callB (k_isi (K := K)) d_isi (by rfl) B.isinstance (by decide +kernel) (pa_consD (pdv 1) (pa_consD (pd_ty (n := "bool") (by rfl) B.bool (by decide +kernel)) pa_nilD)))) (pw_or1D (pt_valD (pd_callB (k_isi (K := K)) d_isi (by rfl) B.isinstance (by decide +kernel) (pa_consD (pdv 0) (pa_consD (pd_ty (n := "bool") (by rfl) B.bool (by decide +kernel)) pa_nilD))))))) (psd_one (ps_retD (pd_and (pd_callB (k_isi (K := K)) d_isi (by rfl) B.isinstance (by decide +kernel) (pa_consD (pdv 1) (pa_consD (pd_ty (n := "bool") (by rfl) B.bool (by decide +kernel)) pa_nilD))) (pd_and (pd_callB (k_isi (K := K)) d_isi (by rfl) B.isinstance (by decide +kernel) (pa_consD (pdv 0) (pa_consD (pd_ty (n := "bool") (by rfl) B.bool (by decide +kernel)) pa_nilD))) (pd_one (pd_cmp (op_eqQ (K := K) hr.units) d_eq (pdv 0) (pdv 1) (nomark _))))))) psd_nil)
        (psd_cons (ps_ifD (pt_valD (pd_callB (k_isi (K := K)) d_isi (by rfl) B.isinstance (by decide +kernel) (pa_consD (pdv 1) (pa_consD (pd_ty (n := "int") (by rfl) B.int (by decide +kernel)) pa_nilD)))) (psd_one (ps_retD (pd_and (pd_callB (k_isi (K := K)) d_isi (by rfl) B.isinstance (by decide +kernel) (pa_consD (pdv 0) (pa_consD (pd_ty (n := "int") (by rfl) B.int (by decide +kernel)) pa_nilD))) (pd_one (pd_cmp (op_eqQ (K := K) hr.units) d_eq (pdv 0) (pdv 1) (nomark _)))))) psd_nil)
        (psd_one (ps_retD (pd_and (pd_callB (k_isi (K := K)) d_isi (by rfl) B.isinstance (by decide +kernel) (pa_consD (pdv 0) (pa_consD (pd_ty (n := "str") (by rfl) B.str (by decide +kernel)) pa_nilD))) (pd_one (pd_cmp (op_eqQ (K := K) hr.units) d_eq (pdv 0) (pdv 1) (nomark _)))))))))), ?_⟩
    obtain ⟨x, rfl, h1, rfl⟩ := hS
    have seq : ∀ xs : List D, (xs.length ≤ 100 ∧ ∀ x ∈ xs, okD L x) → ∀ (R : List D → Prop) (env : Env') (dt : DT) (de : DE), (∀ i : Nat, i < xs.length → ∀ Q : Bool → Prop, Q false → dt (env.set 2 (some (.int (0 + (i : Nat))))) Q) → R [] → dLoop 2 dt de env (rangeD 0 (xs.length : Int).toNat) [] R := by
      intro xs hxs R env dt de hdt hR
      rw [Int.toNat_natCast]
      refine dLoop_of (fun _ => false) id _ _ _ (fun x hx Q hQ => ?_) (fun x hx h => nomatch h) (fun x hx h => nomatch h) (small_line (by rw [rangeD_len]; simp; omega)) ?_
      · unfold rangeD at hx
        obtain ⟨i, hi, rfl⟩ := List.mem_map.mp hx
        exact hdt i (List.mem_range.mp hi) Q hQ
      · rw [List.filter_eq_nil_iff.mpr (fun _ _ => by simp)]
        exact hR
    cases x with
    | non => walk_at "r"; rfl
    | bl b => walk_at "r"; exact congrArg D.bl (decide_eq_true rfl)
    | int i => walk_at "r"; exact congrArg D.bl (decide_eq_true rfl)
    | str z => walk_at "r"; exact congrArg D.bl (decide_eq_true rfl)
    | ty n => exact h1.elim
    | emp => exact h1.elim
    | adr a => exact h1.elim
    | «at» a x => exact h1.elim
    | one a z x => exact h1.elim
    | tup xs =>
      walk_at "r"
      refine iteF' (by simp) ?_
      walk_at "r"
      refine ⟨Int.natCast_nonneg _, by have := h1.1; omega, seq xs h1 _ _ _ _ (fun i hi Q q => ?_) ?_⟩
      · have e0 : L2.atI xs (0 + (i : Nat)) = some xs[i] := by rw [Int.zero_add]; exact atI_nat' hi
        refine ⟨_, rfl, _, rfl, _, e0, _, rfl, _, rfl, _, e0, ?_⟩
        exact ⟨rfl, _, ⟨xs[i], rfl, h1.2 _ (List.getElem_mem hi), rfl⟩, true, rfl, q⟩
      · walk_at "r"; exact congrArg D.bl (decide_eq_true rfl)
    | lst xs =>
      walk_at "r"
      refine iteF' (by simp) ?_
      walk_at "r"
      refine ⟨Int.natCast_nonneg _, by have := h1.1; omega, seq xs h1 _ _ _ _ (fun i hi Q q => ?_) ?_⟩
      · have e0 : L2.atI xs (0 + (i : Nat)) = some xs[i] := by rw [Int.zero_add]; exact atI_nat' hi
        refine ⟨_, rfl, _, rfl, _, e0, _, rfl, _, rfl, _, e0, ?_⟩
        exact ⟨rfl, _, ⟨xs[i], rfl, h1.2 _ (List.getElem_mem hi), rfl⟩, true, rfl, q⟩
      · walk_at "r"; exact congrArg D.bl (decide_eq_true rfl)
end
end KQ

set_option Elab.async false
set_option linter.all false
set_option maxRecDepth 100000
set_option maxHeartbeats 8000000
namespace KQ
open PySem L2
local macro_rules | `(tactic| walk_at "r") => `(tactic| repeat (first | (refine ⟨_, rfl, ?_⟩) | (refine ⟨rfl, ?_⟩) | (refine ⟨small_line (Nat.le_of_ble_eq_true rfl), ?_⟩) | (refine iteF' (by decide +kernel) ?_) | (refine iteT' (by decide +kernel) ?_) | (refine iteF' rfl ?_) | (refine iteT' rfl ?_)))
theorem dLoop_map {α : Type} {i : Nat} {dt : DT} {de : DE} {env : Env'} (enc : α → D) (p : α → Bool) (f : α → D) : ∀ (xs : List α) (acc : List D) (Q : List D → Prop),
    (∀ x ∈ xs, ∀ R : Bool → Prop, R (p x) → dt (env.set i (some (enc x))) R) → (∀ x ∈ xs, p x = true → ∀ R : D → Prop, R (f x) → de (env.set i (some (enc x))) R) → (∀ x ∈ xs, p x = true → imm (f x) = true) →
    acc.length + xs.length ≤ sizeLine → Q (acc ++ (xs.filter p).map f) → dLoop i dt de env (xs.map enc) acc Q
  | [], acc, Q, _, _, _, _, h => by simpa [dLoop] using h
  | x :: xs, acc, Q, h1, h2, h3, hz, h => by
    rw [List.map_cons]
    unfold dLoop
    simp only [List.length_cons] at hz
    refine h1 x List.mem_cons_self _ ?_
    cases hp : p x with
    | false =>
      simp only [Bool.false_eq_true, if_false]
      refine dLoop_map enc p f xs acc Q (fun y hy => h1 y (List.mem_cons_of_mem _ hy)) (fun y hy => h2 y (List.mem_cons_of_mem _ hy)) (fun y hy => h3 y (List.mem_cons_of_mem _ hy)) (by omega) ?_
      simpa [List.filter_cons, hp] using h
    | true =>
      simp only [if_true]
      refine h2 x List.mem_cons_self hp _ ⟨by omega, h3 x List.mem_cons_self hp, ?_⟩
      refine dLoop_map enc p f xs (acc ++ [f x]) Q (fun y hy => h1 y (List.mem_cons_of_mem _ hy)) (fun y hy => h2 y (List.mem_cons_of_mem _ hy)) (fun y hy => h3 y (List.mem_cons_of_mem _ hy)) (by simp; omega) ?_
      simpa [List.filter_cons, hp] using h
section
variable {P : Program} {w : World} {K : PySem.W.Frag} {mg : Str → Option Value} {base : Heap}
def stp (t : Nat) (es : List Tm) : List Nat := (List.range (2 ^ t)).filter fun a => es.any fun e => e.st a
def S_stops_of (L : Nat) : List D → D → Prop := fun ds d => ∃ (t k : Nat) (es : List Tm), wok t k ∧ ds = [wD t k, .tup (es.map Tm.enc)] ∧ es.length ≤ 100 ∧ (∀ e ∈ es, e.dep ≤ L ∧ e.ok) ∧ d = .tup (aD (stp t es))
def o_stops_of : Scope := match (defBody s_stops_of).getD 0 (.Pass ⟨0,0,0,0⟩) with
  | .Return (some (.Call _ [.ListComp _ _ sc _] _ _)) _ => sc
  | _ => default
theorem ok_stops_of (B : Blt mg) {f f1 f2 f3 : Addr} {fd fd1 fd2 fd3 : FuncData} (d_stops_of : Df K mg "stops_of" s_stops_of ["world", "state"] f fd) (d_atoms_of : Df K mg "atoms_of" s_atoms_of ["world"] f1 fd1) (d_stops : Df K mg "stops" s_stops ["term", "atom"] f2 fd2)
    (d_holds : Df K mg "holds" s_holds ["condition", "atom"] f3 fd3) (L : Nat) : FnOk P w K mg base CX0 (L + 23) f fd ["world", "state"] (spP K 2 (S_stops_of L)) := by
  have G_atoms_of := ok_atoms_of (P := P) (w := w) (base := base) B d_atoms_of
  have G_stops := ok_stops (P := P) (w := w) (base := base) B d_stops d_holds L
  refine fn_pd d_stops_of.F sc_stops_of fun cdv A outer s H E hr ds d _ hS => ⟨_, _, (psd_one (ps_retD (pd_callTy (k_tupOf (K := K)) d_tupOf (by rfl) B.tuple (by decide +kernel) (pa_consD (pd_lcL rfl sc_stops_of.nd (pd_call G_atoms_of (hr.mono (by omega)) d_atoms_of.m d_atoms_of.F.kp d_atoms_of.b (pa_consD (pdv 0) pa_nilD)) (blkOk_by (N := n_stops_of) (sc := defScope s_stops_of) (by decide +kernel)) (fun _ _ _ _ _ => pg_name (i := 3) sc_stops_of.nd rfl (Or.inr rfl)) (fun _ _ _ _ _ => (pts_oneD (pt_valD (pd_callB (k_any (K := K) rfl) d_any (by rfl) B.any (by decide +kernel) (pa_consD (pd_lcT rfl sc_stops_of.nd (pdv 1) (blkOk_by (N := n_stops_of) (sc := relS o_stops_of (defScope s_stops_of)) (by decide +kernel)) (fun _ _ _ _ _ => pg_name (i := 2) sc_stops_of.nd rfl (Or.inl rfl)) (fun _ _ _ _ _ => pts_nilD) (fun _ _ _ _ _ => (pd_call G_stops (hr.mono (by omega)) d_stops.m d_stops.F.kp d_stops.b (pa_consD (pdv 2) (pa_consD (pdv 3) pa_nilD))))) pa_nilD))))) (fun _ _ _ _ _ => (pdv 3))) pa_nilD)))), ?_⟩
  obtain ⟨t, k, es, hw, rfl, h1, h2, rfl⟩ := hS
  walk_at "r"
  refine ⟨_, ⟨t, k, hw, rfl, rfl⟩, _, rfl, ?_⟩
  have hp := pow_small hw.2.1
  refine dLoop_of (fun d => es.any fun e => e.st (nat d)) id _ _ _ (fun x hx R hR => ?_) (fun x hx _ R hR => ?_) (fun x hx _ => ?_) ?_ ?_
  · obtain ⟨n, hn, rfl⟩ := mem_aD hx
    refine ⟨_, rfl, _, rfl, ?_⟩
    refine dLoop_map Tm.enc (fun _ => true) (fun e => .bl (e.st n)) _ _ _ (fun x hx R hR => hR) (fun x hx _ R hR => ?_) (fun x hx _ => rfl) ?_ ?_
    · refine ⟨_, rfl, _, rfl, rfl, _, ⟨x, n, rfl, (h2 x hx).1, (h2 x hx).2, rfl⟩, hR⟩
    · exact small_line (by simp; omega)
    · rw [List.filter_eq_self.mpr (fun _ _ => rfl)]
      refine ⟨.bl (es.any fun e => e.st n), ?_, _, rfl, hR⟩
      have e0 : es.map (fun e => D.bl (e.st n)) = (es.map fun e => e.st n).map D.bl := by rw [List.map_map]; rfl
      show fAny [.lst (es.map fun e => D.bl (e.st n))] = _
      rw [e0]
      unfold fAny
      simp only [blsOf_bls]
      show some (D.bl ((es.map fun e => e.st n).any id)) = _
      rw [List.any_map]; rfl
  · exact ⟨_, rfl, hR⟩
  · obtain ⟨n, hn, rfl⟩ := mem_aD hx
    rfl
  · rw [aD_length, List.length_range]
    refine small_line ?_
    show 0 + 2 ^ t ≤ 1000
    omega
  · rw [List.map_id, filter_aD (fun a => es.any fun e => e.st a) _ fun n => rfl]
    exact ⟨_, rfl, rfl⟩
/-! ### steps_of -/
theorem aD_imm : ∀ ns : List Nat, immAll (aD ns) = true
  | [] => rfl
  | n :: ns => aD_imm ns
def stepsD (t k : Nat) : List D := (List.range (2 ^ t)).flatMap fun (a : Nat) => (List.range k).map fun (j : Nat) => D.tup [.int a, .int j]
def S_steps_of : List D → D → Prop := fun ds d => ∃ t k, wok t k ∧ ds = [wD t k] ∧ d = .lst (stepsD t k)
theorem steps_imm1 (a : Nat) : ∀ l : List Nat, immAll (l.map fun (j : Nat) => D.tup [.int a, .int j]) = true
  | [] => rfl
  | x :: l => by simp only [List.map_cons]; unfold immAll; rw [steps_imm1 a l]; rfl
theorem st_loop {t k : Nat} {nx : Env' → List D → Prop} {rt : D → Prop} {tb : DSO} (hk : k ≤ 3) (htb : ∀ (DD : EndsO) (a : Nat) (xs : List D) (o : Option D), xs.length + 3 ≤ 1000 → (∀ o', DD.nx [some (wD t k), none, some (.int (a : Nat)), o'] (xs ++ (List.range k).map fun (j : Nat) => D.tup [.int a, .int j])) → tb DD [some (wD t k), none, some (.int (a : Nat)), o] xs) :
    ∀ (l : List Nat) (xs : List D) (o o' : Option D), xs.length + 3 * l.length ≤ 1000 → (∀ o o', nx [some (wD t k), none, o, o'] (xs ++ l.flatMap fun (a : Nat) => (List.range k).map fun (j : Nat) => D.tup [.int a, .int j])) →
      oForL 2 tb (aD l) ⟨nx, rt⟩ [some (wD t k), none, o, o'] xs
  | [], xs, o, o', _, h => by simpa [aD, oForL] using h o o'
  | i :: l, xs, o, o', h2, h => by
    show tb _ [some (wD t k), none, some (.int (i : Nat)), o'] xs
    simp only [List.length_cons] at h2
    refine htb _ i xs o' (by omega) fun o'' => ?_
    refine st_loop hk htb l _ _ _ (by simp; omega) fun o' => ?_
    simpa using h o'
theorem ok_steps_of (B : Blt mg) {f f1 : Addr} {fd fd1 : FuncData} (d_steps_of : Df K mg "steps_of" s_steps_of ["world"] f fd) (d_atoms_of : Df K mg "atoms_of" s_atoms_of ["world"] f1 fd1) : FnOk P w K mg base CX0 2 f fd ["world"] (spP K 1 S_steps_of) := by
  have G_atoms_of := ok_atoms_of (P := P) (w := w) (base := base) B d_atoms_of
  refine fn_pd d_steps_of.F sc_steps_of fun cdv A outer s H E hr ds d _ hS => ⟨_, _, (psd_own (o := 1) sc_steps_of.nd (pf_lst pa_nilD) (pso_cons (ps_forO PassesOwn.never rfl (pd_call G_atoms_of (hr.mono (by omega)) d_atoms_of.m d_atoms_of.F.kp d_atoms_of.b (pa_consD (pdv 0) pa_nilD)) (pg_name (i := 2) sc_steps_of.nd rfl (Or.inr rfl)) (pso_one (ps_extO (pf_lcR rfl sc_steps_of.nd (by rfl) B.range (pa_consD (pd_ix (k_ix (K := K)) d_ix (pdv 0) pd_int) pa_nilD) (blkOk_by (N := n_steps_of) (sc := defScope s_steps_of) (by decide +kernel)) (fun _ _ _ _ _ => pg_name (i := 3) sc_steps_of.nd rfl (Or.inl rfl)) (fun _ _ _ _ _ => pts_nilD) (fun _ _ _ _ _ => (pd_tup (pa_consD (pdv 2) (pa_consD (pdv 3) pa_nilD))))) (fun z => pe_bm PySem.F.plainAttrs_list PySem.F.slot_list_extend PySem.F.type_list_extend mt_extend (pv 1) (pa_cons z pa_nil)))))
        (pso_one (ps_retO (pdv 1))))), ?_⟩
  obtain ⟨t, k, hw, rfl, rfl⟩ := hS
  obtain ⟨h1, h3, h4, h5⟩ := id hw
  have hp := pow_small h3
  refine ⟨by show 1 < 4; decide, by decide, rfl, ?_⟩
  walk_at "r"
  refine ⟨_, ⟨t, k, hw, rfl, rfl⟩, _, rfl, aD_imm _, by rw [aD_length, List.length_range]; show 0 ≠ _; have := Nat.two_pow_pos t; omega, ?_⟩
  refine st_loop (t := t) (k := k) h5 (fun DD a xs o hz q => ?_) _ [] none none (by simp; omega) fun o o' => ?_
  · walk_at "r"
    refine ⟨by omega, by omega, ?_⟩
    rw [show ((k : Int)).toNat = k from rfl, rangeD_eq]
    refine dLoop_of (fun _ => true) (fun d => D.tup [.int a, d]) _ _ _ (fun x hx R hR => hR) (fun x hx _ R hR => ?_) (fun x hx _ => ?_) (small_line (by rw [aD_length, List.length_range]; simp; omega)) ?_
    · obtain ⟨n, hn, rfl⟩ := mem_aD hx
      walk_at "r"
      exact hR
    · obtain ⟨n, hn, rfl⟩ := mem_aD hx
      rfl
    · rw [List.filter_eq_self.mpr (fun _ _ => rfl), map_aD (fun d => D.tup [.int a, d]) (fun (j : Nat) => D.tup [.int a, .int j]) (fun n => rfl)]
      refine ⟨steps_imm1 a _, small_line (by simp; omega), ?_⟩
      have e9 : imm1 [some (wD t k), none, some (.int (a : Nat)), o] = [some (wD t k), none, some (.int (a : Nat)), im1 o] := by cases o <;> rfl
      rw [e9, List.nil_append]
      exact q _
  · exact ⟨_, rfl, by
      show D.lst _ = _
      unfold stepsD; simp⟩
/-! ### numbers spread -/
theorem fMul_c {x c : Int} (h : -(2 ^ 64) < c ∧ c < 2 ^ 64) : fMul (.int x) (.int c) = some (.int (x * c)) := by
  unfold fMul fI2
  show (if (decide (-(2 ^ 64) < x ∧ x < 2 ^ 64) || decide (-(2 ^ 64) < c ∧ c < 2 ^ 64)) = true then some (D.int (x * c)) else none) = _
  rw [decide_eq_true h, Bool.or_true, if_pos rfl]
def sprM (c : Int) : Nat → Int
  | 0 => c % 2147483647
  | n + 1 => (sprM c n * 48271 + 12345 + (n : Int)) % 2147483647
def sprT (c : Int) : Nat → Int
  | 0 => 1
  | n + 1 => sprT c n * 2147483647 + sprM c (n + 1)
def S_spread : List D → D → Prop := fun ds d => ∃ c : Int, ds = [.int c] ∧ d = .int (sprT c 4)
theorem ok_spread (B : Blt mg) {f : Addr} {fd : FuncData} (d__law_spread : Df K mg "_law_spread" s__law_spread ["cell"] f fd) : FnOk P w K mg base CX0 1 f fd ["cell"] (spP K 1 S_spread) := by
  refine fn_pd d__law_spread.F sc__law_spread fun cdv A outer s H E hr ds d _ hS => ⟨_, _, (psd_cons (ps_setD (i := 1) sc__law_spread.nd (pd_op op_mod d_mod (pd_callTy call_int1 d_int (by rfl) B.int (by decide +kernel) (pa_consD (pdv 0) pa_nilD)) pd_int))
        (psd_cons (ps_setD (i := 2) sc__law_spread.nd pd_int)
        (psd_cons (ps_forRD PassesOwn.never rfl (by rfl) B.range (pa_consD pd_int pa_nilD) (pg_name (i := 3) sc__law_spread.nd rfl (Or.inl rfl)) (psd_cons (ps_setD (i := 1) sc__law_spread.nd (pd_op op_mod d_mod (pd_callTy call_int1 d_int (by rfl) B.int (by decide +kernel) (pa_consD (pd_op (op_addQ (K := K)) d_add (pd_op (op_addQ (K := K)) d_add (pd_op op_mul d_mul (pdv 1) pd_int) pd_int) (pdv 3)) pa_nilD)) pd_int))
        (psd_one (ps_setD (i := 2) sc__law_spread.nd (pd_op (op_addQ (K := K)) d_add (pd_op op_mul d_mul (pdv 2) pd_int) (pdv 1))))))
        (psd_one (ps_retD (pdv 2)))))), ?_⟩
  obtain ⟨c, rfl, rfl⟩ := hS
  walk_at "r"
  refine ⟨by decide, by decide, ?_⟩
  have body : ∀ (tb : DS) (DD : EndsD), (∀ (DD : EndsD) (n : Int) (m u : Int), DD.nx [some (.int c), some (.int ((m * 48271 + 12345 + n) % 2147483647)), some (.int (u * 2147483647 + (m * 48271 + 12345 + n) % 2147483647)), some (.int n)] → tb DD [some (.int c), some (.int m), some (.int u), some (.int n)]) →
      (DD.nx [some (.int c), some (.int (sprM c 4)), some (.int (sprT c 4)), some (.int 3)]) → ∀ o, dForL 3 tb [.int 0, .int 1, .int 2, .int 3] DD [some (.int c), some (.int (c % 2147483647)), some (.int 1), o] := fun tb DD h q o =>
    h _ 0 _ _ (h _ 1 _ _ (h _ 2 _ _ (h _ 3 _ _ q)))
  refine body _ _ (fun DD n m u q => ?_) ?_ none
  · refine ⟨_, rfl, _, fMul_c (by decide), ?_⟩
    walk_at "r"
    refine ⟨_, fMul_c (by decide), ?_⟩
    walk_at "r"
    exact q
  · exact ⟨_, rfl, rfl⟩
def S_broken : List D → D → Prop := fun ds d => ∃ b t a, ds = [b, t, a] ∧ d = .tup [.str "row", .tup [.str "ask", b], .tup [.str "row", t, .tup [.str "ask", .tup [.str "not", a]]]]
theorem ok_broken (B : Blt mg) {f : Addr} {fd : FuncData} (d_broken_term : Df K mg "broken_term" s_broken_term ["before", "term", "after"] f fd) : FnOk P w K mg base CX0 1 f fd ["before", "term", "after"] (spP K 3 S_broken) := by
  refine fn_pd d_broken_term.F sc_broken_term fun cdv A outer s H E hr ds d _ hS => ⟨_, _, (psd_one (ps_retD (pd_tup (pa_consD pd_str (pa_consD (pd_tup (pa_consD pd_str (pa_consD (pdv 0) pa_nilD))) (pa_consD (pd_tup (pa_consD pd_str (pa_consD (pdv 1) (pa_consD (pd_tup (pa_consD pd_str (pa_consD (pd_tup (pa_consD pd_str (pa_consD (pdv 2) pa_nilD))) pa_nilD))) pa_nilD)))) pa_nilD)))))), ?_⟩
  obtain ⟨b, t, a, rfl, rfl⟩ := hS
  walk_at "r"
  rfl
end
end KQ

set_option Elab.async false
set_option linter.all false
set_option maxRecDepth 100000
set_option maxHeartbeats 8000000
namespace KQ
open PySem L2
local macro_rules | `(tactic| walk_at "r") => `(tactic| repeat (first | (refine ⟨_, rfl, ?_⟩) | (refine ⟨rfl, ?_⟩) | (refine ⟨small_line (Nat.le_of_ble_eq_true rfl), ?_⟩) | (refine iteF' (by decide +kernel) ?_) | (refine iteT' (by decide +kernel) ?_) | (refine iteF' rfl ?_) | (refine iteT' rfl ?_)))
/-! ### conditions as texts -/
def T (l : List Nat) : Str := ⟨l.toArray⟩
theorem T_app (a b : List Nat) : T a ++ T b = T (a ++ b) := by
  show Str.mk (a.toArray ++ b.toArray) = _
  rw [List.append_toArray]; rfl
theorem T_len (a : List Nat) : (T a).length = a.length := rfl
def wl : Cnd → List Nat
  | .no => [48]
  | .yes => [49]
  | .test i => [112 + i]
  | .not c => 33 :: wl c
  | .and a b => 40 :: (wl a ++ (32 :: 38 :: 32 :: (wl b ++ [41])))
  | .or a b => 40 :: (wl a ++ (32 :: 118 :: 32 :: (wl b ++ [41])))
theorem wl_len : ∀ c : Cnd, (wl c).length ≤ 5 * c.size
  | .no | .yes | .test _ => by simp [wl, Cnd.size]
  | .not c => by have := wl_len c; simp [wl, Cnd.size]; omega
  | .and a b | .or a b => by have := wl_len a; have := wl_len b; simp [wl, Cnd.size]; omega
theorem add_str {a b : Str} (h : a.length + b.length ≤ sizeLine) : fAdd (.str a) (.str b) = some (.str (a ++ b)) := by
  show (none : Option D).or (if a.length + b.length ≤ sizeLine then some (.str (a ++ b)) else none) = _
  rw [if_pos h]; rfl
theorem add_T {a b : List Nat} (h : a.length + b.length ≤ 100000) : fAdd (.str (T a)) (.str (T b)) = some (.str (T (a ++ b))) := by
  rw [add_str (by rw [T_len, T_len, sizeLine_eq]; omega), T_app]
theorem lit_bang : ("!" : Str) = T [33] := by decide +kernel
theorem lit_open : ("(" : Str) = T [40] := by decide +kernel
theorem lit_close : (")" : Str) = T [41] := by decide +kernel
theorem lit_and : (" & " : Str) = T [32, 38, 32] := by decide +kernel
theorem lit_or : (" v " : Str) = T [32, 118, 32] := by decide +kernel
theorem lit_0 : ("0" : Str) = T [48] := by decide +kernel
theorem lit_1 : ("1" : Str) = T [49] := by decide +kernel
section
variable {P : Program} {w : World} {K : PySem.W.Frag} {mg : Str → Option Value} {base : Heap}
def S_write (L : Nat) : List D → D → Prop := fun ds d => ∃ c : Cnd, ds = [c.enc] ∧ c.dep ≤ L ∧ c.wf 3 ∧ c.size ≤ 1000 ∧ d = .str (T (wl c))
theorem ok_write (B : Blt mg) (C : Cst mg) {f : Addr} {fd : FuncData} (d_write_condition : Df K mg "write_condition" s_write_condition ["condition"] f fd) (L : Nat) : FnOk P w K mg base CX0 (L + 1) f fd ["condition"] (spP K 1 (S_write L)) := by
  obtain ⟨tk, k_TESTS⟩ := C.tests
  induction L with
  | zero =>
    refine fn_pd d_write_condition.F sc_write_condition fun cdv A outer s H E hr ds d _ hS => ?_
    obtain ⟨c, rfl, h1, _⟩ := hS
    cases c <;> simp [Cnd.dep] at h1
  | succ L ih =>
    have G_write_condition := ih
    refine fn_pd d_write_condition.F sc_write_condition fun cdv A outer s H E hr ds d _ hS => ⟨_, _, (psd_cons (ps_setD (i := 1) sc_write_condition.nd (pd_ix (k_ix (K := K)) d_ix (pdv 0) pd_int))
        (psd_cons (ps_ifD (pt_cmpD (k_in (K := K)) (d_in false) (pdv 1) (pd_tup (pa_consD pd_str (pa_consD pd_str pa_nilD))) (by rfl)) (psd_one (ps_retD (pd_if (pt_cmpD (op_eqQ (K := K) hr.units) d_eq (pdv 1) pd_str (nomark _)) pd_str pd_str))) psd_nil)
        (psd_cons (ps_ifD (pt_cmpD (op_eqQ (K := K) hr.units) d_eq (pdv 1) pd_str (nomark _)) (psd_one (ps_retD (pd_ix (k_ix (K := K)) d_ix (pd_glob (by rfl) k_TESTS (v := .str "pqr") (d := .str "pqr") ⟨_, rfl⟩ fun _ => .str) (pd_ix (k_ix (K := K)) d_ix (pdv 0) pd_int)))) psd_nil)
        (psd_cons (ps_ifD (pt_cmpD (op_eqQ (K := K) hr.units) d_eq (pdv 1) pd_str (nomark _)) (psd_one (ps_retD (pd_op (op_addQ (K := K)) d_add pd_str (pd_call G_write_condition (hr.mono (by omega)) d_write_condition.m d_write_condition.F.kp d_write_condition.b (pa_consD (pd_ix (k_ix (K := K)) d_ix (pdv 0) pd_int) pa_nilD))))) psd_nil)
        (psd_cons (ps_setD (i := 2) sc_write_condition.nd (pd_if (pt_cmpD (op_eqQ (K := K) hr.units) d_eq (pdv 1) pd_str (nomark _)) pd_str pd_str))
        (psd_one (ps_retD (pd_op (op_addQ (K := K)) d_add (pd_op (op_addQ (K := K)) d_add (pd_op (op_addQ (K := K)) d_add (pd_op (op_addQ (K := K)) d_add pd_str (pd_call G_write_condition (hr.mono (by omega)) d_write_condition.m d_write_condition.F.kp d_write_condition.b (pa_consD (pd_ix (k_ix (K := K)) d_ix (pdv 0) pd_int) pa_nilD))) (pdv 2)) (pd_call G_write_condition (hr.mono (by omega)) d_write_condition.m d_write_condition.F.kp d_write_condition.b (pa_consD (pd_ix (k_ix (K := K)) d_ix (pdv 0) pd_int) pa_nilD))) pd_str)))))))), ?_⟩
    obtain ⟨c, rfl, h1, h2, h3, rfl⟩ := hS
    cases c with
    | no => walk_at "r"; exact congrArg D.str lit_0
    | yes => walk_at "r"; exact congrArg D.str lit_1
    | test i =>
      have h2 : i < 3 := h2
      have h3 : i = 0 ∨ i = 1 ∨ i = 2 := by omega
      rcases h3 with rfl | rfl | rfl
      · walk_at "r"; exact congrArg D.str (by decide +kernel)
      · walk_at "r"; exact congrArg D.str (by decide +kernel)
      · walk_at "r"; exact congrArg D.str (by decide +kernel)
    | not c =>
      walk_at "r"
      simp only [Cnd.dep] at h1
      simp only [Cnd.size] at h3
      have := wl_len c
      exact ⟨_, ⟨c, rfl, by omega, h2, by omega, rfl⟩, D.str (T ([33] ++ wl c)), by rw [lit_bang]; exact add_T (by simp; omega), rfl⟩
    | and a b =>
      walk_at "r"
      simp only [Cnd.dep] at h1
      simp only [Cnd.size] at h3
      have ha := wl_len a
      have hb := wl_len b
      refine ⟨_, ⟨a, rfl, by omega, h2.1, by omega, rfl⟩, D.str (T ([40] ++ wl a)), by rw [lit_open]; exact add_T (by simp; omega), ?_⟩
      walk_at "r"
      refine ⟨D.str (T ([40] ++ wl a ++ [32, 38, 32])), by rw [lit_and]; exact add_T (by simp; omega), ?_⟩
      walk_at "r"
      refine ⟨_, ⟨b, rfl, by omega, h2.2, by omega, rfl⟩, D.str (T ([40] ++ wl a ++ [32, 38, 32] ++ wl b)), add_T (by simp; omega), ?_⟩
      refine ⟨D.str (T ([40] ++ wl a ++ [32, 38, 32] ++ wl b ++ [41])), by rw [lit_close]; exact add_T (by simp; omega), ?_⟩
      exact congrArg (fun l => D.str (T l)) (by simp [wl])
    | or a b =>
      walk_at "r"
      simp only [Cnd.dep] at h1
      simp only [Cnd.size] at h3
      have ha := wl_len a
      have hb := wl_len b
      refine ⟨_, ⟨a, rfl, by omega, h2.1, by omega, rfl⟩, D.str (T ([40] ++ wl a)), by rw [lit_open]; exact add_T (by simp; omega), ?_⟩
      walk_at "r"
      refine ⟨D.str (T ([40] ++ wl a ++ [32, 118, 32])), by rw [lit_or]; exact add_T (by simp; omega), ?_⟩
      walk_at "r"
      refine ⟨_, ⟨b, rfl, by omega, h2.2, by omega, rfl⟩, D.str (T ([40] ++ wl a ++ [32, 118, 32] ++ wl b)), add_T (by simp; omega), ?_⟩
      refine ⟨D.str (T ([40] ++ wl a ++ [32, 118, 32] ++ wl b ++ [41])), by rw [lit_close]; exact add_T (by simp; omega), ?_⟩
      exact congrArg (fun l => D.str (T l)) (by simp [wl])
end
end KQ

set_option Elab.async false
set_option linter.all false
set_option maxRecDepth 100000
set_option maxHeartbeats 4000000
namespace KQ
open PySem L2 PyProof.Rows PySem.Spec
/-! ### the hash of a deep tuple -/
mutual
def hD (w : World) : D → Int
  | .int i => hashInt i
  | .str x => hashStr w x
  | .tup xs => reduceHash (Builtin.Tuple.tupleHashOf (hDs w xs))
  | _ => 0
def hDs (w : World) : List D → List Int
  | [] => []
  | d :: ds => hD w d :: hDs w ds
end
mutual
def keyD : D → Bool
  | .int _ => true
  | .str _ => true
  | .tup xs => keyDs xs
  | _ => false
def keyDs : List D → Bool
  | [] => true
  | d :: ds => keyD d && keyDs ds
end
mutual
def depD : D → Nat
  | .tup xs => depDs xs + 1
  | _ => 0
def depDs : List D → Nat
  | [] => 0
  | d :: ds => max (depD d) (depDs ds)
end
section
variable {prog : Program} {w : World}
def HashAt (prog : Program) (w : World) (h : Heap) (m : Nat) (v : Value) (z : Int) : Prop :=
  ∀ (A : Around) (E : Value → Shared → Prop) (s : Shared) (Q : Int → Shared → Prop), s.heap = h → A.units + m < cLine → (∀ n, Q z { s with toks := n }) → wpAny (model prog w) A (pyHash v) Q E s
inductive HashesAt (prog : Program) (w : World) (h : Heap) (m : Nat) : List Int → List Value → Prop
  | nil : HashesAt prog w h m [] []
  | cons {z : Int} {v : Value} {zs : List Int} {vs : List Value} : HashAt prog w h m v z → HashesAt prog w h m zs vs → HashesAt prog w h m (z :: zs) (v :: vs)
theorem HashAt.mono {h : Heap} {m m' : Nat} {v : Value} {z : Int} (x : HashAt prog w h m v z) (le : m ≤ m') : HashAt prog w h m' v z := fun A E s Q e u q => x A E s Q e (by omega) q
theorem HashesAt.mono {h : Heap} {m m' : Nat} (le : m ≤ m') : ∀ {zs : List Int} {vs : List Value}, HashesAt prog w h m zs vs → HashesAt prog w h m' zs vs
  | _, _, .nil => .nil
  | _, _, .cons a r => .cons (a.mono le) (HashesAt.mono le r)
theorem hashAt_tuple {h : Heap} {m : Nat} {a : Addr} {its : Array Value} {zs : List Int} (ht : IsTup h a its) (hz : HashesAt prog w h m zs its.toList) : HashAt prog w h (m + 1) (.ref a) (reduceHash (Builtin.Tuple.tupleHashOf zs)) := fun A E s Q e hu h' => by
  subst e
  obtain ⟨o, ho, hc, n, hd⟩ := ht
  have hT : s.TypeIs (.ref a) "tuple" := ⟨o, ho, hc⟩
  unfold pyHash
  unfold pyHashByItsType
  refine wpAny_bind (wpAny_cRoomFor_or (.inr (by omega)) ?_)
  refine wpAny_bind (wpAny_specialOf hT F.slot_tuple_hash.lookup ?_)
  show wpAny _ _ (if (some (Value.builtin "tuple.__hash__") == some Value.none) = true then _ else _) Q E s
  rw [if_neg (by rw [beq_builtin_none]; exact Bool.false_ne_true)]
  refine wpAny_bind (wpAny_specialOf hT F.slot_tuple_hash.lookup ?_)
  show wpAny _ _ (callSpecialIfBoundUnlessNone? (.ref a) "__hash__" _ >>= _) Q E s
  refine wpAny_bind (wpAny_callSpecialIfBoundUnlessNone?_slot hT F.slot_tuple_hash (wpAny_call_entry F.slot_tuple_hash hT F.entry_tuple_hash ?_ (F.args_tuple_hash_1 _)))
  show wpAny _ _ (Builtin.Tuple.tupleItemsOf (.ref a) >>= _) _ _ s
  refine wpAny_bind (wpAny_tupleItemsOf ho hd ?_)
  refine wpAny_bind ?_
  rw [← Array.forIn_toList]
  refine wpAny_forIn_list _
    (fun rest (b : Array Int) s' => ∃ done left, zs = done ++ left ∧ HashesAt prog w s.heap m left rest ∧ b.toList = done ∧ ∃ n, s' = { s with toks := n })
    _ ?_ ?_ _ _ ⟨[], zs, rfl, hz, rfl, s.toks, rfl⟩
  · rintro x rest b s' ⟨done, left, rfl, hl, hb, n, rfl⟩
    cases hl with
    | @cons z _ zs' _ h1 hl' =>
      refine wpAny_bind (h1 _ _ _ _ rfl (by show A.units + 1 + m < cLine; omega) fun n' => ?_)
      first
        | exact wpAny_pure ⟨done ++ [z], zs', by simp, hl', by simp [hb], n', rfl⟩
        | exact wpAny_bind (wpAny_pure (wpAny_pure ⟨done ++ [z], zs', by simp, hl', by simp [hb], n', rfl⟩))
  · rintro b s' ⟨done, left, rfl, hl, hb, n, rfl⟩
    cases hl
    rw [List.append_nil] at h'
    show wpAny _ _ (retInt (Builtin.Tuple.tupleHashOf b.toList)) _ _ _
    rw [hb]
    refine wpAny_ret_mkInt ?_
    show wpAny _ _ (if (decide (-(2 : Int) ^ 63 ≤ Builtin.Tuple.tupleHashOf done) && decide (Builtin.Tuple.tupleHashOf done < 2 ^ 63)) = true then _ else _) Q E _
    unfold reduceHash at h'
    by_cases hr : (decide (-(2 : Int) ^ 63 ≤ Builtin.Tuple.tupleHashOf done) && decide (Builtin.Tuple.tupleHashOf done < 2 ^ 63)) = true
    · rw [if_pos hr]
      rw [if_pos hr] at h'
      exact wpAny_pure (h' _)
    · rw [if_neg hr]
      rw [if_neg hr] at h'
      exact wpAny_bind (wpAny_rule (wpAny_pure (h' _)))
theorem hashAt_int {h : Heap} {i : Int} {t : Tok} : HashAt prog w h 0 (.int i t) (hashInt i) := fun A E s Q e hu h' => wpAny_pyHash_int (h' _)
theorem hashAt_str {h : Heap} {x : Str} {t : Tok} : HashAt prog w h 0 (.str x t) (hashStr w x) := fun A E s Q e hu h' => wpAny_pyHash_str (h' _)
end
section
variable {X : Cx} {pins : List (Addr × Obj)} {σ : L2.St} {H : Hp} {s : Shared}
mutual
theorem hash_of (I : Inv X pins σ H s) : ∀ (d : D) (v : V) (u : Value), keyD d = true → Rp X.K H d v → RelV v u → HashAt X.prog X.w s.heap (depD d) u (hD X.w d)
  | .int i, v, u, _, r, rv => by
    have := r.intE; subst this
    obtain ⟨t, rfl⟩ := rv
    unfold hD; exact hashAt_int
  | .str x, v, u, _, r, rv => by
    have := r.strE; subst this
    obtain ⟨t, rfl⟩ := rv
    unfold hD; exact hashAt_str
  | .tup xs, v, u, hk, r, rv => by
    obtain ⟨a, vs, rfl, hq, rs⟩ := r.tupE
    cases (show u = Value.ref a from rv)
    obtain ⟨its, ri, ht, _⟩ := I.tuple hq
    unfold hD depD
    unfold keyD at hk
    exact hashAt_tuple ht (hashes_of I xs vs its hk rs ri)
  | .non, _, _, hk, _, _ => by simp [keyD] at hk
  | .bl _, _, _, hk, _, _ => by simp [keyD] at hk
  | .ty _, _, _, hk, _, _ => by simp [keyD] at hk
  | .emp, _, _, hk, _, _ => by simp [keyD] at hk
  | .adr _, _, _, hk, _, _ => by simp [keyD] at hk
  | .at _ _, _, _, hk, _, _ => by simp [keyD] at hk
  | .one _ _ _, _, _, hk, _, _ => by simp [keyD] at hk
  | .lst _, _, _, hk, _, _ => by simp [keyD] at hk
theorem hashes_of (I : Inv X pins σ H s) : ∀ (ds : List D) (vs : List V) (us : List Value), keyDs ds = true → Rps X.K H ds vs → Vals vs us → HashesAt X.prog X.w s.heap (depDs ds) (hDs X.w ds) us
  | [], vs, us, _, r, rv => by
    simp only [Rps] at r; subst r
    cases rv
    unfold hDs; exact .nil
  | d :: ds, vs, us, hk, r, rv => by
    unfold Rps at r
    obtain ⟨v, vr, rfl, h1, h2⟩ := r
    cases rv with
    | cons q1 q2 =>
      unfold keyDs at hk
      rw [Bool.and_eq_true] at hk
      unfold hDs depDs
      exact .cons ((hash_of I d v _ hk.1 h1 q1).mono (Nat.le_max_left _ _)) (HashesAt.mono (Nat.le_max_right _ _) (hashes_of I ds vr _ hk.2 h2 q2))
end
end
end KQ

set_option Elab.async false
set_option linter.all false
set_option maxRecDepth 100000
set_option maxHeartbeats 4000000
namespace KQ
open PySem L2 PyProof.Rows PySem.Spec
/-! ### a dict with one key, any tuple -/
section
variable {prog : Program} {w : World} {A : Around} {E : Value → Shared → Prop} {s : Shared} {d a : Addr} {z : Int} {u : Value}
theorem dictFind_none {o : Obj} {ep : Nat} {Q : Option Nat → Shared → Prop} (ho : s.heap.get? d = some o) (hd : o.data = .dict #[] ep) (h : Q none s) : wpAny (model prog w) A (dictFind d (.ref a) z) Q E s := by
  unfold dictFind
  try with_reducible refine wpAny_holding ?_
  refine wpAny_bind (wpAny_dictEntries ho hd ?_)
  dsimp only
  rw [if_neg (show ¬ (_ : Bool) = true by simp [carriedByValue])]
  rw [if_neg (show ¬ (_ : Bool) = true by simp)]
  rw [if_neg (show ¬ (_ : Bool) = true by simp [placesWithHash])]
  refine wpAny_bind (show wpAny _ _ (tableMayTell (.ref a) []) _ E s from wpAny_pure ?_)
  simp only [Bool.false_and, Bool.false_eq_true, if_false]
  exact wpAny_pure h
theorem eqBool_self {Q : Bool → Shared → Prop} (h : Q true s) : wpAny (model prog w) A (eqBool (.ref a) (.ref a)) Q E s := by
  unfold eqBool
  try with_reducible refine wpAny_holding ?_
  rw [if_pos (by simp)]
  exact wpAny_bind (wpAny_rule (wpAny_pure h))
theorem dictFind_one {Q : Option Nat → Shared → Prop} (ho : OneAt s.heap d z a u) (h : Q (some 0) s) : wpAny (model prog w) A (dictFind d (.ref a) z) Q E s := by
  obtain ⟨o, ep, ho, hc, hd⟩ := ho
  unfold dictFind
  try with_reducible refine wpAny_holding ?_
  refine wpAny_bind (wpAny_dictEntries ho hd ?_)
  dsimp only
  rw [if_neg (show ¬ (_ : Bool) = true by simp [carriedByValue])]
  rw [if_neg (show ¬ (_ : Bool) = true by simp)]
  have e0 : (placesWithHash (#[(⟨z, .ref a, u⟩ : DictEntry)]).size (fun i => (#[(⟨z, .ref a, u⟩ : DictEntry)])[i]?.map (·.hash)) z) = [0] := by
    simp [placesWithHash, List.range_succ]
  rw [e0]
  have e1 : List.filterMap (fun i => (#[(⟨z, .ref a, u⟩ : DictEntry)])[i]?.map (·.key)) [0] = [Value.ref a] := rfl
  rw [e1]
  rw [if_pos (by simp)]
  refine wpAny_bind (wpAny_pure ?_)
  rw [if_neg (by simp)]
  refine wpAny_bind ?_
  rw [List.forIn_cons]
  refine wpAny_bind ?_
  show wpAny _ _ (if (z == z) = true then _ else _) _ _ _
  rw [if_pos (by simp)]
  refine wpAny_bind (wpAny_dictEpoch ho hd (wpAny_bind (eqBool_self (wpAny_bind (wpAny_dictEpoch ho hd ?_)))))
  rw [if_neg (by simp)]
  rw [if_pos rfl]
  rw [if_neg (by simp)]
  refine wpAny_bind (wpAny_rule ?_)
  rw [if_pos (by simp)]
  exact wpAny_pure (wpAny_pure (wpAny_pure h))
theorem dictSet_first {m : Nat} {o : Obj} {ep : Nat} {Q : Unit → Shared → Prop} (hu : A.units + m < cLine) (hz : HashAt prog w s.heap m (.ref a) z) (ho : s.heap.get? d = some o) (hc : o.ExactDict) (hd : o.data = .dict #[] ep)
    (hQ : ∀ h' n, OneAt h' d z a u → Heap.SameBut d s.heap h' → Q () { s with heap := h', toks := n }) : wpAny (model prog w) A (dictSet d (.ref a) u) Q E s := by
  unfold dictSet
  try with_reducible refine wpAny_holding ?_
  refine wpAny_bind (hz _ _ _ _ rfl hu fun n => ?_)
  unfold dictSetHashed
  try with_reducible refine wpAny_holding ?_
  refine wpAny_bind (dictFind_none (s := { s with toks := n }) ho hd ?_)
  refine wpAny_bind (wpAny_rule (wpAny_updateDictKeys (hz := by simp) (s := { s with toks := n }) ho hd (hQ _ _ ⟨_, ep + 1, Heap.get?_update_self _ ho (Obj.isFreed_of_dict (Obj.data_mapDictKeys hd _)),
      hc.mapDictKeys _, by rw [Obj.data_mapDictKeys hd]; rfl⟩ (Heap.SameBut.update ..))))
theorem getItem_one {m : Nat} {Q : Value → Shared → Prop} (hu : A.units + 1 + m < cLine) (hz : HashAt prog w s.heap m (.ref a) z) (ho : OneAt s.heap d z a u) (h : ∀ n, Q u { s with toks := n }) : wpAny (model prog w) A (getItem (.ref d) (.ref a)) Q E s := by
  obtain ⟨o, ep, ho', hc, hd⟩ := id ho
  have hT : s.TypeIs (.ref d) "dict" := ⟨o, ho', hc.1⟩
  unfold getItem
  try with_reducible refine wpAny_holding ?_
  refine wpAny_bind (wpAny_sequenceKey hT (by decide) ?_)
  refine wpAny_bind (wpAny_callSpecial?_slot (name := Str.ofString "__getitem__") hT slot_dict_getitem
    (wpAny_call_entry slot_dict_getitem hT entry_dict_getitem ?_ (args_dict_getitem _ _)))
  show wpAny _ _ (dictGet d (.ref a) >>= _) _ _ s
  refine wpAny_bind ?_
  unfold dictGet
  try with_reducible refine wpAny_holding ?_
  refine wpAny_bind (hz _ _ _ _ rfl hu fun n => ?_)
  refine wpAny_bind (dictFind_one (s := { s with toks := n }) ho ?_)
  refine wpAny_bind (wpAny_dictEntries (s := { s with toks := n }) ho' hd ?_)
  exact wpAny_pure (wpAny_pure ⟨u, rfl, wpAny_pure (h n)⟩)
end
end KQ

set_option Elab.async false
set_option linter.all false
set_option maxRecDepth 100000
set_option maxHeartbeats 400000
namespace KQ
open PySem L2 PySem.Spec
theorem oneO_ok {P : Program} {w : World} {H : Hp} {h : Heap} {d a : Addr} {z : Int} {v : V} {u : Value} (r : RelV v u) (o : OneAt h d z a u) : ObjOk P w H h d (OneO d a z v) := by
  refine ⟨⟨u, r, o⟩, ?_, fun h1 h2 p k => ?_⟩
  · obtain ⟨ob, _, ho, _⟩ := o
    exact ⟨ob, ho⟩
  · obtain ⟨u', r', ob, ep, ho, hc, hd⟩ := p
    exact ⟨u', r', ob, ep, k _ ho, hc, hd⟩
def tOne (K : PySem.W.Frag) (w : World) (tk tv : TE) : TE := fun σ H Q => ∀ p, H p = none → tk σ (upd H p (.dK [])) fun y H1 => tv σ H1 fun x H2 => ∃ a d, y = .ref a ∧ H2 p = some (.dK []) ∧ keyD d = true ∧ depD d ≤ 60 ∧ Rp K H2 d (.ref a) ∧ Q (.ref p) (upd H2 p (OneO p a (hD w d) x))
def tOGet (K : PySem.W.Frag) (w : World) (td ty : TE) : TE := fun σ H Q => td σ H fun x H1 => ty σ H1 fun y H2 => ∃ p a d v, x = .ref p ∧ y = .ref a ∧ H2 p = some (OneO p a (hD w d) v) ∧ keyD d = true ∧ depD d ≤ 60 ∧ Rp K H2 d (.ref a) ∧ Q v H2
section
variable {X : Cx} {o i k v : Expr} {pos : Pos} {td ty tk tv : TE}
def OnePost (K : PySem.W.Frag) (w : World) (p : Addr) (Q : VK) : List (V × V) → Hp → Prop
  | [], _ => False
  | [b], H2 => ∃ a d, b.1 = .ref a ∧ H2 p = some (.dK []) ∧ keyD d = true ∧ depD d ≤ 60 ∧ Rp K H2 d (.ref a) ∧ Q (.ref p) (upd H2 p (OneO p a (hD w d) b.2))
  | _ :: _ :: _, _ => False
theorem onePost_e {K : PySem.W.Frag} {w : World} {p : Addr} {Q : VK} {ps : List (V × V)} {H2 : Hp} (h : OnePost K w p Q ps H2) : ∃ a x d, ps = [(.ref a, x)] ∧ H2 p = some (.dK []) ∧ keyD d = true ∧ depD d ≤ 60 ∧ Rp K H2 d (.ref a) ∧ Q (.ref p) (upd H2 p (OneO p a (hD w d) x)) := by
  cases ps with
  | nil => exact h.elim
  | cons b r =>
    cases r with
    | nil =>
      obtain ⟨a, d, e, h⟩ := h
      obtain ⟨y, x⟩ := b
      cases e
      exact ⟨a, x, d, rfl, h⟩
    | cons c r => exact h.elim
theorem store_one {X : Cx} (hu : X.A.units + 64 < cLine) {pins : List (Addr × Obj)} {s : Shared} {σ : St} {H2 : Hp} {Q : VK} {p a : Addr} {d : D} {x : V} {uv : Value} (I2 : Inv X pins σ H2 s) (e : H2 p = some (.dK [])) (h1 : keyD d = true) (h2 : depD d ≤ 60) (h3 : Rp X.K H2 d (.ref a)) (rx : RelV x uv)
    (q : Q (.ref p) (upd H2 p (OneO p a (hD X.w d) x))) : wpAny (model X.prog X.w) X.A (storeAll p [(.ref a, uv)]) (fun _ s₂ => EP X pins σ Q (.ref p) s₂) X.xe s := by
  obtain ⟨_, _, vs0, r0, dd⟩ := dk_of I2.hok e
  cases r0
  obtain ⟨ob, es, ep, ho, hc, hd, _, hp, _⟩ := dd
  have hes : es = #[] := by
    have : es.toList = [] := by
      revert hp
      generalize es.toList = l
      intro hp
      cases l with
      | nil => rfl
      | cons _ _ => first | exact hp.elim | cases hp
    simpa using this
  subst hes
  unfold storeAll
  rw [List.forIn_cons]
  refine wpAny_bind (wpAny_bind (dictSet_first (m := depD d) (by omega) (hash_of I2 d _ _ h1 h3 rfl) ho hc hd fun h' n one sb => wpAny_pure ?_))
  show wpAny _ _ (forIn ([] : List (Value × Value)) PUnit.unit _) _ _ _
  rw [List.forIn_nil]
  refine wpAny_pure ⟨.ref p, _, ?_, rfl, q⟩
  have he' : ∃ q, h'.get? p = some q := let ⟨q, _, hq, _⟩ := one; ⟨q, hq⟩
  exact d_write I2 (by rw [e]; exact True.intro) sb he' (oneO_ok rx one)
theorem pe_one1 (hu : X.A.units + 64 < cLine) (hk : PE X k tk) (hv : PE X v tv) : PE X (.Dict [some k] [v] pos) (tOne X.K X.w tk tv) := by
  refine ⟨fun pins s σ H Q I q => ?_⟩
  have hn := I.hok.fresh (Nat.le_refl s.heap.objs.size)
  have I1 := I.laid (a := s.heap.objs.size) (o := .dK []) (h' := s.heap.push { cls := .type "dict", data := .dict #[] }) (t' := s.toks) (fun _ _ q => Heap.get?_push_of_some _ q) (Nat.le_refl _) (dk_empty s.heap I.big)
  have q0 := q _ hn
  refine wpAny_Dict_any (keys := [some k]) (values := [v]) rfl rfl (List.cons_ne_nil _ _) (by show 1 ≤ 15; decide) (thn ((pps_cons hk hv pps_nil).run pins _ σ _ (OnePost X.K X.w s.heap.objs.size Q) I1 q0) fun ws s2 ⟨ps, H2, I2, rel, z⟩ => ?_)
  obtain ⟨a, x, d, rfl, e, h1, h2, h3, q2⟩ := onePost_e z
  cases rel with
  | @cons _ b _ _ r0 rt =>
    cases rt
    obtain ⟨uk, uv⟩ := b
    cases (show uk = Value.ref a from r0.1)
    exact store_one hu I2 e h1 h2 h3 r0.2 q2
theorem pe_oget (hu : X.A.units + 66 < cLine) (ho : PE X o td) (hi : PE X i ty) (hs : NoSl i) : PE X (.Subscript o i pos) (tOGet X.K X.w td ty) := by
  refine ⟨fun pins s σ H Q I h => ?_⟩
  refine subD_of PySem.F.slot_dict_getitem.lookup hs (thn (ho.run pins s σ H _ I h) fun u s1 ⟨x, H1, I1, rx, q1⟩ => thn (hi.run pins s1 σ H1 _ I1 q1) fun iv s2 ⟨y, H2, I2, ry, p, a, d, v, ex, ey, e, h1, h2, h3, q2⟩ => ?_)
  subst ex ey
  obtain rfl : u = Value.ref p := rx
  cases (show iv = Value.ref a from ry)
  obtain ⟨⟨u', r', one⟩, _⟩ := I2.hok p _ e
  have hT : s2.TypeIs (.ref p) "dict" := by
    obtain ⟨ob, _, ho, hc, _⟩ := one
    exact ⟨ob, ho, hc.1⟩
  refine ⟨hT, getItem_one (m := depD d) (by omega) (hash_of I2 d _ _ h1 h3 rfl) one fun n => ⟨v, H2, I2.tok n, r', q2⟩⟩
end
end KQ

set_option Elab.async false
set_option linter.all false
set_option maxRecDepth 100000
set_option maxHeartbeats 400000
namespace KQ
open PySem L2 PySem.Spec
/-! ### the empty dict as a datum -/
theorem upd_id {H : Hp} {a : Addr} {o : HO} (h : H a = some o) : upd H a o = H := by
  funext b
  by_cases hb : b = a
  · subst hb; rw [upd_same, h]
  · rw [upd_ne hb]
theorem merge_self {prog : Program} {w : World} (d : Addr) :
    MeetsIn prog w (Builtin.«dict.update» ⟨[.ref d, .ref d], []⟩) (fun _ R s => (∃ o es ep, s.heap.get? d = some o ∧ o.ExactDict ∧ o.data = .dict es ep) ∧ R (.ok (.ret .none)) s) :=
  .of_wp fun A R s ⟨⟨o, es, ep, ho, hc, hd⟩, h⟩ => by
    have hT : s.TypeIs (.ref d) "dict" := ⟨o, ho, hc.1⟩
    unfold Builtin.«dict.update»
    refine wpAny_bind ?_
    unfold Builtin.Dict.selfAndRest
    refine wpAny_bind (wpAny_notOrdered_dict hT ?_)
    show wpAny _ _ (pure (d, [Value.ref d])) _ _ s
    refine wpAny_pure ?_
    show wpAny _ _ (Builtin.Dict.updateFrom "dict.update" d (.ref d) [] .none) _ _ s
    unfold Builtin.Dict.updateFrom
    refine wpAny_bind (wpAny_typeOf hT ?_)
    rw [if_neg (by decide)]
    refine wpAny_bind ?_
    unfold Builtin.Dict.merge
    refine wpAny_bind ?_
    · unfold Builtin.Dict.readDirectly
      refine wpAny_bind (wpAny_isInstance hT isSubtype_dict_dict ?_)
      simp only [Bool.not_true, Bool.false_eq_true, if_false]
      refine wpAny_bind (wpAny_specialOf hT F.slot_dict_iter.lookup (wpAny_pure ?_))
      simp only [beq_self_eq_true, if_true]
      refine wpAny_bind (wpAny_pure ?_)
      show wpAny _ _ (Builtin.Dict.mergeDict "dict.update" d d) _ _ _
      unfold Builtin.Dict.mergeDict
      rw [if_pos (by simp)]
      refine wpAny_bind (wpAny_rule (wpAny_pure ?_))
      show wpAny _ _ (Builtin.Dict.addKeywords d [] >>= _) _ _ _
      exact wpAny_bind (wpAny_pure (wpAny_pure ⟨.none, rfl, h⟩))
section
variable {X : Cx}
def rUpd0 : V → List V → Hp → VK → Prop := fun x xs H Q => ∃ a b, x = .ref a ∧ xs = [.ref b] ∧ H a = some (.dK []) ∧ H b = some (.dK []) ∧ Q .non H
theorem mt_upd0 : MtR X "dict.update" rUpd0 := by
  intro pins s σ H x xs v us Q I rx rxs h
  obtain ⟨a, b, rfl, rfl, ha, hb, q⟩ := h
  cases (show v = Value.ref a from rx)
  obtain ⟨u, rfl, ru⟩ := Vals.one rxs
  cases (show u = Value.ref b from ru)
  obtain ⟨z, hda, va, ra, dda⟩ := dk_of I.hok ha
  obtain ⟨_, hdb, vb, rb, ddb⟩ := dk_of I.hok hb
  cases ra
  cases rb
  by_cases hab : a = b
  · subst hab
    refine call_meetsIn PySem.F.slot_dict_update dda.typeIs PySem.F.entry_dict_update (PySem.F.args_dict_update_2 _ _) (merge_self a) ⟨?_, .non, H, I, rfl, q⟩
    obtain ⟨o, es, ep, ho, hc, hd, _⟩ := dda
    exact ⟨o, es, ep, ho, hc, hd⟩
  · refine call_meetsIn PySem.F.slot_dict_update dda.typeIs PySem.F.entry_dict_update (PySem.F.args_dict_update_2 _ _) (meets_dict_update (mixKind X.prog X.w) a b hab hdb)
      ⟨[], [], dda, ddb, Nat.zero_le _, fun h' d1 d2 sb => ?_⟩
    have he' : ∃ q, h'.get? a = some q := let ⟨q, _, _, hq, _⟩ := d1; ⟨q, hq⟩
    have J := d_write (t' := s.toks) I (by rw [ha]; exact True.intro) sb he' (dk_new (kvs := []) z hda .nil d1)
    rw [upd_id ha] at J
    exact ⟨.non, H, J, rfl, q⟩
end
section
variable {X : Cx} {K : PySem.W.Frag} {e : Expr} {te : TE} {de : DE} {pos : Pos}
def dEmp : DE := fun _ Q => Q .emp
theorem pd_newEmp : PD K X (.Dict [] [] pos) tDNewK dEmp := ⟨pe_dnewK, fun env Q σ H QV hq re k p hp => k _ _ .emp (same_new hp) (.emp upd_same) hq⟩
theorem pe_never : PE X e (fun _ _ _ => False) := ⟨fun _ _ _ _ _ _ h => h.elim⟩
theorem pt_never : PT X e (fun _ _ _ => False) := ⟨fun _ _ _ _ _ _ h => h.elim⟩
/-- found.update(e), both empty -/
def dUpd (j : Nat) (t : DE) : DS := fun DD env => env[j]? = some (some .emp) ∧ t env fun d => d = .emp ∧ DD.nx env
theorem ps_updD {j : Nat} {x : Str} {p apos cpos : Pos} (h : PD K X e te de)
    (pe : PE X e te → PE X (.Call (.Attribute (.Name x p) "update" apos) [e] [] cpos) (tBM X.K "dict" rUpd0 (tVar j) (tCons te tNil))) (hs : swapsWith (.Call (.Attribute (.Name x p) "update" apos) [e] [] cpos) none pos.line X.env = pure false := by rfl) :
    PSD K X (.Expr (.Call (.Attribute (.Name x p) "update" apos) [e] [] cpos) pos) (tDrop (tBM X.K "dict" rUpd0 (tVar j) (tCons te tNil))) (dUpd j de) :=
  ⟨ps_expr (pe h.pe) hs, fun env DD σ H D' ⟨hj, hq⟩ re kn kr => by
    obtain ⟨v, h1, h2⟩ := re.2 j .emp hj
    obtain ⟨a, rfl, ha⟩ := h2.empE
    refine ⟨_, h1, .inr (.inr (.inl ⟨rfl, .inl ⟨[], ha⟩⟩)), ?_⟩
    refine h.rd env _ σ H _ hq re fun u H1 d s1 ru ⟨e0, q⟩ => ?_
    subst e0
    obtain ⟨b, rfl, hb⟩ := ru.empE
    exact ⟨a, b, rfl, rfl, s1 _ _ ha, hb, kn env σ H1 s1 (re.s s1) q⟩⟩
/-- a dict comprehension over an empty dict in a slot -/
def dDcE (j : Nat) : DE := fun env Q => env[j]? = some (some .emp) ∧ Q .emp
theorem pd_dcE {kx vx : Expr} {scope : Scope} {i j : Nat} {x y : Str} {tpos ipos : Pos} (hc : X.calm = true) (hN : X.N.Nodup) (ok : BlkOk X.N X.env.scope scope [(x, i)])
    (hi : PE X (.Name y ipos) (tVar j)) (hg : ∀ (s : Shared) (H : Hp) (C : Addr) (cl : List (Str × Addr)) (fp : List Addr), PG (X.blk s H scope (compEnvC scope cl C X.env) fp) (.Name x tpos) (gName i)) :
    PD K X (.DictComp kx vx [⟨.Name x tpos, .Name y ipos, [], 0⟩] scope pos) (tLockE (tDc (iKeys (tVar j)) (gName i) tYes (fun _ _ _ => False) (fun _ _ _ => False) [i])) (dDcE j) :=
  ⟨pe_lock (pe_dc (own := [(x, i)]) hc hN (pi_keys hi) ok hg (fun _ _ _ _ _ => pts_nil) (fun _ _ _ _ _ => pe_never) (fun _ _ _ _ _ => pe_never)), fun env Q σ H QV ⟨hj, hq⟩ re k => by
    obtain ⟨v, h1, h2⟩ := re.2 j .emp hj
    obtain ⟨a, rfl, ha⟩ := h2.empE
    refine ⟨a, .dK [], ha, True.intro, fun od => ?_⟩
    refine ⟨_, h1, a, od, rfl, .inl ⟨[], upd_same, fun p hp => ?_⟩⟩
    have hpa : p ≠ a := by rintro rfl; rw [upd_same] at hp; cases hp
    have hp0 : H p = none := by rwa [upd_ne hpa] at hp
    refine ⟨fun i _ H' => i = 0 ∧ H' = upd (upd H a (.frz od (.dK []))) p (.dK []), ⟨0, rfl, rfl⟩, fun i m H' ⟨e1, e2⟩ => .inl ?_⟩
    subst e1 e2
    have e3 : upd (upd H a (.frz od (.dK []))) p (.dK []) a = some (.frz od (.dK [])) := by rw [upd_ne (Ne.symm hpa), upd_same]
    refine ⟨⟨e3, Nat.le_refl _⟩, e3, k _ _ .emp (fun b u e => ?_) (.emp ?_) hq⟩
    · by_cases hb : b = a
      · subst hb; rw [upd_same]; rw [ha] at e; exact e
      · rw [upd_ne hb]
        by_cases hbp : b = p
        · subst hbp; rw [hp0] at e; cases e
        · rw [upd_ne hbp, upd_ne hb]; exact e
    · rw [upd_ne hpa, upd_same]⟩
def fListE : List D → Option D
  | [.emp] => some (.lst [])
  | _ => none
theorem d_listE : DCl K rListD fListE := fun H vs ds d QV r e k => by
  unfold fListE at e
  split at e
  · cases e
    obtain ⟨v, rfl, h1⟩ := r.one
    obtain ⟨a, rfl, ha⟩ := h1.empE
    exact ⟨a, [], rfl, ha, fun q hq => k _ _ (same_new hq) (.lstN hq .nil)⟩
  · cases e
def srt (ns : List Int) : List Int := ns.mergeSort fun x y => decide (x ≤ y)
theorem srt_uniq {a b : List Int} (h : a.Perm b) (ha : a.Pairwise (· ≤ ·)) : a = srt b := by
  refine PySem.W.lks_uniq (h.trans (List.mergeSort_perm b _).symm) ha ?_
  have := List.pairwise_mergeSort (le := fun x y : Int => decide (x ≤ y)) (fun a b c h1 h2 => by simp at *; omega) (fun a b => by simp; omega) b
  exact this.imp fun h => by simpa using h
def fSort : List D → Option D
  | [.lst xs] => (intsOf xs).map fun ns => .lst ((srt ns).map .int)
  | _ => none
theorem k_sorted {X : Cx} (q : X.K = K := by rfl) : CallR X (.builtin "sorted") (rSortedI K) := by subst q; exact cr_sortedI
theorem d_sort : DCl K (rSortedI K) fSort := fun H vs ds d QV r e k => by
  unfold fSort at e
  split at e
  · obtain ⟨ns, h1, rfl⟩ := Option.map_eq_some_iff.mp e
    obtain ⟨v, rfl, h2⟩ := r.one
    obtain ⟨a, ws, rfl, hq, rs⟩ := h2.lstE
    rw [intsOf_some h1] at rs
    have := rs.intsE; subst this
    exact ⟨a, ns, rfl, hq, fun ns' p pm sr hp => by
      rw [srt_uniq pm sr]
      exact k _ _ (same_new hp) (.lstN hp (Rps.ints _))⟩
  · cases e
end
end KQ

set_option Elab.async false
set_option linter.all false
set_option maxRecDepth 100000
set_option maxHeartbeats 400000
namespace KQ
open PySem L2 PySem.Spec
theorem sw_trueD {kx vx : Expr} {gs : List Comprehension} {scope : Scope} {pos py : Pos} {y : Str} {l : Nat} {env : Env} (hk : env.scope.kind = .function) (hy : env.scope.names.lookup y = some .local) (hl : (py.line == pos.line) = true)
    (ha : (scope.names.any fun (n, k) => n == y && (k == .local || k == .cell)) = false) : swapsWith (.DictComp kx vx gs scope pos) (some (.Name y py)) l env = pure true := by
  have ky : env.kindOf y = some .local := hy
  have hb : env.blockKind = .function := by unfold Env.blockKind; rw [hk]; rfl
  unfold swapsWith
  simp only [hb, ky, ha, Expr.pos, hl]
  rfl
section
variable {X : Cx}
/-- name = {..} on one line, the name a local -/
theorem ps_setDc {i : Nat} {y : Str} {py : Pos} {kx vx tg iter : Expr} {ifs : List Expr} {scope : Scope} {own : List (Str × Nat)} {pos spos : Pos} {wi : TI} {g : TG} {tt : TT} {tk tv : TE} (hc : X.calm = true) (hN : X.N.Nodup) (hy : X.N[i]? = some y) (hyl : X.env.scope.names.lookup y = some .local)
    (hsw : swapsWith (.DictComp kx vx [⟨tg, iter, ifs, 0⟩] scope pos) (some (.Name y py)) spos.line X.env = pure true) (hi : PI X tg iter wi) (ok : BlkOk X.N X.env.scope scope own)
    (hg : ∀ (s : Shared) (H : Hp) (C : Addr) (cl : List (Str × Addr)) (fp : List Addr), PG (X.blk s H scope (compEnvC scope cl C X.env) fp) tg g) (ht : ∀ (s : Shared) (H : Hp) (C : Addr) (cl : List (Str × Addr)) (fp : List Addr), PTs (X.blk s H scope (compEnvC scope cl C X.env) fp) ifs tt)
    (hk : ∀ (s : Shared) (H : Hp) (C : Addr) (cl : List (Str × Addr)) (fp : List Addr), PE (X.blk s H scope (compEnvC scope cl C X.env) fp) kx tk)
    (he : ∀ (s : Shared) (H : Hp) (C : Addr) (cl : List (Str × Addr)) (fp : List Addr), PE (X.blk s H scope (compEnvC scope cl C X.env) fp) vx tv) (hs : ∀ x, foldedSetIterable iter X.env x = pure x := by intro _; rfl) :
    PS X (.Assign [.Name y py] (.DictComp kx vx [⟨tg, iter, ifs, 0⟩] scope pos) spos) (tAsg (tDc wi g tt tk tv (own.map (·.2))) (gName i)) := by
  refine ⟨fun pins s σ H D I h => ?_⟩
  rw [exec_Assign_Name_used _ _ _ _ hsw]
  refine wpAny_bind (wpAny_standAt (wpAny_bind ?_))
  show wpAny _ X.A (do let _ ← comprehension (.DictComp kx vx [⟨tg, iter, ifs, 0⟩] scope pos) scope X.env (firstIterPos [⟨tg, iter, ifs, 0⟩] pos) newDict false (eval iter X.env) (some (assign (.Name y py) X.env))) _ _ s
  have h : tDc wi g tt tk tv (own.map (·.2)) σ H (fun x H1 => gName i x σ H1 D.nx) := h
  refine wpAny_bind (thn (dc_core (Qf := fun _ s' => SP X pins D .next s') hc hN I hi ok hg ht hk he hs h fun L C s' m H' I' q hn f => ?_) fun _ s' hq => wpAny_pure (wpAny_pure hq))
  show wpAny _ _ (assign (.Name y py) X.env (.ref L)) _ _ _
  refine wpAny_assign_Name (store_ok2 (v := V.ref L) I' hN hy (.inl hyl) rfl (fun s2 I2 ⟨a, sb, ha⟩ => ?_) (.inr hyl))
  obtain ⟨f0, f1, f2, f3, f4, f5⟩ := f
  have haC : C ≠ a := by
    rcases ha with z | z
    · rw [z]; exact f1
    · exact fun e => f4 y a z e.symm
  refine ⟨m, hn.sameBut sb haC, fun h3 sb3 => ?_⟩
  exact ⟨_, H', I2.turned (t' := s2.toks) (fun b o hb e => (sb3.2 b hb).trans e) f0 f1 f3 f4 f5, q⟩
end
section
variable {X : Cx} {K : PySem.W.Frag}
/-- found = {.. for x in found}, found an empty dict -/
def dSetDcE (j : Nat) : DS := fun DD env => env[j]? = some (some .emp) ∧ DD.nx (env.set j (some .emp))
theorem ps_setDcE {kx vx : Expr} {scope : Scope} {i j : Nat} {x y : Str} {tpos ipos py pos spos : Pos} (hc : X.calm = true) (hN : X.N.Nodup) (ok : BlkOk X.N X.env.scope scope [(x, i)]) (hy : X.N[j]? = some y) (hyl : X.env.scope.names.lookup y = some .local)
    (hsw : swapsWith (.DictComp kx vx [⟨.Name x tpos, .Name y ipos, [], 0⟩] scope pos) (some (.Name y py)) spos.line X.env = pure true)
    (hi : PE X (.Name y ipos) (tVar j)) (hg : ∀ (s : Shared) (H : Hp) (C : Addr) (cl : List (Str × Addr)) (fp : List Addr), PG (X.blk s H scope (compEnvC scope cl C X.env) fp) (.Name x tpos) (gName i)) :
    PSD K X (.Assign [.Name y py] (.DictComp kx vx [⟨.Name x tpos, .Name y ipos, [], 0⟩] scope pos) spos) (tLock (tAsg (tDc (iKeys (tVar j)) (gName i) tYes (fun _ _ _ => False) (fun _ _ _ => False) [i]) (gName j))) (dSetDcE j) :=
  ⟨ps_lock (ps_setDc (own := [(x, i)]) hc hN hy hyl hsw (pi_keys hi) ok hg (fun _ _ _ _ _ => pts_nil) (fun _ _ _ _ _ => pe_never) (fun _ _ _ _ _ => pe_never)), fun env DD σ H D' ⟨hj, hq⟩ re kn kr => by
    obtain ⟨v, h1, h2⟩ := re.2 j .emp hj
    obtain ⟨a, rfl, ha⟩ := h2.empE
    refine ⟨a, .dK [], ha, True.intro, fun od => ?_⟩
    refine ⟨_, h1, a, od, rfl, .inl ⟨[], upd_same, fun p hp => ?_⟩⟩
    have hpa : p ≠ a := by rintro rfl; rw [upd_same] at hp; cases hp
    have hp0 : H p = none := by rwa [upd_ne hpa] at hp
    refine ⟨fun i _ H' => i = 0 ∧ H' = upd (upd H a (.frz od (.dK []))) p (.dK []), ⟨0, rfl, rfl⟩, fun i m H' ⟨e1, e2⟩ => .inl ?_⟩
    subst e1 e2
    have e3 : upd (upd H a (.frz od (.dK []))) p (.dK []) a = some (.frz od (.dK [])) := by rw [upd_ne (Ne.symm hpa), upd_same]
    have sm : Same H (upd (upd (upd H a (.frz od (.dK []))) p (.dK [])) a (.dK [])) := fun b u e => by
      by_cases hb : b = a
      · subst hb; rw [upd_same]; rw [ha] at e; exact e
      · rw [upd_ne hb]
        by_cases hbp : b = p
        · subst hbp; rw [hp0] at e; cases e
        · rw [upd_ne hbp, upd_ne hb]; exact e
    refine ⟨⟨e3, Nat.le_refl _⟩, e3, kn _ _ _ sm ((re.s sm).set (.emp ?_) j) hq⟩
    rw [upd_ne hpa, upd_same]⟩
end
end KQ

set_option Elab.async false
set_option linter.all false
set_option maxRecDepth 100000
set_option maxHeartbeats 1000000
namespace KQ
open PySem L2
local macro_rules | `(tactic| walk_at "r") => `(tactic| repeat (first | (refine ⟨_, rfl, ?_⟩) | (refine ⟨rfl, ?_⟩) | (refine ⟨small_line (Nat.le_of_ble_eq_true rfl), ?_⟩) | (refine iteF' (by decide +kernel) ?_) | (refine iteT' (by decide +kernel) ?_) | (refine iteF' rfl ?_) | (refine iteT' rfl ?_)))
section
variable {X : Cx} {K : PySem.W.Frag} {pos : Pos}
def dForT (src : DE) (i : Nat) (tb : DS) : DS := fun DD env => src env fun s => ∃ xs, s = .tup xs ∧ dForL i tb xs DD env
theorem rs_forT {tl : TE} {dl : DE} {i : Nat} {tb : TS} {db : DS} (hl : RD K tl dl) (hb : RS K tb db) : RS K (tFor (iTup K tl) (gName i) tb) (dForT dl i db) := fun env DD σ H D hq re kn kr => by
  refine hl env _ σ H _ hq re fun v H1 d s1 rv ⟨xs, e, q⟩ => ?_
  subst e
  obtain ⟨a, vs, rfl, hq, rs⟩ := rv.tupE
  refine ⟨a, rfl, ⟨vs, hq⟩, ?_⟩
  refine for_tup (K := K) (a := a) (xs := vs) (fun n σ' H' => Same H1 H' ∧ ∃ env', RE K H' env' σ' ∧ dForL i db (xs.drop n) DD env') ⟨.refl _, env, re.s s1, q⟩ (fun n σ' H' _ p => seqT_same p.1 hq) (fun n x σ' H' hx p => ?_) fun σ' H' p => ?_
  · obtain ⟨s2, env', re', q'⟩ := p
    have hlt : n < xs.length := by rw [← rs.length]; exact (List.getElem?_eq_some_iff.mp hx).1
    obtain ⟨w, e1, r1⟩ := rs.get (List.getElem?_eq_getElem hlt)
    rw [hx] at e1; cases e1
    rw [List.drop_eq_getElem_cons hlt] at q'
    refine hb (env'.set i (some xs[n])) _ (σ'.set i (some x)) H' _ q' (re'.set (r1.s s2) i) (fun e3 σ3 H3 s3 r3 q3 => ⟨s2.trans s3, e3, r3, q3⟩) fun d v H3 s3 r3 q3 => kr d v H3 (s1.trans (s2.trans s3)) r3 q3
  · obtain ⟨s2, env', re', q'⟩ := p
    rw [List.drop_of_length_le (by rw [rs.length]; exact Nat.le_refl _)] at q'
    exact kn env' σ' H' (s1.trans s2) re' q'
theorem ps_forTD {iter : Expr} {body : List Stmt} {tl : TE} {dl : DE} {i : Nat} {x : Str} {tb : TS} {db : DS} {tpos : Pos} (hp : PassesOwn (model X.prog X.w) X.A X.env X.xe) (hc : X.calm = true) (hi : PD K X iter tl dl) (hg : PG X (.Name x tpos) (gName i)) (hb : PSsD K X body tb db)
    (hs : ∀ x, foldedSetIterable iter X.env x = pure x := by intro _; rfl) (q : X.K = K := by rfl) : PSD K X (.For (.Name x tpos) iter body [] pos) (tFor (iTup K tl) (gName i) tb) (dForT dl i db) := by
  subst q
  exact ⟨ps_for hp hc (pi_tup hi.pe) hg hb.pe hs, rs_forT hi.rd hb.rd⟩
end
section
variable {P : Program} {w : World} {K : PySem.W.Frag} {mg : Str → Option Value} {base : Heap}
theorem sc_found_moves : FnScope n_found_moves ["term", "atom", "deed"] (defScope s_found_moves) := ⟨rfl, rfl, rfl, by decide +kernel, rfl, by decide +kernel, by decide +kernel⟩
def S_found_moves (L : Nat) : List D → D → Prop := fun ds d => ∃ (e : Tm) (a j : Nat), ds = [e.enc, .int a, .int j] ∧ e.dep ≤ L ∧ e.ok ∧ d = .emp
theorem ok_found_moves (B : Blt mg) {f f1 f2 : Addr} {fd fd1 fd2 : FuncData} (d_found_moves : Df K mg "found_moves" s_found_moves ["term", "atom", "deed"] f fd) (d_stops : Df K mg "stops" s_stops ["term", "atom"] f1 fd1) (d_holds : Df K mg "holds" s_holds ["condition", "atom"] f2 fd2) (L : Nat) :
    FnOk P w K mg base CX0 (L + 22) f fd ["term", "atom", "deed"] (spP K 3 (S_found_moves L)) := by
  induction L with
  | zero =>
    refine fn_pd d_found_moves.F sc_found_moves fun cdv A outer s H E hr ds d _ hS => ?_
    obtain ⟨c, a, j, rfl, h1, _⟩ := hS
    cases c <;> simp [Tm.dep] at h1
  | succ L ih =>
    have G_found_moves := ih
    have G_stops := ok_stops (P := P) (w := w) (base := base) B d_stops d_holds L
    refine fn_pd d_found_moves.F sc_found_moves fun cdv A outer s H E hr ds d _ hS => ⟨_, _, (psd_cons (ps_setD (i := 3) sc_found_moves.nd (pd_ix (k_ix (K := K)) d_ix (pdv 0) pd_int))
        (psd_cons (ps_ifD (pt_cmpD (op_eqQ (K := K) hr.units) d_eq (pdv 3) pd_str (nomark _)) (psd_one ps_neverD) psd_nil)
        (psd_cons (ps_ifD (pt_cmpD (op_eqQ (K := K) hr.units) d_eq (pdv 3) pd_str (nomark _)) (psd_one (ps_retD pd_newEmp)) psd_nil)
        (psd_cons (ps_setD (i := 4) sc_found_moves.nd (pd_call G_found_moves (hr.mono (by omega)) d_found_moves.m d_found_moves.F.kp d_found_moves.b (pa_consD (pd_ix (k_ix (K := K)) d_ix (pdv 0) pd_int) (pa_consD (pdv 1) (pa_consD (pdv 2) pa_nilD)))))
        (psd_cons (ps_ifD (pt_cmpD (op_eqQ (K := K) hr.units) d_eq (pdv 3) pd_str (nomark _)) (psd_one (ps_retD (pd_dcE (j := 4) rfl sc_found_moves.nd (blkOk_by (N := n_found_moves) (sc := defScope s_found_moves) (by decide +kernel)) (pdv (K := K) 4).pe (fun _ _ _ _ _ => pg_name (i := 5) sc_found_moves.nd rfl (Or.inl rfl))))) psd_nil)
        (psd_cons (ps_ifD (pt_cmpD (op_eqQ (K := K) hr.units) d_eq (pdv 3) pd_str (nomark _)) (psd_cons (ps_setDcE (j := 4) rfl sc_found_moves.nd (blkOk_by (N := n_found_moves) (sc := defScope s_found_moves) (by decide +kernel)) rfl rfl (sw_trueD rfl rfl rfl (by decide +kernel)) (pdv (K := K) 4).pe (fun _ _ _ _ _ => pg_name (i := 5) sc_found_moves.nd rfl (Or.inl rfl)))
        (psd_one (ps_ifD (pt_notD (pt_valD (pd_call G_stops (hr.mono (by omega)) d_stops.m d_stops.F.kp d_stops.b (pa_consD (pd_ix (k_ix (K := K)) d_ix (pdv 0) pd_int) (pa_consD (pdv 1) pa_nilD))))) (psd_one (ps_retD (pdv 4))) psd_nil))) psd_nil)
        (psd_cons (ps_updD (j := 4) (pd_call G_found_moves (hr.mono (by omega)) d_found_moves.m d_found_moves.F.kp d_found_moves.b (pa_consD (pd_ix (k_ix (K := K)) d_ix (pdv 0) pd_int) (pa_consD (pdv 1) (pa_consD (pdv 2) pa_nilD)))) (fun z => pe_bm PySem.F.plainAttrs_dict PySem.F.slot_dict_update PySem.F.type_dict_update mt_upd0 (pv 4) (pa_cons z pa_nil)))
        (psd_one (ps_retD (pdv 4)))))))))), ?_⟩
    obtain ⟨e, a, j, rfl, h1, h2, rfl⟩ := hS
    cases e with
    | ask c => walk_at "r"; rfl
    | alt x y =>
      simp only [Tm.dep] at h1
      walk_at "r"
      refine ⟨_, ⟨x, a, j, rfl, by omega, h2.1, rfl⟩, ?_⟩
      walk_at "r"
      refine ⟨_, ⟨y, a, j, rfl, by omega, h2.2, rfl⟩, ?_⟩
      walk_at "r"
      rfl
    | row x y =>
      simp only [Tm.dep] at h1
      walk_at "r"
      refine ⟨_, ⟨x, a, j, rfl, by omega, h2.1, rfl⟩, ?_⟩
      walk_at "r"
      refine ⟨_, ⟨x, a, rfl, by omega, h2.1, rfl⟩, _, rfl, iteB (fun e => ?_) fun e => ?_⟩
      · walk_at "r"; rfl
      · walk_at "r"
        refine ⟨_, ⟨y, a, j, rfl, by omega, h2.2, rfl⟩, ?_⟩
        walk_at "r"
        rfl
    | again x =>
      simp only [Tm.dep] at h1
      walk_at "r"
      refine ⟨_, ⟨x, a, j, rfl, by omega, h2, rfl⟩, ?_⟩
      walk_at "r"
      rfl
theorem sc_after_deed : FnScope n_after_deed ["state", "atom", "deed"] (defScope s_after_deed) := ⟨rfl, rfl, rfl, by decide +kernel, rfl, by decide +kernel, by decide +kernel⟩
def S_after_deed (L : Nat) : List D → D → Prop := fun ds d => ∃ (es : List Tm) (a j : Nat), ds = [.tup (es.map Tm.enc), .int a, .int j] ∧ (∀ e ∈ es, e.dep ≤ L ∧ e.ok) ∧ d = .tup []
theorem ad_loop {es : List Tm} {X Y Z : Option D} {nx : Env' → Prop} {rt : D → Prop} {tb : DS} (htb : ∀ (DD : EndsD) (e : Tm), e ∈ es → DD.nx [X, Y, Z, some .emp, some e.enc] → tb DD [X, Y, Z, some .emp, some e.enc]) :
    ∀ (l : List Tm) (o : Option D), (∀ e ∈ l, e ∈ es) → (∀ o', nx [X, Y, Z, some .emp, o']) → dForL 4 tb (l.map Tm.enc) ⟨nx, rt⟩ [X, Y, Z, some .emp, o]
  | [], o, _, h => by simpa [dForL] using h o
  | e :: l, o, hm, h => by
    show tb _ [X, Y, Z, some .emp, some e.enc]
    exact htb _ e (hm e List.mem_cons_self) (ad_loop htb l _ (fun x hx => hm x (List.mem_cons_of_mem _ hx)) h)
theorem ok_after_deed (B : Blt mg) {f f1 f2 f3 : Addr} {fd fd1 fd2 fd3 : FuncData} (d_after_deed : Df K mg "after_deed" s_after_deed ["state", "atom", "deed"] f3 fd3) (d_found_moves : Df K mg "found_moves" s_found_moves ["term", "atom", "deed"] f fd) (d_stops : Df K mg "stops" s_stops ["term", "atom"] f1 fd1)
    (d_holds : Df K mg "holds" s_holds ["condition", "atom"] f2 fd2) (L : Nat) : FnOk P w K mg base CX0 (L + 23) f3 fd3 ["state", "atom", "deed"] (spP K 3 (S_after_deed L)) := by
  have G_found_moves := ok_found_moves (P := P) (w := w) (base := base) B d_found_moves d_stops d_holds L
  refine fn_pd d_after_deed.F sc_after_deed fun cdv A outer s H E hr ds d _ hS => ⟨_, _, (psd_cons (ps_setD (i := 3) sc_after_deed.nd pd_newEmp)
        (psd_cons (ps_forTD PassesOwn.never rfl (pdv 0) (pg_name (i := 4) sc_after_deed.nd rfl (Or.inl rfl)) (psd_one (ps_updD (j := 3) (pd_call G_found_moves (hr.mono (by omega)) d_found_moves.m d_found_moves.F.kp d_found_moves.b (pa_consD (pdv 4) (pa_consD (pdv 1) (pa_consD (pdv 2) pa_nilD)))) (fun z => pe_bm PySem.F.plainAttrs_dict PySem.F.slot_dict_update PySem.F.type_dict_update mt_upd0 (pv 3) (pa_cons z pa_nil)))))
        (psd_one (ps_retD (pd_callTy (k_tupOf (K := K)) d_tupOf (by rfl) B.tuple (by decide +kernel) (pa_consD (pd_callB (k_sorted (K := K)) d_sort (by rfl) B.sorted (by decide +kernel) (pa_consD (pd_callTy (call_list_dK rfl) d_listE (by rfl) B.list (by decide +kernel) (pa_consD (pdv 3) pa_nilD)) pa_nilD)) pa_nilD)))))), ?_⟩
  obtain ⟨es, a, j, rfl, h1, rfl⟩ := hS
  walk_at "r"
  refine ad_loop (es := es) (fun DD e he q => ?_) _ none (fun e he => he) fun o' => ?_
  · walk_at "r"
    exact ⟨_, ⟨e, a, j, rfl, (h1 e he).1, (h1 e he).2, rfl⟩, rfl, q⟩
  · walk_at "r"
    show D.tup ((srt []).map D.int) = D.tup []
    have e0 : srt [] = [] := by simp [srt]
    rw [e0]; rfl
end
end KQ

set_option Elab.async false
set_option linter.all false
set_option maxRecDepth 100000
set_option maxHeartbeats 400000
namespace KQ
open PySem L2 PySem.Spec
section
variable {X : Cx} {K : PySem.W.Frag} {e : Expr} {te : TE} {de : DE} {pos : Pos}
/-- x = e, a tuple, whose place is remembered -/
def dSetAt (t : DE) (i : Nat) : DS := fun DD env => t env fun d => (∃ xs, d = .tup xs) ∧ ∀ a, DD.nx (env.set i (some (.at a d)))
theorem ps_setAt {i : Nat} {x : Str} {pos' : Pos} (hN : X.N.Nodup) (h : PD K X e te de) (hi : X.N[i]? = some x := by rfl) (hx : Loc X.env.scope x := by first | exact .inl rfl | exact .inr rfl) (hs : swapsWith e (some (.Name x pos')) pos.line X.env = pure false := by rfl) (hf : X.fn x = true ∨ X.env.scope.names.lookup x = some .local := by first | exact .inl rfl | exact .inr rfl | assumption) :
    PSD K X (.Assign [.Name x pos'] e pos) (tAsg te (gName i)) (dSetAt de i) := ⟨ps_set hN hi hx h.pe hs hf, fun env DD σ H D hq re kn kr => h.rd env _ σ H _ hq re fun v H' d s r ⟨⟨xs, e1⟩, q⟩ => by
    subst e1
    obtain ⟨a, vs, rfl, h1, h2⟩ := r.tupE
    exact kn _ _ H' s ((re.s s).set (.at r) i) (q a)⟩
/-- the place forgotten -/
def dForget (t : DE) : DE := fun env Q => t env fun d => ∃ a d', d = .at a d' ∧ Q d'
theorem pd_forget (h : PD K X e te de) : PD K X e te (dForget de) := ⟨h.pe, fun env Q σ H QV hq re k => h.rd env _ σ H _ hq re fun v H' d s r ⟨a, d', e1, q⟩ => by
    subst e1
    obtain ⟨rfl, h1⟩ := r.atE
    exact k _ H' d' s h1 q⟩
/-- {k: v} -/
def dOne (w : World) (tk tv : DE) : DE := fun env Q => tk env fun dk => tv env fun dv => ∃ a d, dk = .at a d ∧ keyD d = true ∧ depD d ≤ 60 ∧ imm d = true ∧ imm dv = true ∧ Q (.one a (hD w d) dv)
theorem pd_one1 {k v : Expr} {tk tv : TE} {dk dv : DE} (hu : X.A.units + 64 < cLine) (hk : PD K X k tk dk) (hv : PD K X v tv dv) (q : X.K = K := by rfl) : PD K X (.Dict [some k] [v] pos) (tOne K X.w tk tv) (dOne X.w dk dv) :=
  ⟨by subst q; exact pe_one1 hu hk.pe hv.pe, fun env Q σ H QV hq re kk p hp => by
    refine hk.rd env _ σ _ _ hq (re.s (same_new hp)) fun y H1 d1 s1 r1 q1 => ?_
    refine hv.rd env _ σ H1 _ q1 ((re.s (same_new hp)).s s1) fun x H2 d2 s2 r2 ⟨a, d, e1, h1, h2, h3, h4, q2⟩ => ?_
    subst e1
    obtain ⟨rfl, r3⟩ := r1.atE
    have e2 : H2 p = some (.dK []) := s2 _ _ (s1 _ _ upd_same)
    refine ⟨a, d, rfl, e2, h1, h2, r3.s s2, kk _ _ (.one a (hD X.w d) d2) (fun b u eb => ?_) (.one' upd_same (Rp.tups (.upd (by rw [e2]; trivial)) d2 x h4 r2)) q2⟩
    have hb : b ≠ p := ne_of_none eb hp
    rw [upd_ne hb]
    exact s2 _ _ (s1 _ _ (by rw [upd_ne hb]; exact eb))⟩
/-- d[k], the very key -/
def dOGet (w : World) (td ty : DE) : DE := fun env Q => td env fun dd => ty env fun dk => ∃ a d v, dk = .at a d ∧ dd = .one a (hD w d) v ∧ keyD d = true ∧ depD d ≤ 60 ∧ Q v
theorem pd_oget {o i : Expr} {td ty : TE} {dd dy : DE} (hu : X.A.units + 66 < cLine) (ho : PD K X o td dd) (hi : PD K X i ty dy) (hs : NoSl i) (q : X.K = K := by rfl) : PD K X (.Subscript o i pos) (tOGet K X.w td ty) (dOGet X.w dd dy) :=
  ⟨by subst q; exact pe_oget hu ho.pe hi.pe hs, fun env Q σ H QV hq re kk => by
    refine ho.rd env _ σ H _ hq re fun y H1 d1 s1 r1 q1 => ?_
    refine hi.rd env _ σ H1 _ q1 (re.s s1) fun x H2 d2 s2 r2 ⟨a, d, v, e1, e2, h1, h2, q2⟩ => ?_
    subst e1 e2
    obtain ⟨rfl, r3⟩ := r2.atE
    obtain ⟨p, u, rfl, hp, ru⟩ := r1.oneE
    exact ⟨p, a, d, u, rfl, rfl, s2 _ _ hp, h1, h2, r3, kk _ H2 v (s1.trans s2) (ru.s s2) q2⟩⟩
/-- x, y = e -/
def dUnp (t : DE) (i j : Nat) : DS := fun DD env => t env fun d => ∃ a b, d = .tup [a, b] ∧ DD.nx ((env.set i (some a)).set j (some b))
theorem ps_unpD {i j : Nat} {tg : Expr} (h : PD K X e te de) (pg : PG X tg (gTup X.K 2 (gCons (gName i) (gCons (gName j) gNil))))
    (hs : swapsWithSole [tg] e pos.line X.env = pure false := by rfl) (hw : swappedStores [tg] e X.env = pure none := by rfl) (h1 : (assignEach [tg] X.env).map (·.2) = [assign tg X.env] := by rfl) (q : X.K = K := by rfl) :
    PSD K X (.Assign [tg] e pos) (tAsg te (gTup K 2 (gCons (gName i) (gCons (gName j) gNil)))) (dUnp de i j) :=
  ⟨by subst q; exact ps_asg h.pe pg hs hw h1, fun env DD σ H D hq re kn kr => h.rd env _ σ H _ hq re fun v H' d s r ⟨x, y, e1, q⟩ => by
    subst e1
    obtain ⟨b, us, rfl, hb, ru⟩ := r.tupE
    unfold Rps at ru
    obtain ⟨u1, r1, rfl, g1, g2⟩ := ru
    obtain ⟨u2, rfl, g3⟩ := g2.one
    refine ⟨b, _, rfl, hb, rfl, u1, [u2], rfl, u2, [], rfl, rfl, ?_⟩
    exact kn _ _ H' s (((re.s s).set g1 i).set g3 j) q⟩
/-- for x, y in a list of pairs -/
def dFor2L (i j : Nat) (tb : DS) : List D → DS
  | [], DD, env => DD.nx env
  | x :: xs, DD, env => ∃ a b, x = .tup [a, b] ∧ tb { DD with nx := dFor2L i j tb xs DD } ((env.set i (some a)).set j (some b))
def dFor2 (src : DE) (i j : Nat) (tb : DS) : DS := fun DD env => src env fun s => ∃ xs, s = .lst xs ∧ dFor2L i j tb xs DD env
theorem ps_for2D {iter tg : Expr} {body : List Stmt} {tl : TE} {dl : DE} {i j : Nat} {tb : TS} {db : DS} (hp : PassesOwn (model X.prog X.w) X.A X.env X.xe) (hc : X.calm = true) (hi : PD K X iter tl dl) (hg : PG X tg (gTup X.K 2 (gCons (gName i) (gCons (gName j) gNil)))) (hb : PSsD K X body tb db)
    (hs : ∀ x, foldedSetIterable iter X.env x = pure x := by intro _; rfl) (q : X.K = K := by rfl) : PSD K X (.For tg iter body [] pos) (tFor (iList K tl) (gTup K 2 (gCons (gName i) (gCons (gName j) gNil))) tb) (dFor2 dl i j db) := by
  subst q
  refine ⟨ps_for hp hc (pi_list hi.pe) hg hb.pe hs, fun env DD σ H D hq re kn kr => ?_⟩
  refine hi.rd env _ σ H _ hq re fun v H1 d s1 rv ⟨xs, e, q⟩ => ?_
  subst e
  obtain ⟨a, vs, rfl, hq, rs⟩ := rv.lstE
  refine ⟨a, rfl, ⟨vs, hq⟩, ?_⟩
  refine for_list (K := X.K) (a := a) (xs := vs) (fun n σ' H' => Same H1 H' ∧ ∃ env', RE X.K H' env' σ' ∧ dFor2L i j db (xs.drop n) DD env') ⟨.refl _, env, re.s s1, q⟩ (fun n σ' H' _ p => p.1.seq hq) (fun n x σ' H' hx p => ?_) fun σ' H' p => ?_
  · obtain ⟨s2, env', re', q'⟩ := p
    have hlt : n < xs.length := by rw [← rs.length]; exact (List.getElem?_eq_some_iff.mp hx).1
    obtain ⟨w, e1, r1⟩ := rs.get (List.getElem?_eq_getElem hlt)
    rw [hx] at e1; cases e1
    rw [List.drop_eq_getElem_cons hlt] at q'
    obtain ⟨y, z, ey, q'⟩ := q'
    have r1' := r1.s s2
    rw [ey] at r1'
    obtain ⟨b, us, rfl, hb', ru⟩ := r1'.tupE
    unfold Rps at ru
    obtain ⟨u1, r1, rfl, g1, g2⟩ := ru
    obtain ⟨u2, rfl, g3⟩ := g2.one
    refine ⟨b, _, rfl, hb', rfl, u1, [u2], rfl, u2, [], rfl, rfl, ?_⟩
    refine hb.rd _ _ _ H' _ q' ((re'.set g1 i).set g3 j) (fun e3 σ3 H3 s3 r3 q3 => ⟨s2.trans s3, e3, r3, q3⟩) fun d v H3 s3 r3 q3 => kr d v H3 (s1.trans (s2.trans s3)) r3 q3
  · obtain ⟨s2, env', re', q'⟩ := p
    rw [List.drop_of_length_le (by rw [rs.length]; exact Nat.le_refl _)] at q'
    exact kn env' σ' H' (s1.trans s2) re' q'
/-- while, by its turns -/
def dWh (c : DT) (tb : DS) : Nat → DS
  | 0, _, _ => False
  | n + 1, DD, env => c env fun b => if b = true then tb { DD with nx := dWh c tb n DD } env else DD.nx env
def dWhile (c : DT) (tb : DS) : DS := fun DD env => ∃ n, dWh c tb n DD env
theorem ps_whileD {c : Expr} {body : List Stmt} {tc : TT} {dc : DT} {tb : TS} {db : DS} (hp : PassesOwn (model X.prog X.w) X.A X.env X.xe) (hc : PTD K X c tc dc) (hb : PSsD K X body tb db) : PSD K X (.While c body [] pos) (tWhile tc tb) (dWhile dc db) :=
  ⟨ps_while hp hc.pe hb.pe, fun env DD σ H D hq re kn kr => by
    obtain ⟨n, h0⟩ := hq
    refine ⟨fun m σ' H' => Same H H' ∧ ∃ env', RE K H' env' σ' ∧ dWh dc db m DD env', ⟨n, .refl _, env, re, h0⟩, ?_⟩
    rintro m σ1 H1 ⟨s1, env1, r1, i1⟩
    cases m with
    | zero => exact i1.elim
    | succ m =>
      refine hc.rd env1 _ σ1 H1 _ i1 r1 fun b H2 s q => ?_
      cases b with
      | false => exact iteF (kn env1 σ1 H2 (s1.trans s) (r1.s s) q)
      | true =>
        refine iteT ⟨fun σ' H' => ∃ m', m' < m + 1 ∧ Same H H' ∧ ∃ env', RE K H' env' σ' ∧ dWh dc db m' DD env', fun σ' H' h => h, ?_⟩
        refine hb.rd env1 _ σ1 H2 _ q (r1.s s) (fun env' σ' H' s' r' i' => ⟨m, Nat.lt_succ_self m, (s1.trans s).trans s', env', r', i'⟩) fun d v H' s' r' q' => kr d v H' ((s1.trans s).trans s') r' q'⟩
/-- x += e, ints -/
def dAug (i : Nat) (t : DE) (g : Int → Int → Int) : DS := fun DD env => ∃ n, env[i]? = some (some (.int n)) ∧ t env fun d => ∃ m, d = .int m ∧ DD.nx (env.set i (some (.int (g n m))))
theorem ps_augD {i : Nat} {x : Str} {op : Operator} {g : Int → Int → Int} {pos' : Pos} (hN : X.N.Nodup) (hx : Loc X.env.scope x) (h : PD K X e te de) (ho : PIp X op (ipI g)) (hi : X.N[i]? = some x := by rfl) (hf : X.fn x = true ∨ X.env.scope.names.lookup x = some .local := by first | exact .inl rfl | exact .inr rfl | assumption) :
    PSD K X (.AugAssign (.Name x pos') op e pos) (tAug i te (ipI g)) (dAug i de g) :=
  ⟨ps_aug hN hi hx h.pe ho hf, fun env DD σ H D ⟨n, hn, hq⟩ re kn kr => by
    obtain ⟨v, h1, h2⟩ := re.2 i _ hn
    obtain rfl := h2.intE
    refine ⟨_, h1, h.rd env _ σ H _ hq re fun v H' d s r ⟨m, e1, q⟩ => ?_⟩
    subst e1
    obtain rfl := r.intE
    exact ⟨n, m, rfl, rfl, kn _ _ H' s ((re.s s).set .int i) q⟩⟩
def dNeverT : DT := fun _ _ => False
theorem pt_neverD : PTD K X e (fun _ _ _ => False) dNeverT := ⟨pt_never, fun _ _ _ _ _ h => h.elim⟩
end
/-- two empty tuples -/
def fNeE : D → D → Option D
  | .tup [], .tup [] => some (.bl false)
  | _, _ => none
theorem d_neE {K : PySem.W.Frag} : DOp K (rNeQ K) fNeE := fun H x y dx dy d QV rx ry e k => by
  unfold fNeE at e
  split at e
  · cases e
    obtain ⟨a, vs, rfl, q1, r1⟩ := rx.tupE
    obtain ⟨b, ws, rfl, q2, r2⟩ := ry.tupE
    simp only [Rps] at r1 r2
    subst r1 r2
    exact .inr ⟨.tuple [], .tuple [], .tup q1 .nil, .tup q2 .nil, by decide +kernel, by decide +kernel, k _ H (.refl H) .bl⟩
  · cases e
/-! ### contracts by what may come -/
def spN (K : PySem.W.Frag) (n : Nat) (S : List D → (D → Prop) → Prop) : Sp := fun vs H Q _ => ∃ (ds : List D) (R : D → Prop), Rps K H ds vs ∧ ds.length = n ∧ S ds R ∧ ∀ d v H', Same H H' → R d → Rp K H' d v → Q v H'
def dCallN (S : List D → (D → Prop) → Prop) (n : Nat) (t : DA) : DE := fun env Q => t env fun ds => ds.length = n ∧ ∃ R, S ds R ∧ ∀ d, R d → Q d
section
variable {K : PySem.W.Frag} {tl : TA} {dl : DA}
theorem rd_callN {S : List D → (D → Prop) → Prop} {n : Nat} (h : RA K tl dl) : RD K (tCall (spN K n S) [] E0 tl) (dCallN S n dl) := fun env Q σ H QV hq he k =>
  h env _ σ H _ hq he fun vs H1 ds s rv ⟨hn, R, hs, q⟩ => by
    show spN K n S (vs ++ []) H1 QV E0
    rw [List.append_nil]
    exact ⟨ds, R, rv, hn, hs, fun d v H2 s2 hr r2 => k v H2 d (s.trans s2) r2 (q d hr)⟩
end
section
variable {X : Cx} {K : PySem.W.Frag} {e : Expr} {es : List Expr} {tl : TA} {dl : DA} {x : Str} {p pos : Pos}
theorem pd_callN {P' : Program} {w' : World} {mg' : Str → Option Value} {base' : Heap} {kk : Nat} {g : Addr} {fd : FuncData} {ps : List Str} {S : List D → (D → Prop) → Prop} {n : Nat} (F : FnOk P' w' K mg' base' CX0 kk g fd ps (spN K n S)) (hr : Room kk X.A) (hm : mg' x = some (.ref g)) (hk : PySem.W.keepIn K (.ref g) = true) (hb : Binds K fd ps [])
    (ha : PAD K X (e :: es) tl dl) (hg : Gl X x := by rfl) (hdb : (x == ("__debug__" : Str)) = false := by decide) (he : starEach (e :: es) X.env = (false, eval e X.env) :: starEach es X.env := by rfl) (hpl : (backTo pos (starEach es X.env)).any (·.1) = false := by rfl) (q1 : X.prog = P' := by rfl) (q2 : X.w = w' := by rfl) (q3 : X.K = K := by rfl) (q4 : X.mg = mg' := by rfl) (q5 : X.base = base' := by rfl) :
    PD K X (.Call (.Name x p) (e :: es) [] pos) (tCall (spN K n S) [] E0 tl) (dCallN S n dl) := by
  subst q1 q2 q3 q4 q5
  exact ⟨pe_call F hr hg hm hk hb .nil pass0 ha.pe hdb he hpl, rd_callN ha.rd⟩
end
section
variable {P : Program} {w : World} {K : PySem.W.Frag} {mg : Str → Option Value} {base : Heap}
theorem fn_pdN {x qual : Str} {st : Stmt} {f : Addr} {fd : FuncData} {N ps : List Str} {k : Nat} {S : List D → (D → Prop) → Prop} (F : Fun K x qual st f fd) (sc : FnScope N ps (defScope st))
    (body : ∀ (cdv : Value) (A : Around) (outer : List Env) (s : Shared) (H : Hp) (E : XK), Room k (A.deeper (PyProof.Rows.envOfC qual (defScope st) s.heap.objs.size f cdv)) → ∀ ds R, ds.length = ps.length → S ds R →
      ∃ ts t, PSsD K (cxOf CX0 P w K mg base N qual (defScope st) f cdv A outer s H E).nox (defBody st) ts t ∧ t ⟨fun _ => R .non, R⟩ (env0 N ds)) :
    FnOk P w K mg base CX0 (k + 1) f fd ps (spN K ps.length S) := by
  refine F.ok sc (fun vs H Q E ⟨ds, R, r, l, _⟩ => by rw [r.length, l]) fun cdv A outer s H vs Q E hr h => ?_
  obtain ⟨ds, R, r, hl, hs, q⟩ := h
  obtain ⟨ts, t, h1, h2⟩ := body cdv A outer s H E hr ds R hl hs
  refine ⟨ts, h1.pe, h1.rd _ _ _ H _ h2 (RE.start r) (fun env' σ' H' s' _ e => ?_) fun d' v H' s' r' e => ?_⟩
  · exact q .non .non H' s' e .non
  · exact q d' v H' s' e r'
theorem u64 {k : Nat} {A : Around} (r : Room k A) : A.units + 64 < cLine := by have := r.un; omega
theorem room66 {k : Nat} {A : Around} (r : Room k A) : A.units + 66 < cLine := by have := r.un; omega
end
end KQ

set_option Elab.async false
set_option linter.all false
set_option maxRecDepth 100000
set_option maxHeartbeats 1000000
namespace KQ
open PySem L2
local macro_rules | `(tactic| walk_at "r") => `(tactic| repeat (first | (refine ⟨_, rfl, ?_⟩) | (refine ⟨rfl, ?_⟩) | (refine ⟨small_line (Nat.le_of_ble_eq_true rfl), ?_⟩) | (refine iteF' (by decide +kernel) ?_) | (refine iteT' (by decide +kernel) ?_) | (refine iteF' rfl ?_) | (refine iteT' rfl ?_)))
theorem cnd_key : ∀ c : Cnd, keyD c.enc = true
  | .no | .yes | .test _ => rfl
  | .not c => by show (true && (keyD c.enc && true)) = true; rw [cnd_key c]; rfl
  | .and a b => by show (true && (keyD a.enc && (keyD b.enc && true))) = true; rw [cnd_key a, cnd_key b]; rfl
  | .or a b => by show (true && (keyD a.enc && (keyD b.enc && true))) = true; rw [cnd_key a, cnd_key b]; rfl
theorem tm_key : ∀ e : Tm, keyD e.enc = true
  | .ask c => by show (true && (keyD c.enc && true)) = true; rw [cnd_key c]; rfl
  | .alt a b => by show (true && (keyD a.enc && (keyD b.enc && true))) = true; rw [tm_key a, tm_key b]; rfl
  | .row a b => by show (true && (keyD a.enc && (keyD b.enc && true))) = true; rw [tm_key a, tm_key b]; rfl
  | .again c => by show (true && (keyD c.enc && true)) = true; rw [tm_key c]; rfl
theorem cnd_depD : ∀ c : Cnd, depD c.enc ≤ c.dep
  | .no | .yes | .test _ => by simp [Cnd.enc, depD, depDs, Cnd.dep]
  | .not c => by have := cnd_depD c; simp [Cnd.enc, depD, depDs, Cnd.dep]; omega
  | .and a b | .or a b => by have := cnd_depD a; have := cnd_depD b; simp [Cnd.enc, depD, depDs, Cnd.dep]; omega
theorem tm_depD : ∀ e : Tm, e.ok → depD e.enc ≤ e.dep + 20
  | .ask c, h => by have := cnd_depD c; have := h.2; simp [Tm.enc, depD, depDs, Tm.dep]; omega
  | .alt a b, h | .row a b, h => by have := tm_depD a h.1; have := tm_depD b h.2; simp [Tm.enc, depD, depDs, Tm.dep]; omega
  | .again a, h => by have := tm_depD a h; simp [Tm.enc, depD, depDs, Tm.dep]; omega
section
variable {P : Program} {w : World} {K : PySem.W.Frag} {mg : Str → Option Value} {base : Heap}
def unl (t : Nat) (a b : Tm) : List Nat := (stp t [a] ++ stp t [b]).filter fun n => decide (n ∈ stp t [a]) != decide (n ∈ stp t [b])
theorem stp_len (t : Nat) (es : List Tm) : (stp t es).length ≤ 2 ^ t := by
  unfold stp
  have := List.length_filter_le (fun a => es.any fun e => e.st a) (List.range (2 ^ t))
  rwa [List.length_range] at this
theorem add_tup {xs ys : List D} (h : xs.length + ys.length ≤ sizeLine) : fAdd (.tup xs) (.tup ys) = some (.tup (xs ++ ys)) := by
  show (none : Option D).or (if xs.length + ys.length ≤ sizeLine then some (.tup (xs ++ ys)) else none) = _
  rw [if_pos h]; rfl
theorem aD_append (a b : List Nat) : aD a ++ aD b = aD (a ++ b) := by unfold aD; rw [List.map_append]
theorem fIn_aD (n : Nat) (ns : List Nat) : fIn false (.int n) (.tup (aD ns)) = some (.bl (decide (n ∈ ns))) := by
  rw [aD_ints]
  unfold fIn inD
  simp only [toVs_ints]
  show some (D.bl (inV (.int n) _)) = _
  congr 2
  rw [Bool.eq_iff_iff]
  unfold inV
  rw [List.any_eq_true, decide_eq_true_eq]
  constructor
  · rintro ⟨y, hy, e⟩
    obtain ⟨z, hz, rfl⟩ := List.mem_map.mp hy
    obtain ⟨m, hm, rfl⟩ := List.mem_map.mp hz
    have : (m : Int) = (n : Int) := by simpa [eqV] using e
    have : m = n := by omega
    exact this ▸ hm
  · intro h
    exact ⟨.int n, List.mem_map.mpr ⟨(n : Int), List.mem_map.mpr ⟨n, h, rfl⟩, rfl⟩, by simp [eqV]⟩
theorem unl_nil {t : Nat} {a b : Tm} : unl t a b = [] ↔ stp t [a] = stp t [b] := by
  constructor
  · intro h
    have h' := List.filter_eq_nil_iff.mp h
    unfold stp
    refine List.filter_congr fun n hn => ?_
    have m1 : n ∈ stp t [a] ↔ (([a] : List Tm).any fun e => e.st n) = true := by unfold stp; rw [List.mem_filter]; exact ⟨fun h => h.2, fun h => ⟨hn, h⟩⟩
    have m2 : n ∈ stp t [b] ↔ (([b] : List Tm).any fun e => e.st n) = true := by unfold stp; rw [List.mem_filter]; exact ⟨fun h => h.2, fun h => ⟨hn, h⟩⟩
    by_cases ha : n ∈ stp t [a]
    · have := h' n (List.mem_append_left _ ha)
      by_cases hb : n ∈ stp t [b]
      · rw [m1.mp ha, m2.mp hb]
      · simp [ha, hb] at this
    · by_cases hb : n ∈ stp t [b]
      · have := h' n (List.mem_append_right _ hb)
        simp [ha, hb] at this
      · rw [Bool.eq_false_iff.mpr (fun e => ha (m1.mpr e)), Bool.eq_false_iff.mpr (fun e => hb (m2.mpr e))]
  · intro h
    unfold unl
    rw [h]
    exact List.filter_eq_nil_iff.mpr fun n _ => by simp
def prs (t k : Nat) : List (Nat × Nat) := (List.range (2 ^ t)).flatMap fun (a : Nat) => (List.range k).map fun (j : Nat) => (a, j)
theorem stepsD_map (t k : Nat) : stepsD t k = (prs t k).map fun p => D.tup [.int (p.1 : Nat), .int (p.2 : Nat)] := by
  unfold stepsD prs
  rw [List.map_flatMap]
  congr 1
  funext a
  rw [List.map_map]; rfl
theorem sr_loop {e0 e1 e2 e3 e4 e5 e6 e7 e8 e9 e10 e11 e13 : Option D} {nx : Env' → Prop} {rt : D → Prop} {tb : DS}
    (htb : ∀ (DD : EndsD) (n j : Nat) (o : Option D), (∀ o', DD.nx [e0, e1, e2, e3, e4, e5, e6, e7, e8, e9, e10, e11, some (.int (n : Nat)), e13, some (.int (j : Nat)), o']) → tb DD [e0, e1, e2, e3, e4, e5, e6, e7, e8, e9, e10, e11, some (.int (n : Nat)), e13, some (.int (j : Nat)), o]) :
    ∀ (l : List (Nat × Nat)) (o o' o'' : Option D), (∀ o o' o'', nx [e0, e1, e2, e3, e4, e5, e6, e7, e8, e9, e10, e11, o, e13, o', o'']) →
      dFor2L 12 14 tb (l.map fun p => D.tup [.int (p.1 : Nat), .int (p.2 : Nat)]) ⟨nx, rt⟩ [e0, e1, e2, e3, e4, e5, e6, e7, e8, e9, e10, e11, o, e13, o', o'']
  | [], o, o', o'', h => by simpa [dFor2L] using h o o' o''
  | p :: l, o, o', o'', h => by
    refine ⟨_, _, rfl, ?_⟩
    show tb _ [e0, e1, e2, e3, e4, e5, e6, e7, e8, e9, e10, e11, some (.int (p.1 : Nat)), e13, some (.int (p.2 : Nat)), o'']
    exact htb _ p.1 p.2 _ fun o3 => sr_loop htb l _ _ _ h
theorem sc_searched : FnScope n_searched ["world", "one", "two"] (defScope s_searched) := ⟨rfl, rfl, rfl, by decide +kernel, rfl, by decide +kernel, by decide +kernel⟩
def S_searched (L : Nat) : List D → (D → Prop) → Prop := fun ds R => ∃ (t k : Nat) (a b : Tm), wok t k ∧ ds = [wD t k, a.enc, b.enc] ∧ a.dep ≤ L ∧ b.dep ≤ L ∧ a.ok ∧ b.ok ∧
  R = fun d => ∃ row x, d = .tup [row, x] ∧ if stp t [a] = stp t [b] then x = .non else ∃ xs, x = .tup xs
theorem ok_searched (B : Blt mg) {f f1 f2 f3 f4 f5 f6 f7 : Addr} {fd fd1 fd2 fd3 fd4 fd5 fd6 fd7 : FuncData} (d_searched : Df K mg "searched" s_searched ["world", "one", "two"] f fd)
    (d_stops_of : Df K mg "stops_of" s_stops_of ["world", "state"] f1 fd1) (d_atoms_of : Df K mg "atoms_of" s_atoms_of ["world"] f2 fd2) (d_stops : Df K mg "stops" s_stops ["term", "atom"] f3 fd3) (d_holds : Df K mg "holds" s_holds ["condition", "atom"] f4 fd4)
    (d_steps_of : Df K mg "steps_of" s_steps_of ["world"] f5 fd5) (d_after_deed : Df K mg "after_deed" s_after_deed ["state", "atom", "deed"] f6 fd6) (d_found_moves : Df K mg "found_moves" s_found_moves ["term", "atom", "deed"] f7 fd7) (L : Nat) (hL : L ≤ 20) :
    FnOk P w K mg base CX0 (L + 24) f fd ["world", "one", "two"] (spN K 3 (S_searched L)) := by
  have G_stops_of := ok_stops_of (P := P) (w := w) (base := base) B d_stops_of d_atoms_of d_stops d_holds L
  have G_steps_of := ok_steps_of (P := P) (w := w) (base := base) B d_steps_of d_atoms_of
  have G_after_deed := ok_after_deed (P := P) (w := w) (base := base) B d_after_deed d_found_moves d_stops d_holds L
  refine fn_pdN d_searched.F sc_searched fun cdv A outer s H E hr ds R _ hS => ⟨_, _, (psd_cons (ps_setAt (i := 3) sc_searched.nd (pd_tup (pa_consD (pd_tup (pa_consD (pdv 1) pa_nilD)) (pa_consD (pd_tup (pa_consD (pdv 2) pa_nilD)) pa_nilD))))
        (psd_cons (ps_setD (i := 4) sc_searched.nd (pd_one1 (u64 hr) (pdv 3) (pd_tup pa_nilD)))
        (psd_cons (ps_setD (i := 5) sc_searched.nd (pd_lst (pa_consD (pdv 3) pa_nilD)))
        (psd_cons (ps_setD (i := 6) sc_searched.nd pd_int)
        (psd_cons (ps_whileD PassesOwn.never (pt_cmpD op_lt d_lt (pdv 6) (pd_callB (k_len (K := K)) d_len (by rfl) B.len PySem.boot_len (pa_consD (pdv 5) pa_nilD)) (nomark _)) (psd_cons (ps_unpD (i := 7) (j := 8) (pd_forget (pd_ix (k_ix (K := K)) d_ix (pdv 5) (pdv 6))) (pg_tup rfl (pgs_cons (pg_name (i := 7) sc_searched.nd rfl (Or.inl rfl)) (pgs_cons (pg_name (i := 8) sc_searched.nd rfl (Or.inl rfl)) pgs_nil))))
        (psd_cons (ps_setD (i := 9) sc_searched.nd (pd_oget (room66 hr) (pdv 4) (pd_ix (k_ix (K := K)) d_ix (pdv 5) (pdv 6)) (fun _ _ => rfl)))
        (psd_cons (ps_unpD (i := 10) (j := 11) (pd_tup (pa_consD (pd_call G_stops_of (hr.mono (by omega)) d_stops_of.m d_stops_of.F.kp d_stops_of.b (pa_consD (pdv 0) (pa_consD (pdv 7) pa_nilD))) (pa_consD (pd_call G_stops_of (hr.mono (by omega)) d_stops_of.m d_stops_of.F.kp d_stops_of.b (pa_consD (pdv 0) (pa_consD (pdv 8) pa_nilD))) pa_nilD))) (pg_tup rfl (pgs_cons (pg_name (i := 10) sc_searched.nd rfl (Or.inr rfl)) (pgs_cons (pg_name (i := 11) sc_searched.nd rfl (Or.inr rfl)) pgs_nil))))
        (psd_cons (ps_setD (i := 13) sc_searched.nd (pd_callB (k_sorted (K := K)) d_sort (by rfl) B.sorted (by decide +kernel) (pa_consD (pd_lcT rfl sc_searched.nd (pd_op (op_addQ (K := K)) d_add (pdv 10) (pdv 11)) (blkOk_by (N := n_searched) (sc := defScope s_searched) (by decide +kernel)) (fun _ _ _ _ _ => pg_name (i := 12) sc_searched.nd rfl (Or.inl rfl)) (fun _ _ _ _ _ => (pts_oneD (pt_cmpD (op_neQ (K := K) hr.units) d_ne (pd_cmp (k_in (K := K)) (d_in false) (pdv 12) (pdv 10) (by rfl)) (pd_cmp (k_in (K := K)) (d_in false) (pdv 12) (pdv 11) (by rfl)) (nomark _)))) (fun _ _ _ _ _ => (pdv 12))) pa_nilD)))
        (psd_cons (ps_ifD (pt_cmpD op_gt d_gt (pd_callB (k_len (K := K)) d_len (by rfl) B.len PySem.boot_len (pa_consD (pdv 13) pa_nilD)) pd_int (nomark _)) (psd_one (ps_retD (pd_tup (pa_consD (pdv 5) (pa_consD (pd_op (op_addQ (K := K)) d_add (pdv 9) (pd_tup (pa_consD (pd_ix (k_ix (K := K)) d_ix (pdv 13) pd_int) pa_nilD))) pa_nilD))))) psd_nil)
        (psd_cons (ps_for2D (i := 12) (j := 14) PassesOwn.never rfl (pd_call G_steps_of (hr.mono (by omega)) d_steps_of.m d_steps_of.F.kp d_steps_of.b (pa_consD (pdv 0) pa_nilD)) (pg_tup rfl (pgs_cons (pg_name (i := 12) sc_searched.nd rfl (Or.inl rfl)) (pgs_cons (pg_name (i := 14) sc_searched.nd rfl (Or.inl rfl)) pgs_nil))) (psd_cons (ps_setD (i := 15) sc_searched.nd (pd_tup (pa_consD (pd_call G_after_deed (hr.mono (by omega)) d_after_deed.m d_after_deed.F.kp d_after_deed.b (pa_consD (pdv 7) (pa_consD (pdv 12) (pa_consD (pdv 14) pa_nilD)))) (pa_consD (pd_call G_after_deed (hr.mono (by omega)) d_after_deed.m d_after_deed.F.kp d_after_deed.b (pa_consD (pdv 8) (pa_consD (pdv 12) (pa_consD (pdv 14) pa_nilD)))) pa_nilD))))
        (psd_one (ps_ifD (PWD.pt (pw_andD (pt_cmpD (op_neQ (K := K) hr.units) d_neE (pd_ix (k_ix (K := K)) d_ix (pdv 15) pd_int) (pd_ix (k_ix (K := K)) d_ix (pdv 15) pd_int) (nomark _)) (pw_and1D pt_neverD))) (psd_cons ps_neverD
        (psd_one ps_neverD)) psd_nil))))
        (psd_one (ps_augD (i := 6) sc_searched.nd (Or.inl rfl) pd_int ip_add)))))))))
        (psd_one (ps_retD (pd_tup (pa_consD (pdv 5) (pa_consD pd_non pa_nilD)))))))))), ?_⟩
  obtain ⟨t, k, a, b, hw, rfl, h1, h2, h3, h4, rfl⟩ := hS
  walk_at "r"
  have hk : keyD (.tup [.tup [a.enc], .tup [b.enc]]) = true := by simp [keyD, keyDs, tm_key]
  have hd : depD (.tup [.tup [a.enc], .tup [b.enc]]) ≤ 60 := by
    have e1 := tm_depD a h3
    have e2 := tm_depD b h4
    simp only [depD, depDs]
    omega
  have hi : imm (.tup [.tup [a.enc], .tup [b.enc]]) = true := by simp [imm, immAll, tm_imm]
  refine ⟨⟨_, rfl⟩, fun A0 => ?_⟩
  walk_at "r"
  refine ⟨_, _, rfl, hk, hd, hi, rfl, ?_⟩
  walk_at "r"
  refine ⟨2, ?_⟩
  walk_at "r"
  refine ⟨_, _, rfl, _, _, rfl, ?_⟩
  walk_at "r"
  refine ⟨_, _, _, rfl, rfl, hk, hd, ?_⟩
  walk_at "r"
  refine ⟨_, ⟨t, k, [a], hw, rfl, by simp, by simp [h1, h3], rfl⟩, ?_⟩
  walk_at "r"
  refine ⟨_, ⟨t, k, [b], hw, rfl, by simp, by simp [h2, h4], rfl⟩, ?_⟩
  walk_at "r"
  refine ⟨_, _, rfl, ?_⟩
  have hp := pow_small hw.2.1
  have l1 := stp_len t [a]
  have l2 := stp_len t [b]
  walk_at "r"
  refine ⟨.tup (aD (stp t [a] ++ stp t [b])), ?_, _, rfl, ?_⟩
  · rw [add_tup (by rw [aD_length, aD_length]; exact small_line (by omega)), aD_append]
  refine dLoop_of (fun d => decide (nat d ∈ stp t [a]) != decide (nat d ∈ stp t [b])) id _ _ _ (fun x hx R hR => ?_) (fun x hx _ R hR => ?_) (fun x hx _ => ?_) ?_ ?_
  · obtain ⟨n, hn, rfl⟩ := mem_aD hx
    walk_at "r"
    refine ⟨_, fIn_aD n _, ?_⟩
    walk_at "r"
    refine ⟨_, fIn_aD n _, _, rfl, _, rfl, ?_⟩
    exact hR
  · exact ⟨_, rfl, hR⟩
  · obtain ⟨n, hn, rfl⟩ := mem_aD hx
    rfl
  · rw [aD_length, List.length_append]
    refine small_line ?_
    show 0 + _ ≤ 1000
    omega
  · rw [List.map_id, filter_aD (fun n => decide (n ∈ stp t [a]) != decide (n ∈ stp t [b])) _ fun n => rfl, List.nil_append]
    refine ⟨.lst ((srt ((unl t a b).map fun (n : Nat) => (n : Int))).map .int), by rw [aD_ints]; unfold fSort; simp only [intsOf_ints]; rfl, ?_⟩
    walk_at "r"
    by_cases hne : unl t a b = []
    · have heq := unl_nil.mp hne
      rw [hne]
      refine iteF' (by simp [srt]) ?_
      walk_at "r"
      refine ⟨_, ⟨t, k, hw, rfl, rfl⟩, _, rfl, ?_⟩
      rw [stepsD_map]
      refine sr_loop (fun DD n j o' q => ?_) (prs t k) none none none fun o o' o'' => ?_
      · walk_at "r"
        refine ⟨_, ⟨[a], n, j, rfl, by simp [h1, h3], rfl⟩, ?_⟩
        walk_at "r"
        refine ⟨_, ⟨[b], n, j, rfl, by simp [h2, h4], rfl⟩, ?_⟩
        walk_at "r"
        exact q _
      · walk_at "r"
        exact ⟨_, _, rfl, by rw [if_pos heq]⟩
    · have hneq : ¬ stp t [a] = stp t [b] := fun e => hne (unl_nil.mpr e)
      obtain ⟨x, r, hx⟩ : ∃ x r, srt ((unl t a b).map fun (n : Nat) => (n : Int)) = x :: r := by
        cases h : srt ((unl t a b).map fun (n : Nat) => (n : Int)) with
        | cons x r => exact ⟨x, r, rfl⟩
        | nil =>
          have := congrArg List.length h
          unfold srt at this
          rw [List.length_mergeSort] at this
          simp at this
          exact absurd this hne
      rw [hx]
      refine iteT' (by simp) ?_
      refine ⟨_, rfl, _, rfl, _, rfl, D.int x, (by show L2.atI _ ((0 : Nat) : Int) = _; exact L2.atI_nat rfl), small_line (Nat.le_of_ble_eq_true rfl), _, add_tup (xs := []) (small_line (Nat.le_of_ble_eq_true rfl)), ?_⟩
      refine ⟨small_line (Nat.le_of_ble_eq_true rfl), ?_⟩
      exact ⟨_, _, rfl, by rw [if_neg hneq]; exact ⟨_, rfl⟩⟩
end
end KQ

set_option Elab.async false
set_option linter.all false
set_option maxRecDepth 100000
set_option maxHeartbeats 1000000
namespace KQ
open PySem L2
local macro_rules | `(tactic| walk_at "r") => `(tactic| repeat (first | (refine ⟨_, rfl, ?_⟩) | (refine ⟨rfl, ?_⟩) | (refine ⟨small_line (Nat.le_of_ble_eq_true rfl), ?_⟩) | (refine iteF' (by decide +kernel) ?_) | (refine iteT' (by decide +kernel) ?_) | (refine iteF' rfl ?_) | (refine iteT' rfl ?_)))
section
variable {P : Program} {w : World} {K : PySem.W.Frag} {mg : Str → Option Value} {base : Heap}
/-- all that are_alike stands on -/
structure AlikeFns (P : Program) (w : World) (K : PySem.W.Frag) (mg : Str → Option Value) (base : Heap) : Prop where
  fs : ∃ (f f1 f2 f3 f4 f5 f6 f7 : Addr) (fd fd1 fd2 fd3 fd4 fd5 fd6 fd7 : FuncData), Df K mg "searched" s_searched ["world", "one", "two"] f fd ∧
    Df K mg "stops_of" s_stops_of ["world", "state"] f1 fd1 ∧ Df K mg "atoms_of" s_atoms_of ["world"] f2 fd2 ∧ Df K mg "stops" s_stops ["term", "atom"] f3 fd3 ∧ Df K mg "holds" s_holds ["condition", "atom"] f4 fd4 ∧
    Df K mg "steps_of" s_steps_of ["world"] f5 fd5 ∧ Df K mg "after_deed" s_after_deed ["state", "atom", "deed"] f6 fd6 ∧ Df K mg "found_moves" s_found_moves ["term", "atom", "deed"] f7 fd7
def S_alike (L : Nat) : List D → D → Prop := fun ds d => ∃ (t k : Nat) (a b : Tm), wok t k ∧ ds = [wD t k, a.enc, b.enc] ∧ a.dep ≤ L ∧ b.dep ≤ L ∧ a.ok ∧ b.ok ∧ d = .bl (decide (stp t [a] = stp t [b]))
theorem ok_alike (B : Blt mg) (FS : AlikeFns P w K mg base) {f0 : Addr} {fd0 : FuncData} (d_are_alike : Df K mg "are_alike" s_are_alike ["world", "one", "two"] f0 fd0) (L : Nat) (hL : L ≤ 20) : FnOk P w K mg base CX0 (L + 25) f0 fd0 ["world", "one", "two"] (spP K 3 (S_alike L)) := by
  obtain ⟨f, f1, f2, f3, f4, f5, f6, f7, fd, fd1, fd2, fd3, fd4, fd5, fd6, fd7, d_searched, g1, g2, g3, g4, g5, g6, g7⟩ := FS.fs
  have G_searched := ok_searched (P := P) (w := w) (base := base) B d_searched g1 g2 g3 g4 g5 g6 g7 L hL
  refine fn_pd d_are_alike.F sc_are_alike fun cdv A outer s H E hr ds d _ hS => ⟨_, _, (psd_one (ps_retD (pd_cmp op_isN d_is (pd_ix (k_ix (K := K)) d_ix (pd_callN G_searched (hr.mono (by omega)) d_searched.m d_searched.F.kp d_searched.b (pa_consD (pdv 0) (pa_consD (pdv 1) (pa_consD (pdv 2) pa_nilD)))) pd_int) pd_non (nomark _)))), ?_⟩
  obtain ⟨t, k, a, b, hw, rfl, h1, h2, h3, h4, rfl⟩ := hS
  walk_at "r"
  refine ⟨_, ⟨t, k, a, b, hw, rfl, h1, h2, h3, h4, rfl⟩, fun d ⟨row, x, e, hx⟩ => ?_⟩
  subst e
  refine ⟨_, rfl, ?_⟩
  by_cases hh : stp t [a] = stp t [b]
  · rw [if_pos hh] at hx
    subst hx
    exact ⟨_, rfl, congrArg D.bl (decide_eq_true hh).symm⟩
  · rw [if_neg hh] at hx
    obtain ⟨xs, rfl⟩ := hx
    exact ⟨_, rfl, congrArg D.bl (decide_eq_false hh).symm⟩
def S_nothing (L : Nat) : List D → D → Prop := fun ds d => ∃ (t k : Nat) (a : Tm), wok t k ∧ ds = [wD t k, a.enc] ∧ a.dep ≤ L ∧ a.ok ∧ d = .bl (decide (stp t [a] = stp t [.ask .no]))
theorem ok_nothing (B : Blt mg) (FS : AlikeFns P w K mg base) {f0 f8 : Addr} {fd0 fd8 : FuncData} (d_is_nothing : Df K mg "is_nothing" s_is_nothing ["world", "term"] f8 fd8) (d_are_alike : Df K mg "are_alike" s_are_alike ["world", "one", "two"] f0 fd0) (L : Nat) (hL : L ≤ 20) (h0 : 1 ≤ L) : FnOk P w K mg base CX0 (L + 26) f8 fd8 ["world", "term"] (spP K 2 (S_nothing L)) := by
  have G_are_alike := ok_alike (P := P) (w := w) (base := base) B FS d_are_alike L hL
  refine fn_pd d_is_nothing.F sc_is_nothing fun cdv A outer s H E hr ds d _ hS => ⟨_, _, (psd_one (ps_retD (pd_call G_are_alike (hr.mono (by omega)) d_are_alike.m d_are_alike.F.kp d_are_alike.b (pa_consD (pdv 0) (pa_consD (pdv 1) (pa_consD (pd_tup (pa_consD pd_str (pa_consD (pd_tup (pa_consD pd_str pa_nilD)) pa_nilD))) pa_nilD)))))), ?_⟩
  obtain ⟨t, k, a, hw, rfl, h1, h2, rfl⟩ := hS
  walk_at "r"
  exact ⟨_, ⟨t, k, a, .ask .no, hw, rfl, h1, h0, h2, ⟨trivial, by decide⟩, rfl⟩, rfl⟩
def S_keeps (L : Nat) : List D → D → Prop := fun ds d => ∃ (t k : Nat) (b c : Cnd) (e : Tm), wok t k ∧ ds = [wD t k, b.enc, e.enc, c.enc] ∧ e.dep + 2 ≤ L ∧ 3 ≤ L ∧ e.ok ∧ b.wf 3 ∧ b.dep ≤ 20 ∧ c.wf 3 ∧ c.dep < 20 ∧ d = .bl (decide (stp t [.row (.ask b) (.row e (.ask (.not c)))] = stp t [.ask .no]))
theorem ok_keeps (B : Blt mg) (FS : AlikeFns P w K mg base) {f0 f8 f9 f10 : Addr} {fd0 fd8 fd9 fd10 : FuncData} (d_keeps : Df K mg "keeps" s_keeps ["world", "before", "term", "after"] f9 fd9) (d_broken_term : Df K mg "broken_term" s_broken_term ["before", "term", "after"] f10 fd10)
    (d_is_nothing : Df K mg "is_nothing" s_is_nothing ["world", "term"] f8 fd8) (d_are_alike : Df K mg "are_alike" s_are_alike ["world", "one", "two"] f0 fd0) (L : Nat) (hL : L ≤ 20) (h0 : 1 ≤ L) : FnOk P w K mg base CX0 (L + 27) f9 fd9 ["world", "before", "term", "after"] (spP K 4 (S_keeps L)) := by
  have G_is_nothing := ok_nothing (P := P) (w := w) (base := base) B FS d_is_nothing d_are_alike L hL h0
  have G_broken_term := ok_broken (P := P) (w := w) (base := base) B d_broken_term
  refine fn_pd d_keeps.F sc_keeps fun cdv A outer s H E hr ds d _ hS => ⟨_, _, (psd_one (ps_retD (pd_call G_is_nothing (hr.mono (by omega)) d_is_nothing.m d_is_nothing.F.kp d_is_nothing.b (pa_consD (pdv 0) (pa_consD (pd_call G_broken_term (hr.mono (by omega)) d_broken_term.m d_broken_term.F.kp d_broken_term.b (pa_consD (pdv 1) (pa_consD (pdv 2) (pa_consD (pdv 3) pa_nilD)))) pa_nilD))))), ?_⟩
  obtain ⟨t, k, b, c, e, hw, rfl, h1, h2, h3, h4, h5, h6, h7, rfl⟩ := hS
  walk_at "r"
  refine ⟨_, ⟨_, _, _, rfl, rfl⟩, ?_⟩
  walk_at "r"
  refine ⟨_, ⟨t, k, .row (.ask b) (.row e (.ask (.not c))), hw, rfl, ?_, ⟨⟨h4, h5⟩, h3, h6, ?_⟩, rfl⟩, rfl⟩
  · simp only [Tm.dep]; omega
  · simp only [Cnd.dep]; omega
end
end KQ

set_option Elab.async false
set_option linter.all false
set_option maxRecDepth 100000
set_option maxHeartbeats 400000
namespace KQ
open PySem L2 PySem.Spec
/-! ### from data to values -/
def rawD (K : PySem.W.Frag) (d : DS) : TS := fun D σ H => ∃ env DD, RE K H env σ ∧ d DD env ∧ (∀ env' σ' H', Same H H' → RE K H' env' σ' → DD.nx env' → D.nx σ' H') ∧ (∀ x v H', Same H H' → Rp K H' x v → DD.rt x → D.rt v H')
def rawE (K : PySem.W.Frag) (de : DE) : TE := fun σ H Q => ∃ env R, RE K H env σ ∧ de env R ∧ ∀ d v H', Same H H' → Rp K H' d v → R d → Q v H'
def rawA (K : PySem.W.Frag) (da : DA) : TA := fun σ H Q => ∃ env R, RE K H env σ ∧ da env R ∧ ∀ ds vs H', Same H H' → Rps K H' ds vs → R ds → Q vs H'
def rawT (K : PySem.W.Frag) (dt : DT) : TT := fun σ H Q => ∃ env R, RE K H env σ ∧ dt env R ∧ ∀ b H', Same H H' → R b → Q b H'
section
variable {X : Cx} {K : PySem.W.Frag} {st : Stmt} {body rest : List Stmt} {e c : Expr} {es : List Expr} {ts : TS} {d : DS} {te : TE} {de : DE} {ta : TA} {da : DA} {tt : TT} {dt : DT}
theorem psx (h : PSD K X st ts d) : PS X st (rawD K d) := ⟨fun pins s σ H D I ⟨env, DD, re, q, kn, kr⟩ => h.pe.run pins s σ H D I (h.rd env DD σ H D q re kn kr)⟩
theorem psxs (h : PSsD K X body ts d) : PSs X body (rawD K d) := ⟨fun pins s σ H D I ⟨env, DD, re, q, kn, kr⟩ => h.pe.run pins s σ H D I (h.rd env DD σ H D q re kn kr)⟩
theorem pex (h : PD K X e te de) : PE X e (rawE K de) := ⟨fun pins s σ H Q I ⟨env, R, re, q, k⟩ => h.pe.run pins s σ H Q I (h.rd env R σ H Q q re fun v H' d s r q => k d v H' s r q)⟩
theorem pax (h : PAD K X es ta da) : PA X es (rawA K da) := ⟨fun cpos pins s σ H Q I ⟨env, R, re, q, k⟩ => h.pe.run cpos pins s σ H Q I (h.rd env R σ H Q q re fun v H' d s r q => k d v H' s r q)⟩
theorem ptx (h : PTD K X c tt dt) : PT X c (rawT K dt) := ⟨fun pins s σ H Q I ⟨env, R, re, q, k⟩ => h.pe.run pins s σ H Q I (h.rd env R σ H Q q re fun b H' s q => k b H' s q)⟩
theorem RE.setS {K : PySem.W.Frag} {H : Hp} {env : Env'} {σ : St} (h : RE K H env σ) {i : Nat} {d : D} {v : V} (hv : σ[i]? = some (some v)) (r : Rp K H d v) : RE K H (env.set i (some d)) σ := by
  have h2 := h.set r i
  have e : σ.set i (some v) = σ := by
    refine List.ext_getElem? fun j => ?_
    by_cases hj : i = j
    · subst hj
      have ho : i < σ.length := (List.getElem?_eq_some_iff.mp hv).1
      rw [List.getElem?_set_self ho, hv]
    · rw [List.getElem?_set_ne hj]
  rwa [e] at h2
/-- what stays when a list or dict is changed -/
theorem RE.mut {H : Hp} {env : Env'} {σ : St} (h : RE K H env σ) {a : Addr} {o : HO} (n : NoTup (H a)) : RE K (L2.upd H a o) (imm1 env) σ :=
  (h.less (imm1_len env) fun i d q => imm1_less q).t (imm1_imm env) (.upd n)
end
end KQ

set_option Elab.async false
set_option linter.all false
set_option maxRecDepth 100000
set_option maxHeartbeats 1000000
namespace KQ
open PySem L2
local macro_rules | `(tactic| walk_at "r") => `(tactic| repeat (first | (refine ⟨_, rfl, ?_⟩) | (refine ⟨rfl, ?_⟩) | (refine ⟨small_line (Nat.le_of_ble_eq_true rfl), ?_⟩) | (refine iteF' (by decide +kernel) ?_) | (refine iteT' (by decide +kernel) ?_) | (refine iteF' rfl ?_) | (refine iteT' rfl ?_)))
section
variable {X : Cx} {K : PySem.W.Frag} {e : Expr} {te : TE} {dl : DA}
def rawF (K : PySem.W.Frag) (dl : DA) : TE := fun σ H Q => ∃ env R, RE K H env σ ∧ dl env R ∧ ∀ p vs H' ds, Same H H' → H p = none → H' p = some (.lst vs) → Rps K H' ds vs → R ds → Q (.ref p) H'
theorem pfx (h : PF K X e te dl) : PE X e (rawF K dl) := ⟨fun pins s σ H Q I ⟨env, R, re, q, k⟩ => h.pe.run pins s σ H Q I (h.rd env R σ H Q q re fun p vs H' ds s hn hp rv q => k p vs H' ds s hn hp rv q)⟩
end
section
variable {P : Program} {w : World} {K : PySem.W.Frag} {mg : Str → Option Value} {base : Heap}
theorem sc_last_atoms : FnScope n_last_atoms ["world", "term", "atom"] (defScope s_last_atoms) := ⟨rfl, rfl, rfl, by decide +kernel, rfl, by decide +kernel, by decide +kernel⟩
def S_last (L : Nat) : List D → D → Prop := fun ds d => ∃ (t k : Nat) (e : Tm) (a : Nat), wok t k ∧ ds = [wD t k, e.enc, .int (a : Nat)] ∧ a < 2 ^ t ∧ e.dep ≤ L ∧ e.ok ∧ d = .lst (aD (if e.st a then [a] else []))
theorem la_in {e0 e1 e2 e3 e4 e5 e6 e7 e8 e9 : Option D} {nx : Env' → Prop} {rt : D → Prop} {tb : DS} (htb : ∀ (DD : EndsD) (n : Nat), DD.nx [e0, e1, e2, e3, e4, e5, e6, e7, e8, e9, some (.int (n : Nat))] → tb DD [e0, e1, e2, e3, e4, e5, e6, e7, e8, e9, some (.int (n : Nat))]) :
    ∀ (l : List Nat) (o : Option D), (∀ o, nx [e0, e1, e2, e3, e4, e5, e6, e7, e8, e9, o]) → dForL 10 tb (aD l) ⟨nx, rt⟩ [e0, e1, e2, e3, e4, e5, e6, e7, e8, e9, o]
  | [], o, h => by simpa [dForL, aD] using h o
  | n :: l, o, h => by
    show tb _ [e0, e1, e2, e3, e4, e5, e6, e7, e8, e9, some (.int (n : Nat))]
    exact htb _ n (la_in htb l _ h)
theorem la_out {e0 e1 e2 e3 e4 e5 e6 e7 : Option D} {nx : Env' → Prop} {rt : D → Prop} {tb : DS} (htb : ∀ (DD : EndsD) (n : Nat) (o o' : Option D), (∀ o o', DD.nx [e0, e1, e2, e3, e4, e5, e6, e7, some (.int (n : Nat)), o, o']) → tb DD [e0, e1, e2, e3, e4, e5, e6, e7, some (.int (n : Nat)), o, o']) :
    ∀ (l : List Nat) (o o' o'' : Option D), (∀ o o' o'', nx [e0, e1, e2, e3, e4, e5, e6, e7, o, o', o'']) → dForL 8 tb (aD l) ⟨nx, rt⟩ [e0, e1, e2, e3, e4, e5, e6, e7, o, o', o'']
  | [], o, o', o'', h => by simpa [dForL, aD] using h o o' o''
  | n :: l, o, o', o'', h => by
    show tb _ [e0, e1, e2, e3, e4, e5, e6, e7, some (.int (n : Nat)), o', o'']
    exact htb _ n _ _ fun o o' => la_out htb l _ _ _ h
def FinSt (H : Hp) (pf p : Addr) (kvs : List (Key × V)) (σ' : St) (H' : Hp) : Prop := σ'[3]? = some (some (.ref pf)) ∧ σ'[4]? = some (some (.ref p)) ∧ H' pf = some (.dK kvs) ∧ H' p = some (.lst []) ∧ Same H H'
theorem ok_last_atoms (B : Blt mg) {f f1 f2 f3 f4 f6 f7 : Addr} {fd fd1 fd2 fd3 fd4 fd6 fd7 : FuncData} (d_last_atoms : Df K mg "last_atoms" s_last_atoms ["world", "term", "atom"] f fd)
    (d_stops_of : Df K mg "stops_of" s_stops_of ["world", "state"] f1 fd1) (d_atoms_of : Df K mg "atoms_of" s_atoms_of ["world"] f2 fd2) (d_stops : Df K mg "stops" s_stops ["term", "atom"] f3 fd3) (d_holds : Df K mg "holds" s_holds ["condition", "atom"] f4 fd4)
    (d_after_deed : Df K mg "after_deed" s_after_deed ["state", "atom", "deed"] f6 fd6) (d_found_moves : Df K mg "found_moves" s_found_moves ["term", "atom", "deed"] f7 fd7) (L : Nat) (hL : L ≤ 20) :
    FnOk P w K mg base CX0 (L + 24) f fd ["world", "term", "atom"] (spP K 3 (S_last L)) := by
  have G_stops_of := ok_stops_of (P := P) (w := w) (base := base) B d_stops_of d_atoms_of d_stops d_holds L
  have G_atoms_of := ok_atoms_of (P := P) (w := w) (base := base) B d_atoms_of
  have G_after_deed := ok_after_deed (P := P) (w := w) (base := base) B d_after_deed d_found_moves d_stops d_holds L
  refine d_last_atoms.F.ok sc_last_atoms (fun vs H Q E h => spP_len h) fun cdv A outer s H vs Q E hr h => ?_
  obtain ⟨ds, d, r, hl, hS, q⟩ := h
  refine ⟨_, pss_cons (ps_set (i := 3) sc_last_atoms.nd rfl (Or.inl rfl) pe_dnewK rfl (Or.inl rfl)) (pss_cons (ps_set (i := 4) sc_last_atoms.nd rfl (Or.inl rfl) (pfx (K := K) (pf_lst (pa_consD (pd_tup (pa_consD (pd_tup (pa_consD (pdv 1) pa_nilD)) (pa_consD (pdv 2) pa_nilD))) pa_nilD))) rfl (Or.inl rfl))
    (pss_cons (psx (K := K) (ps_setD (i := 5) sc_last_atoms.nd (pd_one1 (u64 hr) (pd_ix (k_ix (K := K)) d_ix (pd_forget (pdv 4)) pd_int) pd_bl))) (pss_cons (ps_while PassesOwn.never (ptx (K := K) (pt_cmpD op_gt d_gt (pd_callB (k_len (K := K)) d_len (by rfl) B.len PySem.boot_len (pa_consD (pd_forget (pdv 4)) pa_nilD)) pd_int (nomark _)))
      (pss_cons (ps_asg (pe_bm0 PySem.F.plainAttrs_list PySem.F.slot_list_pop PySem.F.type_list_pop mt_pop (pv 4)) (pg_tup rfl (pgs_cons (pg_name (i := 6) sc_last_atoms.nd rfl (Or.inl rfl)) (pgs_cons (pg_name (i := 7) sc_last_atoms.nd rfl (Or.inl rfl)) pgs_nil))))
        (pss_cons (ps_if (ptx (K := K) (pt_cmpD (k_in (K := K)) (d_in false) (pdv 7) (pd_call G_stops_of (hr.mono (by omega)) d_stops_of.m d_stops_of.F.kp d_stops_of.b (pa_consD (pdv 0) (pa_consD (pdv 6) pa_nilD))) (by rfl))) (pss_one (ps_dput (hu_of hr) (pv 3) (pv 7) pe_bl rfl)) pss_nil) (pss_one (psx (K := K) (ps_forRD PassesOwn.never rfl (by rfl) B.range (pa_consD (pd_ix (k_ix (K := K)) d_ix (pdv 0) pd_int) pa_nilD) (pg_name (i := 8) sc_last_atoms.nd rfl (Or.inl rfl)) (psd_cons (ps_setD (i := 9) sc_last_atoms.nd (pd_call G_after_deed (hr.mono (by omega)) d_after_deed.m d_after_deed.F.kp d_after_deed.b (pa_consD (pdv 6) (pa_consD (pdv 7) (pa_consD (pdv 8) pa_nilD)))))
        (psd_one (ps_forD PassesOwn.never rfl (pd_call G_atoms_of (hr.mono (by omega)) d_atoms_of.m d_atoms_of.F.kp d_atoms_of.b (pa_consD (pdv 0) pa_nilD)) (pg_name (i := 10) sc_last_atoms.nd rfl (Or.inl rfl)) (psd_one (ps_ifD (PWD.pt (pw_andD (pt_cmpD op_gt d_gt (pd_callB (k_len (K := K)) d_len (by rfl) B.len PySem.boot_len (pa_consD (pdv 9) pa_nilD)) pd_int (nomark _)) (pw_and1D pt_neverD))) (psd_cons ps_neverD
        (psd_one ps_neverD)) psd_nil)))))))))))
      (pss_one (ps_ret (pe_callB cr_sortedI (by rfl) B.sorted (by decide +kernel) (pa_cons (pe_callTy (call_list_dK rfl) (by rfl) B.list (by decide +kernel) (pa_cons (pv 3) pa_nil)) pa_nil))))))), ?_⟩
  obtain ⟨t, k, e, a, hw, rfl, ha, h1, h2, rfl⟩ := hS
  have hw' := id hw
  obtain ⟨t1, t3, k1, k3⟩ := hw'
  -- found = {}
  intro pf hnf
  have s1 : Same H (upd H pf (.dK [])) := same_new hnf
  have r1 := ((RE.start (N := n_last_atoms) r).s s1).set (Rp.adr (a := pf)) 3
  have hpf : upd H pf (.dK []) pf = some (.dK []) := upd_same
  generalize upd H pf (.dK []) = H1 at s1 r1 hpf
  -- waiting = [((term,), atom)]
  refine ⟨_, fun ds => ds = [.tup [.tup [e.enc], .int (a : Nat)]], r1, ?_, fun p vs H2 ds s2 hn hp rv e2 => ?_⟩
  · walk_at "r"; rfl
  subst e2
  obtain ⟨v0, rfl, h0⟩ := rv.one
  obtain ⟨p0, us, rfl, hp0, ru⟩ := h0.tupE
  have r2 := (r1.s s2).set (.at (.lst (.inl (.inl hp)) (.cons (.at h0) .nil))) 4
  have hk : keyD (.tup [.tup [e.enc], .int (a : Nat)]) = true := by simp [keyD, keyDs, tm_key]
  have hd : depD (.tup [.tup [e.enc], .int (a : Nat)]) ≤ 60 := by
    have e1 := tm_depD e h2
    simp only [depD, depDs]
    omega
  have hi : imm (.tup [.tup [e.enc], .int (a : Nat)]) = true := by simp [imm, immAll, tm_imm]
  -- seen = {waiting[0]: True}
  refine ⟨_, ⟨fun env' => env' = [some (wD t k), some e.enc, some (.int (a : Nat)), some (.adr pf), some (.at p (.lst [.at p0 (.tup [.tup [e.enc], .int (a : Nat)])])), some (.one p0 (hD w (.tup [.tup [e.enc], .int (a : Nat)])) (.bl true)), none, none, none, none, none], fun _ => False⟩, r2, ?_, fun env3 σ3 H3 s3 r3 e3 => ?_, fun _ _ _ _ _ h => h.elim⟩
  · refine ⟨_, rfl, _, _, rfl, ?_⟩
    walk_at "r"
    refine ⟨_, _, rfl, hk, hd, hi, rfl, ?_⟩
    rfl
  subst e3
  have hp3 : H3 p = some (.lst [.ref p0]) := s3 _ _ hp
  have hpf3 : H3 pf = some (.dK []) := s3 _ _ (s2 _ _ hpf)
  have npf : pf ≠ p := ne_of hpf3 hp3 (by intro z; cases z)
  have hnp : H p = none := s1.free hn
  have e43 : σ3[4]? = some (some (.ref p)) := by
    obtain ⟨v, e1, e2⟩ := r3.2 4 _ rfl
    obtain ⟨rfl, _⟩ := e2.atE
    exact e1
  have h03 : Rp K H3 (.tup [.tup [e.enc], .int (a : Nat)]) (.ref p0) := h0.s s3
  have s03 : Same H H3 := (s1.trans s2).trans s3
  -- while len(waiting) > 0
  refine ⟨fun m σ' H' => (m = 1 ∧ σ' = σ3 ∧ H' = H3) ∨ (m = 0 ∧ FinSt H pf p (if e.st a then [(.inl (a : Int), .bl true)] else []) σ' H'), ⟨1, .inl ⟨rfl, rfl, rfl⟩⟩, ?_⟩
  rintro m σ' H' (⟨rfl, rfl, rfl⟩ | ⟨rfl, f1, f2, f3, f4, f5⟩)
  · refine ⟨_, fun b => b = true, r3, ?_, fun b H4 s4 eb => ?_⟩
    · refine ⟨_, rfl, _, _, rfl, ?_⟩
      walk_at "r"
      rfl
    subst eb
    refine iteT ⟨FinSt H pf p (if e.st a then [(.inl (a : Int), .bl true)] else []), fun σ' H' h => ⟨0, by decide, .inr ⟨rfl, h⟩⟩, ?_⟩
    -- state, first = waiting.pop()
    have hp4 : H4 p = some (.lst [.ref p0]) := s4 _ _ hp3
    have hpf4 : H4 pf = some (.dK []) := s4 _ _ hpf3
    have r4 := (r3.s s4).setS e43 (Rp.adr (a := p))
    refine ⟨_, e43, .inl ⟨rfl, _, .inl (.inl hp4)⟩, p, _, _, rfl, rfl, hp4, rfl, ?_⟩
    have nt : NoTup (H4 p) := by rw [hp4]; trivial
    have r5 := r4.mut (a := p) (o := .lst (List.dropLast [V.ref p0])) nt
    have hT := Rp.tups (K := K) (TupS.upd (o := .lst (List.dropLast [V.ref p0])) nt) _ _ hi (h03.s s4)
    have hp5 : upd H4 p (.lst (List.dropLast [V.ref p0])) p = some (.lst []) := upd_same
    have hpf5 : upd H4 p (.lst (List.dropLast [V.ref p0])) pf = some (.dK []) := by rw [upd_ne npf]; exact hpf4
    have s05 : Same H (upd H4 p (.lst (List.dropLast [V.ref p0]))) := fun b u eb => by
      rw [upd_ne (ne_of_none eb hnp)]
      exact s4 _ _ (s03 _ _ eb)
    generalize upd H4 p (.lst (List.dropLast [V.ref p0])) = H5 at r5 hT hp5 hpf5 s05
    obtain ⟨b, us', eb, hb, ru'⟩ := hT.tupE
    cases eb
    unfold Rps at ru'
    obtain ⟨u1, ur, rfl, g1, g2⟩ := ru'
    obtain ⟨u2, rfl, g3⟩ := g2.one
    refine ⟨p0, _, rfl, hb, rfl, u1, [u2], rfl, u2, [], rfl, rfl, ?_⟩
    have r6 := (r5.set g1 6).set g3 7
    -- if first in stops_of(world, state)
    refine ⟨_, fun b => b = e.st a, r6, ?_, fun b H6 s6 eb => ?_⟩
    · walk_at "r"
      refine ⟨_, ⟨t, k, [e], hw, rfl, by simp, by simp [h1, h2], rfl⟩, _, fIn_aD a _, _, rfl, ?_⟩
      have : a ∈ stp t [e] ↔ e.st a = true := by
        unfold stp
        rw [List.mem_filter, List.mem_range]
        simp [ha]
      cases he : e.st a with
      | true => exact decide_eq_true (this.mpr he)
      | false => exact decide_eq_false fun h => by rw [this.mp h] at he; cases he
    subst eb
    have r6' := r6.s s6
    have hp6 := s6 _ _ hp5
    have hpf6 := s6 _ _ hpf5
    have s06 := s05.trans s6
    have e73 : ((σ'.set 6 (some u1)).set 7 (some u2))[3]? = some (some (.ref pf)) := by
      obtain ⟨v, y, x⟩ := r6.2 3 (.adr pf) rfl
      obtain rfl := x.adrE
      exact y
    have e77 : ((σ'.set 6 (some u1)).set 7 (some u2))[7]? = some (some (.int (a : Nat))) := by
      obtain ⟨v, y, x⟩ := r6.2 7 (.int (a : Nat)) rfl
      obtain rfl := x.intE
      exact y
    cases he : e.st a with
    | true =>
      refine iteT ?_
      -- found[first] = True
      refine ⟨_, e73, _, e77, pf, _, rfl, DPut.k (k := .inl (a : Int)) hpf6 (by rw [sizeLine_eq]; decide), ?_⟩
      have nt7 : NoTup (H6 pf) := by rw [hpf6]; trivial
      obtain ⟨v6, y6, x6⟩ := r6'.2 6 (.tup [e.enc]) rfl
      have r7 := (r6'.mut (a := pf) (o := .dK (putK [] (.inl (a : Int)) (.bl true))) nt7).setS y6 (Rp.tups (.upd nt7) _ _ (by simp [imm, immAll, tm_imm]) x6)
      have s07 : Same H (upd H6 pf (.dK (putK [] (.inl (a : Int)) (.bl true)))) := fun b u eb => by
        rw [upd_ne (ne_of_none eb hnf)]
        exact s06 _ _ eb
      have hp7 : upd H6 pf (.dK (putK [] (.inl (a : Int)) (.bl true))) p = some (.lst []) := by rw [upd_ne (Ne.symm npf)]; exact hp6
      have hpf7 : upd H6 pf (.dK (putK [] (.inl (a : Int)) (.bl true))) pf = some (.dK [(.inl (a : Int), .bl true)]) := upd_same
      refine ⟨_, ⟨fun env' => env'[3]? = some (some (.adr pf)) ∧ env'[4]? = some (some (.adr p)), fun _ => False⟩, r7, ?_, fun env8 σ8 H8 s8 r8 ⟨w3, w4⟩ => ?_, fun _ _ _ _ _ h => h.elim⟩
      · walk_at "r"
        refine ⟨by omega, by omega, ?_⟩
        rw [show ((k : Int)).toNat = k from rfl, rangeD_eq]
        refine la_out (fun DD n o o' q => ?_) _ _ _ _ fun o o' o'' => ⟨rfl, rfl⟩
        walk_at "r"
        refine ⟨_, ⟨[e], a, n, rfl, by simp [h1, h2], rfl⟩, ?_⟩
        walk_at "r"
        refine ⟨_, ⟨t, k, hw, rfl, rfl⟩, _, rfl, ?_⟩
        refine la_in (fun DD n q => ?_) _ _ fun o => q _ _
        walk_at "r"
        exact q
      · obtain ⟨v3, y3, x3⟩ := r8.2 3 _ w3
        obtain ⟨v4, y4, x4⟩ := r8.2 4 _ w4
        obtain rfl := x3.adrE
        obtain rfl := x4.adrE
        refine ⟨y3, y4, ?_, s8 _ _ hp7, s07.trans s8⟩
        exact s8 _ _ hpf7
    | false =>
      refine iteF ?_
      refine ⟨_, ⟨fun env' => env'[3]? = some (some (.adr pf)) ∧ env'[4]? = some (some (.adr p)), fun _ => False⟩, r6', ?_, fun env8 σ8 H8 s8 r8 ⟨w3, w4⟩ => ?_, fun _ _ _ _ _ h => h.elim⟩
      · walk_at "r"
        refine ⟨by omega, by omega, ?_⟩
        rw [show ((k : Int)).toNat = k from rfl, rangeD_eq]
        refine la_out (fun DD n o o' q => ?_) _ _ _ _ fun o o' o'' => ⟨rfl, rfl⟩
        walk_at "r"
        refine ⟨_, ⟨[e], a, n, rfl, by simp [h1, h2], rfl⟩, ?_⟩
        walk_at "r"
        refine ⟨_, ⟨t, k, hw, rfl, rfl⟩, _, rfl, ?_⟩
        refine la_in (fun DD n q => ?_) _ _ fun o => q _ _
        walk_at "r"
        exact q
      · obtain ⟨v3, y3, x3⟩ := r8.2 3 _ w3
        obtain ⟨v4, y4, x4⟩ := r8.2 4 _ w4
        obtain rfl := x3.adrE
        obtain rfl := x4.adrE
        refine ⟨y3, y4, ?_, s8 _ _ hp6, s06.trans s8⟩
        exact s8 _ _ hpf6
  · -- the end
    have hlen : 4 < σ'.length := (List.getElem?_eq_some_iff.mp f2).1
    have rn : RE K H' (List.replicate σ'.length none) σ' := ⟨by simp, fun i d q => by
      rw [List.getElem?_replicate] at q
      split at q <;> cases q⟩
    have r9 := rn.setS f2 (.at (.lst (.inl (.inl f4)) .nil))
    refine ⟨_, fun b => b = false, r9, ?_, fun b H9 s9 eb => ?_⟩
    · refine ⟨.at p (.lst []), by rw [List.getElem?_set_self (by simpa using hlen)], _, _, rfl, ?_⟩
      walk_at "r"
      rfl
    subst eb
    refine iteF ?_
    refine ⟨_, f1, pf, _, rfl, s9 _ _ f3, fun q1 hq1 => ⟨q1, (if e.st a then [(a : Int)] else []), rfl, ?_, fun ns' p' pm sr hp' => ?_⟩⟩
    · refine .inl (.inl ?_)
      rw [upd_same]
      cases he : e.st a <;> rfl
    · refine q _ _ (((f5.trans s9).trans (same_new hq1)).trans (same_new hp')) ?_
      have : ns' = (if e.st a then [(a : Int)] else []) := by
        cases he : e.st a with
        | true =>
          rw [he] at pm
          simpa using pm
        | false =>
          rw [he] at pm
          simpa using pm
      subst this
      have e0 : aD (if e.st a = true then [a] else []) = (if e.st a then [(a : Int)] else []).map D.int := by cases e.st a <;> rfl
      rw [e0]
      exact .lstN hp' (Rps.ints _)
end
end KQ

set_option Elab.async false
set_option linter.all false
set_option maxRecDepth 100000
set_option maxHeartbeats 1000000
namespace KQ
open PySem L2
local macro_rules | `(tactic| walk_at "r") => `(tactic| repeat (first | (refine ⟨_, rfl, ?_⟩) | (refine ⟨rfl, ?_⟩) | (refine ⟨small_line (Nat.le_of_ble_eq_true rfl), ?_⟩) | (refine iteF' (by decide +kernel) ?_) | (refine iteT' (by decide +kernel) ?_) | (refine iteF' rfl ?_) | (refine iteT' rfl ?_)))
section
variable {X : Cx} {K : PySem.W.Frag} {elt iter : Expr} {ifs : List Expr} {scope : Scope} {x y : Str} {i j : Nat} {pos tpos py spos : Pos} {tt : TT} {te tl : TE} {dt : DT} {de dl : DE}
theorem ps_setLcLD (hc : X.calm = true) (hN : X.N.Nodup) (hy : X.N[j]? = some y) (hyl : X.env.scope.names.lookup y = some .local) (hsw : swapsWith (.ListComp elt [⟨.Name x tpos, iter, ifs, 0⟩] scope pos) (some (.Name y py)) spos.line X.env = pure true) (hi : PD K X iter tl dl) (ok : BlkOk X.N X.env.scope scope [(x, i)])
    (hg : ∀ (s : Shared) (H : Hp) (C : Addr) (cl : List (Str × Addr)) (fp : List Addr), PG (X.blk s H scope (compEnvC scope cl C X.env) fp) (.Name x tpos) (gName i)) (ht : ∀ (s : Shared) (H : Hp) (C : Addr) (cl : List (Str × Addr)) (fp : List Addr), PTsD K (X.blk s H scope (compEnvC scope cl C X.env) fp) ifs tt dt) (he : ∀ (s : Shared) (H : Hp) (C : Addr) (cl : List (Str × Addr)) (fp : List Addr), PD K (X.blk s H scope (compEnvC scope cl C X.env) fp) elt te de) (hs : ∀ x, foldedSetIterable iter X.env x = pure x := by intro _; rfl) (q : X.K = K := by rfl) :
    PSD K X (.Assign [.Name y py] (.ListComp elt [⟨.Name x tpos, iter, ifs, 0⟩] scope pos) spos) (tAsg (tLc (iList K tl) (gName i) tt te [i]) (gName j)) (dSet (dLcL dl i dt de) j) := by
  subst q
  exact ⟨ps_setLc (own := [(x, i)]) hc hN hy hyl hsw (pi_list hi.pe) ok hg (fun s H C cl fp => (ht s H C cl fp).pe) (fun s H C cl fp => (he s H C cl fp).pe) hs, rs_set (rd_lcL hi.rd (ht X.s_0 X.H_0 0 [] []).rd (he X.s_0 X.H_0 0 [] []).rd)⟩
end
section
variable {P : Program} {w : World} {K : PySem.W.Frag} {mg : Str → Option Value} {base : Heap}
theorem fIn_aDl (n : Nat) (ns : List Nat) : fIn false (.int n) (.lst (aD ns)) = some (.bl (decide (n ∈ ns))) := fIn_aD n ns
def o_weakest : Scope := match (defBody s_weakest).getD 1 (.Pass ⟨0,0,0,0⟩) with
  | .Assign _ (.ListComp _ _ sc _) _ => sc
  | _ => default
def wkRows (t : Nat) (e : Tm) (c : Cnd) : List Nat := (List.range (2 ^ t)).filter fun a => !e.st a || decide (a ∈ whr t c)
def S_weakest (L : Nat) : List D → D → Prop := fun ds d => ∃ (t k : Nat) (e : Tm) (c : Cnd), wok t k ∧ ds = [wD t k, e.enc, c.enc] ∧ e.dep ≤ L ∧ e.ok ∧ c.dep ≤ L ∧ c.wf 3 ∧ d = (condC t (wkRows t e c)).enc
theorem ok_weakest (B : Blt mg) {f f1 f2 f3 f4 f6 f7 g1 g2 g3 g4 g5 g6 : Addr} {fd fd1 fd2 fd3 fd4 fd6 fd7 gd1 gd2 gd3 gd4 gd5 gd6 : FuncData} (d_weakest : Df K mg "weakest" s_weakest ["world", "term", "after"] g1 gd1) (d_condition_of : Df K mg "condition_of" s_condition_of ["world", "atoms"] g2 gd2) (d_atom_condition : Df K mg "atom_condition" s_atom_condition ["world", "atom"] g3 gd3) (d_joined : Df K mg "joined" s_joined ["name", "items"] g4 gd4)
    (d_atoms_where : Df K mg "atoms_where" s_atoms_where ["world", "condition"] g5 gd5)
    (d_last_atoms : Df K mg "last_atoms" s_last_atoms ["world", "term", "atom"] f fd)
    (d_stops_of : Df K mg "stops_of" s_stops_of ["world", "state"] f1 fd1) (d_atoms_of : Df K mg "atoms_of" s_atoms_of ["world"] f2 fd2) (d_stops : Df K mg "stops" s_stops ["term", "atom"] f3 fd3) (d_holds : Df K mg "holds" s_holds ["condition", "atom"] f4 fd4)
    (d_after_deed : Df K mg "after_deed" s_after_deed ["state", "atom", "deed"] f6 fd6) (d_found_moves : Df K mg "found_moves" s_found_moves ["term", "atom", "deed"] f7 fd7) (L : Nat) (hL : L ≤ 20) :
    FnOk P w K mg base CX0 (L + 25) g1 gd1 ["world", "term", "after"] (spP K 3 (S_weakest L)) := by
  have G_last_atoms := ok_last_atoms (P := P) (w := w) (base := base) B d_last_atoms d_stops_of d_atoms_of d_stops d_holds d_after_deed d_found_moves L hL
  have G_atoms_of := ok_atoms_of (P := P) (w := w) (base := base) B d_atoms_of
  have G_atoms_where := ok_atoms_where (P := P) (w := w) (base := base) B d_atoms_where d_atoms_of d_holds L
  have G_condition_of := ok_condition_of (P := P) (w := w) (base := base) (f5 := f) (fd5 := fd) B d_condition_of d_atoms_of d_atom_condition d_holds d_joined
  refine fn_pd d_weakest.F sc_weakest fun cdv A outer s H E hr ds d _ hS => ⟨_, _, (psd_cons (ps_setD (i := 3) sc_weakest.nd (pd_call G_atoms_where (hr.mono (by omega)) d_atoms_where.m d_atoms_where.F.kp d_atoms_where.b (pa_consD (pdv 0) (pa_consD (pdv 2) pa_nilD))))
        (psd_cons (ps_setLcLD (j := 4) rfl sc_weakest.nd rfl rfl (sw_true rfl rfl rfl (by decide +kernel)) (pd_call G_atoms_of (hr.mono (by omega)) d_atoms_of.m d_atoms_of.F.kp d_atoms_of.b (pa_consD (pdv 0) pa_nilD)) (blkOk_by (N := n_weakest) (sc := defScope s_weakest) (by decide +kernel)) (fun _ _ _ _ _ => pg_name (i := 6) sc_weakest.nd rfl (Or.inl rfl)) (fun _ _ _ _ _ => (pts_oneD (pt_valD (pd_callB (k_all (K := K) rfl) d_all (by rfl) B.all (by decide +kernel) (pa_consD (pd_lcL rfl sc_weakest.nd (pd_call G_last_atoms (hr.mono (by omega)) d_last_atoms.m d_last_atoms.F.kp d_last_atoms.b (pa_consD (pdv 0) (pa_consD (pdv 1) (pa_consD (pdv 6) pa_nilD)))) (blkOk_by (N := n_weakest) (sc := relS o_weakest (defScope s_weakest)) (by decide +kernel)) (fun _ _ _ _ _ => pg_name (i := 5) sc_weakest.nd rfl (Or.inl rfl)) (fun _ _ _ _ _ => pts_nilD) (fun _ _ _ _ _ => (pd_cmp (k_in (K := K)) (d_in false) (pdv 5) (pdv 3) (by rfl)))) pa_nilD))))) (fun _ _ _ _ _ => (pdv 6)))
        (psd_one (ps_retD (pd_call G_condition_of (hr.mono (by omega)) d_condition_of.m d_condition_of.F.kp d_condition_of.b (pa_consD (pdv 0) (pa_consD (pdv 4) pa_nilD))))))), ?_⟩
  obtain ⟨t, k, e, c, hw, rfl, h1, h2, h3, h4, rfl⟩ := hS
  have hp := pow_small hw.2.1
  walk_at "r"
  refine ⟨_, ⟨t, k, c, hw, rfl, h3, h4, rfl⟩, ?_⟩
  walk_at "r"
  refine ⟨_, ⟨t, k, hw, rfl, rfl⟩, _, rfl, ?_⟩
  refine dLoop_of (fun d => !e.st (nat d) || decide (nat d ∈ whr t c)) id _ _ _ (fun x hx R hR => ?_) (fun x hx _ R hR => ?_) (fun x hx _ => ?_) ?_ ?_
  · obtain ⟨n, hn, rfl⟩ := mem_aD hx
    walk_at "r"
    refine ⟨_, ⟨t, k, e, n, hw, rfl, List.mem_range.mp hn, h1, h2, rfl⟩, _, rfl, ?_⟩
    have e0 : aD (if e.st n = true then [n] else []) = (if e.st n = true then [n] else []).map fun (m : Nat) => D.int m := rfl
    rw [e0]
    refine dLoop_map (fun (m : Nat) => D.int m) (fun _ => true) (fun m => .bl (decide (m ∈ whr t c))) _ _ _ (fun x hx R hR => hR) (fun x hx _ R hR => ?_) (fun x hx _ => rfl) ?_ ?_
    · walk_at "r"
      exact ⟨_, fIn_aDl x _, hR⟩
    · refine small_line ?_
      cases e.st n <;> simp
    · rw [List.filter_eq_self.mpr (fun _ _ => rfl)]
      refine ⟨.bl (!e.st n || decide (n ∈ whr t c)), ?_, _, rfl, hR⟩
      cases he : e.st n with
      | false => rfl
      | true =>
        show some (D.bl ([decide (n ∈ whr t c)].all id)) = _
        simp
  · exact ⟨_, rfl, hR⟩
  · obtain ⟨n, hn, rfl⟩ := mem_aD hx
    rfl
  · rw [aD_length, List.length_range]
    refine small_line ?_
    show 0 + 2 ^ t ≤ 1000
    omega
  · rw [List.map_id, filter_aD (fun a => !e.st a || decide (a ∈ whr t c)) _ fun n => rfl]
    walk_at "r"
    refine ⟨_, ⟨t, k, wkRows t e c, hw, rfl, fun a ha => ?_, ?_, rfl⟩, rfl⟩
    · exact List.mem_range.mp (List.mem_filter.mp ha).1
    · have := List.length_filter_le (fun a => !e.st a || decide (a ∈ whr t c)) (List.range (2 ^ t))
      rw [List.length_range] at this
      show (List.filter _ _).length < 64
      omega
end
end KQ

set_option Elab.async false
set_option linter.all false
set_option maxRecDepth 100000
set_option maxHeartbeats 1000000
namespace KQ
open PySem L2
/-! ### the reader -/
theorem n_td : ¬ (("text" : Str) = "depth") := by decide +kernel
theorem n_ta : ¬ (("text" : Str) = "at") := by decide +kernel
theorem n_ad : ¬ (("at" : Str) = "depth") := by decide +kernel
/-- its attributes -/
def rf (t : List Nat) (a d : Int) : List (Str × V) := putF "depth" (.int d) (putF "at" (.int a) (putF "text" (.str (T t)) []))
theorem rf_eq (t : List Nat) (a d : Int) : rf t a d = ([("text", V.str (T t)), ("at", V.int a), ("depth", V.int d)] : List (Str × V)) := by
  unfold rf
  simp only [putF, if_neg n_ta, if_neg n_td, if_neg n_ad]
theorem rf_len (t : List Nat) (a d : Int) : (rf t a d).length < 1000 := by rw [rf_eq]; show 3 < 1000; decide
theorem rf_text (t : List Nat) (a d : Int) : (rf t a d).lookup ("text" : Str) = some (.str (T t)) := by
  unfold rf
  rw [lookup_putF, if_neg n_td, lookup_putF, if_neg n_ta, lookup_putF, if_pos rfl]
theorem rf_at (t : List Nat) (a d : Int) : (rf t a d).lookup ("at" : Str) = some (.int a) := by
  unfold rf
  rw [lookup_putF, if_neg n_ad, lookup_putF, if_pos rfl]
theorem rf_depth (t : List Nat) (a d : Int) : (rf t a d).lookup ("depth" : Str) = some (.int d) := by
  unfold rf
  rw [lookup_putF, if_pos rfl]
theorem rf_no (t : List Nat) (a d : Int) {m : Str} (h1 : ¬ m = "depth") (h2 : ¬ m = "at") (h3 : ¬ m = "text") : (rf t a d).lookup m = none := by
  unfold rf
  rw [lookup_putF, if_neg h1, lookup_putF, if_neg h2, lookup_putF, if_neg h3]
  rfl
theorem rf_pa (t : List Nat) (a d b : Int) : putF "at" (.int b) (rf t a d) = rf t b d := by
  rw [rf_eq, rf_eq]
  simp only [putF, if_neg n_ta, if_pos rfl, if_true]
theorem rf_pd (t : List Nat) (a d b : Int) : putF "depth" (.int b) (rf t a d) = rf t a b := by
  rw [rf_eq, rf_eq]
  simp only [putF, if_neg n_td, if_neg n_ad, if_pos rfl, if_true]
/-- the sign sg stands in t at a -/
def Mt (t : List Nat) (a : Nat) (sg : List Nat) : Prop := (t.drop a).take sg.length = sg
theorem cut_T (t : List Nat) (a n : Nat) (ha : a ≤ t.length) : cutS (T t) (some (a : Int)) (some ((a : Int) + (n : Int))) = T ((t.drop a).take n) := by
  unfold cutS
  have e1 : HT.sIx (T t).length 0 (some (a : Int)) = a := by rw [HT.sIx_nat]; exact Nat.min_eq_left ha
  have e2 : HT.sIx (T t).length (T t).length (some ((a : Int) + (n : Int))) = min (a + n) t.length := by
    rw [show ((a : Int) + (n : Int)) = ((a + n : Nat) : Int) by omega, HT.sIx_nat]; rfl
  rw [e1, e2]
  show Str.mk ((t.drop a).take (min (a + n) t.length - a)).toArray = Str.mk ((t.drop a).take n).toArray
  congr 2
  by_cases h : a + n ≤ t.length
  · rw [Nat.min_eq_left h]; congr 1; omega
  · rw [Nat.min_eq_right (by omega), List.take_of_length_le (by rw [List.length_drop]; exact Nat.le_refl _), List.take_of_length_le (by rw [List.length_drop]; omega)]
theorem T_inj {a b : List Nat} : T a = T b ↔ a = b := by
  unfold T
  constructor
  · intro h
    have := congrArg (fun s : Str => s.cps.toList) h
    simpa using this
  · rintro rfl; rfl
structure Txt (K : PySem.W.Frag) (C : Addr) : Prop where
  cl : Cls K C
  nT : NoAttr K C "text"
  nA : NoAttr K C "at"
  nD : NoAttr K C "depth"
section
variable {P : Program} {w : World} {K : PySem.W.Frag} {mg : Str → Option Value} {base : Heap}
theorem sc_Reader___init__ : FnScope n_Reader___init__ ["self", "text"] (defScope s_Reader___init__) := ⟨rfl, rfl, rfl, by decide +kernel, rfl, by decide +kernel, by decide +kernel⟩
theorem sc_Reader_take : FnScope n_Reader_take ["self", "sign"] (defScope s_Reader_take) := ⟨rfl, rfl, rfl, by decide +kernel, rfl, by decide +kernel, by decide +kernel⟩
theorem sc_Reader_first_of : FnScope n_Reader_first_of ["self", "signs"] (defScope s_Reader_first_of) := ⟨rfl, rfl, rfl, by decide +kernel, rfl, by decide +kernel, by decide +kernel⟩
theorem sc_Reader_deeper : FnScope n_Reader_deeper ["self"] (defScope s_Reader_deeper) := ⟨rfl, rfl, rfl, by decide +kernel, rfl, by decide +kernel, by decide +kernel⟩
theorem sc_Reader_back : FnScope n_Reader_back ["self", "found"] (defScope s_Reader_back) := ⟨rfl, rfl, rfl, by decide +kernel, rfl, by decide +kernel, by decide +kernel⟩
theorem sc_Reader_end : FnScope n_Reader_end ["self", "found"] (defScope s_Reader_end) := ⟨rfl, rfl, rfl, by decide +kernel, rfl, by decide +kernel, by decide +kernel⟩
/-- __init__ -/
def spInit (C : Addr) : Sp := fun vs H Q _ => ∃ (p dx : Addr) (t : List Nat), vs = [.ref p, .str (T t)] ∧ H p = some (.ins C dx []) ∧ Q .non (upd (upd (upd H p (.ins C dx (putF "text" (.str (T t)) []))) p (.ins C dx (putF "at" (.int 0) (putF "text" (.str (T t)) [])))) p (.ins C dx (rf t 0 0)))
theorem ok_init {f C : Addr} {fd : FuncData} (F : Fun K "__init__" "Reader.__init__" s_Reader___init__ f fd) (TX : Txt K C) : FnOk P w K mg base CX0 1 f fd ["self", "text"] (spInit C) := by
  refine F.ok sc_Reader___init__ (fun vs H Q E h => ?_) (fun cdv A outer s H vs Q E hr h => ?_)
  · obtain ⟨p, dx, t, rfl, _⟩ := h
    rfl
  · obtain ⟨p, dx, t, rfl, hp, k⟩ := h
    refine ⟨_, pss_cons (ps_fld (pv 0) (pv 1) rfl) (pss_cons (ps_fld (pv 0) pe_int rfl) (pss_one (ps_fld (pv 0) pe_int rfl))), ?_⟩
    refine ⟨_, rfl, _, rfl, p, C, dx, [], rfl, hp, TX.cl, TX.nT, (by show 0 < 1000; decide), ?_⟩
    refine ⟨_, rfl, p, C, dx, _, rfl, upd_same, TX.cl, TX.nA, (by show 1 < 1000; decide), ?_⟩
    refine ⟨_, rfl, p, C, dx, _, rfl, upd_same, TX.cl, TX.nD, ?_, k⟩
    simp only [putF, if_neg n_ta]
    show 2 < 1000
    decide
/-- deeper, back -/
def spDeeper (C : Addr) : Sp := fun vs H Q _ => ∃ (p dx : Addr) (t : List Nat) (a d : Nat), vs = [.ref p] ∧ H p = some (.ins C dx (rf t a d)) ∧ d + 1 ≤ 300 ∧ Q .non (upd H p (.ins C dx (rf t a (d + 1 : Nat))))
theorem ok_deeper (Cc : Cst mg) {f C : Addr} {fd : FuncData} (F : Fun K "deeper" "Reader.deeper" s_Reader_deeper f fd) (TX : Txt K C) : FnOk P w K mg base CX0 1 f fd ["self"] (spDeeper C) := by
  obtain ⟨tk, k_MOST_DEPTH_deedtexts⟩ := Cc.mdt
  refine F.ok sc_Reader_deeper (fun vs H Q E h => ?_) (fun cdv A outer s H vs Q E hr h => ?_)
  · obtain ⟨p, dx, t, a, d, rfl, _⟩ := h
    rfl
  · obtain ⟨p, dx, t, a, d, rfl, hp, hd, k⟩ := h
    refine ⟨_, pss_cons (ps_fldaug (pv 0) pe_int in_add) (pss_one (ps_if (pt_cmpR op_gt (pe_fld (pv 0) rfl) (pe_glob (by rfl) k_MOST_DEPTH_deedtexts (v := .int 300) ⟨_, rfl⟩) (nomark _)) (pss_one ps_never) pss_nil)), ?_⟩
    refine ⟨_, rfl, p, C, dx, _, _, rfl, hp, TX.cl, TX.nD, rf_depth _ _ _, _, _, rfl, rfl, dx, _, hp, rf_len _ _ _, ?_⟩
    rw [rf_pd]
    refine ⟨_, rfl, p, C, dx, _, _, rfl, upd_same, TX.cl, TX.nD, rf_depth _ _ _, _, _, rfl, rfl, _, rfl, ?_⟩
    refine iteF' (decide_eq_false (by omega)) ?_
    exact k
def spBack (C : Addr) : Sp := fun vs H Q _ => ∃ (p dx : Addr) (t : List Nat) (a d : Nat) (v : V), vs = [.ref p, v] ∧ H p = some (.ins C dx (rf t a (d + 1 : Nat))) ∧ Q v (upd H p (.ins C dx (rf t a d)))
theorem ok_back {f C : Addr} {fd : FuncData} (F : Fun K "back" "Reader.back" s_Reader_back f fd) (TX : Txt K C) : FnOk P w K mg base CX0 1 f fd ["self", "found"] (spBack C) := by
  refine F.ok sc_Reader_back (fun vs H Q E h => ?_) (fun cdv A outer s H vs Q E hr h => ?_)
  · obtain ⟨p, dx, t, a, d, v, rfl, _⟩ := h
    rfl
  · obtain ⟨p, dx, t, a, d, v, rfl, hp, k⟩ := h
    refine ⟨_, pss_cons (ps_fldaug (pv 0) pe_int in_sub) (pss_one (ps_ret (pv 1))), ?_⟩
    refine ⟨_, rfl, p, C, dx, _, _, rfl, hp, TX.cl, TX.nD, rf_depth _ _ _, _, _, rfl, rfl, dx, _, hp, rf_len _ _ _, ?_⟩
    rw [rf_pd]
    refine ⟨_, rfl, ?_⟩
    have e : (((d + 1 : Nat) : Int) - 1) = (d : Int) := by omega
    rw [e]
    exact k
/-- end -/
def spEnd (C : Addr) : Sp := fun vs H Q _ => ∃ (p dx : Addr) (t : List Nat) (d : Int) (v : V), vs = [.ref p, v] ∧ H p = some (.ins C dx (rf t t.length d)) ∧ t.length ≤ 100000 ∧ Q v H
theorem ok_end (B : Blt mg) {f C : Addr} {fd : FuncData} (F : Fun K "end" "Reader.end" s_Reader_end f fd) (TX : Txt K C) : FnOk P w K mg base CX0 1 f fd ["self", "found"] (spEnd C) := by
  refine F.ok sc_Reader_end (fun vs H Q E h => ?_) (fun cdv A outer s H vs Q E hr h => ?_)
  · obtain ⟨p, dx, t, d, v, rfl, _⟩ := h
    rfl
  · obtain ⟨p, dx, t, d, v, rfl, hp, hl, k⟩ := h
    refine ⟨_, pss_cons (ps_if (pt_cmpR op_ne (pe_fld (pv 0) rfl) (pe_callB call_len (by rfl) B.len PySem.boot_len (pa_cons (pe_fld (pv 0) rfl) pa_nil)) (nomark _)) (pss_one ps_never) pss_nil) (pss_one (ps_ret (pv 1))), ?_⟩
    refine ⟨_, rfl, p, C, dx, _, _, rfl, hp, TX.cl, TX.nA, rf_at _ _ _, _, rfl, p, C, dx, _, _, rfl, hp, TX.cl, TX.nT, rf_text _ _ _, _, t.length, rfl, ⟨by rw [T_len, sizeLine_eq]; omega, rfl⟩, rfl, _, rfl, ?_⟩
    refine iteF' (by simp) ?_
    exact ⟨_, rfl, k⟩
/-- take -/
def spTake (C : Addr) : Sp := fun vs H Q _ => ∃ (p dx : Addr) (t sg : List Nat) (a : Nat) (d : Int), vs = [.ref p, .str (T sg)] ∧ H p = some (.ins C dx (rf t a d)) ∧ Mt t a sg ∧ a ≤ t.length ∧ t.length ≤ 100000 ∧ sg.length ≤ 100000 ∧ Q .non (upd H p (.ins C dx (rf t (a + sg.length : Nat) d)))
theorem ok_take (B : Blt mg) {f C : Addr} {fd : FuncData} (F : Fun K "take" "Reader.take" s_Reader_take f fd) (TX : Txt K C) : FnOk P w K mg base CX0 1 f fd ["self", "sign"] (spTake C) := by
  refine F.ok sc_Reader_take (fun vs H Q E h => ?_) (fun cdv A outer s H vs Q E hr h => ?_)
  · obtain ⟨p, dx, t, sg, a, d, rfl, _⟩ := h
    rfl
  · obtain ⟨p, dx, t, sg, a, d, rfl, hp, hm, ha, hl, hs, k⟩ := h
    refine ⟨_, pss_cons (ps_if (pt_cmpR op_ne (pe_slice sl_str (pe_fld (pv 0) rfl) (po_some (pe_fld (pv 0) rfl)) (po_some (pe_op op_add (pe_fld (pv 0) rfl) (pe_callB call_len (by rfl) B.len PySem.boot_len (pa_cons (pv 1) pa_nil))))) (pv 1) (nomark _)) (pss_one ps_never) pss_nil)
      (pss_one (ps_fldaug (pv 0) (pe_callB call_len (by rfl) B.len PySem.boot_len (pa_cons (pv 1) pa_nil)) in_add)), ?_⟩
    refine ⟨_, rfl, p, C, dx, _, _, rfl, hp, TX.cl, TX.nT, rf_text _ _ _, _, rfl, p, C, dx, _, _, rfl, hp, TX.cl, TX.nA, rf_at _ _ _, _, rfl, _, rfl, p, C, dx, _, _, rfl, hp, TX.cl, TX.nA, rf_at _ _ _, _, rfl, _, sg.length, rfl, ⟨by rw [T_len, sizeLine_eq]; omega, rfl⟩, _, _, rfl, rfl, _, rfl, _, rfl, (by rw [T_len, sizeLine_eq]; omega), ?_⟩
    refine ⟨_, rfl, rfl, _, rfl, ?_⟩
    refine iteF' (by rw [cut_T _ _ _ ha, hm]; simp) ?_
    refine ⟨_, rfl, p, C, dx, _, _, rfl, hp, TX.cl, TX.nA, rf_at _ _ _, _, rfl, _, sg.length, rfl, ⟨by rw [T_len, sizeLine_eq]; omega, rfl⟩, _, _, rfl, rfl, dx, _, hp, rf_len _ _ _, ?_⟩
    rw [rf_pa]
    exact k
end
end KQ

set_option Elab.async false
set_option linter.all false
set_option maxRecDepth 100000
set_option maxHeartbeats 1000000
namespace KQ
open PySem L2
theorem Mt_app {t x y : List Nat} {a : Nat} (h : Mt t a (x ++ y)) : Mt t a x ∧ Mt t (a + x.length) y := by
  unfold Mt at h ⊢
  rw [List.length_append] at h
  constructor
  · have := congrArg (List.take x.length) h
    rw [List.take_take, Nat.min_eq_left (by omega), List.take_left'] at this
    · exact this
    · rfl
  · have := congrArg (List.drop x.length) h
    rw [List.drop_take, List.drop_drop, List.drop_left'] at this
    · rwa [Nat.add_sub_cancel_left] at this
    · rfl
theorem Mt_len {t x : List Nat} {a : Nat} (h : Mt t a x) (ha : a ≤ t.length) : a + x.length ≤ t.length := by
  have := congrArg List.length h
  rw [List.length_take, List.length_drop] at this
  omega
theorem Mt_eq {t x y : List Nat} {a : Nat} (h : Mt t a x) (g : Mt t a y) (l : x.length = y.length) : x = y := by
  unfold Mt at h g
  rw [← h, ← g, l]
section
variable {P : Program} {w : World} {K : PySem.W.Frag} {mg : Str → Option Value} {base : Heap}
def spFirst (K : PySem.W.Frag) (C : Addr) : Sp := fun vs H Q _ => ∃ (p dx q : Addr) (t : List Nat) (a : Nat) (d : Int) (pre post : List (List Nat)) (sg : List Nat), vs = [.ref p, .ref q] ∧ SqT K H q ((pre ++ sg :: post).map fun s => V.str (T s)) ∧ H p = some (.ins C dx (rf t a d)) ∧ a ≤ t.length ∧ t.length ≤ 100000 ∧
  (∀ s ∈ pre ++ sg :: post, s.length ≤ 100) ∧ (∀ s ∈ pre, ¬ Mt t a s) ∧ Mt t a sg ∧ Q (.str (T sg)) (upd H p (.ins C dx (rf t (a + sg.length : Nat) d)))
theorem ok_first (B : Blt mg) {f C : Addr} {fd : FuncData} (F : Fun K "first_of" "Reader.first_of" s_Reader_first_of f fd) (TX : Txt K C) : FnOk P w K mg base CX0 1 f fd ["self", "signs"] (spFirst K C) := by
  refine F.ok sc_Reader_first_of (fun vs H Q E h => ?_) (fun cdv A outer s H vs Q E hr h => ?_)
  · obtain ⟨p, dx, q, t, a, d, pre, post, sg, rfl, _⟩ := h
    rfl
  · obtain ⟨p, dx, q, t, a, d, pre, post, sg, rfl, hq, hp, ha, hl, hs, hn, hm, k⟩ := h
    refine ⟨_, pss_cons (ps_for PassesOwn.never rfl (pi_tup (pv 1)) (pg_name (i := 2) sc_Reader_first_of.nd rfl (Or.inl rfl)) (pss_one (ps_if (pt_cmpR op_eq (pe_slice sl_str (pe_fld (pv 0) rfl) (po_some (pe_fld (pv 0) rfl)) (po_some (pe_op op_add (pe_fld (pv 0) rfl) (pe_callB call_len (by rfl) B.len PySem.boot_len (pa_cons (pv 2) pa_nil))))) (pv 2) (nomark _))
      (pss_cons (ps_fldaug (pv 0) (pe_callB call_len (by rfl) B.len PySem.boot_len (pa_cons (pv 2) pa_nil)) in_add) (pss_one (ps_ret (pv 2)))) pss_nil))) (pss_one ps_never), ?_⟩
    refine ⟨_, rfl, q, rfl, ⟨_, hq⟩, for_tup (K := K) (a := q) (xs := (pre ++ sg :: post).map fun s => V.str (T s)) (fun i σ' H' => i ≤ pre.length ∧ H' = H ∧ ∃ o, σ' = [some (.ref p), some (.ref q), o]) ⟨Nat.zero_le _, rfl, none, rfl⟩ (fun i σ' H' _ ⟨_, e, _⟩ => by rw [e]; exact hq) ?_ ?_⟩
    · rintro i x σ' H' hx ⟨hi, rfl, o, rfl⟩
      rw [List.getElem?_map] at hx
      obtain ⟨sj, hsj, rfl⟩ := Option.map_eq_some_iff.mp hx
      have hmem : sj ∈ pre ++ sg :: post := List.mem_of_getElem? hsj
      have hlen := hs sj hmem
      refine ⟨_, rfl, p, C, dx, _, _, rfl, hp, TX.cl, TX.nT, rf_text _ _ _, _, rfl, p, C, dx, _, _, rfl, hp, TX.cl, TX.nA, rf_at _ _ _, _, rfl, _, rfl, p, C, dx, _, _, rfl, hp, TX.cl, TX.nA, rf_at _ _ _, _, rfl, _, sj.length, rfl, ⟨by rw [T_len, sizeLine_eq]; omega, rfl⟩, _, _, rfl, rfl, _, rfl, _, rfl, (by rw [T_len, sizeLine_eq]; omega), ?_⟩
      refine ⟨_, rfl, rfl, _, rfl, ?_⟩
      rw [cut_T _ _ _ ha]
      by_cases hM : Mt t a sj
      · have hij : sj = sg := by
          by_cases hlt : i < pre.length
          · rw [List.getElem?_append_left hlt] at hsj
            exact absurd hM (hn _ (List.mem_of_getElem? hsj))
          · have : i = pre.length := by omega
            subst this
            rw [List.getElem?_append_right (Nat.le_refl _), Nat.sub_self] at hsj
            simpa using hsj.symm
        subst hij
        refine iteT' (decide_eq_true (by rw [hM])) ?_
        refine ⟨_, rfl, p, C, dx, _, _, rfl, hp, TX.cl, TX.nA, rf_at _ _ _, _, rfl, _, sj.length, rfl, ⟨by rw [T_len, sizeLine_eq]; omega, rfl⟩, _, _, rfl, rfl, dx, _, hp, rf_len _ _ _, ?_⟩
        rw [rf_pa]
        exact ⟨_, rfl, k⟩
      · refine iteF' (decide_eq_false fun e => hM ?_) ?_
        · injection e with e
          exact T_inj.mp e
        · have hlt : i < pre.length := by
            rcases Nat.lt_or_ge i pre.length with h | h
            · exact h
            · have : i = pre.length := by omega
              subst this
              rw [List.getElem?_append_right (Nat.le_refl _), Nat.sub_self] at hsj
              have : sg = sj := by simpa using hsj
              subst this
              exact absurd hm hM
          exact ⟨hlt, rfl, _, rfl⟩
    · rintro σ' H' ⟨hi, _⟩
      simp at hi
      omega
end
end KQ

set_option Elab.async false
set_option linter.all false
set_option maxRecDepth 100000
set_option maxHeartbeats 1000000
namespace KQ
open PySem L2
local macro_rules | `(tactic| walk_at "r") => `(tactic| repeat (first | (refine ⟨_, rfl, ?_⟩) | (refine ⟨rfl, ?_⟩) | (refine ⟨small_line (Nat.le_of_ble_eq_true rfl), ?_⟩) | (refine iteF' (by decide +kernel) ?_) | (refine iteT' (by decide +kernel) ?_) | (refine iteF' rfl ?_) | (refine iteT' rfl ?_)))
/-! ### all but the one object -/
def SB (p : Addr) (H H' : Hp) : Prop := ∀ b o, H b = some o → b ≠ p → H' b = some o
theorem SB.refl {p : Addr} {H : Hp} : SB p H H := fun _ _ h _ => h
theorem SB.trans {p : Addr} {H H' H2 : Hp} (a : SB p H H') (b : SB p H' H2) : SB p H H2 := fun x o h n => b _ _ (a _ _ h n) n
theorem SB.upd {p : Addr} {H : Hp} {o : HO} : SB p H (L2.upd H p o) := fun x u h n => by rw [upd_ne n]; exact h
theorem SB.same {p : Addr} {H H' : Hp} (s : Same H H') : SB p H H' := fun x o h _ => s _ _ h
theorem SB.tups {p C dx : Addr} {fs : List (Str × V)} {H H' : Hp} (s : SB p H H') (hp : H p = some (.ins C dx fs)) : TupS H H' := fun b => ⟨fun xs h => s b _ h (by rintro rfl; rw [hp] at h; cases h), fun o xs h => s b _ h (by rintro rfl; rw [hp] at h; cases h)⟩
theorem RE.none {K : PySem.W.Frag} {H : Hp} {σ : St} {n : Nat} (h : σ.length = n) : RE K H (List.replicate n none) σ := ⟨by simp [h], fun i d q => by
  rw [List.getElem?_replicate] at q
  split at q <;> cases q⟩
theorem Rps.strsE {K : PySem.W.Frag} {H : Hp} : ∀ {ss : List Str} {vs : List V}, Rps K H (ss.map D.str) vs → vs = ss.map V.str
  | [], _, h => by simpa [Rps] using h
  | n :: ns, _, h => by
    simp only [List.map_cons] at h
    unfold Rps at h
    obtain ⟨v, r, rfl, h1, h2⟩ := h
    rw [h1.strE, Rps.strsE h2]; rfl
/-! ### a condition read -/
theorem lit_p : ("p" : Str) = T [112] := by decide +kernel
theorem lit_q : ("q" : Str) = T [113] := by decide +kernel
theorem lit_r : ("r" : Str) = T [114] := by decide +kernel
def sgs : List (List Nat) := [[48], [49], [112], [113], [114], [33], [40]]
theorem sgs_D : ([.str "0", .str "1", .str "p", .str "q", .str "r", .str "!", .str "("] : List D) = (sgs.map T).map D.str := by
  rw [lit_0, lit_1, lit_p, lit_q, lit_r, lit_bang, lit_open]; rfl
def lead : Cnd → Nat
  | .no => 48
  | .yes => 49
  | .test i => 112 + i
  | .not _ => 33
  | .and _ _ | .or _ _ => 40
theorem lead_wl : ∀ c : Cnd, ∃ r, wl c = [lead c] ++ r
  | .no => ⟨_, rfl⟩
  | .yes => ⟨_, rfl⟩
  | .test i => ⟨[], rfl⟩
  | .not _ => ⟨_, rfl⟩
  | .and _ _ => ⟨_, rfl⟩
  | .or _ _ => ⟨_, rfl⟩
theorem lead_in {c : Cnd} (h : c.wf 3) : ∃ pre post, sgs = pre ++ [lead c] :: post ∧ ∀ s ∈ pre, s.length = 1 ∧ s ≠ [lead c] := by
  cases c with
  | no => exact ⟨[], _, rfl, by simp⟩
  | yes => exact ⟨[[48]], _, rfl, by decide⟩
  | test i =>
    have h : i < 3 := h
    have h3 : i = 0 ∨ i = 1 ∨ i = 2 := by omega
    rcases h3 with rfl | rfl | rfl
    · exact ⟨[[48], [49]], _, rfl, by decide⟩
    · exact ⟨[[48], [49], [112]], _, rfl, by decide⟩
    · exact ⟨[[48], [49], [112], [113]], _, rfl, by decide⟩
  | not c => exact ⟨[[48], [49], [112], [113], [114]], _, rfl, by simp [lead]⟩
  | and a b => exact ⟨[[48], [49], [112], [113], [114], [33]], _, rfl, by simp [lead]⟩
  | or a b => exact ⟨[[48], [49], [112], [113], [114], [33]], _, rfl, by simp [lead]⟩
theorem o01_33 : (!(Builtin.Str.occurrences (Str.ofString "01") (T [33]) 0 (Str.ofString "01").length 1).isEmpty) = false := by decide +kernel
theorem o01_40 : (!(Builtin.Str.occurrences (Str.ofString "01") (T [40]) 0 (Str.ofString "01").length 1).isEmpty) = false := by decide +kernel
theorem opq_33 : (!(Builtin.Str.occurrences (Str.ofString "pqr") (T [33]) 0 (Str.ofString "pqr").length 1).isEmpty) = false := by decide +kernel
theorem opq_40 : (!(Builtin.Str.occurrences (Str.ofString "pqr") (T [40]) 0 (Str.ofString "pqr").length 1).isEmpty) = false := by decide +kernel
theorem ebg_33 : decide (V.str (T [33]) = V.str (Str.ofString "!")) = true := by decide +kernel
theorem ebg_40 : decide (V.str (T [40]) = V.str (Str.ofString "!")) = false := by decide +kernel
structure Rdr (K : PySem.W.Frag) (C : Addr) (fc : Addr) (fdc : FuncData) : Prop where
  tx : Txt K C
  ex : ∃ (f1 f2 f3 f4 : Addr) (fd1 fd2 fd3 fd4 : FuncData), Meth K C "deeper" f1 ∧ Fun K "deeper" "Reader.deeper" s_Reader_deeper f1 fd1 ∧ Binds K fd1 ["self"] [] ∧ Meth K C "first_of" f2 ∧ Fun K "first_of" "Reader.first_of" s_Reader_first_of f2 fd2 ∧ Binds K fd2 ["self", "signs"] [] ∧
    Meth K C "back" f3 ∧ Fun K "back" "Reader.back" s_Reader_back f3 fd3 ∧ Binds K fd3 ["self", "found"] [] ∧ Meth K C "take" f4 ∧ Fun K "take" "Reader.take" s_Reader_take f4 fd4 ∧ Binds K fd4 ["self", "sign"] []
  mc : Meth K C "condition" fc
  Fc : Fun K "condition" "Reader.condition" s_Reader_condition fc fdc
  bc : Binds K fdc ["self"] []
def spCond (K : PySem.W.Frag) (C : Addr) (L : Nat) : Sp := fun vs H Q _ => ∃ (p dx : Addr) (t : List Nat) (a d : Nat) (c : Cnd), vs = [.ref p] ∧ H p = some (.ins C dx (rf t a d)) ∧ Mt t a (wl c) ∧ a ≤ t.length ∧ t.length ≤ 100000 ∧ c.dep ≤ L ∧ c.wf 3 ∧ d + c.dep ≤ 300 ∧
  ∀ v H', SB p H H' → H' p = some (.ins C dx (rf t (a + (wl c).length : Nat) d)) → Rp K H' c.enc v → Q v H'
section
variable {P : Program} {w : World} {K : PySem.W.Frag} {mg : Str → Option Value} {base : Heap}
theorem sc_Reader_condition : FnScope n_Reader_condition ["self"] (defScope s_Reader_condition) := ⟨rfl, rfl, rfl, by decide +kernel, rfl, by decide +kernel, by decide +kernel⟩
theorem no_dp : ¬ (("deeper" : Str) = "depth") ∧ ¬ (("deeper" : Str) = "at") ∧ ¬ (("deeper" : Str) = "text") := by decide +kernel
theorem no_fo : ¬ (("first_of" : Str) = "depth") ∧ ¬ (("first_of" : Str) = "at") ∧ ¬ (("first_of" : Str) = "text") := by decide +kernel
theorem no_bk : ¬ (("back" : Str) = "depth") ∧ ¬ (("back" : Str) = "at") ∧ ¬ (("back" : Str) = "text") := by decide +kernel
theorem no_tk : ¬ (("take" : Str) = "depth") ∧ ¬ (("take" : Str) = "at") ∧ ¬ (("take" : Str) = "text") := by decide +kernel
theorem no_cd : ¬ (("condition" : Str) = "depth") ∧ ¬ (("condition" : Str) = "at") ∧ ¬ (("condition" : Str) = "text") := by decide +kernel
theorem rf_n {m : Str} (h : ¬ m = "depth" ∧ ¬ m = "at" ∧ ¬ m = "text") (t : List Nat) (a d : Int) : (rf t a d).lookup m = none := rf_no t a d h.1 h.2.1 h.2.2
theorem ok_condition (B : Blt mg) (Cc : Cst mg) {C fc : Addr} {fdc : FuncData} (R : Rdr K C fc fdc) (L : Nat) : FnOk P w K mg base CX0 (L + 1) fc fdc ["self"] (spCond K C L) := by
  obtain ⟨tk, k_TESTS⟩ := Cc.tests
  obtain ⟨f1, f2, f3, f4, fd1, fd2, fd3, fd4, M1, F1, b1, M2, F2, b2, M3, F3, b3, M4, F4, b4⟩ := R.ex
  have TX := R.tx
  have G1 := ok_deeper (P := P) (w := w) (base := base) Cc F1 TX
  have G2 := ok_first (P := P) (w := w) (base := base) B F2 TX
  have G3 := ok_back (P := P) (w := w) (mg := mg) (base := base) F3 TX
  have G4 := ok_take (P := P) (w := w) (base := base) B F4 TX
  induction L with
  | zero =>
    refine R.Fc.ok sc_Reader_condition (fun vs H Q E h => ?_) (fun cdv A outer s H vs Q E hr h => ?_)
    · obtain ⟨p, dx, t, a, d, c, rfl, _⟩ := h
      rfl
    · obtain ⟨p, dx, t, a, d, c, rfl, _, _, _, _, hd, _⟩ := h
      cases c <;> simp [Cnd.dep] at hd
  | succ L ih =>
    refine R.Fc.ok sc_Reader_condition (fun vs H Q E h => ?_) (fun cdv A outer s H vs Q E hr h => ?_)
    · obtain ⟨p, dx, t, a, d, c, rfl, _⟩ := h
      rfl
    · obtain ⟨p, dx, t, a, d, c, rfl, hp, hm, ha, hl, hd, hw, hdd, k⟩ := h
      have hr1 : Room 1 _ := hr.mono (by omega)
      refine ⟨_, pss_cons (ps_expr (pe_meth0 (pv 0) TX.cl M1 G1 hr1 b1 .nil pass0))
        (pss_cons (ps_set (i := 1) sc_Reader_condition.nd rfl (Or.inl rfl) (pe_meth (pv 0) TX.cl M2 G2 hr1 b2 .nil pass0 (pa_cons (pex (K := K) (pd_tup (pa_consD pd_str (pa_consD pd_str (pa_consD pd_str (pa_consD pd_str (pa_consD pd_str (pa_consD pd_str (pa_consD pd_str pa_nilD))))))))) pa_nil)) rfl (Or.inl rfl))
        (pss_cons (ps_if (pt_cmpR op_in_str (pv 1) pe_str (by rfl)) (pss_one (ps_ret (pe_meth (pv 0) TX.cl M3 G3 hr1 b3 .nil pass0 (pa_cons (pex (K := K) (pd_if (pt_cmpD (op_eqQ (K := K) hr.units) d_eq (pdv 1) pd_str (nomark _)) (pd_tup (pa_consD pd_str pa_nilD)) (pd_tup (pa_consD pd_str pa_nilD)))) pa_nil)))) pss_nil)
        (pss_cons (ps_if (pt_cmpR op_in_str (pv 1) (pe_glob (by rfl) k_TESTS (v := .str "pqr") ⟨_, rfl⟩) (by rfl)) (pss_one (ps_ret (pe_meth (pv 0) TX.cl M3 G3 hr1 b3 .nil pass0 (pa_cons (pe_tup (pa_cons pe_str (pa_cons (pe_bm PySem.F.plainAttrs_str PySem.F.slot_str_index PySem.F.type_str_index mt_sindex (pe_glob (by rfl) k_TESTS (v := .str "pqr") ⟨_, rfl⟩) (pa_cons (pv 1) pa_nil)) pa_nil))) pa_nil)))) pss_nil)
        (pss_cons (ps_if (pt_cmpR op_eq (pv 1) pe_str (nomark _)) (pss_one (ps_ret (pe_meth (pv 0) TX.cl M3 G3 hr1 b3 .nil pass0 (pa_cons (pe_tup (pa_cons pe_str (pa_cons (pe_meth0 (pv 0) TX.cl R.mc ih hr R.bc .nil pass0) pa_nil))) pa_nil)))) pss_nil)
        (pss_cons (ps_set (i := 2) sc_Reader_condition.nd rfl (Or.inl rfl) (pe_meth0 (pv 0) TX.cl R.mc ih hr R.bc .nil pass0) rfl (Or.inl rfl))
        (pss_cons (ps_set (i := 3) sc_Reader_condition.nd rfl (Or.inl rfl) (pe_ifExp (pt_cmpR op_eq (pe_meth (pv 0) TX.cl M2 G2 hr1 b2 .nil pass0 (pa_cons (pex (K := K) (pd_tup (pa_consD pd_str (pa_consD pd_str pa_nilD)))) pa_nil)) pe_str (nomark _)) pe_str pe_str) rfl (Or.inl rfl))
        (pss_cons (ps_set (i := 4) sc_Reader_condition.nd rfl (Or.inl rfl) (pe_meth0 (pv 0) TX.cl R.mc ih hr R.bc .nil pass0) rfl (Or.inl rfl))
        (pss_cons (ps_expr (pe_meth (pv 0) TX.cl M4 G4 hr1 b4 .nil pass0 (pa_cons pe_str pa_nil)))
        (pss_one (ps_ret (pe_meth (pv 0) TX.cl M3 G3 hr1 b3 .nil pass0 (pa_cons (pex (K := K) (pd_tup (pa_consD (pdv 3) (pa_consD (pdv 2) (pa_consD (pdv 4) pa_nilD))))) pa_nil)))))))))))), ?_⟩
      obtain ⟨rest, hrest⟩ := lead_wl c
      have hm' : Mt t a ([lead c] ++ rest) := by rw [← hrest]; exact hm
      have hm1 := (Mt_app hm').1
      have hc1 : 1 ≤ c.dep := by cases c <;> simp [Cnd.dep]
      have fin : ∀ v H4, SB p H H4 → H4 p = some (.ins C dx (rf t (a + (wl c).length : Nat) (d + 1 : Nat))) → Rp K H4 c.enc v → spBack C [.ref p, v] H4 Q E0 := fun v H4 sb hp4 rv =>
        ⟨p, dx, t, a + (wl c).length, d, v, rfl, hp4, k v _ (sb.trans .upd) upd_same (Rp.tups (.upd (by rw [hp4]; trivial)) _ _ (enc_imm _) rv)⟩
      -- self.deeper()
      refine ⟨_, rfl, p, dx, _, rfl, hp, rf_n no_dp _ _ _, p, dx, t, a, d, rfl, hp, by omega, ?_⟩
      have sb1 : SB p H (L2.upd H p (.ins C dx (rf t a (d + 1 : Nat)))) := .upd
      have hp1 : L2.upd H p (.ins C dx (rf t a (d + 1 : Nat))) p = _ := upd_same
      generalize L2.upd H p (.ins C dx (rf t a (d + 1 : Nat))) = H1 at sb1 hp1
      -- word = self.first_of(..)
      refine ⟨_, rfl, p, dx, _, rfl, hp1, rf_n no_fo _ _ _, List.replicate 5 none, fun x => x = .tup ((sgs.map T).map D.str), RE.none rfl, ?_, fun x v H2 s2 rx ex => ?_⟩
      · walk_at "r"
        exact congrArg D.tup sgs_D
      subst ex
      obtain ⟨q, us, rfl, hq, ru⟩ := rx.tupE
      have e2 := ru.strsE
      subst e2
      have hp2 := s2 _ _ hp1
      obtain ⟨pre, post, hs, hpre⟩ := lead_in hw
      refine ⟨p, dx, q, t, a, ((d + 1 : Nat) : Int), pre, post, [lead c], rfl, ?_, hp2, ha, hl, ?_, ?_, hm1, ?_⟩
      · rw [List.map_map] at hq
        rw [← hs]
        exact hq
      · rw [← hs]; decide
      · exact fun s hsn hM => (hpre s hsn).2 (Mt_eq hM hm1 (hpre s hsn).1)
      have sb3 : SB p H (L2.upd H2 p (.ins C dx (rf t (a + [lead c].length : Nat) ((d + 1 : Nat) : Int)))) := (sb1.trans (.same s2)).trans .upd
      have hp3 : L2.upd H2 p (.ins C dx (rf t (a + [lead c].length : Nat) ((d + 1 : Nat) : Int))) p = _ := upd_same
      generalize L2.upd H2 p (.ins C dx (rf t (a + [lead c].length : Nat) ((d + 1 : Nat) : Int))) = H3 at sb3 hp3
      cases c with
      | no =>
        refine ⟨_, rfl, _, _, rfl, rfl, _, rfl, ?_⟩
        refine iteT' (by decide +kernel) ?_
        refine ⟨_, rfl, p, dx, _, rfl, hp3, rf_n no_bk _ _ _, _, fun x => x = Cnd.no.enc, (RE.none (n := 5) rfl).setS (i := 1) rfl .str, ?_, fun x v H4 s4 rx ex => ?_⟩
        · walk_at "r"; rfl
        · subst ex
          exact fin v H4 (sb3.trans (.same s4)) (s4 _ _ hp3) rx
      | yes =>
        refine ⟨_, rfl, _, _, rfl, rfl, _, rfl, ?_⟩
        refine iteT' (by decide +kernel) ?_
        refine ⟨_, rfl, p, dx, _, rfl, hp3, rf_n no_bk _ _ _, _, fun x => x = Cnd.yes.enc, (RE.none (n := 5) rfl).setS (i := 1) rfl .str, ?_, fun x v H4 s4 rx ex => ?_⟩
        · walk_at "r"; rfl
        · subst ex
          exact fin v H4 (sb3.trans (.same s4)) (s4 _ _ hp3) rx
      | test i =>
        have h3 : i = 0 ∨ i = 1 ∨ i = 2 := by have : i < 3 := hw; omega
        rcases h3 with rfl | rfl | rfl
        · refine ⟨_, rfl, _, _, rfl, rfl, _, rfl, ?_⟩
          refine iteF' (by decide +kernel) ?_
          refine ⟨_, rfl, _, _, rfl, rfl, _, rfl, ?_⟩
          refine iteT' (by decide +kernel) ?_
          refine ⟨_, rfl, p, dx, _, rfl, hp3, rf_n no_bk _ _ _, rfl, _, rfl, _, _, 0, [], rfl, rfl, (by decide +kernel), small_line (Nat.le_of_ble_eq_true rfl), fun q1 hq1 => ?_⟩
          exact fin _ _ (sb3.trans (.same (same_new hq1))) (same_new hq1 _ _ hp3) (.tupN hq1 (.cons .str (.cons .int .nil)))
        · refine ⟨_, rfl, _, _, rfl, rfl, _, rfl, ?_⟩
          refine iteF' (by decide +kernel) ?_
          refine ⟨_, rfl, _, _, rfl, rfl, _, rfl, ?_⟩
          refine iteT' (by decide +kernel) ?_
          refine ⟨_, rfl, p, dx, _, rfl, hp3, rf_n no_bk _ _ _, rfl, _, rfl, _, _, 1, [], rfl, rfl, (by decide +kernel), small_line (Nat.le_of_ble_eq_true rfl), fun q1 hq1 => ?_⟩
          exact fin _ _ (sb3.trans (.same (same_new hq1))) (same_new hq1 _ _ hp3) (.tupN hq1 (.cons .str (.cons .int .nil)))
        · refine ⟨_, rfl, _, _, rfl, rfl, _, rfl, ?_⟩
          refine iteF' (by decide +kernel) ?_
          refine ⟨_, rfl, _, _, rfl, rfl, _, rfl, ?_⟩
          refine iteT' (by decide +kernel) ?_
          refine ⟨_, rfl, p, dx, _, rfl, hp3, rf_n no_bk _ _ _, rfl, _, rfl, _, _, 2, [], rfl, rfl, (by decide +kernel), small_line (Nat.le_of_ble_eq_true rfl), fun q1 hq1 => ?_⟩
          exact fin _ _ (sb3.trans (.same (same_new hq1))) (same_new hq1 _ _ hp3) (.tupN hq1 (.cons .str (.cons .int .nil)))
      | not c =>
        have hm : Mt t a ([33] ++ wl c) := hm
        obtain ⟨_, m1⟩ := Mt_app hm
        have l0 : a + [33].length ≤ t.length := Mt_len hm1 ha
        simp only [Cnd.dep] at hd hdd
        refine ⟨_, rfl, _, _, rfl, rfl, _, rfl, ?_⟩
        refine iteF' o01_33 ?_
        refine ⟨_, rfl, _, _, rfl, rfl, _, rfl, ?_⟩
        refine iteF' opq_33 ?_
        refine ⟨_, rfl, rfl, _, rfl, ?_⟩
        refine iteT' ebg_33 ?_
        refine ⟨_, rfl, p, dx, _, rfl, hp3, rf_n no_bk _ _ _, _, rfl, p, dx, _, rfl, hp3, rf_n no_cd _ _ _, p, dx, t, a + [33].length, d + 1, c, rfl, hp3, m1, l0, hl, by omega, hw, by omega, fun v H4 sb4 hp4 rv => ⟨small_line (Nat.le_of_ble_eq_true rfl), fun q1 hq1 => ?_⟩⟩
        have eL : a + (wl (Cnd.not c)).length = a + [33].length + (wl c).length := by simp [wl]; omega
        refine fin _ _ ((sb3.trans sb4).trans (.same (same_new hq1))) ?_ (.tupN hq1 (.cons .str (.cons rv .nil)))
        rw [eL]
        exact same_new hq1 _ _ hp4
      | and x y =>
        have hm : Mt t a ([40] ++ (wl x ++ ([32, 38, 32] ++ (wl y ++ [41])))) := hm
        obtain ⟨_, hm⟩ := Mt_app hm
        obtain ⟨m1, hm⟩ := Mt_app hm
        obtain ⟨m2, hm⟩ := Mt_app hm
        obtain ⟨m3, m4⟩ := Mt_app hm
        have l0 : a + [40].length ≤ t.length := Mt_len hm1 ha
        have l1 := Mt_len m1 l0
        have l2 := Mt_len m2 l1
        have l3 := Mt_len m3 l2
        have l4 := Mt_len m4 l3
        simp only [Cnd.dep] at hd hdd
        refine ⟨_, rfl, _, _, rfl, rfl, _, rfl, ?_⟩
        refine iteF' o01_40 ?_
        refine ⟨_, rfl, _, _, rfl, rfl, _, rfl, ?_⟩
        refine iteF' opq_40 ?_
        refine ⟨_, rfl, rfl, _, rfl, ?_⟩
        refine iteF' ebg_40 ?_
        -- first = self.condition()
        refine ⟨_, rfl, p, dx, _, rfl, hp3, rf_n no_cd _ _ _, p, dx, t, a + [40].length, d + 1, x, rfl, hp3, m1, l0, hl, by omega, hw.1, by omega, fun v1 H4 sb4 hp4 rv1 => ?_⟩
        -- name
        refine ⟨_, rfl, p, dx, _, rfl, hp4, rf_n no_fo _ _ _, List.replicate 5 none, fun x => x = .tup (([[32, 38, 32], [32, 118, 32]].map T).map D.str), RE.none rfl, ?_, fun z v H5 s5 rz ez => ?_⟩
        · walk_at "r"
          exact congrArg D.tup (by rw [lit_and, lit_or]; rfl)
        subst ez
        obtain ⟨q5, us5, rfl, hq5, ru5⟩ := rz.tupE
        have e5 := ru5.strsE
        subst e5
        rw [List.map_map] at hq5
        have hp5 := s5 _ _ hp4
        refine ⟨p, dx, q5, t, _, _, [], _, [32, 38, 32], rfl, hq5, hp5, l1, hl, by decide, ?_, m2, ?_⟩
        · exact fun s hsn => nomatch hsn
        refine ⟨rfl, _, rfl, ?_⟩
        refine iteT' (by decide +kernel) ?_
        have sb6 := (sb4.trans (.same s5)).trans (SB.upd (o := .ins C dx (rf t ((a + [40].length + (wl x).length + [32, 38, 32].length : Nat) : Int) ((d + 1 : Nat) : Int))))
        have hp6 : L2.upd H5 p (.ins C dx (rf t ((a + [40].length + (wl x).length + [32, 38, 32].length : Nat) : Int) ((d + 1 : Nat) : Int))) p = _ := upd_same
        have rv6 := Rp.tups (((SB.same s5).trans (SB.upd (o := .ins C dx (rf t ((a + [40].length + (wl x).length + [32, 38, 32].length : Nat) : Int) ((d + 1 : Nat) : Int))))).tups hp4) _ _ (enc_imm x) rv1
        generalize L2.upd H5 p (.ins C dx (rf t ((a + [40].length + (wl x).length + [32, 38, 32].length : Nat) : Int) ((d + 1 : Nat) : Int))) = H6 at sb6 hp6 rv6
        -- second = self.condition()
        refine ⟨_, rfl, p, dx, _, rfl, hp6, rf_n no_cd _ _ _, p, dx, t, _, d + 1, y, rfl, hp6, m3, l2, hl, by omega, hw.2, by omega, fun v2 H7 sb7 hp7 rv2 => ?_⟩
        have rv7 := Rp.tups (sb7.tups hp6) _ _ (enc_imm x) rv6
        -- self.take(')')
        refine ⟨_, rfl, p, dx, _, rfl, hp7, rf_n no_tk _ _ _, p, dx, t, [41], _, _, by rw [← lit_close]; rfl, hp7, m4, l3, hl, by decide, ?_⟩
        have sb8 := sb7.trans (SB.upd (o := .ins C dx (rf t ((a + [40].length + (wl x).length + [32, 38, 32].length + (wl y).length + [41].length : Nat) : Int) ((d + 1 : Nat) : Int))))
        have hp8 : L2.upd H7 p (.ins C dx (rf t ((a + [40].length + (wl x).length + [32, 38, 32].length + (wl y).length + [41].length : Nat) : Int) ((d + 1 : Nat) : Int))) p = _ := upd_same
        have nt7 : NoTup (H7 p) := by rw [hp7]; trivial
        have rx8 := Rp.tups (TupS.upd (o := .ins C dx (rf t ((a + [40].length + (wl x).length + [32, 38, 32].length + (wl y).length + [41].length : Nat) : Int) ((d + 1 : Nat) : Int))) nt7) _ _ (enc_imm x) rv7
        have ry8 := Rp.tups (TupS.upd (o := .ins C dx (rf t ((a + [40].length + (wl x).length + [32, 38, 32].length + (wl y).length + [41].length : Nat) : Int) ((d + 1 : Nat) : Int))) nt7) _ _ (enc_imm y) rv2
        generalize L2.upd H7 p (.ins C dx (rf t ((a + [40].length + (wl x).length + [32, 38, 32].length + (wl y).length + [41].length : Nat) : Int) ((d + 1 : Nat) : Int))) = H8 at sb8 hp8 rx8 ry8
        -- return self.back((name, first, second))
        refine ⟨_, rfl, p, dx, _, rfl, hp8, rf_n no_bk _ _ _, _, fun z => z = (Cnd.and x y).enc, (((RE.none (n := 5) rfl).setS (i := 2) rfl rx8).setS (i := 3) rfl .str).setS (i := 4) rfl ry8, ?_, fun z v H9 s9 rz ez => ?_⟩
        · walk_at "r"; rfl
        · subst ez
          have eL : a + (wl (Cnd.and x y)).length = a + [40].length + (wl x).length + [32, 38, 32].length + (wl y).length + [41].length := by simp [wl]; omega
          refine fin v H9 (((sb3.trans sb6).trans sb8).trans (.same s9)) ?_ rz
          rw [eL]
          exact s9 _ _ hp8
      | or x y =>
        have hm : Mt t a ([40] ++ (wl x ++ ([32, 118, 32] ++ (wl y ++ [41])))) := hm
        obtain ⟨_, hm⟩ := Mt_app hm
        obtain ⟨m1, hm⟩ := Mt_app hm
        obtain ⟨m2, hm⟩ := Mt_app hm
        obtain ⟨m3, m4⟩ := Mt_app hm
        have l0 : a + [40].length ≤ t.length := Mt_len hm1 ha
        have l1 := Mt_len m1 l0
        have l2 := Mt_len m2 l1
        have l3 := Mt_len m3 l2
        have l4 := Mt_len m4 l3
        simp only [Cnd.dep] at hd hdd
        refine ⟨_, rfl, _, _, rfl, rfl, _, rfl, ?_⟩
        refine iteF' o01_40 ?_
        refine ⟨_, rfl, _, _, rfl, rfl, _, rfl, ?_⟩
        refine iteF' opq_40 ?_
        refine ⟨_, rfl, rfl, _, rfl, ?_⟩
        refine iteF' ebg_40 ?_
        -- first = self.condition()
        refine ⟨_, rfl, p, dx, _, rfl, hp3, rf_n no_cd _ _ _, p, dx, t, a + [40].length, d + 1, x, rfl, hp3, m1, l0, hl, by omega, hw.1, by omega, fun v1 H4 sb4 hp4 rv1 => ?_⟩
        -- name
        refine ⟨_, rfl, p, dx, _, rfl, hp4, rf_n no_fo _ _ _, List.replicate 5 none, fun x => x = .tup (([[32, 38, 32], [32, 118, 32]].map T).map D.str), RE.none rfl, ?_, fun z v H5 s5 rz ez => ?_⟩
        · walk_at "r"
          exact congrArg D.tup (by rw [lit_and, lit_or]; rfl)
        subst ez
        obtain ⟨q5, us5, rfl, hq5, ru5⟩ := rz.tupE
        have e5 := ru5.strsE
        subst e5
        rw [List.map_map] at hq5
        have hp5 := s5 _ _ hp4
        refine ⟨p, dx, q5, t, _, _, [[32, 38, 32]], _, [32, 118, 32], rfl, hq5, hp5, l1, hl, by decide, ?_, m2, ?_⟩
        · intro s hsn hM
          rw [List.mem_singleton] at hsn
          subst hsn
          exact absurd (Mt_eq hM m2 rfl) (by decide)
        refine ⟨rfl, _, rfl, ?_⟩
        refine iteF' (by decide +kernel) ?_
        have sb6 := (sb4.trans (.same s5)).trans (SB.upd (o := .ins C dx (rf t ((a + [40].length + (wl x).length + [32, 118, 32].length : Nat) : Int) ((d + 1 : Nat) : Int))))
        have hp6 : L2.upd H5 p (.ins C dx (rf t ((a + [40].length + (wl x).length + [32, 118, 32].length : Nat) : Int) ((d + 1 : Nat) : Int))) p = _ := upd_same
        have rv6 := Rp.tups (((SB.same s5).trans (SB.upd (o := .ins C dx (rf t ((a + [40].length + (wl x).length + [32, 118, 32].length : Nat) : Int) ((d + 1 : Nat) : Int))))).tups hp4) _ _ (enc_imm x) rv1
        generalize L2.upd H5 p (.ins C dx (rf t ((a + [40].length + (wl x).length + [32, 118, 32].length : Nat) : Int) ((d + 1 : Nat) : Int))) = H6 at sb6 hp6 rv6
        -- second = self.condition()
        refine ⟨_, rfl, p, dx, _, rfl, hp6, rf_n no_cd _ _ _, p, dx, t, _, d + 1, y, rfl, hp6, m3, l2, hl, by omega, hw.2, by omega, fun v2 H7 sb7 hp7 rv2 => ?_⟩
        have rv7 := Rp.tups (sb7.tups hp6) _ _ (enc_imm x) rv6
        -- self.take(')')
        refine ⟨_, rfl, p, dx, _, rfl, hp7, rf_n no_tk _ _ _, p, dx, t, [41], _, _, by rw [← lit_close]; rfl, hp7, m4, l3, hl, by decide, ?_⟩
        have sb8 := sb7.trans (SB.upd (o := .ins C dx (rf t ((a + [40].length + (wl x).length + [32, 118, 32].length + (wl y).length + [41].length : Nat) : Int) ((d + 1 : Nat) : Int))))
        have hp8 : L2.upd H7 p (.ins C dx (rf t ((a + [40].length + (wl x).length + [32, 118, 32].length + (wl y).length + [41].length : Nat) : Int) ((d + 1 : Nat) : Int))) p = _ := upd_same
        have nt7 : NoTup (H7 p) := by rw [hp7]; trivial
        have rx8 := Rp.tups (TupS.upd (o := .ins C dx (rf t ((a + [40].length + (wl x).length + [32, 118, 32].length + (wl y).length + [41].length : Nat) : Int) ((d + 1 : Nat) : Int))) nt7) _ _ (enc_imm x) rv7
        have ry8 := Rp.tups (TupS.upd (o := .ins C dx (rf t ((a + [40].length + (wl x).length + [32, 118, 32].length + (wl y).length + [41].length : Nat) : Int) ((d + 1 : Nat) : Int))) nt7) _ _ (enc_imm y) rv2
        generalize L2.upd H7 p (.ins C dx (rf t ((a + [40].length + (wl x).length + [32, 118, 32].length + (wl y).length + [41].length : Nat) : Int) ((d + 1 : Nat) : Int))) = H8 at sb8 hp8 rx8 ry8
        -- return self.back((name, first, second))
        refine ⟨_, rfl, p, dx, _, rfl, hp8, rf_n no_bk _ _ _, _, fun z => z = (Cnd.or x y).enc, (((RE.none (n := 5) rfl).setS (i := 2) rfl rx8).setS (i := 3) rfl .str).setS (i := 4) rfl ry8, ?_, fun z v H9 s9 rz ez => ?_⟩
        · walk_at "r"; rfl
        · subst ez
          have eL : a + (wl (Cnd.or x y)).length = a + [40].length + (wl x).length + [32, 118, 32].length + (wl y).length + [41].length := by simp [wl]; omega
          refine fin v H9 (((sb3.trans sb6).trans sb8).trans (.same s9)) ?_ rz
          rw [eL]
          exact s9 _ _ hp8
end
end KQ

set_option Elab.async false
set_option linter.all false
set_option maxRecDepth 100000
set_option maxHeartbeats 1000000
namespace KQ
open PySem L2
local macro_rules | `(tactic| walk_at "r") => `(tactic| repeat (first | (refine ⟨_, rfl, ?_⟩) | (refine ⟨rfl, ?_⟩) | (refine ⟨small_line (Nat.le_of_ble_eq_true rfl), ?_⟩) | (refine iteF' (by decide +kernel) ?_) | (refine iteT' (by decide +kernel) ?_) | (refine iteF' rfl ?_) | (refine iteT' rfl ?_)))
section
variable {P : Program} {w : World} {K : PySem.W.Frag} {mg : Str → Option Value} {base : Heap}
theorem sc_read_condition : FnScope n_read_condition ["world", "text"] (defScope s_read_condition) := ⟨rfl, rfl, rfl, by decide +kernel, rfl, by decide +kernel, by decide +kernel⟩
structure RdrM (K : PySem.W.Frag) (mg : Str → Option Value) (C fc : Addr) (fdc : FuncData) : Prop where
  rd : Rdr K C fc fdc
  mg : mg "Reader" = some (.ref C)
  ex : ∃ (fI fE : Addr) (fdI fdE : FuncData), Mk K C fI ∧ Fun K "__init__" "Reader.__init__" s_Reader___init__ fI fdI ∧ Binds K fdI ["self", "text"] [] ∧ Meth K C "end" fE ∧ Fun K "end" "Reader.end" s_Reader_end fE fdE ∧ Binds K fdE ["self", "found"] []
def S_read : List D → D → Prop := fun ds d => ∃ (t k : Nat) (c : Cnd), wok t k ∧ ds = [wD t k, .str (T (wl c))] ∧ c.wf t ∧ c.dep ≤ 20 ∧ c.size ≤ 1000 ∧ d = c.enc
theorem wf_mono {t : Nat} (h : t ≤ 3) : ∀ {c : Cnd}, c.wf t → c.wf 3
  | .no, _ => trivial
  | .yes, _ => trivial
  | .test i, q => Nat.lt_of_lt_of_le (show i < t from q) h
  | .not c, q => wf_mono (c := c) h q
  | .and a b, q => ⟨wf_mono h q.1, wf_mono h q.2⟩
  | .or a b, q => ⟨wf_mono h q.1, wf_mono h q.2⟩
theorem no_en : ¬ (("end" : Str) = "depth") ∧ ¬ (("end" : Str) = "at") ∧ ¬ (("end" : Str) = "text") := by decide +kernel
theorem ok_read (B : Blt mg) (Cc : Cst mg) {C fc f f0 f1 f2 f3 f4 : Addr} {fdc fd fd0 fd1 fd2 fd3 fd4 : FuncData} (R : RdrM K mg C fc fdc) (d_read_condition : Df K mg "read_condition" s_read_condition ["world", "text"] f0 fd0)
    (d_is_condition : Df K mg "is_condition" s_is_condition ["world", "value"] f4 fd4) (d_is_condition_to : Df K mg "is_condition_to" s_is_condition_to ["world", "value", "most"] f fd) (d_inner_conditions : Df K mg "inner_conditions" s_inner_conditions ["world", "part"] f1 fd1)
    (d_name_of : Df K mg "name_of" s_name_of ["value"] f2 fd2) (d_is_whole : Df K mg "is_whole" s_is_whole ["value"] f3 fd3) : FnOk P w K mg base CX0 23 f0 fd0 ["world", "text"] (spP K 2 S_read) := by
  have G_is_condition := ok_is_condition (P := P) (w := w) (base := base) B Cc d_is_condition d_is_condition_to d_inner_conditions d_name_of d_is_whole
  have GC := ok_condition (P := P) (w := w) (base := base) B Cc R.rd 20
  obtain ⟨fI, fE, fdI, fdE, M, FI, bI, ME, FE, bE⟩ := R.ex
  have TX := R.rd.tx
  have GI := ok_init (P := P) (w := w) (mg := mg) (base := base) FI TX
  have GE := ok_end (P := P) (w := w) (base := base) B FE TX
  refine d_read_condition.F.ok sc_read_condition (fun vs H Q E h => spP_len h) fun cdv A outer s H vs Q E hr h => ?_
  obtain ⟨ds, d, r, hl, hS, q⟩ := h
  have hr1 : Room 1 _ := hr.mono (by omega)
  have hr2 : Room 2 _ := hr.mono (by omega)
  have hrc : Room 21 _ := hr.mono (by omega)
  refine ⟨_, pss_cons (ps_set (i := 2) sc_read_condition.nd rfl (Or.inl rfl) (pe_make M GI hr2 rfl R.mg bI .nil pass0 (pa_cons (pv 1) pa_nil)) rfl (Or.inl rfl))
    (pss_cons (ps_set (i := 3) sc_read_condition.nd rfl (Or.inl rfl) (pe_meth (pv 2) TX.cl ME GE hr1 bE .nil pass0 (pa_cons (pe_meth0 (pv 2) TX.cl R.rd.mc GC hrc R.rd.bc .nil pass0) pa_nil)) rfl (Or.inl rfl))
    (pss_cons (ps_if (ptx (K := K) (pt_notD (pt_valD (pd_call G_is_condition (hr.mono (by omega)) d_is_condition.m d_is_condition.F.kp d_is_condition.b (pa_consD (pdv 0) (pa_consD (pdv 3) pa_nilD)))))) (pss_one ps_never) pss_nil) (pss_one (psx (K := K) (ps_retD (pdv 3)))))), ?_⟩
  obtain ⟨t, k, c, hw, rfl, h1, h2, h3, rfl⟩ := hS
  have r0 := RE.start (N := n_read_condition) r
  have hlen := wl_len c
  have hl5 : (wl c).length ≤ 100000 := by omega
  unfold Rps at r
  obtain ⟨w0, r', rfl, x0, r2⟩ := r
  obtain ⟨w1, rfl, x1⟩ := r2.one
  obtain rfl := x1.strE
  -- reader = Reader(text)
  refine ⟨_, rfl, fun x dx nx ndx nex => ⟨x, dx, wl c, rfl, upd_same, rfl, ?_⟩⟩
  rw [upd_upd, upd_upd, upd_upd]
  have s1 : Same H (L2.upd (L2.upd H dx (.own x)) x (.ins C dx (rf (wl c) 0 0))) := fun b o e => by
    rw [upd_ne (ne_of_none e nx), upd_ne (ne_of_none e ndx)]
    exact e
  have hp1 : L2.upd (L2.upd H dx (.own x)) x (.ins C dx (rf (wl c) 0 0)) x = some (.ins C dx (rf (wl c) ((0 : Nat) : Int) ((0 : Nat) : Int))) := upd_same
  generalize L2.upd (L2.upd H dx (.own x)) x (.ins C dx (rf (wl c) 0 0)) = H1 at s1 hp1
  -- found = reader.end(reader.condition())
  refine ⟨_, rfl, x, dx, _, rfl, hp1, rf_n no_en _ _ _, _, rfl, x, dx, _, rfl, hp1, rf_n no_cd _ _ _, x, dx, wl c, 0, 0, c, rfl, hp1, by simp [Mt], Nat.zero_le _, hl5, h2, wf_mono hw.2.1 h1, by omega, fun v H2 sb hp2 rv => ?_⟩
  rw [Nat.zero_add] at hp2
  refine ⟨x, dx, wl c, _, v, rfl, hp2, hl5, ?_⟩
  have sH2 : Same H H2 := fun b o e => sb _ _ (s1 _ _ e) (ne_of_none e nx)
  have r3 := ((r0.s sH2).set (.adr (a := x)) 2).set rv 3
  -- if not is_condition(world, found)
  refine ⟨_, fun b => b = false, r3, ?_, fun b H3 s3 eb => ?_⟩
  · walk_at "r"
    exact ⟨_, ⟨t, k, c, hw, rfl, h1, by omega, h3, rfl⟩, _, rfl, rfl⟩
  subst eb
  refine iteF ?_
  refine ⟨_, ⟨fun _ => False, fun z => z = c.enc⟩, r3.s s3, ?_, fun _ _ _ _ _ h => h.elim, fun z v H4 s4 rz ez => ?_⟩
  · walk_at "r"; rfl
  · subst ez
    exact q v H4 ((sH2.trans s3).trans s4) rz
end
end KQ

set_option Elab.async false
set_option linter.all false
set_option maxRecDepth 100000
set_option maxHeartbeats 1000000
namespace KQ
open PySem L2
local macro_rules | `(tactic| walk_at "r") => `(tactic| repeat (first | (refine ⟨_, rfl, ?_⟩) | (refine ⟨rfl, ?_⟩) | (refine ⟨small_line (Nat.le_of_ble_eq_true rfl), ?_⟩) | (refine iteF' (by decide +kernel) ?_) | (refine iteT' (by decide +kernel) ?_) | (refine iteF' rfl ?_) | (refine iteT' rfl ?_) | (refine ⟨_, _, rfl, ?_⟩)))
/-! ### the pool -/
def pD (ns : List Int) (i z j s : Int) : D := .lst [.lst (ns.map .int), .int i, .int z, .int j, .int s]
structure PoolS (K : PySem.W.Frag) (H : Hp) (p l : Addr) (ns : List Int) (i z j s : Int) : Prop where
  hp : H p = some (.lst [.ref l, .int i, .int z, .int j, .int s])
  hl : SqL K H l (ns.map V.int)
theorem PoolS.rp {K : PySem.W.Frag} {H : Hp} {p l : Addr} {ns : List Int} {i z j s : Int} (x : PoolS K H p l ns i z j s) : Rp K H (pD ns i z j s) (.ref p) :=
  .lst (.inl (.inl x.hp)) (.cons (.lst x.hl (Rps.ints ns)) (.cons .int (.cons .int (.cons .int (.cons .int .nil)))))
theorem PoolS.ne {K : PySem.W.Frag} {H : Hp} {p l : Addr} {ns : List Int} {i z j s : Int} (x : PoolS K H p l ns i z j s) (h : H l = some (.lst (ns.map V.int))) : l ≠ p := by
  rintro rfl
  rw [x.hp] at h
  cases ns with
  | nil => cases h
  | cons n ns => cases h
theorem PoolS.sb {K : PySem.W.Frag} {H H' : Hp} {p l : Addr} {ns : List Int} {i z j s i' z' j' : Int} (x : PoolS K H p l ns i z j s) (b : SB p H H') (h : H' p = some (.lst [.ref l, .int i', .int z', .int j', .int s])) : PoolS K H' p l ns i' z' j' s := by
  refine ⟨h, ?_⟩
  rcases x.hl with (hl | ⟨o, hl⟩) | hl
  · exact .inl (.inl (b _ _ hl (x.ne hl)))
  · refine .inl (.inr ⟨o, b _ _ hl ?_⟩)
    rintro rfl
    rw [x.hp] at hl; cases hl
  · exact .inr hl
theorem PoolS.same {K : PySem.W.Frag} {H H' : Hp} {p l : Addr} {ns : List Int} {i z j s : Int} (x : PoolS K H p l ns i z j s) (e : Same H H') : PoolS K H' p l ns i z j s := ⟨e _ _ x.hp, e.seq x.hl⟩
theorem RE.forget {K : PySem.W.Frag} {H : Hp} {env : Env'} {σ : St} (h : RE K H env σ) (i : Nat) : RE K H (env.set i Option.none) σ := h.less (by simp) fun j d q => by
  by_cases hj : i = j
  · subst hj
    by_cases hi : i < env.length
    · rw [List.getElem?_set_self hi] at q; cases q
    · rw [List.getElem?_eq_none (by simpa using hi)] at q; cases q
  · rwa [List.getElem?_set_ne hj] at q
/-- a cell of the pool is set -/
theorem pool_set {K : PySem.W.Frag} {H : Hp} {p l : Addr} {ns : List Int} {i z j s i' z' j' m : Int} {o2 o3 o4 : Option D} {σ : St} (x : PoolS K H p l ns i z j s) (r : RE K H [some (.at p (pD ns i z j s)), some (.int m), o2, o3, o4] σ) (h0 : σ[0]? = some (some (.ref p))) :
    SB p H (L2.upd H p (.lst [.ref l, .int i', .int z', .int j', .int s])) ∧ PoolS K (L2.upd H p (.lst [.ref l, .int i', .int z', .int j', .int s])) p l ns i' z' j' s ∧
      RE K (L2.upd H p (.lst [.ref l, .int i', .int z', .int j', .int s])) [some (.at p (pD ns i' z' j' s)), some (.int m), im1 o2, im1 o3, im1 o4] σ := by
  have x' := x.sb (i' := i') (z' := z') (j' := j') (.upd (o := .lst [.ref l, .int i', .int z', .int j', .int s])) upd_same
  exact ⟨.upd, x', (r.mut (by rw [x.hp]; trivial)).setS h0 (.at x'.rp)⟩
theorem fMod_m {x m : Int} (h : 0 < m) : fMod (.int x) (.int m) = some (.int (x % m)) := by
  show (if (decide (0 < m)) = true then some (D.int (x % m)) else none) = _
  rw [decide_eq_true h, if_pos rfl]
theorem fDiv_m {x m : Int} (h : 0 < m) (h2 : m < 1073741824) : fDiv (.int x) (.int m) = some (.int (x / m)) := by
  show (if (decide (0 < m ∧ m < 1073741824)) = true then some (D.int (x / m)) else none) = _
  rw [decide_eq_true ⟨h, h2⟩, if_pos rfl]
def spDraw (K : PySem.W.Frag) : Sp := fun vs H Q _ => ∃ (p l : Addr) (ns : List Int) (i z j s m : Int), vs = [.ref p, .int m] ∧ PoolS K H p l ns i z j s ∧ 0 ≤ i ∧ 0 < m ∧ m < 1073741824 ∧
  ∀ (r : Int) (H' : Hp) (i' z' j' : Int), 0 ≤ r → r < m → SB p H H' → PoolS K H' p l ns i' z' j' s → 0 ≤ i' → Q (.int r) H'
section
variable {P : Program} {w : World} {K : PySem.W.Frag} {mg : Str → Option Value} {base : Heap}
theorem sc__law_draw : FnScope n__law_draw ["pool", "many"] (defScope s__law_draw) := ⟨rfl, rfl, rfl, by decide +kernel, rfl, by decide +kernel, by decide +kernel⟩
theorem ok_draw (B : Blt mg) {f f1 : Addr} {fd fd1 : FuncData} (d__law_draw : Df K mg "_law_draw" s__law_draw ["pool", "many"] f fd) (d__law_spread : Df K mg "_law_spread" s__law_spread ["cell"] f1 fd1) : FnOk P w K mg base CX0 2 f fd ["pool", "many"] (spDraw K) := by
  have G__law_spread := ok_spread (P := P) (w := w) (base := base) B d__law_spread
  refine d__law_draw.F.ok sc__law_draw (fun vs H Q E h => ?_) fun cdv A outer s0 H vs Q E hr h => ?_
  · obtain ⟨p, l, ns, i, z, j, s, m, rfl, _⟩ := h
    rfl
  obtain ⟨p, l, ns, i, z, j, s, m, rfl, x, hi, hm, hm2, q⟩ := h
  -- the end of the body
  have tail : ∃ ts, PSs (cxOf CX0 P w K mg base n__law_draw "_law_draw" (defScope s__law_draw) f cdv A outer s0 H E).nox (List.drop 1 (defBody s__law_draw)) ts ∧
      ∀ (i z : Int) (o2 : Option D) (σ' : L2.St) (H' : Hp), PoolS K H' p l ns i z j s → SB p H H' → RE K H' [some (.at p (pD ns i z j s)), some (.int m), o2, none, none] σ' → σ'[0]? = some (some (.ref p)) → 0 ≤ i → ts { nx := fun _ H' => Q .non H', rt := Q } σ' H' := by
    refine ⟨_, (pss_cons (ps_asg (pex (K := K) (pd_op (op_addQ (K := K)) d_add (pd_ix (k_ix (K := K)) d_ix (pd_forget (pdv 0)) pd_int) pd_int)) (pg_sub (pv 0) pe_int set_list))
      (pss_cons (psx (K := K) (ps_ifD (pt_cmpD op_le d_le (pd_ix (k_ix (K := K)) d_ix (pd_forget (pdv 0)) pd_int) pd_int (nomark _)) (psd_cons (ps_setD (i := 3) sc__law_draw.nd (pd_op op_mod d_mod (pd_callTy call_int1 d_int (by rfl) B.int (by decide +kernel) (pa_consD (pd_op (op_addQ (K := K)) d_add (pd_op (op_addQ (K := K)) d_add (pd_op op_mul d_mul (pd_ix (k_ix (K := K)) d_ix (pd_forget (pdv 0)) pd_int) pd_int) (pd_op op_mul d_mul (pd_ix (k_ix (K := K)) d_ix (pd_forget (pdv 0)) pd_int) pd_int)) pd_int) pa_nilD)) pd_int))
        (psd_cons (ps_setD (i := 3) sc__law_draw.nd (pd_op op_mod d_mod (pd_callTy call_int1 d_int (by rfl) B.int (by decide +kernel) (pa_consD (pd_op (op_addQ (K := K)) d_add (pd_op op_mul d_mul (pdv 3) pd_int) (pd_ix (k_ix (K := K)) d_ix (pd_forget (pdv 0)) pd_int)) pa_nilD)) pd_int))
        (psd_one (ps_retD (pd_op op_mod d_mod (pd_op op_fdiv d_div (pdv 3) pd_int) (pdv 1)))))) psd_nil)) (pss_cons (psx (K := K) (ps_setD (i := 4) sc__law_draw.nd (pd_op op_mod d_mod (pd_callTy call_int1 d_int (by rfl) B.int (by decide +kernel) (pa_consD (pd_ix (k_ix (K := K)) d_ix (pd_forget (pdv 0)) pd_int) pa_nilD)) (pdv 1)))) (pss_cons (ps_asg (pex (K := K) (pd_op op_fdiv d_div (pd_ix (k_ix (K := K)) d_ix (pd_forget (pdv 0)) pd_int) (pdv 1))) (pg_sub (pv 0) pe_int set_list)) (pss_one (psx (K := K) (ps_retD (pdv 4)))))))), ?_⟩
    intro i z o2 σ' H' x sb r h0 hi
    refine ⟨_, fun d => d = .int (j + 1), r, ?_, fun d v aH as arv ae => ?_⟩
    · walk_at "r"; rfl
    subst ae
    obtain rfl := arv.intE
    refine ⟨_, h0, p, _, 3, 3, rfl, rfl, (x.same as).hp, rfl, ?_⟩
    obtain ⟨asb, ax, ar⟩ := pool_set (i' := i) (z' := z) (j' := j + 1) (x.same as) (r.s as) h0
    have asb' := (sb.trans (.same as)).trans asb
    refine ⟨_, ⟨fun env' => env' = [some (.at p (pD ns i z (j + 1) s)), some (.int m), im1 o2, none, none], fun d => ∃ r, d = .int r ∧ 0 ≤ r ∧ r < m⟩, ar, ?_, fun env' σ2 H2 s2 r2 e2 => ?_, fun d v H' s' rv ⟨y, ey, h1, h2⟩ => ?_⟩
    · walk_at "r"
      refine iteB (fun _ => ?_) fun _ => ?_
      · walk_at "r"
        refine ⟨_, fMul_c (by decide), ?_⟩
        walk_at "r"
        refine ⟨_, fMul_c (by decide), ?_⟩
        walk_at "r"
        refine ⟨_, fMul_c (by decide), ?_⟩
        walk_at "r"
        exact ⟨_, fMod_m hm, _, rfl, Int.emod_nonneg _ (by omega), Int.emod_lt_of_pos _ hm⟩
      · rfl
    · subst e2
      have x2 := ax.same s2
      have h02 : σ2[0]? = some (some (.ref p)) := by
        obtain ⟨v, e1, e3⟩ := r2.2 0 _ rfl
        obtain ⟨rfl, _⟩ := e3.atE
        exact e1
      -- value
      refine ⟨_, ⟨fun env' => env' = [some (.at p (pD ns i z (j + 1) s)), some (.int m), im1 o2, none, some (.int (z % m))], fun _ => False⟩, r2, ?_, fun env3 σ3 H3 s3 r3 e3 => ?_, fun _ _ _ _ _ h => h.elim⟩
      · walk_at "r"
        exact ⟨_, fMod_m hm, rfl⟩
      subst e3
      have x3 := x2.same s3
      have h03 : σ3[0]? = some (some (.ref p)) := by
        obtain ⟨v, e1, e3⟩ := r3.2 0 _ rfl
        obtain ⟨rfl, _⟩ := e3.atE
        exact e1
      refine ⟨_, fun d => d = .int (z / m), r3, ?_, fun d v bH bs brv be => ?_⟩
      · walk_at "r"
        exact ⟨_, fDiv_m hm hm2, rfl⟩
      subst be
      obtain rfl := brv.intE
      refine ⟨_, h03, p, _, 2, 2, rfl, rfl, (x3.same bs).hp, rfl, ?_⟩
      have x4 := x3.same bs
      have x5 := x4.sb (i' := i) (z' := z / m) (j' := j + 1) (.upd (o := .lst [.ref l, .int i, .int (z / m), .int (j + 1), .int s])) upd_same
      have nt : NoTup (bH p) := by rw [x4.hp]; trivial
      have r5 := (r3.s bs).mut (a := p) (o := .lst [.ref l, .int i, .int (z / m), .int (j + 1), .int s]) nt
      have sb5 : SB p H (L2.upd bH p (.lst [.ref l, .int i, .int (z / m), .int (j + 1), .int s])) := (((asb'.trans (.same s2)).trans (.same s3)).trans (.same bs)).trans .upd
      refine ⟨_, ⟨fun _ => False, fun d => d = .int (z % m)⟩, r5, ?_, fun _ _ _ _ _ h => h.elim, fun d v H' s' rv ed => ?_⟩
      · walk_at "r"; rfl
      · subst ed
        obtain rfl := rv.intE
        exact q _ _ _ _ _ (Int.emod_nonneg _ (by omega)) (Int.emod_lt_of_pos _ hm) (sb5.trans (.same s')) (x5.same s') hi
    · subst ey
      obtain rfl := rv.intE
      exact q _ _ _ _ _ h1 h2 (asb'.trans (.same s')) (ax.same s') hi
  obtain ⟨ts, hts, rts⟩ := tail
  refine ⟨_, pss_cons (ps_if (ptx (K := K) (PWD.pt (pw_andD (pt_cmpD op_le d_le (pd_ix (k_ix (K := K)) d_ix (pd_forget (pdv 0)) pd_int) pd_int (nomark _)) (pw_and1D (pt_cmpD op_lt d_lt (pd_ix (k_ix (K := K)) d_ix (pd_forget (pdv 0)) pd_int) (pd_callB (k_len (K := K)) d_len (by rfl) B.len PySem.boot_len (pa_consD (pd_ix (k_ix (K := K)) d_ix (pd_forget (pdv 0)) pd_int) pa_nilD)) (nomark _))))))
      (pss_cons (psx (K := K) (ps_setD (i := 2) sc__law_draw.nd (pd_ix (k_ix (K := K)) d_ix (pd_ix (k_ix (K := K)) d_ix (pd_forget (pdv 0)) pd_int) (pd_ix (k_ix (K := K)) d_ix (pd_forget (pdv 0)) pd_int)))) (pss_cons (ps_asg (pex (K := K) (pd_op (op_addQ (K := K)) d_add (pd_ix (k_ix (K := K)) d_ix (pd_forget (pdv 0)) pd_int) pd_int)) (pg_sub (pv 0) pe_int set_list)) (pss_cons (ps_asg (pex (K := K) (pdv 2)) (pg_sub (pv 0) pe_int set_list))
        (pss_one (ps_if (ptx (K := K) (pt_cmpD op_lt d_lt (pdv 2) pd_int (nomark _))) (pss_one (ps_asg (pex (K := K) (pd_call G__law_spread (hr.mono (by omega)) d__law_spread.m d__law_spread.F.kp d__law_spread.b (pa_consD (pdv 2) pa_nilD))) (pg_sub (pv 0) pe_int set_list))) pss_nil))))) pss_nil) hts, ?_⟩
  have r0 : RE K H [some (.at p (pD ns i z j s)), some (.int m), none, none, none] (start n__law_draw [.ref p, .int m]) := ((RE.none (n := 5) rfl).setS (i := 0) rfl (.at x.rp)).setS (i := 1) rfl .int
  refine ⟨_, fun b => b = true → i < ns.length, r0, ?_, fun b H1 s1 hb => ?_⟩
  · walk_at "r"
    refine iteB (fun _ => ?_) fun _ => ?_
    · walk_at "r"
      intro h
      have := of_decide_eq_true h
      simpa using this
    · exact fun h => nomatch h
  cases b with
  | false => exact iteF (rts i z none _ H1 (x.same s1) (.same s1) (r0.s s1) rfl hi)
  | true =>
    have hlt := hb rfl
    refine iteT ?_
    obtain ⟨n, hn⟩ : ∃ n : Int, L2.atI (ns.map D.int) i = some (.int n) := by
      obtain ⟨k, rfl⟩ := Int.eq_ofNat_of_zero_le hi
      have hk : k < ns.length := by omega
      exact ⟨ns[k], L2.atI_nat (by rw [List.getElem?_map, List.getElem?_eq_getElem hk]; rfl)⟩
    have x1 := x.same s1
    refine ⟨_, ⟨fun env' => env' = [some (.at p (pD ns i z j s)), some (.int m), some (.int n), none, none], fun _ => False⟩, r0.s s1, ?_, fun env1 σ1 H2 s2 r1 e1 => ?_, fun _ _ _ _ _ h => h.elim⟩
    · walk_at "r"
      exact ⟨_, hn, rfl⟩
    subst e1
    have x2 := x1.same s2
    have h01 : σ1[0]? = some (some (.ref p)) := by
      obtain ⟨v, e1, e3⟩ := r1.2 0 _ rfl
      obtain ⟨rfl, _⟩ := e3.atE
      exact e1
    -- pool[1] = pool[1] + 1
    refine ⟨_, fun d => d = .int (i + 1), r1, ?_, fun d v cH cs crv ce => ?_⟩
    · walk_at "r"; rfl
    subst ce
    obtain rfl := crv.intE
    refine ⟨_, h01, p, _, 1, 1, rfl, rfl, (x2.same cs).hp, rfl, ?_⟩
    obtain ⟨csb, cx, cr⟩ := pool_set (i' := i + 1) (z' := z) (j' := j) (x2.same cs) (r1.s cs) h01
    have csb' := ((SB.same (p := p) (s1.trans s2)).trans (.same cs)).trans csb
    -- pool[2] = cell
    refine ⟨_, fun d => d = .int (n), cr, ?_, fun d v eH es erv ee => ?_⟩
    · walk_at "r"; rfl
    subst ee
    obtain rfl := erv.intE
    refine ⟨_, h01, p, _, 2, 2, rfl, rfl, (cx.same es).hp, rfl, ?_⟩
    obtain ⟨esb, ex, er⟩ := pool_set (i' := i + 1) (z' := n) (j' := j) (cx.same es) (cr.s es) h01
    have esb' := (csb'.trans (.same es)).trans esb
    refine ⟨_, fun _ => True, er, ?_, fun b H5 s5 _ => ?_⟩
    · walk_at "r"; trivial
    cases b with
    | false => exact iteF (rts (i + 1) n _ _ H5 (ex.same s5) (esb'.trans (.same s5)) (er.s s5) h01 (by omega))
    | true =>
      refine iteT ?_
      have x5 := ex.same s5
      have r5 := er.s s5
      refine ⟨_, fun d => d = .int (sprT n 4), r5, ?_, fun d v gH gs grv ge => ?_⟩
      · walk_at "r"; exact ⟨_, ⟨n, rfl, rfl⟩, rfl⟩
      subst ge
      obtain rfl := grv.intE
      refine ⟨_, h01, p, _, 2, 2, rfl, rfl, (x5.same gs).hp, rfl, ?_⟩
      obtain ⟨gsb, gx, gr⟩ := pool_set (i' := i + 1) (z' := sprT n 4) (j' := j) (x5.same gs) (r5.s gs) h01
      exact rts (i + 1) (sprT n 4) _ _ _ gx (((esb'.trans (.same s5)).trans (.same gs)).trans gsb) gr h01 (by omega)
end
end KQ

set_option Elab.async false
set_option linter.all false
set_option maxRecDepth 100000
set_option maxHeartbeats 1000000
namespace KQ
open PySem L2
local macro_rules | `(tactic| walk_at "r") => `(tactic| repeat (first | (refine ⟨_, rfl, ?_⟩) | (refine ⟨rfl, ?_⟩) | (refine ⟨small_line (Nat.le_of_ble_eq_true rfl), ?_⟩) | (refine iteF' (by decide +kernel) ?_) | (refine iteT' (by decide +kernel) ?_) | (refine iteF' rfl ?_) | (refine iteT' rfl ?_) | (refine ⟨_, _, rfl, ?_⟩)))
section
variable {X : Cx} {K : PySem.W.Frag} {e : Expr} {te : TE} {de : DE} {pos p1 p2 : Pos} {n k : Nat}
/-- xs[:n] of a list -/
def dUpto (n : Nat) (t : DE) : DE := fun env Q => t env fun d => ∃ xs, d = .lst xs ∧ Q (.lst (xs.take n))
theorem cutV_upto (vs : List V) (n : Nat) : cutV vs none (some (n : Int)) = vs.take n := by
  unfold cutV
  rw [HT.sIx_none, HT.sIx_nat, List.drop_zero, Nat.sub_zero]
  by_cases h : n ≤ vs.length
  · rw [Nat.min_eq_left h]
  · rw [Nat.min_eq_right (by omega), List.take_of_length_le (Nat.le_refl _), List.take_of_length_le (by omega)]
theorem pd_upto (he : PD K X e te de) (q : X.K = K := by rfl) : PD K X (.Subscript e (.Slice none (some (.Constant (.int (n : Int)) k p1)) none p2) pos) (tSl (rSlL K) te tNoPart (tPart (tC (.int n)))) (dUpto n de) :=
  ⟨by subst q; exact pe_slice sl_list he.pe po_none (po_some pe_int), fun env Q σ H QV hq re kk => he.rd env _ σ H _ hq re fun v H1 d s r ⟨xs, e1, q⟩ => by
    subst e1
    obtain ⟨a, vs, rfl, hq, rs⟩ := r.lstE
    refine ⟨(n : Int), rfl, a, vs, rfl, hq, fun p hp => ?_⟩
    rw [cutV_upto]
    exact kk _ _ (.lst (xs.take n)) (s.trans (same_new hp)) (.lstN hp (rs.take n)) q⟩
end
section
variable {P : Program} {w : World} {K : PySem.W.Frag} {mg : Str → Option Value} {base : Heap}
theorem sc__law_pool : FnScope n__law_pool ["script"] (defScope s__law_pool) := ⟨rfl, rfl, rfl, by decide +kernel, rfl, by decide +kernel, by decide +kernel⟩
def spPool (K : PySem.W.Frag) : Sp := fun vs H Q _ => ∃ (a : Addr) (ns : List Int), vs = [.ref a] ∧ SqL K H a (ns.map V.int) ∧ ns.length ≤ 63 ∧ ∀ (p l : Addr) (s : Int) (H' : Hp), Same H H' → H p = none → PoolS K H' p l ns 0 0 0 s → Q (.ref p) H'
theorem pl_loop {e0 : Option D} {nx : Env' → Prop} {rt : D → Prop} {tb : DS} (htb : ∀ (DD : EndsD) (n s : Int), (∀ s', DD.nx [e0, some (.int s'), some (.int n)]) → tb DD [e0, some (.int s), some (.int n)]) :
    ∀ (l : List Int) (s : Int) (o : Option D), (∀ s' o, nx [e0, some (.int s'), o]) → dForL 2 tb (l.map D.int) ⟨nx, rt⟩ [e0, some (.int s), o]
  | [], s, o, h => by simpa [dForL] using h s o
  | n :: l, s, o, h => by
    show tb _ [e0, some (.int s), some (.int n)]
    exact htb _ n s fun s' => pl_loop htb l s' _ h
theorem ok_pool (B : Blt mg) {f : Addr} {fd : FuncData} (d__law_pool : Df K mg "_law_pool" s__law_pool ["script"] f fd) : FnOk P w K mg base CX0 1 f fd ["script"] (spPool K) := by
  refine d__law_pool.F.ok sc__law_pool (fun vs H Q E h => ?_) fun cdv A outer s0 H vs Q E hr h => ?_
  · obtain ⟨a, ns, rfl, _⟩ := h
    rfl
  obtain ⟨a, ns, rfl, hs, hl, q⟩ := h
  refine ⟨_, pss_cons (psx (K := K) (ps_setD (i := 1) sc__law_pool.nd pd_int)) (pss_cons (psx (K := K) (ps_forD PassesOwn.never rfl (pd_upto (n := 63) (pdv 0)) (pg_name (i := 2) sc__law_pool.nd rfl (Or.inl rfl)) (psd_one (ps_setD (i := 1) sc__law_pool.nd (pd_op op_mod d_mod (pd_callTy call_int1 d_int (by rfl) B.int (by decide +kernel) (pa_consD (pd_op (op_addQ (K := K)) d_add (pd_op op_mul d_mul (pdv 1) pd_int) (pdv 2)) pa_nilD)) pd_int))))) (pss_one (ps_ret (pfx (K := K) (pf_lst (pa_consD (pd_callTy (k_listOf (K := K)) d_listOf (by rfl) B.list (by decide +kernel) (pa_consD (pdv 0) pa_nilD)) (pa_consD pd_int (pa_consD pd_int (pa_consD pd_int (pa_consD (pdv 1) pa_nilD)))))))))), ?_⟩
  have r0 : RE K H [some (.lst (ns.map .int)), none, none] (start n__law_pool [.ref a]) := (RE.none (n := 3) rfl).setS (i := 0) rfl (.lst hs (Rps.ints ns))
  refine ⟨_, ⟨fun env' => env' = [some (.lst (ns.map .int)), some (.int 7), none], fun _ => False⟩, r0, by walk_at "r"; rfl, fun env1 σ1 H1 s1 r1 e1 => ?_, fun _ _ _ _ _ h => h.elim⟩
  subst e1
  refine ⟨_, ⟨fun env' => ∃ s o, env' = [some (.lst (ns.map .int)), some (.int s), o], fun _ => False⟩, r1, ?_, fun env2 σ2 H2 s2 r2 ⟨s, o, e2⟩ => ?_, fun _ _ _ _ _ h => h.elim⟩
  · walk_at "r"
    rw [← List.map_take]
    refine pl_loop (fun DD n s q => ?_) _ 7 none fun s' o => ⟨s', o, rfl⟩
    walk_at "r"
    refine ⟨_, fMul_c (by decide), ?_⟩
    walk_at "r"
    exact q _
  subst e2
  refine ⟨_, fun ds => ds = [.lst (ns.map .int), .int 0, .int 0, .int 0, .int s], r2, ?_, fun p vs H3 ds s3 hn hp rv e3 => ?_⟩
  · walk_at "r"; rfl
  subst e3
  unfold Rps at rv
  obtain ⟨v0, r', rfl, x0, rv⟩ := rv
  obtain ⟨l, ws, rfl, hq, rw'⟩ := x0.lstE
  have := rw'.intsE
  subst this
  unfold Rps at rv
  obtain ⟨v1, r', rfl, x1, rv⟩ := rv
  unfold Rps at rv
  obtain ⟨v2, r', rfl, x2, rv⟩ := rv
  unfold Rps at rv
  obtain ⟨v3, r', rfl, x3, rv⟩ := rv
  obtain ⟨v4, rfl, x4⟩ := rv.one
  obtain rfl := x1.intE
  obtain rfl := x2.intE
  obtain rfl := x3.intE
  obtain rfl := x4.intE
  exact q p l s H3 ((s1.trans s2).trans s3) ((s1.trans s2).free hn) ⟨hp, hq⟩
end
end KQ

set_option Elab.async false
set_option linter.all false
set_option maxRecDepth 100000
set_option maxHeartbeats 1000000
namespace KQ
open PySem L2
local macro_rules | `(tactic| walk_at "r") => `(tactic| repeat (first | (refine ⟨_, rfl, ?_⟩) | (refine ⟨rfl, ?_⟩) | (refine ⟨small_line (Nat.le_of_ble_eq_true rfl), ?_⟩) | (refine iteF' (by decide +kernel) ?_) | (refine iteT' (by decide +kernel) ?_) | (refine iteF' rfl ?_) | (refine iteT' rfl ?_) | (refine ⟨_, _, rfl, ?_⟩)))
/-- a list of another length stays when the pool is changed -/
theorem seq_sb {K : PySem.W.Frag} {H H' : Hp} {p q : Addr} {xs ys : List V} (hp : H p = some (.lst xs)) (hq : SqL K H q ys) (hl : ys.length ≠ xs.length) (b : SB p H H') : SqL K H' q ys := by
  rcases hq with (h | ⟨o, h⟩) | h
  · refine .inl (.inl (b _ _ h ?_))
    rintro rfl
    rw [hp] at h
    cases h
    exact hl rfl
  · refine .inl (.inr ⟨o, b _ _ h ?_⟩)
    rintro rfl
    rw [hp] at h; cases h
  · exact .inr h
theorem sb_tups {H H' : Hp} {p : Addr} {xs : List V} (hp : H p = some (.lst xs)) (s : SB p H H') : TupS H H' := fun b => ⟨fun xs h => s b _ h (by rintro rfl; rw [hp] at h; cases h), fun o xs h => s b _ h (by rintro rfl; rw [hp] at h; cases h)⟩
def wl8 : List (Nat × Nat) := [(1, 1), (1, 2), (2, 1), (2, 2), (1, 3), (3, 1), (2, 3), (3, 2)]
theorem wl8_ok : ∀ x ∈ wl8, wok x.1 x.2 := by
  show ∀ x ∈ wl8, 1 ≤ x.1 ∧ x.1 ≤ 3 ∧ 1 ≤ x.2 ∧ x.2 ≤ 3
  decide
section
variable {P : Program} {w : World} {K : PySem.W.Frag} {mg : Str → Option Value} {base : Heap}
theorem sc__law_pick : FnScope n__law_pick ["pool", "items"] (defScope s__law_pick) := ⟨rfl, rfl, rfl, by decide +kernel, rfl, by decide +kernel, by decide +kernel⟩
theorem sc__law_world : FnScope n__law_world ["pool", "most"] (defScope s__law_world) := ⟨rfl, rfl, rfl, by decide +kernel, rfl, by decide +kernel, by decide +kernel⟩
theorem sc__law_condition : FnScope n__law_condition ["pool", "world", "deep"] (defScope s__law_condition) := ⟨rfl, rfl, rfl, by decide +kernel, rfl, by decide +kernel, by decide +kernel⟩
def spPick (K : PySem.W.Frag) : Sp := fun vs H Q _ => ∃ (p l u : Addr) (ns : List Int) (i z j s : Int), vs = [.ref p, .ref u] ∧ PoolS K H p l ns i z j s ∧ 0 ≤ i ∧ Rp K H (.lst (wl8.map fun x => wD x.1 x.2)) (.ref u) ∧
  ∀ (t k : Nat) (v : V) (H' : Hp) (i' z' j' : Int), wok t k → Rp K H' (wD t k) v → SB p H H' → PoolS K H' p l ns i' z' j' s → 0 ≤ i' → Q v H'
theorem ok_pick (B : Blt mg) {f f0 f1 : Addr} {fd fd0 fd1 : FuncData} (d__law_pick : Df K mg "_law_pick" s__law_pick ["pool", "items"] f0 fd0) (d__law_draw : Df K mg "_law_draw" s__law_draw ["pool", "many"] f fd) (d__law_spread : Df K mg "_law_spread" s__law_spread ["cell"] f1 fd1) : FnOk P w K mg base CX0 3 f0 fd0 ["pool", "items"] (spPick K) := by
  have G := ok_draw (P := P) (w := w) (base := base) B d__law_draw d__law_spread
  refine d__law_pick.F.ok sc__law_pick (fun vs H Q E h => ?_) fun cdv A outer s0 H vs Q E hr h => ?_
  · obtain ⟨p, l, u, ns, i, z, j, s, rfl, _⟩ := h
    rfl
  obtain ⟨p, l, u, ns, i, z, j, s, rfl, x, hi, hu, q⟩ := h
  refine ⟨_, pss_one (ps_ret (pe_ix ix_seq (pv 1) (pe_call G (hr.mono (by omega)) (by rfl) d__law_draw.m d__law_draw.F.kp d__law_draw.b .nil pass0 (pa_cons (pv 0) (pa_cons (pe_callB call_len (by rfl) B.len PySem.boot_len (pa_cons (pv 1) pa_nil)) pa_nil))) (by intro _ _; rfl))), ?_⟩
  obtain ⟨u', us, eu, hq, ru⟩ := hu.lstE
  cases eu
  have hlen : us.length = 8 := ru.length
  refine ⟨_, rfl, _, rfl, _, rfl, _, 8, rfl, .inl ⟨us, hq, hlen.symm⟩, p, l, ns, i, z, j, s, 8, rfl, x, hi, by decide, by decide, fun r H' i' z' j' h1 h2 sb x' hi' => ?_⟩
  have hu' : Rp K H' (.lst (wl8.map fun x => wD x.1 x.2)) (.ref u) := by
    refine .lst (seq_sb x.hp hq (by rw [hlen]; show 8 ≠ 5; decide) sb) (Rps.tups (sb_tups x.hp sb) _ _ (by decide +kernel) ru)
  obtain ⟨n, rfl⟩ := Int.eq_ofNat_of_zero_le h1
  have hn : n < 8 := by omega
  refine d_ix H' _ _ _ _ (wD (wl8[n]'hn).1 (wl8[n]'hn).2) _ hu' (.int (i := (n : Int))) (L2.atI_nat (by rw [List.getElem?_map, List.getElem?_eq_getElem hn]; rfl)) fun v H3 s3 rv => ?_
  exact q _ _ v H3 _ _ _ (wl8_ok _ (List.getElem_mem hn)) rv (sb.trans (.same s3)) (x'.same s3) hi'
def spWorld (K : PySem.W.Frag) : Sp := fun vs H Q _ => ∃ (p l : Addr) (ns : List Int) (i z j s : Int), vs = [.ref p, .int 6] ∧ PoolS K H p l ns i z j s ∧ 0 ≤ i ∧
  ∀ (t k : Nat) (v : V) (H' : Hp) (i' z' j' : Int), wok t k → Rp K H' (wD t k) v → SB p H H' → PoolS K H' p l ns i' z' j' s → 0 ≤ i' → Q v H'
theorem ok_world (B : Blt mg) {f f0 f1 f2 : Addr} {fd fd0 fd1 fd2 : FuncData} (d__law_world : Df K mg "_law_world" s__law_world ["pool", "most"] f2 fd2) (d__law_pick : Df K mg "_law_pick" s__law_pick ["pool", "items"] f0 fd0) (d__law_draw : Df K mg "_law_draw" s__law_draw ["pool", "many"] f fd) (d__law_spread : Df K mg "_law_spread" s__law_spread ["cell"] f1 fd1) : FnOk P w K mg base CX0 4 f2 fd2 ["pool", "most"] (spWorld K) := by
  have G := ok_pick (P := P) (w := w) (base := base) B d__law_pick d__law_draw d__law_spread
  refine d__law_world.F.ok sc__law_world (fun vs H Q E h => ?_) fun cdv A outer s0 H vs Q E hr h => ?_
  · obtain ⟨p, l, ns, i, z, j, s, rfl, _⟩ := h
    rfl
  obtain ⟨p, l, ns, i, z, j, s, rfl, x, hi, q⟩ := h
  refine ⟨_, pss_one (ps_ret (pe_call G (hr.mono (by omega)) (by rfl) d__law_pick.m d__law_pick.F.kp d__law_pick.b .nil pass0 (pa_cons (pv 0) (pa_cons (pex (K := K) (pd_lcT rfl sc__law_world.nd (pd_tup (pa_consD (pd_tup (pa_consD pd_int (pa_consD pd_int pa_nilD))) (pa_consD (pd_tup (pa_consD pd_int (pa_consD pd_int pa_nilD))) (pa_consD (pd_tup (pa_consD pd_int (pa_consD pd_int pa_nilD))) (pa_consD (pd_tup (pa_consD pd_int (pa_consD pd_int pa_nilD))) (pa_consD (pd_tup (pa_consD pd_int (pa_consD pd_int pa_nilD))) (pa_consD (pd_tup (pa_consD pd_int (pa_consD pd_int pa_nilD))) (pa_consD (pd_tup (pa_consD pd_int (pa_consD pd_int pa_nilD))) (pa_consD (pd_tup (pa_consD pd_int (pa_consD pd_int pa_nilD))) pa_nilD))))))))) (blkOk_by (N := n__law_world) (sc := defScope s__law_world) (by decide +kernel)) (fun _ _ _ _ _ => pg_name (i := 2) sc__law_world.nd rfl (Or.inl rfl)) (fun _ _ _ _ _ => (pts_oneD (pt_cmpD op_le d_le (pd_op op_mul d_mul (pd_ix (k_ix (K := K)) d_ix (pdv 2) pd_int) (pd_ix (k_ix (K := K)) d_ix (pdv 2) pd_int)) (pdv 1) (nomark _)))) (fun _ _ _ _ _ => (pdv 2)))) pa_nil)))), ?_⟩
  have r0 : RE K H [none, some (.int 6), none] (start n__law_world [.ref p, .int 6]) := (RE.none (n := 3) rfl).setS (i := 1) rfl .int
  refine ⟨_, rfl, _, fun d => d = .lst (wl8.map fun x => wD x.1 x.2), r0, ?_, fun d v H1 s1 rv ed => ?_⟩
  · walk_at "r"
    exact rfl
  · subst ed
    obtain ⟨u, us, rfl, _, _⟩ := rv.lstE
    exact ⟨p, l, u, ns, i, z, j, s, rfl, x.same s1, hi, rv, fun t k v H' i' z' j' h1 h2 sb x' hi' => q t k v H' i' z' j' h1 h2 ((SB.same s1).trans sb) x' hi'⟩
end
end KQ

set_option Elab.async false
set_option linter.all false
set_option maxRecDepth 100000
set_option maxHeartbeats 1000000
namespace KQ
open PySem L2
local macro_rules | `(tactic| walk_at "r") => `(tactic| repeat (first | (refine ⟨_, rfl, ?_⟩) | (refine ⟨rfl, ?_⟩) | (refine ⟨small_line (Nat.le_of_ble_eq_true rfl), ?_⟩) | (refine iteF' (by decide +kernel) ?_) | (refine iteT' (by decide +kernel) ?_) | (refine iteF' rfl ?_) | (refine iteT' rfl ?_) | (refine ⟨_, _, rfl, ?_⟩)))
section
variable {P : Program} {w : World} {K : PySem.W.Frag} {mg : Str → Option Value} {base : Heap}
def spLC (K : PySem.W.Frag) (n : Nat) : Sp := fun vs H Q _ => ∃ (p l : Addr) (ns : List Int) (i z j s : Int) (t k : Nat) (u : V), vs = [.ref p, u, .int n] ∧ PoolS K H p l ns i z j s ∧ 0 ≤ i ∧ wok t k ∧ Rp K H (wD t k) u ∧
  ∀ (c : Cnd) (v : V) (H' : Hp) (i' z' j' : Int), c.wf t → c.dep ≤ n + 2 → c.size + 1 ≤ 2 ^ (n + 2) → Rp K H' c.enc v → SB p H H' → PoolS K H' p l ns i' z' j' s → 0 ≤ i' → Q v H'
theorem ok_lc (B : Blt mg) {f f0 f1 : Addr} {fd fd0 fd1 : FuncData} (d__law_condition : Df K mg "_law_condition" s__law_condition ["pool", "world", "deep"] f0 fd0) (d__law_draw : Df K mg "_law_draw" s__law_draw ["pool", "many"] f fd) (d__law_spread : Df K mg "_law_spread" s__law_spread ["cell"] f1 fd1) (n : Nat) : FnOk P w K mg base CX0 (n + 3) f0 fd0 ["pool", "world", "deep"] (spLC K n) := by
  have GD := ok_draw (P := P) (w := w) (base := base) B d__law_draw d__law_spread
  have main : ∀ (n : Nat), (∀ m, n = m + 1 → FnOk P w K mg base CX0 (n + 2) f0 fd0 ["pool", "world", "deep"] (spLC K m)) → FnOk P w K mg base CX0 (n + 3) f0 fd0 ["pool", "world", "deep"] (spLC K n) := by
    intro n ih
    have ih' : ∃ sp0 : Sp, FnOk P w K mg base CX0 (n + 2) f0 fd0 ["pool", "world", "deep"] sp0 ∧ ∀ m, n = m + 1 → sp0 = spLC K m := by
      cases n with
      | zero => exact ⟨fun _ _ _ _ => False, d__law_condition.F.ok sc__law_condition (fun _ _ _ _ h => h.elim) (fun _ _ _ _ _ _ _ _ _ h => h.elim), fun m e => nomatch e⟩
      | succ m => exact ⟨_, ih m rfl, fun m' e => by cases e; rfl⟩
    obtain ⟨sp0, GC, hsp⟩ := ih'
    refine d__law_condition.F.ok sc__law_condition (fun vs H Q E h => ?_) fun cdv A outer s0 H vs Q E hr h => ?_
    · obtain ⟨p, l, ns, i, z, j, s, t, k, u, rfl, _⟩ := h
      rfl
    obtain ⟨p, l, ns, i, z, j, s, t, k, u, rfl, x, hi, hw, hu, q⟩ := h
    have hrd : Room 2 _ := hr.mono (by omega)
    have hu0 := hu
    have tail : ∃ ts, PSs (cxOf CX0 P w K mg base n__law_condition "_law_condition" (defScope s__law_condition) f0 cdv A outer s0 H E).nox (List.drop 1 (defBody s__law_condition)) ts ∧
        ∀ (r i z j : Int) (H' : Hp), 0 ≤ r → r < 7 → (n = 0 → r < 4) → SB p H H' → PoolS K H' p l ns i z j s → 0 ≤ i → ts { nx := fun _ H' => Q .non H', rt := Q } [some (.ref p), some u, some (.int n), some (.int r)] H' := by
      refine ⟨_, (pss_cons (ps_if (pt_cmpR op_lt (pv 3) pe_int (nomark _)) (pss_one (ps_ret (pe_tup (pa_cons pe_str (pa_cons (pe_call GD hrd (by rfl) d__law_draw.m d__law_draw.F.kp d__law_draw.b .nil pass0 (pa_cons (pv 0) (pa_cons (pe_ix ix_seq (pv 1) pe_int (by intro _ _; rfl)) pa_nil))) pa_nil))))) pss_nil)
      (pss_cons (ps_if (pt_cmpR op_eq (pv 3) pe_int (nomark _)) (pss_one (ps_ret (pe_tup (pa_cons pe_str (pa_cons (pe_tup (pa_cons pe_str (pa_cons (pe_call GD hrd (by rfl) d__law_draw.m d__law_draw.F.kp d__law_draw.b .nil pass0 (pa_cons (pv 0) (pa_cons (pe_ix ix_seq (pv 1) pe_int (by intro _ _; rfl)) pa_nil))) pa_nil))) pa_nil))))) pss_nil)
      (pss_cons (ps_if (pt_cmpR op_eq (pv 3) pe_int (nomark _)) (pss_one (ps_ret (pe_ix ix_seq (pex (K := K) (pd_tup (pa_consD (pd_tup (pa_consD pd_str pa_nilD)) (pa_consD (pd_tup (pa_consD pd_str pa_nilD)) pa_nilD)))) (pe_call GD hrd (by rfl) d__law_draw.m d__law_draw.F.kp d__law_draw.b .nil pass0 (pa_cons (pv 0) (pa_cons pe_int pa_nil))) (by intro _ _; rfl)))) pss_nil)
      (pss_cons (ps_if (pt_cmpR op_eq (pv 3) pe_int (nomark _)) (pss_one (ps_ret (pe_tup (pa_cons pe_str (pa_cons (pe_call GC hr (by rfl) d__law_condition.m d__law_condition.F.kp d__law_condition.b .nil pass0 (pa_cons (pv 0) (pa_cons (pv 1) (pa_cons (pe_op op_sub (pv 2) pe_int) pa_nil)))) pa_nil))))) pss_nil)
      (pss_one (ps_ret (pe_tup (pa_cons (pex (K := K) (pd_ix (k_ix (K := K)) d_ix (pd_tup (pa_consD pd_str (pa_consD pd_str pa_nilD))) (pd_op op_sub d_sub (pdv 3) pd_int))) (pa_cons (pe_call GC hr (by rfl) d__law_condition.m d__law_condition.F.kp d__law_condition.b .nil pass0 (pa_cons (pv 0) (pa_cons (pv 1) (pa_cons (pe_op op_sub (pv 2) pe_int) pa_nil))))
        (pa_cons (pe_call GC hr (by rfl) d__law_condition.m d__law_condition.F.kp d__law_condition.b .nil pass0 (pa_cons (pv 0) (pa_cons (pv 1) (pa_cons (pe_op op_sub (pv 2) pe_int) pa_nil)))) pa_nil)))))))))), ?_⟩
      intro r i z j H' hr0 hr7 hr4 sb x' hi
      have hu := Rp.tups (sb_tups x.hp sb) _ _ rfl hu0
      have pw : 4 ≤ 2 ^ (n + 2) := by
        have : 2 ^ 2 ≤ 2 ^ (n + 2) := Nat.pow_le_pow_right (by decide) (by omega)
        exact this
      refine ⟨_, rfl, r, 2, rfl, rfl, _, rfl, iteB (fun e => ?_) fun e => ?_⟩
      · -- ('test', ..)
        refine ⟨_, rfl, _, rfl, d_ix H' u (.int 0) (wD t k) (.int 0) (.int t) _ hu .int rfl fun v H2 s2 rv => ?_⟩
        obtain rfl := rv.intE
        refine ⟨p, l, ns, i, z, j, s, t, rfl, x'.same s2, hi, by have := hw.1; omega, by have := hw.2.1; omega, fun r' H3 i' z' j' h1 h2 sb3 x3 hi' => ⟨small_line (Nat.le_of_ble_eq_true rfl), fun q1 hq1 => ?_⟩⟩
        obtain ⟨m, rfl⟩ := Int.eq_ofNat_of_zero_le h1
        exact q (.test m) _ _ _ _ _ (by show m < t; omega) (by simp [Cnd.dep]) (by simp only [Cnd.size]; omega) (.tupN hq1 (.cons .str (.cons .int .nil))) (((sb.trans (.same s2)).trans sb3).trans (.same (same_new hq1))) (x3.same (same_new hq1)) hi'
      have e1 : ¬ r < 2 := of_decide_eq_false e
      refine ⟨_, rfl, rfl, _, rfl, iteB (fun e => ?_) fun e => ?_⟩
      · -- ('not', ('test', ..))
        refine ⟨_, rfl, _, rfl, d_ix H' u (.int 0) (wD t k) (.int 0) (.int t) _ hu .int rfl fun v H2 s2 rv => ?_⟩
        obtain rfl := rv.intE
        refine ⟨p, l, ns, i, z, j, s, t, rfl, x'.same s2, hi, by have := hw.1; omega, by have := hw.2.1; omega, fun r' H3 i' z' j' h1 h2 sb3 x3 hi' => ⟨small_line (Nat.le_of_ble_eq_true rfl), fun q1 hq1 => ⟨small_line (Nat.le_of_ble_eq_true rfl), fun q2 hq2 => ?_⟩⟩⟩
        obtain ⟨m, rfl⟩ := Int.eq_ofNat_of_zero_le h1
        exact q (.not (.test m)) _ _ _ _ _ (by show m < t; omega) (by simp [Cnd.dep]) (by simp only [Cnd.size]; omega) (.tupN hq2 (.cons .str (.cons (.tupN hq1 (.cons .str (.cons .int .nil))) .nil))) ((((sb.trans (.same s2)).trans sb3).trans (.same (same_new hq1))).trans (.same (same_new hq2))) ((x3.same (same_new hq1)).same (same_new hq2)) hi'
      have e2 : r ≠ 2 := fun h => by subst h; simp at e
      refine ⟨_, rfl, rfl, _, rfl, iteB (fun e => ?_) fun e => ?_⟩
      · -- (('yes',), ('no',))[..]
        refine ⟨List.replicate 4 none, fun d => d = .tup [Cnd.yes.enc, Cnd.no.enc], RE.none rfl, by walk_at "r"; rfl, fun d v H2 s2 rv ed => ?_⟩
        subst ed
        refine ⟨_, rfl, p, l, ns, i, z, j, s, 2, rfl, x'.same s2, hi, by decide, by decide, fun r' H3 i' z' j' h1 h2 sb3 x3 hi' => ?_⟩
        have rv3 := Rp.tups (sb_tups (x'.same s2).hp sb3) _ _ rfl rv
        have hr2 : r' = 0 ∨ r' = 1 := by omega
        rcases hr2 with rfl | rfl
        · exact d_ix H3 v (.int 0) (.tup [Cnd.yes.enc, Cnd.no.enc]) (.int 0) Cnd.yes.enc _ rv3 .int rfl fun v4 H4 s4 rv4 => q .yes _ _ _ _ _ trivial (by simp [Cnd.dep]) (by simp only [Cnd.size]; omega) rv4 (((sb.trans (.same s2)).trans sb3).trans (.same s4)) (x3.same s4) hi'
        · exact d_ix H3 v (.int 1) (.tup [Cnd.yes.enc, Cnd.no.enc]) (.int 1) Cnd.no.enc _ rv3 .int rfl fun v4 H4 s4 rv4 => q .no _ _ _ _ _ trivial (by simp [Cnd.dep]) (by simp only [Cnd.size]; omega) rv4 (((sb.trans (.same s2)).trans sb3).trans (.same s4)) (x3.same s4) hi'
      have e3 : r ≠ 3 := fun h => by subst h; simp at e
      obtain ⟨m, rfl⟩ : ∃ m, n = m + 1 := by
        cases n with
        | zero => have := hr4 rfl; omega
        | succ m => exact ⟨m, rfl⟩
      have hsp := hsp m rfl
      subst hsp
      have em : (((m + 1 : Nat) : Int) - 1) = (m : Int) := by omega
      have ev : ([V.ref p, u, .int (((m + 1 : Nat) : Int) - 1)] : List V) = [.ref p, u, .int (m : Int)] := by rw [em]
      have pw2 : 2 ^ (m + 1 + 2) = 2 * 2 ^ (m + 2) := by rw [show m + 1 + 2 = (m + 2) + 1 by omega, Nat.pow_succ]; omega
      refine ⟨_, rfl, rfl, _, rfl, iteB (fun e => ?_) fun e => ?_⟩
      · -- ('not', ..)
        refine ⟨_, rfl, _, rfl, _, rfl, _, _, rfl, rfl, ?_⟩
        refine ⟨p, l, ns, i, z, j, s, t, k, u, ev, x', hi, hw, hu, fun c v H3 i' z' j' h1 h2 h3 rv sb3 x3 hi' => ⟨small_line (Nat.le_of_ble_eq_true rfl), fun q1 hq1 => ?_⟩⟩
        exact q (.not c) _ _ _ _ _ h1 (by simp only [Cnd.dep]; omega) (by simp only [Cnd.size]; omega) (.tupN hq1 (.cons .str (.cons rv .nil))) ((sb.trans sb3).trans (.same (same_new hq1))) (x3.same (same_new hq1)) hi'
      have e4 : r ≠ 4 := fun h => by subst h; simp at e
      have hop : ∃ (op : Str) (mk : Cnd → Cnd → Cnd), L2.atI ([.str "and", .str "or"] : List D) (r - 5) = some (.str op) ∧ (∀ a b, (mk a b).enc = .tup [.str op, a.enc, b.enc] ∧ ((mk a b).wf t ↔ a.wf t ∧ b.wf t) ∧ (mk a b).dep = max a.dep b.dep + 1 ∧ (mk a b).size = a.size + b.size + 1) := by
        have : r = 5 ∨ r = 6 := by omega
        rcases this with rfl | rfl
        · exact ⟨"and", Cnd.and, rfl, fun a b => ⟨rfl, Iff.rfl, rfl, rfl⟩⟩
        · exact ⟨"or", Cnd.or, rfl, fun a b => ⟨rfl, Iff.rfl, rfl, rfl⟩⟩
      obtain ⟨op, mk, hat, hmk⟩ := hop
      refine ⟨[none, none, none, some (.int r)], fun d => d = .str op, (RE.none (n := 4) rfl).setS (i := 3) rfl .int, ?_, fun d v H2 s2 rv ed => ?_⟩
      · walk_at "r"
        exact ⟨_, hat, rfl⟩
      subst ed
      obtain rfl := rv.strE
      refine ⟨_, rfl, _, rfl, _, rfl, _, _, rfl, rfl, ?_⟩
      refine ⟨p, l, ns, i, z, j, s, t, k, u, ev, x'.same s2, hi, hw, hu.s s2, fun c1 v1 H3 i3 z3 j3 a1 a2 a3 rv1 sb3 x3 hi3 => ?_⟩
      refine ⟨_, rfl, _, rfl, _, rfl, _, _, rfl, rfl, ?_⟩
      refine ⟨p, l, ns, i3, z3, j3, s, t, k, u, ev, x3, hi3, hw, Rp.tups (sb_tups (x'.same s2).hp sb3) _ _ rfl (hu.s s2), fun c2 v2 H4 i4 z4 j4 b1 b2 b3 rv2 sb4 x4 hi4 => ⟨small_line (Nat.le_of_ble_eq_true rfl), fun q1 hq1 => ?_⟩⟩
      obtain ⟨g1, g2, g3, g4⟩ := hmk c1 c2
      refine q (mk c1 c2) _ _ _ _ _ (g2.mpr ⟨a1, b1⟩) (by rw [g3]; omega) (by rw [g4]; omega) ?_ ((((sb.trans (.same s2)).trans sb3).trans sb4).trans (.same (same_new hq1))) (x4.same (same_new hq1)) hi4
      rw [g1]
      exact .tupN hq1 (.cons .str (.cons (Rp.tups (sb_tups x3.hp sb4) _ _ (enc_imm _) rv1) (.cons rv2 .nil)))
    obtain ⟨ts, hts, rts⟩ := tail
    refine ⟨_, pss_cons (ps_set (i := 3) sc__law_condition.nd rfl (Or.inl rfl) (pe_ifExp (pt_cmpR op_gt (pv 2) pe_int (nomark _))
        (pe_call GD hrd (by rfl) d__law_draw.m d__law_draw.F.kp d__law_draw.b .nil pass0 (pa_cons (pv 0) (pa_cons pe_int pa_nil))) (pe_call GD hrd (by rfl) d__law_draw.m d__law_draw.F.kp d__law_draw.b .nil pass0 (pa_cons (pv 0) (pa_cons pe_int pa_nil)))) rfl (Or.inl rfl)) hts, ?_⟩
    refine ⟨_, rfl, _, _, rfl, rfl, _, rfl, iteB (fun e => ?_) fun e => ?_⟩
    · have e : (0 : Int) < n := of_decide_eq_true e
      exact ⟨_, rfl, p, l, ns, i, z, j, s, 7, rfl, x, hi, by decide, by decide, fun r H' i' z' j' h1 h2 sb x' hi' => rts r i' z' j' H' h1 h2 (fun h => by omega) sb x' hi'⟩
    · exact ⟨_, rfl, p, l, ns, i, z, j, s, 4, rfl, x, hi, by decide, by decide, fun r H' i' z' j' h1 h2 sb x' hi' => rts r i' z' j' H' h1 (by omega) (fun _ => h2) sb x' hi'⟩
  induction n with
  | zero => exact main 0 fun m e => nomatch e
  | succ n ih => exact main (n + 1) fun m e => by cases e; exact ih
end
end KQ

set_option Elab.async false
set_option linter.all false
set_option maxRecDepth 100000
set_option maxHeartbeats 1000000
namespace KQ
open PySem L2
/-! ### what the conditions say -/
theorem stp_congr {t : Nat} {a b : Tm} (h : ∀ n, a.st n = b.st n) : stp t [a] = stp t [b] := by
  unfold stp
  refine List.filter_congr fun n _ => ?_
  simp [h n]
theorem stp_ask (t : Nat) (c : Cnd) : stp t [.ask c] = whr t c := by
  unfold stp whr
  refine List.filter_congr fun n _ => ?_
  simp [Tm.st]
theorem atomC_ev : ∀ t, t ≤ 3 → ∀ b, b < 2 ^ t → ∀ a, a < 2 ^ t → 1 ≤ t → (atomC t b).ev a = decide (a = b) := by
  intro t ht
  have h3 : t = 0 ∨ t = 1 ∨ t = 2 ∨ t = 3 := by omega
  rcases h3 with rfl | rfl | rfl | rfl
  · intro _ _ _ _ h; omega
  · decide +kernel
  · decide +kernel
  · decide +kernel
theorem joinC_or_ev {a : Nat} : ∀ {xs : List Cnd}, xs ≠ [] → (joinC .or xs).ev a = xs.any fun c => c.ev a
  | [], h => absurd rfl h
  | [x], _ => by simp [joinC]
  | x :: y :: xs, _ => by
    show (x.ev a || (joinC .or (y :: xs)).ev a) = _
    rw [joinC_or_ev (by simp)]
    simp
theorem condC_ev {t : Nat} {ns : List Nat} (h1 : 1 ≤ t) (h3 : t ≤ 3) {a : Nat} (ha : a < 2 ^ t) : (condC t ns).ev a = decide (a ∈ ns) := by
  have hm : a ∈ rowsOf t ns ↔ a ∈ ns := by
    unfold rowsOf
    rw [List.mem_filter, List.mem_range, decide_eq_true_eq]
    exact ⟨fun h => h.2, fun h => ⟨ha, h⟩⟩
  unfold condC
  split
  · rename_i h0
    have : rowsOf t ns = [] := List.eq_nil_of_length_eq_zero h0
    rw [this] at hm
    exact (decide_eq_false fun h => nomatch hm.mpr h).symm
  · split
    · rename_i h0
      have : a ∈ rowsOf t ns := by
        unfold rowsOf at h0 ⊢
        have h2 : (List.range (2 ^ t)).filter (fun a => decide (a ∈ ns)) = List.range (2 ^ t) := List.Sublist.eq_of_length (List.filter_sublist) (by rw [h0, List.length_range])
        rw [h2, List.mem_range]; exact ha
      exact (decide_eq_true (hm.mp this)).symm
    · rename_i h0 _
      rw [joinC_or_ev (by intro e; have := congrArg List.length e; simp at this; exact h0 (by rw [this]; rfl))]
      rw [List.any_map, Bool.eq_iff_iff, List.any_eq_true, decide_eq_true_eq, ← hm]
      constructor
      · rintro ⟨b, hb, e⟩
        have hb2 : b < 2 ^ t := by
          unfold rowsOf at hb
          exact List.mem_range.mp (List.mem_filter.mp hb).1
        have := atomC_ev t h3 b hb2 a ha h1
        simp only [Function.comp] at e
        rw [this, decide_eq_true_eq] at e
        exact e ▸ hb
      · intro h
        refine ⟨a, h, ?_⟩
        simp only [Function.comp]
        rw [atomC_ev t h3 a ha a ha h1]
        simp
theorem whr_mem {t : Nat} {c : Cnd} {a : Nat} : a ∈ whr t c ↔ a < 2 ^ t ∧ c.ev a = true := by unfold whr; rw [List.mem_filter, List.mem_range]
theorem whr_condC {t : Nat} {b : Cnd} (h1 : 1 ≤ t) (h3 : t ≤ 3) : whr t (condC t (whr t b)) = whr t b := by
  show (List.range (2 ^ t)).filter _ = (List.range (2 ^ t)).filter _
  refine List.filter_congr fun a ha => ?_
  have ha := List.mem_range.mp ha
  rw [condC_ev h1 h3 ha, Bool.eq_iff_iff, decide_eq_true_eq, whr_mem]
  exact ⟨fun h => h.2, fun h => ⟨ha, h⟩⟩
theorem condC_congr {t : Nat} {ns ms : List Nat} (h : ∀ a, a ∈ ns ↔ a ∈ ms) : condC t ns = condC t ms := by
  have : rowsOf t ns = rowsOf t ms := by
    unfold rowsOf
    refine List.filter_congr fun a _ => ?_
    rw [Bool.eq_iff_iff, decide_eq_true_eq, decide_eq_true_eq]
    exact h a
  unfold condC
  rw [this]
theorem wk_rows (t : Nat) (b c : Cnd) : wkRows t (.ask b) c = whr t (.or (.not b) c) := by
  unfold wkRows
  show _ = (List.range (2 ^ t)).filter _
  refine List.filter_congr fun a ha => ?_
  have ha := List.mem_range.mp ha
  have : decide (a ∈ whr t c) = c.ev a := by
    rw [Bool.eq_iff_iff, decide_eq_true_eq, whr_mem]
    exact ⟨fun h => h.2, fun h => ⟨ha, h⟩⟩
  rw [this]
  rfl
/-! ### how large they are -/
theorem joinC_fit {op : Cnd → Cnd → Cnd} {t m k : Nat} (hw : ∀ a b, a.wf t → b.wf t → (op a b).wf t) (hd : ∀ a b, (op a b).dep = max a.dep b.dep + 1) (hs : ∀ a b, (op a b).size = a.size + b.size + 1) :
    ∀ xs : List Cnd, (∀ x ∈ xs, x.wf t ∧ x.dep ≤ m ∧ x.size ≤ k) → 1 ≤ m → 1 ≤ k → (joinC op xs).wf t ∧ (joinC op xs).dep ≤ m + xs.length ∧ (joinC op xs).size ≤ (k + 1) * xs.length + 1
  | [], _, h1, h2 => by
    refine ⟨?_, ?_, ?_⟩
    · exact trivial
    · show 1 ≤ m + 0; omega
    · show 1 ≤ _; omega
  | [x], h, h1, h2 => by
    obtain ⟨a, b, c⟩ := h x List.mem_cons_self
    refine ⟨a, ?_, ?_⟩
    · show x.dep ≤ m + 1; omega
    · show x.size ≤ (k + 1) * 1 + 1; omega
  | x :: y :: xs, h, h1, h2 => by
    obtain ⟨a, b, c⟩ := h x List.mem_cons_self
    obtain ⟨a', b', c'⟩ := joinC_fit hw hd hs (y :: xs) (fun z hz => h z (List.mem_cons_of_mem _ hz)) h1 h2
    refine ⟨hw _ _ a a', ?_, ?_⟩
    · show (op x (joinC op (y :: xs))).dep ≤ _
      rw [hd]
      simp only [List.length_cons] at b' ⊢
      omega
    · show (op x (joinC op (y :: xs))).size ≤ _
      rw [hs]
      simp only [List.length_cons] at c' ⊢
      rw [Nat.mul_add (k + 1) (xs.length + 1) 1]
      omega
theorem atomC_fit {t a : Nat} (h3 : t ≤ 3) : (atomC t a).wf t ∧ (atomC t a).dep ≤ 5 ∧ (atomC t a).size ≤ 10 := by
  obtain ⟨x, y, z⟩ := joinC_fit (op := .and) (t := t) (m := 2) (k := 2) (fun _ _ h g => ⟨h, g⟩) (fun _ _ => rfl) (fun _ _ => rfl) ((List.range t).map (lit a)) (fun x hx => by
    obtain ⟨i, hi, rfl⟩ := List.mem_map.mp hx
    have hi := List.mem_range.mp hi
    unfold lit
    split
    · exact ⟨hi, by simp [Cnd.dep], by simp [Cnd.size]⟩
    · exact ⟨hi, by simp [Cnd.dep], by simp [Cnd.size]⟩) (by decide) (by decide)
  rw [List.length_map, List.length_range] at y z
  refine ⟨x, ?_, ?_⟩
  · show (joinC _ _).dep ≤ 5; omega
  · show (joinC _ _).size ≤ 10; omega
theorem condC_fit {t : Nat} (ns : List Nat) (h3 : t ≤ 3) : (condC t ns).wf t ∧ (condC t ns).dep ≤ 13 ∧ (condC t ns).size ≤ 100 := by
  have hp := pow_small h3
  have hl := rows_le t ns
  unfold condC
  split
  · exact ⟨trivial, by decide, by decide⟩
  · split
    · exact ⟨trivial, by decide, by decide⟩
    · obtain ⟨x, y, z⟩ := joinC_fit (op := .or) (t := t) (m := 5) (k := 10) (fun _ _ h g => ⟨h, g⟩) (fun _ _ => rfl) (fun _ _ => rfl) ((rowsOf t ns).map (atomC t)) (fun x hx => by
        obtain ⟨i, hi, rfl⟩ := List.mem_map.mp hx
        exact atomC_fit h3) (by decide) (by decide)
      rw [List.length_map] at y z
      exact ⟨x, by omega, by omega⟩
theorem okD_mono : ∀ {m n : Nat} {d : D}, m ≤ n → okD m d → okD n d
  | 0, _, _, _, h => h.elim
  | m + 1, 0, _, h, _ => by omega
  | m + 1, n + 1, .tup xs, h, q => ⟨q.1, fun x hx => okD_mono (by omega) (q.2 x hx)⟩
  | m + 1, n + 1, .lst xs, h, q => ⟨q.1, fun x hx => okD_mono (by omega) (q.2 x hx)⟩
  | m + 1, n + 1, .non, _, _ => trivial
  | m + 1, n + 1, .bl _, _, _ => trivial
  | m + 1, n + 1, .int _, _, _ => trivial
  | m + 1, n + 1, .str _, _, _ => trivial
  | m + 1, n + 1, .ty _, _, q => q.elim
  | m + 1, n + 1, .emp, _, q => q.elim
  | m + 1, n + 1, .adr _, _, q => q.elim
  | m + 1, n + 1, .at _ _, _, q => q.elim
  | m + 1, n + 1, .one _ _ _, _, q => q.elim
theorem okD_enc : ∀ c : Cnd, okD (c.dep + 1) c.enc
  | .no => ⟨by simp, fun x hx => by simp at hx; subst hx; trivial⟩
  | .yes => ⟨by simp, fun x hx => by simp at hx; subst hx; trivial⟩
  | .test i => ⟨by simp, fun x hx => by simp at hx; rcases hx with rfl | rfl <;> trivial⟩
  | .not c => ⟨by simp, fun x hx => by
    simp at hx
    rcases hx with rfl | rfl
    · trivial
    · exact okD_enc c⟩
  | .and a b | .or a b => ⟨by simp, fun x hx => by
    simp at hx
    rcases hx with rfl | rfl | rfl
    · trivial
    · exact okD_mono (by simp only [Cnd.dep]; omega) (okD_enc a)
    · exact okD_mono (by simp only [Cnd.dep]; omega) (okD_enc b)⟩
end KQ

set_option Elab.async false
set_option linter.all false
set_option maxRecDepth 100000
set_option maxHeartbeats 1000000
namespace KQ
open PySem L2
local macro_rules | `(tactic| walk_at "r") => `(tactic| repeat (first | (refine ⟨_, rfl, ?_⟩) | (refine ⟨rfl, ?_⟩) | (refine ⟨small_line (Nat.le_of_ble_eq_true rfl), ?_⟩) | (refine iteF' (by decide +kernel) ?_) | (refine iteT' (by decide +kernel) ?_) | (refine iteF' rfl ?_) | (refine iteT' rfl ?_) | (refine ⟨_, _, rfl, ?_⟩)))
/-- all the defs -/
structure Fns (K : PySem.W.Frag) (mg : Str → Option Value) : Prop where
  d_is_whole : ∃ (f : Addr) (fd : FuncData), Df K mg "is_whole" s_is_whole ["value"] f fd
  d_name_of : ∃ (f : Addr) (fd : FuncData), Df K mg "name_of" s_name_of ["value"] f fd
  d_inner_conditions : ∃ (f : Addr) (fd : FuncData), Df K mg "inner_conditions" s_inner_conditions ["world", "part"] f fd
  d_is_condition_to : ∃ (f : Addr) (fd : FuncData), Df K mg "is_condition_to" s_is_condition_to ["world", "value", "most"] f fd
  d_is_condition : ∃ (f : Addr) (fd : FuncData), Df K mg "is_condition" s_is_condition ["world", "value"] f fd
  d_atoms_of : ∃ (f : Addr) (fd : FuncData), Df K mg "atoms_of" s_atoms_of ["world"] f fd
  d_holds : ∃ (f : Addr) (fd : FuncData), Df K mg "holds" s_holds ["condition", "atom"] f fd
  d_atoms_where : ∃ (f : Addr) (fd : FuncData), Df K mg "atoms_where" s_atoms_where ["world", "condition"] f fd
  d_joined : ∃ (f : Addr) (fd : FuncData), Df K mg "joined" s_joined ["name", "items"] f fd
  d_atom_condition : ∃ (f : Addr) (fd : FuncData), Df K mg "atom_condition" s_atom_condition ["world", "atom"] f fd
  d_condition_of : ∃ (f : Addr) (fd : FuncData), Df K mg "condition_of" s_condition_of ["world", "atoms"] f fd
  d_same_condition : ∃ (f : Addr) (fd : FuncData), Df K mg "same_condition" s_same_condition ["world", "one", "two"] f fd
  d_stops : ∃ (f : Addr) (fd : FuncData), Df K mg "stops" s_stops ["term", "atom"] f fd
  d_found_moves : ∃ (f : Addr) (fd : FuncData), Df K mg "found_moves" s_found_moves ["term", "atom", "deed"] f fd
  d_after_deed : ∃ (f : Addr) (fd : FuncData), Df K mg "after_deed" s_after_deed ["state", "atom", "deed"] f fd
  d_stops_of : ∃ (f : Addr) (fd : FuncData), Df K mg "stops_of" s_stops_of ["world", "state"] f fd
  d_steps_of : ∃ (f : Addr) (fd : FuncData), Df K mg "steps_of" s_steps_of ["world"] f fd
  d_searched : ∃ (f : Addr) (fd : FuncData), Df K mg "searched" s_searched ["world", "one", "two"] f fd
  d_are_alike : ∃ (f : Addr) (fd : FuncData), Df K mg "are_alike" s_are_alike ["world", "one", "two"] f fd
  d_is_nothing : ∃ (f : Addr) (fd : FuncData), Df K mg "is_nothing" s_is_nothing ["world", "term"] f fd
  d_broken_term : ∃ (f : Addr) (fd : FuncData), Df K mg "broken_term" s_broken_term ["before", "term", "after"] f fd
  d_keeps : ∃ (f : Addr) (fd : FuncData), Df K mg "keeps" s_keeps ["world", "before", "term", "after"] f fd
  d_last_atoms : ∃ (f : Addr) (fd : FuncData), Df K mg "last_atoms" s_last_atoms ["world", "term", "atom"] f fd
  d_weakest : ∃ (f : Addr) (fd : FuncData), Df K mg "weakest" s_weakest ["world", "term", "after"] f fd
  d_write_condition : ∃ (f : Addr) (fd : FuncData), Df K mg "write_condition" s_write_condition ["condition"] f fd
  d_read_condition : ∃ (f : Addr) (fd : FuncData), Df K mg "read_condition" s_read_condition ["world", "text"] f fd
  d__law_same : ∃ (f : Addr) (fd : FuncData), Df K mg "_law_same" s__law_same ["actual", "due"] f fd
  d__law_pool : ∃ (f : Addr) (fd : FuncData), Df K mg "_law_pool" s__law_pool ["script"] f fd
  d__law_spread : ∃ (f : Addr) (fd : FuncData), Df K mg "_law_spread" s__law_spread ["cell"] f fd
  d__law_draw : ∃ (f : Addr) (fd : FuncData), Df K mg "_law_draw" s__law_draw ["pool", "many"] f fd
  d__law_pick : ∃ (f : Addr) (fd : FuncData), Df K mg "_law_pick" s__law_pick ["pool", "items"] f fd
  d__law_world : ∃ (f : Addr) (fd : FuncData), Df K mg "_law_world" s__law_world ["pool", "most"] f fd
  d__law_condition : ∃ (f : Addr) (fd : FuncData), Df K mg "_law_condition" s__law_condition ["pool", "world", "deep"] f fd
def spLaw (K : PySem.W.Frag) : Sp := fun vs H Q _ => ∃ (a : Addr) (ns : List Int), vs = [.ref a] ∧ SqL K H a (ns.map V.int) ∧ ns.length ≤ 63 ∧ ∀ H', Q (.bl true) H'
section
variable {P : Program} {w : World} {K : PySem.W.Frag} {mg : Str → Option Value} {base : Heap}
theorem sc_law : FnScope n_law ["script"] (defScope s_law) := ⟨rfl, rfl, rfl, by decide +kernel, rfl, by decide +kernel, by decide +kernel⟩
theorem ok_law (B : Blt mg) (Cc : Cst mg) (N : Fns K mg) {C fc f : Addr} {fdc fd : FuncData} (R : RdrM K mg C fc fdc) (F : Fun K "law" "law" s_law f fd) : FnOk P w K mg base CX0 40 f fd ["script"] (spLaw K) := by
  obtain ⟨f_is_whole, fd_is_whole, d_is_whole⟩ := N.d_is_whole
  obtain ⟨f_name_of, fd_name_of, d_name_of⟩ := N.d_name_of
  obtain ⟨f_inner_conditions, fd_inner_conditions, d_inner_conditions⟩ := N.d_inner_conditions
  obtain ⟨f_is_condition_to, fd_is_condition_to, d_is_condition_to⟩ := N.d_is_condition_to
  obtain ⟨f_is_condition, fd_is_condition, d_is_condition⟩ := N.d_is_condition
  obtain ⟨f_atoms_of, fd_atoms_of, d_atoms_of⟩ := N.d_atoms_of
  obtain ⟨f_holds, fd_holds, d_holds⟩ := N.d_holds
  obtain ⟨f_atoms_where, fd_atoms_where, d_atoms_where⟩ := N.d_atoms_where
  obtain ⟨f_joined, fd_joined, d_joined⟩ := N.d_joined
  obtain ⟨f_atom_condition, fd_atom_condition, d_atom_condition⟩ := N.d_atom_condition
  obtain ⟨f_condition_of, fd_condition_of, d_condition_of⟩ := N.d_condition_of
  obtain ⟨f_same_condition, fd_same_condition, d_same_condition⟩ := N.d_same_condition
  obtain ⟨f_stops, fd_stops, d_stops⟩ := N.d_stops
  obtain ⟨f_found_moves, fd_found_moves, d_found_moves⟩ := N.d_found_moves
  obtain ⟨f_after_deed, fd_after_deed, d_after_deed⟩ := N.d_after_deed
  obtain ⟨f_stops_of, fd_stops_of, d_stops_of⟩ := N.d_stops_of
  obtain ⟨f_steps_of, fd_steps_of, d_steps_of⟩ := N.d_steps_of
  obtain ⟨f_searched, fd_searched, d_searched⟩ := N.d_searched
  obtain ⟨f_are_alike, fd_are_alike, d_are_alike⟩ := N.d_are_alike
  obtain ⟨f_is_nothing, fd_is_nothing, d_is_nothing⟩ := N.d_is_nothing
  obtain ⟨f_broken_term, fd_broken_term, d_broken_term⟩ := N.d_broken_term
  obtain ⟨f_keeps, fd_keeps, d_keeps⟩ := N.d_keeps
  obtain ⟨f_last_atoms, fd_last_atoms, d_last_atoms⟩ := N.d_last_atoms
  obtain ⟨f_weakest, fd_weakest, d_weakest⟩ := N.d_weakest
  obtain ⟨f_write_condition, fd_write_condition, d_write_condition⟩ := N.d_write_condition
  obtain ⟨f_read_condition, fd_read_condition, d_read_condition⟩ := N.d_read_condition
  obtain ⟨f__law_same, fd__law_same, d__law_same⟩ := N.d__law_same
  obtain ⟨f__law_pool, fd__law_pool, d__law_pool⟩ := N.d__law_pool
  obtain ⟨f__law_spread, fd__law_spread, d__law_spread⟩ := N.d__law_spread
  obtain ⟨f__law_draw, fd__law_draw, d__law_draw⟩ := N.d__law_draw
  obtain ⟨f__law_pick, fd__law_pick, d__law_pick⟩ := N.d__law_pick
  obtain ⟨f__law_world, fd__law_world, d__law_world⟩ := N.d__law_world
  obtain ⟨f__law_condition, fd__law_condition, d__law_condition⟩ := N.d__law_condition
  have FS : AlikeFns P w K mg base := ⟨_, _, _, _, _, _, _, _, _, _, _, _, _, _, _, _, d_searched, d_stops_of, d_atoms_of, d_stops, d_holds, d_steps_of, d_after_deed, d_found_moves⟩
  have G_are_alike := ok_alike (P := P) (w := w) (base := base) B FS d_are_alike 10 (by decide)
  have G_is_nothing := ok_nothing (P := P) (w := w) (base := base) B FS d_is_nothing d_are_alike 10 (by decide) (by decide)
  have G_keeps := ok_keeps (P := P) (w := w) (base := base) B FS d_keeps d_broken_term d_is_nothing d_are_alike 10 (by decide) (by decide)
  have G_condition_of := ok_condition_of (P := P) (w := w) (base := base) (f5 := f) (fd5 := fd) B d_condition_of d_atoms_of d_atom_condition d_holds d_joined
  have G_atoms_where := ok_atoms_where (P := P) (w := w) (base := base) B d_atoms_where d_atoms_of d_holds 20
  have G_same_condition := ok_same_condition (P := P) (w := w) (base := base) B d_same_condition d_atoms_where d_atoms_of d_holds 20
  have G_is_condition := ok_is_condition (P := P) (w := w) (base := base) B Cc d_is_condition d_is_condition_to d_inner_conditions d_name_of d_is_whole
  have G_write_condition := ok_write (P := P) (w := w) (base := base) B Cc d_write_condition 20
  have G_read_condition := ok_read (P := P) (w := w) (base := base) B Cc R d_read_condition d_is_condition d_is_condition_to d_inner_conditions d_name_of d_is_whole
  have G__law_same := ok_same (P := P) (w := w) (base := base) B d__law_same 20
  have G_weakest := ok_weakest (P := P) (w := w) (base := base) (g6 := f) (gd6 := fd) B d_weakest d_condition_of d_atom_condition d_joined d_atoms_where d_last_atoms d_stops_of d_atoms_of d_stops d_holds d_after_deed d_found_moves 10 (by decide)
  have GP := ok_pool (P := P) (w := w) (base := base) B d__law_pool
  have GW := ok_world (P := P) (w := w) (base := base) B d__law_world d__law_pick d__law_draw d__law_spread
  have GC := ok_lc (P := P) (w := w) (base := base) B d__law_condition d__law_draw d__law_spread 3
  refine F.ok sc_law (fun vs H Q E h => ?_) fun cdv A outer s0 H vs Q E hr h => ?_
  · obtain ⟨a, ns, rfl, _⟩ := h
    rfl
  obtain ⟨a, ns, rfl, hs, hl, q⟩ := h
  refine ⟨_, pss_cons (ps_set (i := 1) sc_law.nd rfl (Or.inl rfl) (pe_call GP (hr.mono (by omega)) (by rfl) d__law_pool.m d__law_pool.F.kp d__law_pool.b .nil pass0 (pa_cons (pv 0) pa_nil)) rfl (Or.inl rfl))
    (pss_cons (ps_set (i := 2) sc_law.nd rfl (Or.inl rfl) (pe_call GW (hr.mono (by omega)) (by rfl) d__law_world.m d__law_world.F.kp d__law_world.b .nil pass0 (pa_cons (pv 1) (pa_cons pe_int pa_nil))) rfl (Or.inl rfl))
    (pss_cons (ps_par (i := 3) (j := 4) (by rfl) sc_law.nd rfl rfl (by decide) rfl rfl (pa_cons (pe_call GC (hr.mono (by omega)) (by rfl) d__law_condition.m d__law_condition.F.kp d__law_condition.b .nil pass0 (pa_cons (pv 1) (pa_cons (pv 2) (pa_cons pe_int pa_nil))))
      (pa_cons (pe_call GC (hr.mono (by omega)) (by rfl) d__law_condition.m d__law_condition.F.kp d__law_condition.b .nil pass0 (pa_cons (pv 1) (pa_cons (pv 2) (pa_cons pe_int pa_nil)))) pa_nil)) (by rfl))
    (psxs (K := K) (psd_cons (ps_ifD (PWD.pt (pw_orD (pt_notD (pt_valD (pd_call G_are_alike (hr.mono (by omega)) d_are_alike.m d_are_alike.F.kp d_are_alike.b (pa_consD (pdv 2) (pa_consD (pd_tup (pa_consD pd_str (pa_consD (pd_tup (pa_consD pd_str (pa_consD (pdv 3) pa_nilD))) (pa_consD (pd_tup (pa_consD pd_str (pa_consD (pdv 4) pa_nilD))) pa_nilD)))) (pa_consD (pd_tup (pa_consD pd_str (pa_consD (pd_tup (pa_consD pd_str (pa_consD (pdv 3) (pa_consD (pdv 4) pa_nilD)))) pa_nilD))) pa_nilD)))))) (pw_or1D (pt_notD (pt_valD (pd_call G_are_alike (hr.mono (by omega)) d_are_alike.m d_are_alike.F.kp d_are_alike.b (pa_consD (pdv 2) (pa_consD (pd_tup (pa_consD pd_str (pa_consD (pd_tup (pa_consD pd_str (pa_consD (pdv 3) pa_nilD))) (pa_consD (pd_tup (pa_consD pd_str (pa_consD (pdv 4) pa_nilD))) pa_nilD)))) (pa_consD (pd_tup (pa_consD pd_str (pa_consD (pd_tup (pa_consD pd_str (pa_consD (pdv 3) (pa_consD (pdv 4) pa_nilD)))) pa_nilD))) pa_nilD))))))))) (psd_one (ps_retD pd_bl)) psd_nil)
        (psd_cons (ps_ifD (PWD.pt (pw_orD (pt_notD (pt_valD (pd_call G_is_nothing (hr.mono (by omega)) d_is_nothing.m d_is_nothing.F.kp d_is_nothing.b (pa_consD (pdv 2) (pa_consD (pd_tup (pa_consD pd_str (pa_consD (pd_tup (pa_consD pd_str (pa_consD (pdv 3) pa_nilD))) (pa_consD (pd_tup (pa_consD pd_str (pa_consD (pd_tup (pa_consD pd_str (pa_consD (pdv 3) pa_nilD))) pa_nilD))) pa_nilD)))) pa_nilD))))) (pw_or1D (pt_notD (pt_valD (pd_call G_are_alike (hr.mono (by omega)) d_are_alike.m d_are_alike.F.kp d_are_alike.b (pa_consD (pdv 2) (pa_consD (pd_tup (pa_consD pd_str (pa_consD (pd_tup (pa_consD pd_str (pa_consD (pdv 3) pa_nilD))) pa_nilD))) (pa_consD (pd_tup (pa_consD pd_str (pa_consD (pd_tup (pa_consD pd_str pa_nilD)) pa_nilD))) pa_nilD))))))))) (psd_one (ps_retD pd_bl)) psd_nil)
        (psd_cons (ps_setD (i := 5) sc_law.nd (pd_call G_condition_of (hr.mono (by omega)) d_condition_of.m d_condition_of.F.kp d_condition_of.b (pa_consD (pdv 2) (pa_consD (pd_call G_atoms_where (hr.mono (by omega)) d_atoms_where.m d_atoms_where.F.kp d_atoms_where.b (pa_consD (pdv 2) (pa_consD (pdv 3) pa_nilD))) pa_nilD))))
        (psd_cons (ps_ifD (pt_notD (pt_valD (pd_call G__law_same (hr.mono (by omega)) d__law_same.m d__law_same.F.kp d__law_same.b (pa_consD (pd_lst (pa_consD (pd_call G_is_condition (hr.mono (by omega)) d_is_condition.m d_is_condition.F.kp d_is_condition.b (pa_consD (pdv 2) (pa_consD (pdv 5) pa_nilD))) (pa_consD (pd_call G_same_condition (hr.mono (by omega)) d_same_condition.m d_same_condition.F.kp d_same_condition.b (pa_consD (pdv 2) (pa_consD (pdv 5) (pa_consD (pdv 3) pa_nilD)))) (pa_consD (pd_call G_read_condition (hr.mono (by omega)) d_read_condition.m d_read_condition.F.kp d_read_condition.b (pa_consD (pdv 2) (pa_consD (pd_call G_write_condition (hr.mono (by omega)) d_write_condition.m d_write_condition.F.kp d_write_condition.b (pa_consD (pdv 3) pa_nilD)) pa_nilD))) pa_nilD)))) (pa_consD (pd_lst (pa_consD pd_bl (pa_consD pd_bl (pa_consD (pdv 3) pa_nilD)))) pa_nilD))))) (psd_one (ps_retD pd_bl)) psd_nil)
        (psd_cons (ps_setD (i := 6) sc_law.nd (pd_call G_condition_of (hr.mono (by omega)) d_condition_of.m d_condition_of.F.kp d_condition_of.b (pa_consD (pdv 2) (pa_consD (pd_revL (pd_call G_atoms_where (hr.mono (by omega)) d_atoms_where.m d_atoms_where.F.kp d_atoms_where.b (pa_consD (pdv 2) (pa_consD (pd_tup (pa_consD pd_str (pa_consD (pd_tup (pa_consD pd_str (pa_consD (pdv 3) pa_nilD))) pa_nilD))) pa_nilD)))) pa_nilD))))
        (psd_cons (ps_ifD (PWD.pt (pw_orD (pt_notD (pt_valD (pd_call G__law_same (hr.mono (by omega)) d__law_same.m d__law_same.F.kp d__law_same.b (pa_consD (pdv 6) (pa_consD (pdv 5) pa_nilD))))) (pw_or1D (pt_cmpD (op_neQ (K := K) hr.units) d_ne (pd_call G_same_condition (hr.mono (by omega)) d_same_condition.m d_same_condition.F.kp d_same_condition.b (pa_consD (pdv 2) (pa_consD (pdv 3) (pa_consD (pdv 4) pa_nilD)))) (pd_call G_are_alike (hr.mono (by omega)) d_are_alike.m d_are_alike.F.kp d_are_alike.b (pa_consD (pdv 2) (pa_consD (pd_tup (pa_consD pd_str (pa_consD (pdv 3) pa_nilD))) (pa_consD (pd_tup (pa_consD pd_str (pa_consD (pdv 4) pa_nilD))) pa_nilD)))) (nomark _))))) (psd_one (ps_retD pd_bl)) psd_nil)
        (psd_cons (ps_ifD (PWD.pt (pw_orD (pt_notD (pt_valD (pd_call G_keeps (hr.mono (by omega)) d_keeps.m d_keeps.F.kp d_keeps.b (pa_consD (pdv 2) (pa_consD (pd_tup (pa_consD pd_str pa_nilD)) (pa_consD (pd_tup (pa_consD pd_str (pa_consD (pdv 3) pa_nilD))) (pa_consD (pdv 3) pa_nilD))))))) (pw_or1D (pt_cmpD (op_neQ (K := K) hr.units) d_ne (pd_call G_keeps (hr.mono (by omega)) d_keeps.m d_keeps.F.kp d_keeps.b (pa_consD (pdv 2) (pa_consD (pdv 3) (pa_consD (pd_tup (pa_consD pd_str (pa_consD (pdv 4) pa_nilD))) (pa_consD (pd_tup (pa_consD pd_str pa_nilD)) pa_nilD))))) (pd_call G_is_nothing (hr.mono (by omega)) d_is_nothing.m d_is_nothing.F.kp d_is_nothing.b (pa_consD (pdv 2) (pa_consD (pd_tup (pa_consD pd_str (pa_consD (pd_tup (pa_consD pd_str (pa_consD (pdv 3) (pa_consD (pdv 4) pa_nilD)))) pa_nilD))) pa_nilD))) (nomark _))))) (psd_one (ps_retD pd_bl)) psd_nil)
        (psd_one (ps_retD (pd_call G__law_same (hr.mono (by omega)) d__law_same.m d__law_same.F.kp d__law_same.b (pa_consD (pd_call G_weakest (hr.mono (by omega)) d_weakest.m d_weakest.F.kp d_weakest.b (pa_consD (pdv 2) (pa_consD (pd_tup (pa_consD pd_str (pa_consD (pdv 3) pa_nilD))) (pa_consD (pdv 4) pa_nilD)))) (pa_consD (pd_call G_condition_of (hr.mono (by omega)) d_condition_of.m d_condition_of.F.kp d_condition_of.b (pa_consD (pdv 2) (pa_consD (pd_call G_atoms_where (hr.mono (by omega)) d_atoms_where.m d_atoms_where.F.kp d_atoms_where.b (pa_consD (pdv 2) (pa_consD (pd_tup (pa_consD pd_str (pa_consD (pd_tup (pa_consD pd_str (pa_consD (pdv 3) pa_nilD))) (pa_consD (pdv 4) pa_nilD)))) pa_nilD))) pa_nilD))) pa_nilD))))))))))))))), ?_⟩
  refine ⟨_, rfl, a, ns, rfl, hs, hl, fun p l s H1 s1 hn x1 => ?_⟩
  refine ⟨_, rfl, p, l, ns, 0, 0, 0, s, rfl, x1, Int.le_refl _, fun t k v H2 i2 z2 j2 hw rw2 sb2 x2 hi2 => ?_⟩
  refine ⟨_, rfl, _, rfl, p, l, ns, i2, z2, j2, s, t, k, v, rfl, x2, hi2, hw, rw2, fun b vb H3 i3 z3 j3 wb db sb' rb sb3 x3 hi3 => ?_⟩
  have rw3 := Rp.tups (sb_tups x2.hp sb3) _ _ rfl rw2
  refine ⟨_, rfl, _, rfl, p, l, ns, i3, z3, j3, s, t, k, v, rfl, x3, hi3, hw, rw3, fun c vc H4 i4 z4 j4 wc dc sc' rc sb4 x4 hi4 => ?_⟩
  have rw4 := Rp.tups (sb_tups x3.hp sb4) _ _ rfl rw3
  have rb4 := Rp.tups (sb_tups x3.hp sb4) _ _ (enc_imm b) rb
  refine ⟨vb, vc, rfl, ?_⟩
  have h1 := hw.1
  have h3 := hw.2.1
  have wb3 := wf_mono h3 wb
  have wc3 := wf_mono h3 wc
  refine ⟨_, ⟨fun _ => False, fun d => d = .bl true⟩, (((RE.none (n := 7) rfl).setS (i := 2) rfl rw4).setS (i := 3) rfl rb4).setS (i := 4) rfl rc, ?_, fun _ _ _ _ _ h => h.elim, fun d v H5 s5 rv ed => ?_⟩
  · have kb : (Tm.ask b).ok := ⟨wb3, by omega⟩
    have kc : (Tm.ask c).ok := ⟨wc3, by omega⟩
    have kand : (Tm.ask (.and b c)).ok := ⟨⟨wb3, wc3⟩, by simp only [Cnd.dep]; omega⟩
    have kor : (Tm.ask (.or b c)).ok := ⟨⟨wb3, wc3⟩, by simp only [Cnd.dep]; omega⟩
    have knb : (Tm.ask (.not b)).ok := ⟨wb3, by simp only [Cnd.dep]; omega⟩
    have kyes : (Tm.ask .yes).ok := ⟨trivial, by decide⟩
    obtain ⟨tw, td, ts⟩ := condC_fit (t := t) (whr t b) h3
    have tw3 := wf_mono h3 tw
    have whl : ∀ c : Cnd, (whr t c).length < 64 := fun c => by
      have := List.length_filter_le c.ev (List.range (2 ^ t))
      have hp := pow_small h3
      rw [List.length_range] at this
      show (List.filter _ _).length < 64
      omega
    have whm : ∀ c : Cnd, ∀ a ∈ whr t c, a < 2 ^ t := fun c a ha => (whr_mem.mp ha).1
    -- 1
    walk_at "r"
    refine ⟨.bl true, ⟨t, k, .row (.ask b) (.ask c), .ask (.and b c), hw, rfl, by simp [Tm.dep], by simp [Tm.dep], ⟨kb, kc⟩, kand, congrArg D.bl (decide_eq_true (stp_congr fun n => rfl)).symm⟩, ?_⟩
    walk_at "r"
    refine ⟨.bl true, ⟨t, k, .alt (.ask b) (.ask c), .ask (.or b c), hw, rfl, by simp [Tm.dep], by simp [Tm.dep], ⟨kb, kc⟩, kor, congrArg D.bl (decide_eq_true (stp_congr fun n => rfl)).symm⟩, ?_⟩
    -- 2
    walk_at "r"
    refine ⟨.bl true, ⟨t, k, .row (.ask b) (.ask (.not b)), hw, rfl, by simp [Tm.dep], ⟨kb, knb⟩, congrArg D.bl (decide_eq_true (stp_congr fun n => by simp [Tm.st, Cnd.ev])).symm⟩, ?_⟩
    walk_at "r"
    refine ⟨.bl true, ⟨t, k, .again (.ask b), .ask .yes, hw, rfl, by simp [Tm.dep], by simp [Tm.dep], kb, kyes, congrArg D.bl (decide_eq_true (stp_congr fun n => rfl)).symm⟩, ?_⟩
    -- 3
    walk_at "r"
    refine ⟨_, ⟨t, k, b, hw, rfl, by omega, wb3, rfl⟩, ?_⟩
    walk_at "r"
    refine ⟨_, ⟨t, k, whr t b, hw, rfl, whm b, whl b, rfl⟩, ?_⟩
    -- 4
    walk_at "r"
    refine ⟨_, ⟨t, k, condC t (whr t b), hw, rfl, tw, by omega, by omega, rfl⟩, ?_⟩
    walk_at "r"
    refine ⟨.bl true, ⟨t, k, condC t (whr t b), b, hw, rfl, by omega, by omega, tw3, wb3, congrArg D.bl (decide_eq_true (whr_condC h1 h3)).symm⟩, ?_⟩
    walk_at "r"
    refine ⟨_, ⟨b, rfl, by omega, wb3, by omega, rfl⟩, ?_⟩
    walk_at "r"
    refine ⟨_, ⟨t, k, b, hw, rfl, wb, by omega, by omega, rfl⟩, ?_⟩
    walk_at "r"
    refine ⟨_, ⟨.lst [.bl true, .bl true, b.enc], rfl, ⟨by simp, fun y hy => ?_⟩, rfl⟩, ?_⟩
    · simp at hy
      rcases hy with rfl | rfl
      · trivial
      · exact okD_mono (m := b.dep + 1) (n := 19) (by omega) (okD_enc b)
    -- 5
    walk_at "r"
    refine ⟨_, ⟨t, k, .not (.not b), hw, rfl, by simp only [Cnd.dep]; omega, wb3, rfl⟩, ?_⟩
    walk_at "r"
    refine ⟨(condC t (whr t b)).enc, ⟨t, k, (whr t (.not (.not b))).reverse, hw, ?_, fun a ha => whm _ a (List.mem_reverse.mp ha), by rw [List.length_reverse]; exact whl _, ?_⟩, ?_⟩
    · unfold aD; rw [List.map_reverse]
    · refine congrArg Cnd.enc (condC_congr fun a => ?_)
      rw [List.mem_reverse, whr_mem, whr_mem]
      simp [Cnd.ev]
    -- 6
    walk_at "r"
    refine ⟨_, ⟨(condC t (whr t b)).enc, rfl, okD_mono (by omega) (okD_enc _), rfl⟩, ?_⟩
    walk_at "r"
    refine ⟨_, ⟨t, k, b, c, hw, rfl, by omega, by omega, wb3, wc3, rfl⟩, ?_⟩
    walk_at "r"
    refine ⟨.bl (decide (whr t b = whr t c)), ⟨t, k, .ask b, .ask c, hw, rfl, by simp [Tm.dep], by simp [Tm.dep], kb, kc, by rw [stp_ask, stp_ask]⟩, ?_⟩
    walk_at "r"
    refine iteF' (by simp) ?_
    -- 7
    walk_at "r"
    refine ⟨.bl true, ⟨t, k, .yes, b, .ask b, hw, rfl, by simp [Tm.dep], by decide, kb, trivial, by decide, wb3, by omega, congrArg D.bl (decide_eq_true (stp_congr fun n => by simp [Tm.st, Cnd.ev])).symm⟩, ?_⟩
    walk_at "r"
    refine ⟨_, ⟨t, k, b, .no, .ask c, hw, rfl, by simp [Tm.dep], by decide, kc, wb3, by omega, trivial, by decide, rfl⟩, ?_⟩
    walk_at "r"
    refine ⟨.bl (decide (stp t [.row (.ask b) (.row (.ask c) (.ask (.not .no)))] = stp t [.ask .no])), ⟨t, k, .ask (.and b c), hw, rfl, by simp [Tm.dep], kand, ?_⟩, ?_⟩
    · rw [stp_congr (a := .row (.ask b) (.row (.ask c) (.ask (.not .no)))) (b := .ask (.and b c)) fun n => by simp [Tm.st, Cnd.ev]]
    walk_at "r"
    refine iteF' (by simp) ?_
    -- 8
    walk_at "r"
    refine ⟨_, ⟨t, k, .ask b, c, hw, rfl, by simp [Tm.dep], kb, by omega, wc3, rfl⟩, ?_⟩
    walk_at "r"
    refine ⟨_, ⟨t, k, .or (.not b) c, hw, rfl, by simp only [Cnd.dep]; omega, ⟨wb3, wc3⟩, rfl⟩, ?_⟩
    walk_at "r"
    refine ⟨_, ⟨t, k, whr t (.or (.not b) c), hw, rfl, whm _, whl _, rfl⟩, ?_⟩
    walk_at "r"
    obtain ⟨uw, ud, us⟩ := condC_fit (t := t) (whr t (.or (.not b) c)) h3
    refine ⟨_, ⟨(condC t (whr t (.or (.not b) c))).enc, by rw [wk_rows], okD_mono (by omega) (okD_enc _), rfl⟩, rfl⟩
  · subst ed
    obtain rfl := rv.blE
    exact q H5
end
end KQ

set_option Elab.async false
set_option linter.all false
set_option maxRecDepth 100000
set_option maxHeartbeats 4000000
namespace KQ
open PySem L2
/-! ### what the top has written -/
theorem all_mk {l : PySem.W.OpenLaw} {w : World} {K : PySem.W.Frag} {h : Heap} {mg : Str → Option Value} {fa C : Addr} {t1 t2 t3 : Tok} {f_is_whole f_name_of f_inner_conditions f_is_condition_to f_is_condition f_atoms_of f_holds f_atoms_where f_joined f_atom_condition f_condition_of f_same_condition f_stops f_found_moves f_after_deed f_stops_of f_steps_of f_searched f_are_alike f_is_nothing f_broken_term f_keeps f_last_atoms f_weakest f_write_condition f_read_condition f__law_same f__law_pool f__law_spread f__law_draw f__law_pick f__law_world f__law_condition f_law f_minit f_mtake f_mfirst_of f_mdeeper f_mback f_mcondition f_mend : Addr} {od_is_whole an_is_whole od_name_of an_name_of od_inner_conditions an_inner_conditions od_is_condition_to an_is_condition_to od_is_condition an_is_condition od_atoms_of an_atoms_of od_holds an_holds od_atoms_where an_atoms_where od_joined an_joined od_atom_condition an_atom_condition od_condition_of an_condition_of od_same_condition an_same_condition od_stops an_stops od_found_moves an_found_moves od_after_deed an_after_deed od_stops_of an_stops_of od_steps_of an_steps_of od_searched an_searched od_are_alike an_are_alike od_is_nothing an_is_nothing od_broken_term an_broken_term od_keeps an_keeps od_last_atoms an_last_atoms od_weakest an_weakest od_write_condition an_write_condition od_read_condition an_read_condition od__law_same an__law_same od__law_pool an__law_pool od__law_spread an__law_spread od__law_draw an__law_draw od__law_pick an__law_pick od__law_world an__law_world od__law_condition an__law_condition od_law an_law od_minit an_minit od_mtake an_mtake od_mfirst_of an_mfirst_of od_mdeeper an_mdeeper od_mback an_mback od_mcondition an_mcondition od_mend an_mend : Option Addr} {sl_is_whole sl_name_of sl_inner_conditions sl_is_condition_to sl_is_condition sl_atoms_of sl_holds sl_atoms_where sl_joined sl_atom_condition sl_condition_of sl_same_condition sl_stops sl_found_moves sl_after_deed sl_stops_of sl_steps_of sl_searched sl_are_alike sl_is_nothing sl_broken_term sl_keeps sl_last_atoms sl_weakest sl_write_condition sl_read_condition sl__law_same sl__law_pool sl__law_spread sl__law_draw sl__law_pick sl__law_world sl__law_condition sl_law sl_minit sl_mtake sl_mfirst_of sl_mdeeper sl_mback sl_mcondition sl_mend : Array (Option Value)} {oc_is_whole kV_is_whole dc_is_whole pm_is_whole cd_is_whole ct_is_whole oc_name_of kV_name_of dc_name_of pm_name_of cd_name_of ct_name_of oc_inner_conditions kV_inner_conditions dc_inner_conditions pm_inner_conditions cd_inner_conditions ct_inner_conditions oc_is_condition_to kV_is_condition_to dc_is_condition_to pm_is_condition_to cd_is_condition_to ct_is_condition_to oc_is_condition kV_is_condition dc_is_condition pm_is_condition cd_is_condition ct_is_condition oc_atoms_of kV_atoms_of dc_atoms_of pm_atoms_of cd_atoms_of ct_atoms_of oc_holds kV_holds dc_holds pm_holds cd_holds ct_holds oc_atoms_where kV_atoms_where dc_atoms_where pm_atoms_where cd_atoms_where ct_atoms_where oc_joined kV_joined dc_joined pm_joined cd_joined ct_joined oc_atom_condition kV_atom_condition dc_atom_condition pm_atom_condition cd_atom_condition ct_atom_condition oc_condition_of kV_condition_of dc_condition_of pm_condition_of cd_condition_of ct_condition_of oc_same_condition kV_same_condition dc_same_condition pm_same_condition cd_same_condition ct_same_condition oc_stops kV_stops dc_stops pm_stops cd_stops ct_stops oc_found_moves kV_found_moves dc_found_moves pm_found_moves cd_found_moves ct_found_moves oc_after_deed kV_after_deed dc_after_deed pm_after_deed cd_after_deed ct_after_deed oc_stops_of kV_stops_of dc_stops_of pm_stops_of cd_stops_of ct_stops_of oc_steps_of kV_steps_of dc_steps_of pm_steps_of cd_steps_of ct_steps_of oc_searched kV_searched dc_searched pm_searched cd_searched ct_searched oc_are_alike kV_are_alike dc_are_alike pm_are_alike cd_are_alike ct_are_alike oc_is_nothing kV_is_nothing dc_is_nothing pm_is_nothing cd_is_nothing ct_is_nothing oc_broken_term kV_broken_term dc_broken_term pm_broken_term cd_broken_term ct_broken_term oc_keeps kV_keeps dc_keeps pm_keeps cd_keeps ct_keeps oc_last_atoms kV_last_atoms dc_last_atoms pm_last_atoms cd_last_atoms ct_last_atoms oc_weakest kV_weakest dc_weakest pm_weakest cd_weakest ct_weakest oc_write_condition kV_write_condition dc_write_condition pm_write_condition cd_write_condition ct_write_condition oc_read_condition kV_read_condition dc_read_condition pm_read_condition cd_read_condition ct_read_condition oc__law_same kV__law_same dc__law_same pm__law_same cd__law_same ct__law_same oc__law_pool kV__law_pool dc__law_pool pm__law_pool cd__law_pool ct__law_pool oc__law_spread kV__law_spread dc__law_spread pm__law_spread cd__law_spread ct__law_spread oc__law_draw kV__law_draw dc__law_draw pm__law_draw cd__law_draw ct__law_draw oc__law_pick kV__law_pick dc__law_pick pm__law_pick cd__law_pick ct__law_pick oc__law_world kV__law_world dc__law_world pm__law_world cd__law_world ct__law_world oc__law_condition kV__law_condition dc__law_condition pm__law_condition cd__law_condition ct__law_condition oc_law kV_law dc_law pm_law cd_law ct_law oc_minit kV_minit dc_minit pm_minit cd_minit ct_minit oc_mtake kV_mtake dc_mtake pm_mtake cd_mtake ct_mtake oc_mfirst_of kV_mfirst_of dc_mfirst_of pm_mfirst_of cd_mfirst_of ct_mfirst_of oc_mdeeper kV_mdeeper dc_mdeeper pm_mdeeper cd_mdeeper ct_mdeeper oc_mback kV_mback dc_mback pm_mback cd_mback ct_mback oc_mcondition kV_mcondition dc_mcondition pm_mcondition cd_mcondition ct_mcondition oc_mend kV_mend dc_mend pm_mend cd_mend ct_mend : Value}
    (KX : K.In h) (G : h.Ns mainGlobals mg) (hfa : mg "law" = some (.ref fa))
    (a_is_whole : PySem.W.nsIn K mainGlobals "is_whole" = some (some (.ref f_is_whole)))
    (l_is_whole : K.lookup f_is_whole = some ⟨oc_is_whole, od_is_whole, .func (PySem.W.fnOf "is_whole" "is_whole" (defArgs s_is_whole) (defBody s_is_whole) (defScope s_is_whole) .none kV_is_whole dc_is_whole pm_is_whole an_is_whole cd_is_whole ct_is_whole), sl_is_whole⟩) (c_is_whole : PySem.W.codeIn K cd_is_whole "is_whole" = true) (k_is_whole : PySem.W.keepIn K (.ref f_is_whole) = true)
    (a_name_of : PySem.W.nsIn K mainGlobals "name_of" = some (some (.ref f_name_of)))
    (l_name_of : K.lookup f_name_of = some ⟨oc_name_of, od_name_of, .func (PySem.W.fnOf "name_of" "name_of" (defArgs s_name_of) (defBody s_name_of) (defScope s_name_of) .none kV_name_of dc_name_of pm_name_of an_name_of cd_name_of ct_name_of), sl_name_of⟩) (c_name_of : PySem.W.codeIn K cd_name_of "name_of" = true) (k_name_of : PySem.W.keepIn K (.ref f_name_of) = true)
    (a_inner_conditions : PySem.W.nsIn K mainGlobals "inner_conditions" = some (some (.ref f_inner_conditions)))
    (l_inner_conditions : K.lookup f_inner_conditions = some ⟨oc_inner_conditions, od_inner_conditions, .func (PySem.W.fnOf "inner_conditions" "inner_conditions" (defArgs s_inner_conditions) (defBody s_inner_conditions) (defScope s_inner_conditions) .none kV_inner_conditions dc_inner_conditions pm_inner_conditions an_inner_conditions cd_inner_conditions ct_inner_conditions), sl_inner_conditions⟩) (c_inner_conditions : PySem.W.codeIn K cd_inner_conditions "inner_conditions" = true) (k_inner_conditions : PySem.W.keepIn K (.ref f_inner_conditions) = true)
    (a_is_condition_to : PySem.W.nsIn K mainGlobals "is_condition_to" = some (some (.ref f_is_condition_to)))
    (l_is_condition_to : K.lookup f_is_condition_to = some ⟨oc_is_condition_to, od_is_condition_to, .func (PySem.W.fnOf "is_condition_to" "is_condition_to" (defArgs s_is_condition_to) (defBody s_is_condition_to) (defScope s_is_condition_to) .none kV_is_condition_to dc_is_condition_to pm_is_condition_to an_is_condition_to cd_is_condition_to ct_is_condition_to), sl_is_condition_to⟩) (c_is_condition_to : PySem.W.codeIn K cd_is_condition_to "is_condition_to" = true) (k_is_condition_to : PySem.W.keepIn K (.ref f_is_condition_to) = true)
    (a_is_condition : PySem.W.nsIn K mainGlobals "is_condition" = some (some (.ref f_is_condition)))
    (l_is_condition : K.lookup f_is_condition = some ⟨oc_is_condition, od_is_condition, .func (PySem.W.fnOf "is_condition" "is_condition" (defArgs s_is_condition) (defBody s_is_condition) (defScope s_is_condition) .none kV_is_condition dc_is_condition pm_is_condition an_is_condition cd_is_condition ct_is_condition), sl_is_condition⟩) (c_is_condition : PySem.W.codeIn K cd_is_condition "is_condition" = true) (k_is_condition : PySem.W.keepIn K (.ref f_is_condition) = true)
    (a_atoms_of : PySem.W.nsIn K mainGlobals "atoms_of" = some (some (.ref f_atoms_of)))
    (l_atoms_of : K.lookup f_atoms_of = some ⟨oc_atoms_of, od_atoms_of, .func (PySem.W.fnOf "atoms_of" "atoms_of" (defArgs s_atoms_of) (defBody s_atoms_of) (defScope s_atoms_of) .none kV_atoms_of dc_atoms_of pm_atoms_of an_atoms_of cd_atoms_of ct_atoms_of), sl_atoms_of⟩) (c_atoms_of : PySem.W.codeIn K cd_atoms_of "atoms_of" = true) (k_atoms_of : PySem.W.keepIn K (.ref f_atoms_of) = true)
    (a_holds : PySem.W.nsIn K mainGlobals "holds" = some (some (.ref f_holds)))
    (l_holds : K.lookup f_holds = some ⟨oc_holds, od_holds, .func (PySem.W.fnOf "holds" "holds" (defArgs s_holds) (defBody s_holds) (defScope s_holds) .none kV_holds dc_holds pm_holds an_holds cd_holds ct_holds), sl_holds⟩) (c_holds : PySem.W.codeIn K cd_holds "holds" = true) (k_holds : PySem.W.keepIn K (.ref f_holds) = true)
    (a_atoms_where : PySem.W.nsIn K mainGlobals "atoms_where" = some (some (.ref f_atoms_where)))
    (l_atoms_where : K.lookup f_atoms_where = some ⟨oc_atoms_where, od_atoms_where, .func (PySem.W.fnOf "atoms_where" "atoms_where" (defArgs s_atoms_where) (defBody s_atoms_where) (defScope s_atoms_where) .none kV_atoms_where dc_atoms_where pm_atoms_where an_atoms_where cd_atoms_where ct_atoms_where), sl_atoms_where⟩) (c_atoms_where : PySem.W.codeIn K cd_atoms_where "atoms_where" = true) (k_atoms_where : PySem.W.keepIn K (.ref f_atoms_where) = true)
    (a_joined : PySem.W.nsIn K mainGlobals "joined" = some (some (.ref f_joined)))
    (l_joined : K.lookup f_joined = some ⟨oc_joined, od_joined, .func (PySem.W.fnOf "joined" "joined" (defArgs s_joined) (defBody s_joined) (defScope s_joined) .none kV_joined dc_joined pm_joined an_joined cd_joined ct_joined), sl_joined⟩) (c_joined : PySem.W.codeIn K cd_joined "joined" = true) (k_joined : PySem.W.keepIn K (.ref f_joined) = true)
    (a_atom_condition : PySem.W.nsIn K mainGlobals "atom_condition" = some (some (.ref f_atom_condition)))
    (l_atom_condition : K.lookup f_atom_condition = some ⟨oc_atom_condition, od_atom_condition, .func (PySem.W.fnOf "atom_condition" "atom_condition" (defArgs s_atom_condition) (defBody s_atom_condition) (defScope s_atom_condition) .none kV_atom_condition dc_atom_condition pm_atom_condition an_atom_condition cd_atom_condition ct_atom_condition), sl_atom_condition⟩) (c_atom_condition : PySem.W.codeIn K cd_atom_condition "atom_condition" = true) (k_atom_condition : PySem.W.keepIn K (.ref f_atom_condition) = true)
    (a_condition_of : PySem.W.nsIn K mainGlobals "condition_of" = some (some (.ref f_condition_of)))
    (l_condition_of : K.lookup f_condition_of = some ⟨oc_condition_of, od_condition_of, .func (PySem.W.fnOf "condition_of" "condition_of" (defArgs s_condition_of) (defBody s_condition_of) (defScope s_condition_of) .none kV_condition_of dc_condition_of pm_condition_of an_condition_of cd_condition_of ct_condition_of), sl_condition_of⟩) (c_condition_of : PySem.W.codeIn K cd_condition_of "condition_of" = true) (k_condition_of : PySem.W.keepIn K (.ref f_condition_of) = true)
    (a_same_condition : PySem.W.nsIn K mainGlobals "same_condition" = some (some (.ref f_same_condition)))
    (l_same_condition : K.lookup f_same_condition = some ⟨oc_same_condition, od_same_condition, .func (PySem.W.fnOf "same_condition" "same_condition" (defArgs s_same_condition) (defBody s_same_condition) (defScope s_same_condition) .none kV_same_condition dc_same_condition pm_same_condition an_same_condition cd_same_condition ct_same_condition), sl_same_condition⟩) (c_same_condition : PySem.W.codeIn K cd_same_condition "same_condition" = true) (k_same_condition : PySem.W.keepIn K (.ref f_same_condition) = true)
    (a_stops : PySem.W.nsIn K mainGlobals "stops" = some (some (.ref f_stops)))
    (l_stops : K.lookup f_stops = some ⟨oc_stops, od_stops, .func (PySem.W.fnOf "stops" "stops" (defArgs s_stops) (defBody s_stops) (defScope s_stops) .none kV_stops dc_stops pm_stops an_stops cd_stops ct_stops), sl_stops⟩) (c_stops : PySem.W.codeIn K cd_stops "stops" = true) (k_stops : PySem.W.keepIn K (.ref f_stops) = true)
    (a_found_moves : PySem.W.nsIn K mainGlobals "found_moves" = some (some (.ref f_found_moves)))
    (l_found_moves : K.lookup f_found_moves = some ⟨oc_found_moves, od_found_moves, .func (PySem.W.fnOf "found_moves" "found_moves" (defArgs s_found_moves) (defBody s_found_moves) (defScope s_found_moves) .none kV_found_moves dc_found_moves pm_found_moves an_found_moves cd_found_moves ct_found_moves), sl_found_moves⟩) (c_found_moves : PySem.W.codeIn K cd_found_moves "found_moves" = true) (k_found_moves : PySem.W.keepIn K (.ref f_found_moves) = true)
    (a_after_deed : PySem.W.nsIn K mainGlobals "after_deed" = some (some (.ref f_after_deed)))
    (l_after_deed : K.lookup f_after_deed = some ⟨oc_after_deed, od_after_deed, .func (PySem.W.fnOf "after_deed" "after_deed" (defArgs s_after_deed) (defBody s_after_deed) (defScope s_after_deed) .none kV_after_deed dc_after_deed pm_after_deed an_after_deed cd_after_deed ct_after_deed), sl_after_deed⟩) (c_after_deed : PySem.W.codeIn K cd_after_deed "after_deed" = true) (k_after_deed : PySem.W.keepIn K (.ref f_after_deed) = true)
    (a_stops_of : PySem.W.nsIn K mainGlobals "stops_of" = some (some (.ref f_stops_of)))
    (l_stops_of : K.lookup f_stops_of = some ⟨oc_stops_of, od_stops_of, .func (PySem.W.fnOf "stops_of" "stops_of" (defArgs s_stops_of) (defBody s_stops_of) (defScope s_stops_of) .none kV_stops_of dc_stops_of pm_stops_of an_stops_of cd_stops_of ct_stops_of), sl_stops_of⟩) (c_stops_of : PySem.W.codeIn K cd_stops_of "stops_of" = true) (k_stops_of : PySem.W.keepIn K (.ref f_stops_of) = true)
    (a_steps_of : PySem.W.nsIn K mainGlobals "steps_of" = some (some (.ref f_steps_of)))
    (l_steps_of : K.lookup f_steps_of = some ⟨oc_steps_of, od_steps_of, .func (PySem.W.fnOf "steps_of" "steps_of" (defArgs s_steps_of) (defBody s_steps_of) (defScope s_steps_of) .none kV_steps_of dc_steps_of pm_steps_of an_steps_of cd_steps_of ct_steps_of), sl_steps_of⟩) (c_steps_of : PySem.W.codeIn K cd_steps_of "steps_of" = true) (k_steps_of : PySem.W.keepIn K (.ref f_steps_of) = true)
    (a_searched : PySem.W.nsIn K mainGlobals "searched" = some (some (.ref f_searched)))
    (l_searched : K.lookup f_searched = some ⟨oc_searched, od_searched, .func (PySem.W.fnOf "searched" "searched" (defArgs s_searched) (defBody s_searched) (defScope s_searched) .none kV_searched dc_searched pm_searched an_searched cd_searched ct_searched), sl_searched⟩) (c_searched : PySem.W.codeIn K cd_searched "searched" = true) (k_searched : PySem.W.keepIn K (.ref f_searched) = true)
    (a_are_alike : PySem.W.nsIn K mainGlobals "are_alike" = some (some (.ref f_are_alike)))
    (l_are_alike : K.lookup f_are_alike = some ⟨oc_are_alike, od_are_alike, .func (PySem.W.fnOf "are_alike" "are_alike" (defArgs s_are_alike) (defBody s_are_alike) (defScope s_are_alike) .none kV_are_alike dc_are_alike pm_are_alike an_are_alike cd_are_alike ct_are_alike), sl_are_alike⟩) (c_are_alike : PySem.W.codeIn K cd_are_alike "are_alike" = true) (k_are_alike : PySem.W.keepIn K (.ref f_are_alike) = true)
    (a_is_nothing : PySem.W.nsIn K mainGlobals "is_nothing" = some (some (.ref f_is_nothing)))
    (l_is_nothing : K.lookup f_is_nothing = some ⟨oc_is_nothing, od_is_nothing, .func (PySem.W.fnOf "is_nothing" "is_nothing" (defArgs s_is_nothing) (defBody s_is_nothing) (defScope s_is_nothing) .none kV_is_nothing dc_is_nothing pm_is_nothing an_is_nothing cd_is_nothing ct_is_nothing), sl_is_nothing⟩) (c_is_nothing : PySem.W.codeIn K cd_is_nothing "is_nothing" = true) (k_is_nothing : PySem.W.keepIn K (.ref f_is_nothing) = true)
    (a_broken_term : PySem.W.nsIn K mainGlobals "broken_term" = some (some (.ref f_broken_term)))
    (l_broken_term : K.lookup f_broken_term = some ⟨oc_broken_term, od_broken_term, .func (PySem.W.fnOf "broken_term" "broken_term" (defArgs s_broken_term) (defBody s_broken_term) (defScope s_broken_term) .none kV_broken_term dc_broken_term pm_broken_term an_broken_term cd_broken_term ct_broken_term), sl_broken_term⟩) (c_broken_term : PySem.W.codeIn K cd_broken_term "broken_term" = true) (k_broken_term : PySem.W.keepIn K (.ref f_broken_term) = true)
    (a_keeps : PySem.W.nsIn K mainGlobals "keeps" = some (some (.ref f_keeps)))
    (l_keeps : K.lookup f_keeps = some ⟨oc_keeps, od_keeps, .func (PySem.W.fnOf "keeps" "keeps" (defArgs s_keeps) (defBody s_keeps) (defScope s_keeps) .none kV_keeps dc_keeps pm_keeps an_keeps cd_keeps ct_keeps), sl_keeps⟩) (c_keeps : PySem.W.codeIn K cd_keeps "keeps" = true) (k_keeps : PySem.W.keepIn K (.ref f_keeps) = true)
    (a_last_atoms : PySem.W.nsIn K mainGlobals "last_atoms" = some (some (.ref f_last_atoms)))
    (l_last_atoms : K.lookup f_last_atoms = some ⟨oc_last_atoms, od_last_atoms, .func (PySem.W.fnOf "last_atoms" "last_atoms" (defArgs s_last_atoms) (defBody s_last_atoms) (defScope s_last_atoms) .none kV_last_atoms dc_last_atoms pm_last_atoms an_last_atoms cd_last_atoms ct_last_atoms), sl_last_atoms⟩) (c_last_atoms : PySem.W.codeIn K cd_last_atoms "last_atoms" = true) (k_last_atoms : PySem.W.keepIn K (.ref f_last_atoms) = true)
    (a_weakest : PySem.W.nsIn K mainGlobals "weakest" = some (some (.ref f_weakest)))
    (l_weakest : K.lookup f_weakest = some ⟨oc_weakest, od_weakest, .func (PySem.W.fnOf "weakest" "weakest" (defArgs s_weakest) (defBody s_weakest) (defScope s_weakest) .none kV_weakest dc_weakest pm_weakest an_weakest cd_weakest ct_weakest), sl_weakest⟩) (c_weakest : PySem.W.codeIn K cd_weakest "weakest" = true) (k_weakest : PySem.W.keepIn K (.ref f_weakest) = true)
    (a_write_condition : PySem.W.nsIn K mainGlobals "write_condition" = some (some (.ref f_write_condition)))
    (l_write_condition : K.lookup f_write_condition = some ⟨oc_write_condition, od_write_condition, .func (PySem.W.fnOf "write_condition" "write_condition" (defArgs s_write_condition) (defBody s_write_condition) (defScope s_write_condition) .none kV_write_condition dc_write_condition pm_write_condition an_write_condition cd_write_condition ct_write_condition), sl_write_condition⟩) (c_write_condition : PySem.W.codeIn K cd_write_condition "write_condition" = true) (k_write_condition : PySem.W.keepIn K (.ref f_write_condition) = true)
    (a_read_condition : PySem.W.nsIn K mainGlobals "read_condition" = some (some (.ref f_read_condition)))
    (l_read_condition : K.lookup f_read_condition = some ⟨oc_read_condition, od_read_condition, .func (PySem.W.fnOf "read_condition" "read_condition" (defArgs s_read_condition) (defBody s_read_condition) (defScope s_read_condition) .none kV_read_condition dc_read_condition pm_read_condition an_read_condition cd_read_condition ct_read_condition), sl_read_condition⟩) (c_read_condition : PySem.W.codeIn K cd_read_condition "read_condition" = true) (k_read_condition : PySem.W.keepIn K (.ref f_read_condition) = true)
    (a__law_same : PySem.W.nsIn K mainGlobals "_law_same" = some (some (.ref f__law_same)))
    (l__law_same : K.lookup f__law_same = some ⟨oc__law_same, od__law_same, .func (PySem.W.fnOf "_law_same" "_law_same" (defArgs s__law_same) (defBody s__law_same) (defScope s__law_same) .none kV__law_same dc__law_same pm__law_same an__law_same cd__law_same ct__law_same), sl__law_same⟩) (c__law_same : PySem.W.codeIn K cd__law_same "_law_same" = true) (k__law_same : PySem.W.keepIn K (.ref f__law_same) = true)
    (a__law_pool : PySem.W.nsIn K mainGlobals "_law_pool" = some (some (.ref f__law_pool)))
    (l__law_pool : K.lookup f__law_pool = some ⟨oc__law_pool, od__law_pool, .func (PySem.W.fnOf "_law_pool" "_law_pool" (defArgs s__law_pool) (defBody s__law_pool) (defScope s__law_pool) .none kV__law_pool dc__law_pool pm__law_pool an__law_pool cd__law_pool ct__law_pool), sl__law_pool⟩) (c__law_pool : PySem.W.codeIn K cd__law_pool "_law_pool" = true) (k__law_pool : PySem.W.keepIn K (.ref f__law_pool) = true)
    (a__law_spread : PySem.W.nsIn K mainGlobals "_law_spread" = some (some (.ref f__law_spread)))
    (l__law_spread : K.lookup f__law_spread = some ⟨oc__law_spread, od__law_spread, .func (PySem.W.fnOf "_law_spread" "_law_spread" (defArgs s__law_spread) (defBody s__law_spread) (defScope s__law_spread) .none kV__law_spread dc__law_spread pm__law_spread an__law_spread cd__law_spread ct__law_spread), sl__law_spread⟩) (c__law_spread : PySem.W.codeIn K cd__law_spread "_law_spread" = true) (k__law_spread : PySem.W.keepIn K (.ref f__law_spread) = true)
    (a__law_draw : PySem.W.nsIn K mainGlobals "_law_draw" = some (some (.ref f__law_draw)))
    (l__law_draw : K.lookup f__law_draw = some ⟨oc__law_draw, od__law_draw, .func (PySem.W.fnOf "_law_draw" "_law_draw" (defArgs s__law_draw) (defBody s__law_draw) (defScope s__law_draw) .none kV__law_draw dc__law_draw pm__law_draw an__law_draw cd__law_draw ct__law_draw), sl__law_draw⟩) (c__law_draw : PySem.W.codeIn K cd__law_draw "_law_draw" = true) (k__law_draw : PySem.W.keepIn K (.ref f__law_draw) = true)
    (a__law_pick : PySem.W.nsIn K mainGlobals "_law_pick" = some (some (.ref f__law_pick)))
    (l__law_pick : K.lookup f__law_pick = some ⟨oc__law_pick, od__law_pick, .func (PySem.W.fnOf "_law_pick" "_law_pick" (defArgs s__law_pick) (defBody s__law_pick) (defScope s__law_pick) .none kV__law_pick dc__law_pick pm__law_pick an__law_pick cd__law_pick ct__law_pick), sl__law_pick⟩) (c__law_pick : PySem.W.codeIn K cd__law_pick "_law_pick" = true) (k__law_pick : PySem.W.keepIn K (.ref f__law_pick) = true)
    (a__law_world : PySem.W.nsIn K mainGlobals "_law_world" = some (some (.ref f__law_world)))
    (l__law_world : K.lookup f__law_world = some ⟨oc__law_world, od__law_world, .func (PySem.W.fnOf "_law_world" "_law_world" (defArgs s__law_world) (defBody s__law_world) (defScope s__law_world) .none kV__law_world dc__law_world pm__law_world an__law_world cd__law_world ct__law_world), sl__law_world⟩) (c__law_world : PySem.W.codeIn K cd__law_world "_law_world" = true) (k__law_world : PySem.W.keepIn K (.ref f__law_world) = true)
    (a__law_condition : PySem.W.nsIn K mainGlobals "_law_condition" = some (some (.ref f__law_condition)))
    (l__law_condition : K.lookup f__law_condition = some ⟨oc__law_condition, od__law_condition, .func (PySem.W.fnOf "_law_condition" "_law_condition" (defArgs s__law_condition) (defBody s__law_condition) (defScope s__law_condition) .none kV__law_condition dc__law_condition pm__law_condition an__law_condition cd__law_condition ct__law_condition), sl__law_condition⟩) (c__law_condition : PySem.W.codeIn K cd__law_condition "_law_condition" = true) (k__law_condition : PySem.W.keepIn K (.ref f__law_condition) = true)
    (a_law : PySem.W.nsIn K mainGlobals "law" = some (some (.ref f_law)))
    (l_law : K.lookup f_law = some ⟨oc_law, od_law, .func (PySem.W.fnOf "law" "law" (defArgs s_law) (defBody s_law) (defScope s_law) .none kV_law dc_law pm_law an_law cd_law ct_law), sl_law⟩) (c_law : PySem.W.codeIn K cd_law "law" = true) (k_law : PySem.W.keepIn K (.ref f_law) = true)
    (a_minit : PySem.W.findIn K (.ref C) "__init__" = some (some (.ref f_minit))) (i_minit : PySem.W.isFn K (.ref f_minit) = true)
    (l_minit : K.lookup f_minit = some ⟨oc_minit, od_minit, .func (PySem.W.fnOf "__init__" "Reader.__init__" (defArgs s_Reader___init__) (defBody s_Reader___init__) (defScope s_Reader___init__) .none kV_minit dc_minit pm_minit an_minit cd_minit ct_minit), sl_minit⟩) (c_minit : PySem.W.codeIn K cd_minit "Reader.__init__" = true) (k_minit : PySem.W.keepIn K (.ref f_minit) = true)
    (a_mtake : PySem.W.findIn K (.ref C) "take" = some (some (.ref f_mtake))) (i_mtake : PySem.W.isFn K (.ref f_mtake) = true)
    (l_mtake : K.lookup f_mtake = some ⟨oc_mtake, od_mtake, .func (PySem.W.fnOf "take" "Reader.take" (defArgs s_Reader_take) (defBody s_Reader_take) (defScope s_Reader_take) .none kV_mtake dc_mtake pm_mtake an_mtake cd_mtake ct_mtake), sl_mtake⟩) (c_mtake : PySem.W.codeIn K cd_mtake "Reader.take" = true) (k_mtake : PySem.W.keepIn K (.ref f_mtake) = true)
    (a_mfirst_of : PySem.W.findIn K (.ref C) "first_of" = some (some (.ref f_mfirst_of))) (i_mfirst_of : PySem.W.isFn K (.ref f_mfirst_of) = true)
    (l_mfirst_of : K.lookup f_mfirst_of = some ⟨oc_mfirst_of, od_mfirst_of, .func (PySem.W.fnOf "first_of" "Reader.first_of" (defArgs s_Reader_first_of) (defBody s_Reader_first_of) (defScope s_Reader_first_of) .none kV_mfirst_of dc_mfirst_of pm_mfirst_of an_mfirst_of cd_mfirst_of ct_mfirst_of), sl_mfirst_of⟩) (c_mfirst_of : PySem.W.codeIn K cd_mfirst_of "Reader.first_of" = true) (k_mfirst_of : PySem.W.keepIn K (.ref f_mfirst_of) = true)
    (a_mdeeper : PySem.W.findIn K (.ref C) "deeper" = some (some (.ref f_mdeeper))) (i_mdeeper : PySem.W.isFn K (.ref f_mdeeper) = true)
    (l_mdeeper : K.lookup f_mdeeper = some ⟨oc_mdeeper, od_mdeeper, .func (PySem.W.fnOf "deeper" "Reader.deeper" (defArgs s_Reader_deeper) (defBody s_Reader_deeper) (defScope s_Reader_deeper) .none kV_mdeeper dc_mdeeper pm_mdeeper an_mdeeper cd_mdeeper ct_mdeeper), sl_mdeeper⟩) (c_mdeeper : PySem.W.codeIn K cd_mdeeper "Reader.deeper" = true) (k_mdeeper : PySem.W.keepIn K (.ref f_mdeeper) = true)
    (a_mback : PySem.W.findIn K (.ref C) "back" = some (some (.ref f_mback))) (i_mback : PySem.W.isFn K (.ref f_mback) = true)
    (l_mback : K.lookup f_mback = some ⟨oc_mback, od_mback, .func (PySem.W.fnOf "back" "Reader.back" (defArgs s_Reader_back) (defBody s_Reader_back) (defScope s_Reader_back) .none kV_mback dc_mback pm_mback an_mback cd_mback ct_mback), sl_mback⟩) (c_mback : PySem.W.codeIn K cd_mback "Reader.back" = true) (k_mback : PySem.W.keepIn K (.ref f_mback) = true)
    (a_mcondition : PySem.W.findIn K (.ref C) "condition" = some (some (.ref f_mcondition))) (i_mcondition : PySem.W.isFn K (.ref f_mcondition) = true)
    (l_mcondition : K.lookup f_mcondition = some ⟨oc_mcondition, od_mcondition, .func (PySem.W.fnOf "condition" "Reader.condition" (defArgs s_Reader_condition) (defBody s_Reader_condition) (defScope s_Reader_condition) .none kV_mcondition dc_mcondition pm_mcondition an_mcondition cd_mcondition ct_mcondition), sl_mcondition⟩) (c_mcondition : PySem.W.codeIn K cd_mcondition "Reader.condition" = true) (k_mcondition : PySem.W.keepIn K (.ref f_mcondition) = true)
    (a_mend : PySem.W.findIn K (.ref C) "end" = some (some (.ref f_mend))) (i_mend : PySem.W.isFn K (.ref f_mend) = true)
    (l_mend : K.lookup f_mend = some ⟨oc_mend, od_mend, .func (PySem.W.fnOf "end" "Reader.end" (defArgs s_Reader_end) (defBody s_Reader_end) (defScope s_Reader_end) .none kV_mend dc_mend pm_mend an_mend cd_mend ct_mend), sl_mend⟩) (c_mend : PySem.W.codeIn K cd_mend "Reader.end" = true) (k_mend : PySem.W.keepIn K (.ref f_mend) = true)
    (aC : PySem.W.nsIn K mainGlobals "Reader" = some (some (.ref C)))
    (pg : PySem.W.plainGet K C Str.empty = true) (hd : PySem.W.hasDictIn K C = true) (po : PySem.W.plainOver K C = true) (sa : PySem.W.findIn K (.ref C) "__setattr__" = some (some (.builtin "object.__setattr__"))) (mk : PySem.W.makesIn K C = true) (kc : PySem.W.keepIn K (.ref C) = true)
    (nT : PySem.W.findIn K (.ref C) "text" = some none) (nA : PySem.W.findIn K (.ref C) "at" = some none) (nD : PySem.W.findIn K (.ref C) "depth" = some none)
    (q1 : PySem.W.nsIn K mainGlobals "MOST_DEPTH_conditions" = some (some (.int 40 t1))) (q2 : PySem.W.nsIn K mainGlobals "MOST_DEPTH_deedtexts" = some (some (.int 300 t2))) (q3 : PySem.W.nsIn K mainGlobals "TESTS" = some (some (.str "pqr" t3)))
    (z_len : PySem.W.nsIn K mainGlobals "len" = some none)
    (z_list : PySem.W.nsIn K mainGlobals "list" = some none)
    (z_tuple : PySem.W.nsIn K mainGlobals "tuple" = some none)
    (z_range : PySem.W.nsIn K mainGlobals "range" = some none)
    (z_any : PySem.W.nsIn K mainGlobals "any" = some none)
    (z_all : PySem.W.nsIn K mainGlobals "all" = some none)
    (z_sorted : PySem.W.nsIn K mainGlobals "sorted" = some none)
    (z_set : PySem.W.nsIn K mainGlobals "set" = some none)
    (z_isinstance : PySem.W.nsIn K mainGlobals "isinstance" = some none)
    (z_int : PySem.W.nsIn K mainGlobals "int" = some none)
    (z_bool : PySem.W.nsIn K mainGlobals "bool" = some none)
    (z_str : PySem.W.nsIn K mainGlobals "str" = some none)
    : ∃ fd : FuncData, (∀ (s : Shared) (v : Value), BindsTo s fd ⟨[v], []⟩ [("script", v)]) ∧ ∀ base : Heap, K.In base → base.Ns mainGlobals mg → FnOk l.prog w K mg base CX0 40 fa fd ["script"] (spLaw K) := by
  have e := hfa.symm.trans (PySem.W.mg_of KX G a_law)
  cases e
  have F_is_whole := fun_mk (st := s_is_whole) l_is_whole c_is_whole k_is_whole
  have b_is_whole := F_is_whole.binds (ps := ["value"]) fun _ _ _ _ _ _ us hl => match us, hl with | [_], _ => rfl
  have e_is_whole : ∃ (f : Addr) (fd : FuncData), Df K mg "is_whole" s_is_whole ["value"] f fd := ⟨_, _, ⟨F_is_whole, PySem.W.mg_of KX G a_is_whole, b_is_whole⟩⟩
  have F_name_of := fun_mk (st := s_name_of) l_name_of c_name_of k_name_of
  have b_name_of := F_name_of.binds (ps := ["value"]) fun _ _ _ _ _ _ us hl => match us, hl with | [_], _ => rfl
  have e_name_of : ∃ (f : Addr) (fd : FuncData), Df K mg "name_of" s_name_of ["value"] f fd := ⟨_, _, ⟨F_name_of, PySem.W.mg_of KX G a_name_of, b_name_of⟩⟩
  have F_inner_conditions := fun_mk (st := s_inner_conditions) l_inner_conditions c_inner_conditions k_inner_conditions
  have b_inner_conditions := F_inner_conditions.binds (ps := ["world", "part"]) fun _ _ _ _ _ _ us hl => match us, hl with | [_, _], _ => rfl
  have e_inner_conditions : ∃ (f : Addr) (fd : FuncData), Df K mg "inner_conditions" s_inner_conditions ["world", "part"] f fd := ⟨_, _, ⟨F_inner_conditions, PySem.W.mg_of KX G a_inner_conditions, b_inner_conditions⟩⟩
  have F_is_condition_to := fun_mk (st := s_is_condition_to) l_is_condition_to c_is_condition_to k_is_condition_to
  have b_is_condition_to := F_is_condition_to.binds (ps := ["world", "value", "most"]) fun _ _ _ _ _ _ us hl => match us, hl with | [_, _, _], _ => rfl
  have e_is_condition_to : ∃ (f : Addr) (fd : FuncData), Df K mg "is_condition_to" s_is_condition_to ["world", "value", "most"] f fd := ⟨_, _, ⟨F_is_condition_to, PySem.W.mg_of KX G a_is_condition_to, b_is_condition_to⟩⟩
  have F_is_condition := fun_mk (st := s_is_condition) l_is_condition c_is_condition k_is_condition
  have b_is_condition := F_is_condition.binds (ps := ["world", "value"]) fun _ _ _ _ _ _ us hl => match us, hl with | [_, _], _ => rfl
  have e_is_condition : ∃ (f : Addr) (fd : FuncData), Df K mg "is_condition" s_is_condition ["world", "value"] f fd := ⟨_, _, ⟨F_is_condition, PySem.W.mg_of KX G a_is_condition, b_is_condition⟩⟩
  have F_atoms_of := fun_mk (st := s_atoms_of) l_atoms_of c_atoms_of k_atoms_of
  have b_atoms_of := F_atoms_of.binds (ps := ["world"]) fun _ _ _ _ _ _ us hl => match us, hl with | [_], _ => rfl
  have e_atoms_of : ∃ (f : Addr) (fd : FuncData), Df K mg "atoms_of" s_atoms_of ["world"] f fd := ⟨_, _, ⟨F_atoms_of, PySem.W.mg_of KX G a_atoms_of, b_atoms_of⟩⟩
  have F_holds := fun_mk (st := s_holds) l_holds c_holds k_holds
  have b_holds := F_holds.binds (ps := ["condition", "atom"]) fun _ _ _ _ _ _ us hl => match us, hl with | [_, _], _ => rfl
  have e_holds : ∃ (f : Addr) (fd : FuncData), Df K mg "holds" s_holds ["condition", "atom"] f fd := ⟨_, _, ⟨F_holds, PySem.W.mg_of KX G a_holds, b_holds⟩⟩
  have F_atoms_where := fun_mk (st := s_atoms_where) l_atoms_where c_atoms_where k_atoms_where
  have b_atoms_where := F_atoms_where.binds (ps := ["world", "condition"]) fun _ _ _ _ _ _ us hl => match us, hl with | [_, _], _ => rfl
  have e_atoms_where : ∃ (f : Addr) (fd : FuncData), Df K mg "atoms_where" s_atoms_where ["world", "condition"] f fd := ⟨_, _, ⟨F_atoms_where, PySem.W.mg_of KX G a_atoms_where, b_atoms_where⟩⟩
  have F_joined := fun_mk (st := s_joined) l_joined c_joined k_joined
  have b_joined := F_joined.binds (ps := ["name", "items"]) fun _ _ _ _ _ _ us hl => match us, hl with | [_, _], _ => rfl
  have e_joined : ∃ (f : Addr) (fd : FuncData), Df K mg "joined" s_joined ["name", "items"] f fd := ⟨_, _, ⟨F_joined, PySem.W.mg_of KX G a_joined, b_joined⟩⟩
  have F_atom_condition := fun_mk (st := s_atom_condition) l_atom_condition c_atom_condition k_atom_condition
  have b_atom_condition := F_atom_condition.binds (ps := ["world", "atom"]) fun _ _ _ _ _ _ us hl => match us, hl with | [_, _], _ => rfl
  have e_atom_condition : ∃ (f : Addr) (fd : FuncData), Df K mg "atom_condition" s_atom_condition ["world", "atom"] f fd := ⟨_, _, ⟨F_atom_condition, PySem.W.mg_of KX G a_atom_condition, b_atom_condition⟩⟩
  have F_condition_of := fun_mk (st := s_condition_of) l_condition_of c_condition_of k_condition_of
  have b_condition_of := F_condition_of.binds (ps := ["world", "atoms"]) fun _ _ _ _ _ _ us hl => match us, hl with | [_, _], _ => rfl
  have e_condition_of : ∃ (f : Addr) (fd : FuncData), Df K mg "condition_of" s_condition_of ["world", "atoms"] f fd := ⟨_, _, ⟨F_condition_of, PySem.W.mg_of KX G a_condition_of, b_condition_of⟩⟩
  have F_same_condition := fun_mk (st := s_same_condition) l_same_condition c_same_condition k_same_condition
  have b_same_condition := F_same_condition.binds (ps := ["world", "one", "two"]) fun _ _ _ _ _ _ us hl => match us, hl with | [_, _, _], _ => rfl
  have e_same_condition : ∃ (f : Addr) (fd : FuncData), Df K mg "same_condition" s_same_condition ["world", "one", "two"] f fd := ⟨_, _, ⟨F_same_condition, PySem.W.mg_of KX G a_same_condition, b_same_condition⟩⟩
  have F_stops := fun_mk (st := s_stops) l_stops c_stops k_stops
  have b_stops := F_stops.binds (ps := ["term", "atom"]) fun _ _ _ _ _ _ us hl => match us, hl with | [_, _], _ => rfl
  have e_stops : ∃ (f : Addr) (fd : FuncData), Df K mg "stops" s_stops ["term", "atom"] f fd := ⟨_, _, ⟨F_stops, PySem.W.mg_of KX G a_stops, b_stops⟩⟩
  have F_found_moves := fun_mk (st := s_found_moves) l_found_moves c_found_moves k_found_moves
  have b_found_moves := F_found_moves.binds (ps := ["term", "atom", "deed"]) fun _ _ _ _ _ _ us hl => match us, hl with | [_, _, _], _ => rfl
  have e_found_moves : ∃ (f : Addr) (fd : FuncData), Df K mg "found_moves" s_found_moves ["term", "atom", "deed"] f fd := ⟨_, _, ⟨F_found_moves, PySem.W.mg_of KX G a_found_moves, b_found_moves⟩⟩
  have F_after_deed := fun_mk (st := s_after_deed) l_after_deed c_after_deed k_after_deed
  have b_after_deed := F_after_deed.binds (ps := ["state", "atom", "deed"]) fun _ _ _ _ _ _ us hl => match us, hl with | [_, _, _], _ => rfl
  have e_after_deed : ∃ (f : Addr) (fd : FuncData), Df K mg "after_deed" s_after_deed ["state", "atom", "deed"] f fd := ⟨_, _, ⟨F_after_deed, PySem.W.mg_of KX G a_after_deed, b_after_deed⟩⟩
  have F_stops_of := fun_mk (st := s_stops_of) l_stops_of c_stops_of k_stops_of
  have b_stops_of := F_stops_of.binds (ps := ["world", "state"]) fun _ _ _ _ _ _ us hl => match us, hl with | [_, _], _ => rfl
  have e_stops_of : ∃ (f : Addr) (fd : FuncData), Df K mg "stops_of" s_stops_of ["world", "state"] f fd := ⟨_, _, ⟨F_stops_of, PySem.W.mg_of KX G a_stops_of, b_stops_of⟩⟩
  have F_steps_of := fun_mk (st := s_steps_of) l_steps_of c_steps_of k_steps_of
  have b_steps_of := F_steps_of.binds (ps := ["world"]) fun _ _ _ _ _ _ us hl => match us, hl with | [_], _ => rfl
  have e_steps_of : ∃ (f : Addr) (fd : FuncData), Df K mg "steps_of" s_steps_of ["world"] f fd := ⟨_, _, ⟨F_steps_of, PySem.W.mg_of KX G a_steps_of, b_steps_of⟩⟩
  have F_searched := fun_mk (st := s_searched) l_searched c_searched k_searched
  have b_searched := F_searched.binds (ps := ["world", "one", "two"]) fun _ _ _ _ _ _ us hl => match us, hl with | [_, _, _], _ => rfl
  have e_searched : ∃ (f : Addr) (fd : FuncData), Df K mg "searched" s_searched ["world", "one", "two"] f fd := ⟨_, _, ⟨F_searched, PySem.W.mg_of KX G a_searched, b_searched⟩⟩
  have F_are_alike := fun_mk (st := s_are_alike) l_are_alike c_are_alike k_are_alike
  have b_are_alike := F_are_alike.binds (ps := ["world", "one", "two"]) fun _ _ _ _ _ _ us hl => match us, hl with | [_, _, _], _ => rfl
  have e_are_alike : ∃ (f : Addr) (fd : FuncData), Df K mg "are_alike" s_are_alike ["world", "one", "two"] f fd := ⟨_, _, ⟨F_are_alike, PySem.W.mg_of KX G a_are_alike, b_are_alike⟩⟩
  have F_is_nothing := fun_mk (st := s_is_nothing) l_is_nothing c_is_nothing k_is_nothing
  have b_is_nothing := F_is_nothing.binds (ps := ["world", "term"]) fun _ _ _ _ _ _ us hl => match us, hl with | [_, _], _ => rfl
  have e_is_nothing : ∃ (f : Addr) (fd : FuncData), Df K mg "is_nothing" s_is_nothing ["world", "term"] f fd := ⟨_, _, ⟨F_is_nothing, PySem.W.mg_of KX G a_is_nothing, b_is_nothing⟩⟩
  have F_broken_term := fun_mk (st := s_broken_term) l_broken_term c_broken_term k_broken_term
  have b_broken_term := F_broken_term.binds (ps := ["before", "term", "after"]) fun _ _ _ _ _ _ us hl => match us, hl with | [_, _, _], _ => rfl
  have e_broken_term : ∃ (f : Addr) (fd : FuncData), Df K mg "broken_term" s_broken_term ["before", "term", "after"] f fd := ⟨_, _, ⟨F_broken_term, PySem.W.mg_of KX G a_broken_term, b_broken_term⟩⟩
  have F_keeps := fun_mk (st := s_keeps) l_keeps c_keeps k_keeps
  have b_keeps := F_keeps.binds (ps := ["world", "before", "term", "after"]) fun _ _ _ _ _ _ us hl => match us, hl with | [_, _, _, _], _ => rfl
  have e_keeps : ∃ (f : Addr) (fd : FuncData), Df K mg "keeps" s_keeps ["world", "before", "term", "after"] f fd := ⟨_, _, ⟨F_keeps, PySem.W.mg_of KX G a_keeps, b_keeps⟩⟩
  have F_last_atoms := fun_mk (st := s_last_atoms) l_last_atoms c_last_atoms k_last_atoms
  have b_last_atoms := F_last_atoms.binds (ps := ["world", "term", "atom"]) fun _ _ _ _ _ _ us hl => match us, hl with | [_, _, _], _ => rfl
  have e_last_atoms : ∃ (f : Addr) (fd : FuncData), Df K mg "last_atoms" s_last_atoms ["world", "term", "atom"] f fd := ⟨_, _, ⟨F_last_atoms, PySem.W.mg_of KX G a_last_atoms, b_last_atoms⟩⟩
  have F_weakest := fun_mk (st := s_weakest) l_weakest c_weakest k_weakest
  have b_weakest := F_weakest.binds (ps := ["world", "term", "after"]) fun _ _ _ _ _ _ us hl => match us, hl with | [_, _, _], _ => rfl
  have e_weakest : ∃ (f : Addr) (fd : FuncData), Df K mg "weakest" s_weakest ["world", "term", "after"] f fd := ⟨_, _, ⟨F_weakest, PySem.W.mg_of KX G a_weakest, b_weakest⟩⟩
  have F_write_condition := fun_mk (st := s_write_condition) l_write_condition c_write_condition k_write_condition
  have b_write_condition := F_write_condition.binds (ps := ["condition"]) fun _ _ _ _ _ _ us hl => match us, hl with | [_], _ => rfl
  have e_write_condition : ∃ (f : Addr) (fd : FuncData), Df K mg "write_condition" s_write_condition ["condition"] f fd := ⟨_, _, ⟨F_write_condition, PySem.W.mg_of KX G a_write_condition, b_write_condition⟩⟩
  have F_read_condition := fun_mk (st := s_read_condition) l_read_condition c_read_condition k_read_condition
  have b_read_condition := F_read_condition.binds (ps := ["world", "text"]) fun _ _ _ _ _ _ us hl => match us, hl with | [_, _], _ => rfl
  have e_read_condition : ∃ (f : Addr) (fd : FuncData), Df K mg "read_condition" s_read_condition ["world", "text"] f fd := ⟨_, _, ⟨F_read_condition, PySem.W.mg_of KX G a_read_condition, b_read_condition⟩⟩
  have F__law_same := fun_mk (st := s__law_same) l__law_same c__law_same k__law_same
  have b__law_same := F__law_same.binds (ps := ["actual", "due"]) fun _ _ _ _ _ _ us hl => match us, hl with | [_, _], _ => rfl
  have e__law_same : ∃ (f : Addr) (fd : FuncData), Df K mg "_law_same" s__law_same ["actual", "due"] f fd := ⟨_, _, ⟨F__law_same, PySem.W.mg_of KX G a__law_same, b__law_same⟩⟩
  have F__law_pool := fun_mk (st := s__law_pool) l__law_pool c__law_pool k__law_pool
  have b__law_pool := F__law_pool.binds (ps := ["script"]) fun _ _ _ _ _ _ us hl => match us, hl with | [_], _ => rfl
  have e__law_pool : ∃ (f : Addr) (fd : FuncData), Df K mg "_law_pool" s__law_pool ["script"] f fd := ⟨_, _, ⟨F__law_pool, PySem.W.mg_of KX G a__law_pool, b__law_pool⟩⟩
  have F__law_spread := fun_mk (st := s__law_spread) l__law_spread c__law_spread k__law_spread
  have b__law_spread := F__law_spread.binds (ps := ["cell"]) fun _ _ _ _ _ _ us hl => match us, hl with | [_], _ => rfl
  have e__law_spread : ∃ (f : Addr) (fd : FuncData), Df K mg "_law_spread" s__law_spread ["cell"] f fd := ⟨_, _, ⟨F__law_spread, PySem.W.mg_of KX G a__law_spread, b__law_spread⟩⟩
  have F__law_draw := fun_mk (st := s__law_draw) l__law_draw c__law_draw k__law_draw
  have b__law_draw := F__law_draw.binds (ps := ["pool", "many"]) fun _ _ _ _ _ _ us hl => match us, hl with | [_, _], _ => rfl
  have e__law_draw : ∃ (f : Addr) (fd : FuncData), Df K mg "_law_draw" s__law_draw ["pool", "many"] f fd := ⟨_, _, ⟨F__law_draw, PySem.W.mg_of KX G a__law_draw, b__law_draw⟩⟩
  have F__law_pick := fun_mk (st := s__law_pick) l__law_pick c__law_pick k__law_pick
  have b__law_pick := F__law_pick.binds (ps := ["pool", "items"]) fun _ _ _ _ _ _ us hl => match us, hl with | [_, _], _ => rfl
  have e__law_pick : ∃ (f : Addr) (fd : FuncData), Df K mg "_law_pick" s__law_pick ["pool", "items"] f fd := ⟨_, _, ⟨F__law_pick, PySem.W.mg_of KX G a__law_pick, b__law_pick⟩⟩
  have F__law_world := fun_mk (st := s__law_world) l__law_world c__law_world k__law_world
  have b__law_world := F__law_world.binds (ps := ["pool", "most"]) fun _ _ _ _ _ _ us hl => match us, hl with | [_, _], _ => rfl
  have e__law_world : ∃ (f : Addr) (fd : FuncData), Df K mg "_law_world" s__law_world ["pool", "most"] f fd := ⟨_, _, ⟨F__law_world, PySem.W.mg_of KX G a__law_world, b__law_world⟩⟩
  have F__law_condition := fun_mk (st := s__law_condition) l__law_condition c__law_condition k__law_condition
  have b__law_condition := F__law_condition.binds (ps := ["pool", "world", "deep"]) fun _ _ _ _ _ _ us hl => match us, hl with | [_, _, _], _ => rfl
  have e__law_condition : ∃ (f : Addr) (fd : FuncData), Df K mg "_law_condition" s__law_condition ["pool", "world", "deep"] f fd := ⟨_, _, ⟨F__law_condition, PySem.W.mg_of KX G a__law_condition, b__law_condition⟩⟩
  have F_minit := fun_mk (st := s_Reader___init__) l_minit c_minit k_minit
  have b_minit := F_minit.binds (ps := ["self", "text"]) fun _ _ _ _ _ _ us hl => match us, hl with | [_, _], _ => rfl
  have F_mtake := fun_mk (st := s_Reader_take) l_mtake c_mtake k_mtake
  have b_mtake := F_mtake.binds (ps := ["self", "sign"]) fun _ _ _ _ _ _ us hl => match us, hl with | [_, _], _ => rfl
  have F_mfirst_of := fun_mk (st := s_Reader_first_of) l_mfirst_of c_mfirst_of k_mfirst_of
  have b_mfirst_of := F_mfirst_of.binds (ps := ["self", "signs"]) fun _ _ _ _ _ _ us hl => match us, hl with | [_, _], _ => rfl
  have F_mdeeper := fun_mk (st := s_Reader_deeper) l_mdeeper c_mdeeper k_mdeeper
  have b_mdeeper := F_mdeeper.binds (ps := ["self"]) fun _ _ _ _ _ _ us hl => match us, hl with | [_], _ => rfl
  have F_mback := fun_mk (st := s_Reader_back) l_mback c_mback k_mback
  have b_mback := F_mback.binds (ps := ["self", "found"]) fun _ _ _ _ _ _ us hl => match us, hl with | [_, _], _ => rfl
  have F_mcondition := fun_mk (st := s_Reader_condition) l_mcondition c_mcondition k_mcondition
  have b_mcondition := F_mcondition.binds (ps := ["self"]) fun _ _ _ _ _ _ us hl => match us, hl with | [_], _ => rfl
  have F_mend := fun_mk (st := s_Reader_end) l_mend c_mend k_mend
  have b_mend := F_mend.binds (ps := ["self", "found"]) fun _ _ _ _ _ _ us hl => match us, hl with | [_, _], _ => rfl
  have F_law := fun_mk (st := s_law) l_law c_law k_law
  have B : Blt mg := ⟨PySem.W.mg_none_of KX G z_len, PySem.W.mg_none_of KX G z_list, PySem.W.mg_none_of KX G z_tuple, PySem.W.mg_none_of KX G z_range, PySem.W.mg_none_of KX G z_any, PySem.W.mg_none_of KX G z_all, PySem.W.mg_none_of KX G z_sorted, PySem.W.mg_none_of KX G z_set, PySem.W.mg_none_of KX G z_isinstance, PySem.W.mg_none_of KX G z_int, PySem.W.mg_none_of KX G z_bool, PySem.W.mg_none_of KX G z_str⟩
  have Cc : Cst mg := ⟨⟨_, PySem.W.mg_of KX G q1⟩, ⟨_, PySem.W.mg_of KX G q2⟩, ⟨_, PySem.W.mg_of KX G q3⟩⟩
  have TX : Txt K C := ⟨⟨pg, hd, po, sa⟩, nT, nA, nD⟩
  have RR : Rdr K C _ _ := ⟨TX, ⟨_, _, _, _, _, _, _, _, ⟨a_mdeeper, i_mdeeper, k_mdeeper⟩, F_mdeeper, b_mdeeper, ⟨a_mfirst_of, i_mfirst_of, k_mfirst_of⟩, F_mfirst_of, b_mfirst_of, ⟨a_mback, i_mback, k_mback⟩, F_mback, b_mback, ⟨a_mtake, i_mtake, k_mtake⟩, F_mtake, b_mtake⟩, ⟨a_mcondition, i_mcondition, k_mcondition⟩, F_mcondition, b_mcondition⟩
  have RM : RdrM K mg C _ _ := ⟨RR, PySem.W.mg_of KX G aC, ⟨_, _, _, _, ⟨mk, a_minit, i_minit, kc⟩, F_minit, b_minit, ⟨a_mend, i_mend, k_mend⟩, F_mend, b_mend⟩⟩
  have N : Fns K mg := ⟨e_is_whole, e_name_of, e_inner_conditions, e_is_condition_to, e_is_condition, e_atoms_of, e_holds, e_atoms_where, e_joined, e_atom_condition, e_condition_of, e_same_condition, e_stops, e_found_moves, e_after_deed, e_stops_of, e_steps_of, e_searched, e_are_alike, e_is_nothing, e_broken_term, e_keeps, e_last_atoms, e_weakest, e_write_condition, e_read_condition, e__law_same, e__law_pool, e__law_spread, e__law_draw, e__law_pick, e__law_world, e__law_condition⟩
  exact ⟨PySem.W.fnOf "law" "law" (defArgs s_law) (defBody s_law) (defScope s_law) .none kV_law dc_law pm_law an_law cd_law ct_law, fun s v => .of_eq rfl, fun base _ _ => ok_law B Cc N RM F_law⟩
theorem walk {l : PySem.W.OpenLaw} {q : Program} {loose : List Str} {XP : (Str → Option Value) → Heap → Prop} {YP : World → Heap → Prop} {d : DefRec} {K : Params → PySem.W.Frag} (hn : l.most = some 63) (hdf : d.params.defaults = [])
    (hY : ∀ (w : World) (h : Heap), YP w h → (K w.params).In h)
    (F : ∀ (w : World) (mg : Str → Option Value) (fa : Addr) (h : Heap), (K w.params).In h → h.Ns mainGlobals mg → mg d.name = some (.ref fa) →
      ∃ fd : FuncData, (∀ (s : Shared) (u : Value), BindsTo s fd ⟨[u], []⟩ [("script", u)]) ∧ ∀ base : Heap, (K w.params).In base → base.Ns mainGlobals mg → FnOk l.prog w (K w.params) mg base CX0 40 fa fd ["script"] (spLaw (K w.params))) :
    PySem.W.WalkO q loose XP YP l.row.toRowW d [] (fun f vs => PySem.call f vs) :=
  L2.walk_of (n := 63) (k := 40) (x := "script") (CX := fun _ => CX0) (sp := fun w => spLaw (K w.params)) hn (by decide) hdf ⟨rfl, by decide, by decide⟩ hY F (fun _ _ a ns hl _ hS => ⟨a, ns, rfl, hS, hl, fun _ => rfl⟩) fun _ _ _ _ _ z => z
end KQ
open PySem PySem.W PyProof.Rows
set_option maxRecDepth 100000 in
set_option maxHeartbeats 0 in
theorem PySem.Challenge.cw_deedsagain_k42_whole_conditions_and_asks_holds : PySem.Challenge.rw_deedsagain_k42_whole_conditions_and_asks.Holds := by
  w_on; o_law; k_head; (case hw => w_witness2)
  k_fill
  refine KQ.walk (l := PySem.Challenge.rw_deedsagain_k42_whole_conditions_and_asks) rfl rfl (fun w h Y => PySem.W.kIn_of Y) ?F
  case F =>
    intro w mg fa h KX G hmg
    refine' KQ.all_mk KX G hmg ?a_is_whole ?l_is_whole ?c_is_whole ?k_is_whole ?a_name_of ?l_name_of ?c_name_of ?k_name_of ?a_inner_conditions ?l_inner_conditions ?c_inner_conditions ?k_inner_conditions ?a_is_condition_to ?l_is_condition_to ?c_is_condition_to ?k_is_condition_to ?a_is_condition ?l_is_condition ?c_is_condition ?k_is_condition ?a_atoms_of ?l_atoms_of ?c_atoms_of ?k_atoms_of ?a_holds ?l_holds ?c_holds ?k_holds ?a_atoms_where ?l_atoms_where ?c_atoms_where ?k_atoms_where ?a_joined ?l_joined ?c_joined ?k_joined ?a_atom_condition ?l_atom_condition ?c_atom_condition ?k_atom_condition ?a_condition_of ?l_condition_of ?c_condition_of ?k_condition_of ?a_same_condition ?l_same_condition ?c_same_condition ?k_same_condition ?a_stops ?l_stops ?c_stops ?k_stops ?a_found_moves ?l_found_moves ?c_found_moves ?k_found_moves ?a_after_deed ?l_after_deed ?c_after_deed ?k_after_deed ?a_stops_of ?l_stops_of ?c_stops_of ?k_stops_of ?a_steps_of ?l_steps_of ?c_steps_of ?k_steps_of ?a_searched ?l_searched ?c_searched ?k_searched ?a_are_alike ?l_are_alike ?c_are_alike ?k_are_alike ?a_is_nothing ?l_is_nothing ?c_is_nothing ?k_is_nothing ?a_broken_term ?l_broken_term ?c_broken_term ?k_broken_term ?a_keeps ?l_keeps ?c_keeps ?k_keeps ?a_last_atoms ?l_last_atoms ?c_last_atoms ?k_last_atoms ?a_weakest ?l_weakest ?c_weakest ?k_weakest ?a_write_condition ?l_write_condition ?c_write_condition ?k_write_condition ?a_read_condition ?l_read_condition ?c_read_condition ?k_read_condition ?a__law_same ?l__law_same ?c__law_same ?k__law_same ?a__law_pool ?l__law_pool ?c__law_pool ?k__law_pool ?a__law_spread ?l__law_spread ?c__law_spread ?k__law_spread ?a__law_draw ?l__law_draw ?c__law_draw ?k__law_draw ?a__law_pick ?l__law_pick ?c__law_pick ?k__law_pick ?a__law_world ?l__law_world ?c__law_world ?k__law_world ?a__law_condition ?l__law_condition ?c__law_condition ?k__law_condition ?a_law ?l_law ?c_law ?k_law ?a_minit ?i_minit ?l_minit ?c_minit ?k_minit ?a_mtake ?i_mtake ?l_mtake ?c_mtake ?k_mtake ?a_mfirst_of ?i_mfirst_of ?l_mfirst_of ?c_mfirst_of ?k_mfirst_of ?a_mdeeper ?i_mdeeper ?l_mdeeper ?c_mdeeper ?k_mdeeper ?a_mback ?i_mback ?l_mback ?c_mback ?k_mback ?a_mcondition ?i_mcondition ?l_mcondition ?c_mcondition ?k_mcondition ?a_mend ?i_mend ?l_mend ?c_mend ?k_mend ?aC ?pg ?hd ?po ?sa ?mk ?kc ?nT ?nA ?nD ?q1 ?q2 ?q3 ?z_len ?z_list ?z_tuple ?z_range ?z_any ?z_all ?z_sorted ?z_set ?z_isinstance ?z_int ?z_bool ?z_str
    (case aC => k_is)
    (case a_is_whole => k_is)
    (case l_is_whole => k_is)
    (case c_is_whole => k_is)
    (case k_is_whole => k_is)
    (case a_name_of => k_is)
    (case l_name_of => k_is)
    (case c_name_of => k_is)
    (case k_name_of => k_is)
    (case a_inner_conditions => k_is)
    (case l_inner_conditions => k_is)
    (case c_inner_conditions => k_is)
    (case k_inner_conditions => k_is)
    (case a_is_condition_to => k_is)
    (case l_is_condition_to => k_is)
    (case c_is_condition_to => k_is)
    (case k_is_condition_to => k_is)
    (case a_is_condition => k_is)
    (case l_is_condition => k_is)
    (case c_is_condition => k_is)
    (case k_is_condition => k_is)
    (case a_atoms_of => k_is)
    (case l_atoms_of => k_is)
    (case c_atoms_of => k_is)
    (case k_atoms_of => k_is)
    (case a_holds => k_is)
    (case l_holds => k_is)
    (case c_holds => k_is)
    (case k_holds => k_is)
    (case a_atoms_where => k_is)
    (case l_atoms_where => k_is)
    (case c_atoms_where => k_is)
    (case k_atoms_where => k_is)
    (case a_joined => k_is)
    (case l_joined => k_is)
    (case c_joined => k_is)
    (case k_joined => k_is)
    (case a_atom_condition => k_is)
    (case l_atom_condition => k_is)
    (case c_atom_condition => k_is)
    (case k_atom_condition => k_is)
    (case a_condition_of => k_is)
    (case l_condition_of => k_is)
    (case c_condition_of => k_is)
    (case k_condition_of => k_is)
    (case a_same_condition => k_is)
    (case l_same_condition => k_is)
    (case c_same_condition => k_is)
    (case k_same_condition => k_is)
    (case a_stops => k_is)
    (case l_stops => k_is)
    (case c_stops => k_is)
    (case k_stops => k_is)
    (case a_found_moves => k_is)
    (case l_found_moves => k_is)
    (case c_found_moves => k_is)
    (case k_found_moves => k_is)
    (case a_after_deed => k_is)
    (case l_after_deed => k_is)
    (case c_after_deed => k_is)
    (case k_after_deed => k_is)
    (case a_stops_of => k_is)
    (case l_stops_of => k_is)
    (case c_stops_of => k_is)
    (case k_stops_of => k_is)
    (case a_steps_of => k_is)
    (case l_steps_of => k_is)
    (case c_steps_of => k_is)
    (case k_steps_of => k_is)
    (case a_searched => k_is)
    (case l_searched => k_is)
    (case c_searched => k_is)
    (case k_searched => k_is)
    (case a_are_alike => k_is)
    (case l_are_alike => k_is)
    (case c_are_alike => k_is)
    (case k_are_alike => k_is)
    (case a_is_nothing => k_is)
    (case l_is_nothing => k_is)
    (case c_is_nothing => k_is)
    (case k_is_nothing => k_is)
    (case a_broken_term => k_is)
    (case l_broken_term => k_is)
    (case c_broken_term => k_is)
    (case k_broken_term => k_is)
    (case a_keeps => k_is)
    (case l_keeps => k_is)
    (case c_keeps => k_is)
    (case k_keeps => k_is)
    (case a_last_atoms => k_is)
    (case l_last_atoms => k_is)
    (case c_last_atoms => k_is)
    (case k_last_atoms => k_is)
    (case a_weakest => k_is)
    (case l_weakest => k_is)
    (case c_weakest => k_is)
    (case k_weakest => k_is)
    (case a_write_condition => k_is)
    (case l_write_condition => k_is)
    (case c_write_condition => k_is)
    (case k_write_condition => k_is)
    (case a_read_condition => k_is)
    (case l_read_condition => k_is)
    (case c_read_condition => k_is)
    (case k_read_condition => k_is)
    (case a__law_same => k_is)
    (case l__law_same => k_is)
    (case c__law_same => k_is)
    (case k__law_same => k_is)
    (case a__law_pool => k_is)
    (case l__law_pool => k_is)
    (case c__law_pool => k_is)
    (case k__law_pool => k_is)
    (case a__law_spread => k_is)
    (case l__law_spread => k_is)
    (case c__law_spread => k_is)
    (case k__law_spread => k_is)
    (case a__law_draw => k_is)
    (case l__law_draw => k_is)
    (case c__law_draw => k_is)
    (case k__law_draw => k_is)
    (case a__law_pick => k_is)
    (case l__law_pick => k_is)
    (case c__law_pick => k_is)
    (case k__law_pick => k_is)
    (case a__law_world => k_is)
    (case l__law_world => k_is)
    (case c__law_world => k_is)
    (case k__law_world => k_is)
    (case a__law_condition => k_is)
    (case l__law_condition => k_is)
    (case c__law_condition => k_is)
    (case k__law_condition => k_is)
    (case a_law => k_is)
    (case l_law => k_is)
    (case c_law => k_is)
    (case k_law => k_is)
    (case a_minit => k_is)
    (case i_minit => k_is)
    (case l_minit => k_is)
    (case c_minit => k_is)
    (case k_minit => k_is)
    (case a_mtake => k_is)
    (case i_mtake => k_is)
    (case l_mtake => k_is)
    (case c_mtake => k_is)
    (case k_mtake => k_is)
    (case a_mfirst_of => k_is)
    (case i_mfirst_of => k_is)
    (case l_mfirst_of => k_is)
    (case c_mfirst_of => k_is)
    (case k_mfirst_of => k_is)
    (case a_mdeeper => k_is)
    (case i_mdeeper => k_is)
    (case l_mdeeper => k_is)
    (case c_mdeeper => k_is)
    (case k_mdeeper => k_is)
    (case a_mback => k_is)
    (case i_mback => k_is)
    (case l_mback => k_is)
    (case c_mback => k_is)
    (case k_mback => k_is)
    (case a_mcondition => k_is)
    (case i_mcondition => k_is)
    (case l_mcondition => k_is)
    (case c_mcondition => k_is)
    (case k_mcondition => k_is)
    (case a_mend => k_is)
    (case i_mend => k_is)
    (case l_mend => k_is)
    (case c_mend => k_is)
    (case k_mend => k_is)
    (case pg => k_is)
    (case hd => k_is)
    (case po => k_is)
    (case sa => k_is)
    (case mk => k_is)
    (case kc => k_is)
    (case nT => k_is)
    (case nA => k_is)
    (case nD => k_is)
    (case q1 => k_is)
    (case q2 => k_is)
    (case q3 => k_is)
    (case z_len => k_is)
    (case z_list => k_is)
    (case z_tuple => k_is)
    (case z_range => k_is)
    (case z_any => k_is)
    (case z_all => k_is)
    (case z_sorted => k_is)
    (case z_set => k_is)
    (case z_isinstance => k_is)
    (case z_int => k_is)
    (case z_bool => k_is)
    (case z_str => k_is)
#print axioms PySem.Challenge.cw_deedsagain_k42_whole_conditions_and_asks_holds

