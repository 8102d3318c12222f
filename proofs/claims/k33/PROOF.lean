import PyProof.Rows.All
import Wide.All
import OpenK.AllK
import Wide.FinOn
import HandS.ForMost
import HandS.Wide
import HandS.Gcd
import HandS.EndBits
import HandS.TupAny
import HandS.Deep
import HandS.NoneIn
import HandS.Rev
import HandS.Style
import HandS.Conv
import HandS.StrMore
import HandS.Zip
import KE.GoesEnum
import PySem.Challenge.RW_bellring_k33_whole_lines_and_their_slips
set_option Elab.async false
set_option linter.all false
set_option maxRecDepth 100000
set_option maxHeartbeats 4000000
namespace G
open PySem PySem.Spec PyProof.Rows L2

abbrev St := L2.St
abbrev V := L2.V
/-! ### data -/
inductive D where
  | non | bl (b : Bool) | int (i : Int) | str (x : Str) | tup (xs : List D) | lst (xs : List D) | scr (ns : List Int)

mutual
def Rep (K : PySem.W.Frag) (H : Hp) : D → V → Prop
  | .non, v => v = .non
  | .bl b, v => v = .bl b
  | .int i, v => v = .int i
  | .str x, v => v = .str x
  | .tup ds, v => ∃ a xs, v = .ref a ∧ SqT K H a xs ∧ RepL K H ds xs
  | .lst ds, v => ∃ a xs, v = .ref a ∧ H a = some (.lst xs) ∧ RepL K H ds xs
  | .scr ns, v => ∃ a, v = .ref a ∧ SqL K H a (ns.map V.int)
def RepL (K : PySem.W.Frag) (H : Hp) : List D → List V → Prop
  | [], xs => xs = []
  | d :: ds, xs => ∃ v vs, xs = v :: vs ∧ Rep K H d v ∧ RepL K H ds vs
end
section
variable {K : PySem.W.Frag} {H H' : Hp}
theorem sqT_mono {a : Addr} {xs : List V} (e : Same H H') (h : SqT K H a xs) : SqT K H' a xs := by
  rcases h with (h | ⟨o, h⟩) | h
  · exact .inl (.inl (e _ _ h))
  · exact .inl (.inr ⟨o, e _ _ h⟩)
  · exact .inr h
mutual
theorem Rep.mono (e : Same H H') : ∀ (d : D) (v : V), Rep K H d v → Rep K H' d v
  | .non, _, h => h
  | .bl _, _, h => h
  | .int _, _, h => h
  | .str _, _, h => h
  | .tup ds, v, h => by
    obtain ⟨a, xs, rfl, h1, h2⟩ := h
    exact ⟨a, xs, rfl, sqT_mono e h1, RepL.mono e ds xs h2⟩
  | .lst ds, v, h => by
    obtain ⟨a, xs, rfl, h1, h2⟩ := h
    exact ⟨a, xs, rfl, e _ _ h1, RepL.mono e ds xs h2⟩
  | .scr ns, v, h => by
    obtain ⟨a, rfl, h1⟩ := h
    exact ⟨a, rfl, e.seq h1⟩
theorem RepL.mono (e : Same H H') : ∀ (ds : List D) (xs : List V), RepL K H ds xs → RepL K H' ds xs
  | [], _, h => h
  | d :: ds, xs, h => by
    obtain ⟨v, vs, rfl, h1, h2⟩ := h
    exact ⟨v, vs, rfl, Rep.mono e d v h1, RepL.mono e ds vs h2⟩
end
theorem RepL.nil : RepL K H [] [] := rfl
theorem RepL.cons {d : D} {ds : List D} {v : V} {vs : List V} (h : Rep K H d v) (t : RepL K H ds vs) : RepL K H (d :: ds) (v :: vs) := ⟨v, vs, rfl, h, t⟩
theorem RepL.len : ∀ {ds : List D} {xs : List V}, RepL K H ds xs → xs.length = ds.length
  | [], _, h => by rw [show _ = [] from h]; rfl
  | _ :: _, _, ⟨_, _, e, _, t⟩ => by rw [e, List.length_cons, List.length_cons, RepL.len t]
theorem RepL.get : ∀ {ds : List D} {xs : List V} {i : Nat} {d : D}, RepL K H ds xs → ds[i]? = some d → ∃ v, xs[i]? = some v ∧ Rep K H d v
  | [], _, _, _, _, e => by simp at e
  | _ :: _, _, 0, _, ⟨v, vs, e1, h, _⟩, e => by
    cases e
    exact ⟨v, by rw [e1]; rfl, h⟩
  | _ :: _, _, i + 1, _, ⟨v, vs, e1, _, t⟩, e => by
    obtain ⟨w, hw, r⟩ := RepL.get (i := i) t (by simpa using e)
    exact ⟨w, by rw [e1]; simpa using hw, r⟩
theorem RepL.append : ∀ {ds es : List D} {xs ys : List V}, RepL K H ds xs → RepL K H es ys → RepL K H (ds ++ es) (xs ++ ys)
  | [], _, _, _, h, t => by rw [show _ = [] from h]; exact t
  | _ :: _, _, _, _, ⟨v, vs, e1, h, t⟩, t2 => by rw [e1]; exact ⟨v, _, rfl, h, RepL.append t t2⟩
theorem RepL.take : ∀ {ds : List D} {xs : List V} (n : Nat), RepL K H ds xs → RepL K H (ds.take n) (xs.take n)
  | _, _, 0, _ => rfl
  | [], _, _ + 1, h => by rw [show _ = [] from h]; rfl
  | _ :: _, _, n + 1, ⟨v, vs, e1, h, t⟩ => by rw [e1]; exact ⟨v, _, rfl, h, RepL.take n t⟩
theorem RepL.drop : ∀ {ds : List D} {xs : List V} (n : Nat), RepL K H ds xs → RepL K H (ds.drop n) (xs.drop n)
  | _, _, 0, h => h
  | [], _, _ + 1, h => by rw [show _ = [] from h]; rfl
  | _ :: _, _, n + 1, ⟨v, vs, e1, h, t⟩ => by rw [e1]; exact RepL.drop n t
theorem RepL.set : ∀ {ds : List D} {xs : List V} (n : Nat) {d : D} {v : V}, RepL K H ds xs → Rep K H d v → RepL K H (ds.set n d) (xs.set n v)
  | [], _, _, _, _, h, _ => by rw [show _ = [] from h]; rfl
  | _ :: _, _, 0, _, _, ⟨w, vs, e1, h, t⟩, r => by rw [e1]; exact ⟨_, _, rfl, r, t⟩
  | _ :: _, _, n + 1, _, _, ⟨w, vs, e1, h, t⟩, r => by rw [e1]; exact ⟨_, _, rfl, h, RepL.set n t r⟩
theorem RepL.eraseIdx : ∀ {ds : List D} {xs : List V} (n : Nat), RepL K H ds xs → RepL K H (ds.eraseIdx n) (xs.eraseIdx n)
  | [], _, _, h => by rw [show _ = [] from h]; rfl
  | _ :: _, _, 0, ⟨w, vs, e1, h, t⟩ => by rw [e1]; exact t
  | _ :: _, _, n + 1, ⟨w, vs, e1, h, t⟩ => by rw [e1]; exact ⟨_, _, rfl, h, RepL.eraseIdx n t⟩
theorem RepL.reverse {ds : List D} {xs : List V} (h : RepL K H ds xs) : RepL K H ds.reverse xs.reverse := by
  induction ds generalizing xs with
  | nil => rw [show xs = [] from h]; rfl
  | cons d ds ih =>
    obtain ⟨v, vs, rfl, h1, h2⟩ := h
    rw [List.reverse_cons, List.reverse_cons]
    exact (ih h2).append (RepL.cons h1 RepL.nil)
theorem RepL.ints : ∀ {ns : List Int} {xs : List V}, RepL K H (ns.map D.int) xs → xs = ns.map V.int
  | [], _, h => h
  | n :: ns, _, ⟨v, vs, e1, h, t⟩ => by rw [e1, show v = V.int n from h, RepL.ints t]; rfl
theorem RepL.ofInts : ∀ (ns : List Int), RepL K H (ns.map D.int) (ns.map V.int)
  | [] => rfl
  | n :: ns => ⟨_, _, rfl, rfl, RepL.ofInts ns⟩
end

/-! ### growth -/
structure Gr (Hf H Hf' H' : Hp) : Prop where
  s1 : Same Hf Hf'
  s2 : Same Hf' H'
  old : ∀ b, H b ≠ none → Hf' b = Hf b ∧ H' b = H b
section
variable {Hf H Hf1 H1 Hf2 H2 : Hp} {p : Addr} {o : HO}
theorem same_upd {H : Hp} {p : Addr} {o : HO} (h : H p = none) : Same H (upd H p o) := fun b x e => by
  rw [upd_ne (ne_of_none e h)]
  exact e
theorem Gr.refl (h : Same Hf H) : Gr Hf H Hf H := ⟨Same.refl _, h, fun _ _ => ⟨rfl, rfl⟩⟩
theorem Gr.trans (a : Gr Hf H Hf1 H1) (b : Gr Hf1 H1 Hf2 H2) : Gr Hf H Hf2 H2 :=
  ⟨a.s1.trans b.s1, b.s2, fun c hc => by
    obtain ⟨e1, e2⟩ := a.old c hc
    obtain ⟨e3, e4⟩ := b.old c (by rw [e2]; exact hc)
    exact ⟨e3.trans e1, e4.trans e2⟩⟩
theorem Same.none {H H' : Hp} (e : Same H H') {l : Addr} (h : H' l = Option.none) : H l = Option.none := e.free h
theorem Gr.new (h : Same Hf H) (n : H p = none) : Gr Hf H (upd Hf p o) (upd H p o) := by
  refine ⟨same_upd (h.free n), fun b x e => ?_, fun b hb => ?_⟩
  · by_cases q : b = p
    · subst q; rw [upd_same] at e; rw [upd_same]; exact e
    · rw [upd_ne q] at e; rw [upd_ne q]; exact h _ _ e
  · have q : b ≠ p := fun z => hb (by rw [z]; exact n)
    rw [upd_ne q, upd_ne q]
    exact ⟨rfl, rfl⟩
theorem Gr.newO (h : Same Hf H) (n : H p = none) : Gr Hf H Hf (upd H p o) := by
  refine ⟨Same.refl _, fun b x e => ?_, fun b hb => ?_⟩
  · rw [upd_ne (ne_of_none (h _ _ e) n)]; exact h _ _ e
  · have q : b ≠ p := fun z => hb (by rw [z]; exact n)
    rw [upd_ne q]
    exact ⟨rfl, rfl⟩
/-- a new object is frozen -/
theorem Gr.frz (g : Gr Hf H Hf1 H1) (n : H p = none) (n1 : Hf1 p = none) (e : H1 p = some o) : Gr Hf H (upd Hf1 p o) H1 := by
  refine ⟨g.s1.trans (same_upd n1), fun b x q => ?_, fun b hb => ?_⟩
  · by_cases z : b = p
    · subst z; rw [upd_same] at q; rw [e]; exact q
    · rw [upd_ne z] at q; exact g.s2 _ _ q
  · have z : b ≠ p := fun z => hb (by rw [z]; exact n)
    rw [upd_ne z]
    exact g.old b hb
end

/-! ### the relation -/
abbrev Env := List (Option D)
structure Bs where
  Hc : Hp
  Hz : Hp
  io : List (Nat × Addr)
/-- what stands at an owned address -/
def Own (K : PySem.W.Frag) (Hf : Hp) : D → HO → Prop
  | .lst ds, o => ∃ xs, o = .lst xs ∧ RepL K Hf ds xs
  | _, _ => False
theorem Own.mono {K : PySem.W.Frag} {H H' : Hp} (e : Same H H') {d : D} {o : HO} (h : Own K H d o) : Own K H' d o := by
  cases d with
  | lst ds =>
    obtain ⟨xs, h1, h2⟩ := h
    exact ⟨xs, h1, RepL.mono e _ _ h2⟩
  | _ => exact h
theorem Own.rep {K : PySem.W.Frag} {H H' : Hp} {d : D} {o : HO} {a : Addr} (e : Same H H') (h : Own K H d o) (ha : H' a = some o) : Rep K H' d (.ref a) := by
  cases d with
  | lst ds =>
    obtain ⟨xs, rfl, h2⟩ := h
    exact ⟨a, xs, rfl, ha, RepL.mono e _ _ h2⟩
  | _ => exact h.elim

structure Rl (K : PySem.W.Frag) (B : Bs) (P O : List Nat) (Hf : Hp) (σ : St) (H : Hp) (ρ : Env) : Prop where
  iop : B.io.map (·.1) = P
  ex : Same Hf H
  ln : σ.length = ρ.length
  fz : ∀ i d, i ∉ O → ρ[i]? = some (some d) → ∃ v, σ[i]? = some (some v) ∧ Rep K Hf d v
  ow : ∀ i d, i ∈ O → ρ[i]? = some (some d) → ∃ a o, σ[i]? = some (some (.ref a)) ∧ Hf a = none ∧ H a = some o ∧ Own K Hf d o ∧ (B.Hc a = none ∨ (i, a) ∈ B.io)
  sp : ∀ i j a d e, i ∈ O → j ∈ O → ρ[i]? = some (some d) → ρ[j]? = some (some e) → σ[i]? = some (some (.ref a)) → σ[j]? = some (some (.ref a)) → i = j
  fr : ∀ b o, B.Hc b = some o → (∀ p ∈ B.io, p.2 ≠ b) → H b = some o
  fq : ∀ b, B.Hc b ≠ none → Hf b = B.Hz b
  ios : ∀ p ∈ B.io, p.1 ∈ O ∧ σ[p.1]? = some (some (.ref p.2)) ∧ ∃ d, ρ[p.1]? = some (some d)
section
variable {K : PySem.W.Frag} {B : Bs} {P O : List Nat} {Hf H Hf' H' : Hp} {σ : St} {ρ ρ' : Env}
theorem Rl.hc (R : Rl K B P O Hf σ H ρ) {b : Addr} (h : B.Hc b ≠ none) : H b ≠ none := by
  by_cases q : ∃ p ∈ B.io, p.2 = b
  · obtain ⟨p, hp, rfl⟩ := q
    obtain ⟨h1, h2, d, h3⟩ := R.ios p hp
    obtain ⟨a, o, e1, _, e2, _⟩ := R.ow _ _ h1 h3
    rw [h2] at e1
    cases e1
    rw [e2]
    exact fun z => nomatch z
  · cases e : B.Hc b with
    | none => exact absurd e h
    | some o =>
      rw [R.fr b o e fun p hp z => q ⟨p, hp, z⟩]
      exact fun z => nomatch z
theorem Rl.gr (R : Rl K B P O Hf σ H ρ) (g : Gr Hf H Hf' H') : Rl K B P O Hf' σ H' ρ where
  iop := R.iop
  ex := g.s2
  ln := R.ln
  fz := fun i d hi e => by
    obtain ⟨v, h1, h2⟩ := R.fz i d hi e
    exact ⟨v, h1, Rep.mono g.s1 _ _ h2⟩
  ow := fun i d hi e => by
    obtain ⟨a, o, h1, h2, h3, h4, h5⟩ := R.ow i d hi e
    obtain ⟨q1, q2⟩ := g.old a (by rw [h3]; exact fun z => nomatch z)
    exact ⟨a, o, h1, q1.trans h2, q2.trans h3, h4.mono g.s1, h5⟩
  sp := R.sp
  fr := fun b o e n => by
    have h1 := R.fr b o e n
    rw [(g.old b (by rw [h1]; exact fun z => nomatch z)).2]
    exact h1
  fq := fun b h => by
    rw [(g.old b (R.hc h)).1]
    exact R.fq b h
  ios := R.ios
end

/-! ### readings by data -/
abbrev Gx := Env → Option (D × Env)
abbrev Gt := Env → Option (Bool × Env)
abbrev Ga := Env → Option (List D × Env)
section
variable (K : PySem.W.Frag) (P O : List Nat)
def tE (g : Gx) : TE := fun σ H Q => ∃ B Hf ρ d ρ', Rl K B P O Hf σ H ρ ∧ g ρ = some (d, ρ') ∧ ∀ Hf' v H', Same Hf Hf' → Rl K B P O Hf' σ H' ρ' → Rep K Hf' d v → Q v H'
/-- a new object of its own -/
def tO (g : Gx) : TE := fun σ H Q => ∃ B Hf ρ d ρ', Rl K B P O Hf σ H ρ ∧ g ρ = some (d, ρ') ∧ ∀ Hf' a o H', Same Hf Hf' → Rl K B P O Hf' σ H' ρ' → Hf' a = none → H' a = some o → Own K Hf' d o → B.Hc a = none →
  (∀ i e, i ∈ O → ρ'[i]? = some (some e) → σ[i]? ≠ some (some (.ref a))) → Q (.ref a) H'
def tT (g : Gt) : TT := fun σ H Q => ∃ B Hf ρ d ρ', Rl K B P O Hf σ H ρ ∧ g ρ = some (d, ρ') ∧ ∀ Hf' H', Same Hf Hf' → Rl K B P O Hf' σ H' ρ' → Q d H'
def tA (g : Ga) : TA := fun σ H Q => ∃ B Hf ρ d ρ', Rl K B P O Hf σ H ρ ∧ g ρ = some (d, ρ') ∧ ∀ Hf' vs H', Same Hf Hf' → Rl K B P O Hf' σ H' ρ' → RepL K Hf' d vs → Q vs H'
end
abbrev EJ (X : Cx) (P O : List Nat) (e : Expr) (g : Gx) : Prop := PE X e (tE X.K P O g)
abbrev EO (X : Cx) (P O : List Nat) (e : Expr) (g : Gx) : Prop := PE X e (tO X.K P O g)
abbrev TJ (X : Cx) (P O : List Nat) (e : Expr) (g : Gt) : Prop := PT X e (tT X.K P O g)
abbrev AJ (X : Cx) (P O : List Nat) (es : List Expr) (g : Ga) : Prop := PA X es (tA X.K P O g)
theorem _root_.L2.PE.imp {X : Cx} {e : Expr} {t t' : TE} (h : PE X e t) (i : ∀ σ H Q, t' σ H Q → t σ H Q) : PE X e t' := ⟨fun pins s σ H Q I q => h.run pins s σ H Q I (i _ _ _ q)⟩
theorem _root_.L2.PT.imp {X : Cx} {e : Expr} {t t' : TT} (h : PT X e t) (i : ∀ σ H Q, t' σ H Q → t σ H Q) : PT X e t' := ⟨fun pins s σ H Q I q => h.run pins s σ H Q I (i _ _ _ q)⟩
theorem _root_.L2.PA.imp {X : Cx} {e : List Expr} {t t' : TA} (h : PA X e t) (i : ∀ σ H Q, t' σ H Q → t σ H Q) : PA X e t' := ⟨fun p pins s σ H Q I q => h.run p pins s σ H Q I (i _ _ _ q)⟩
theorem _root_.L2.PS.imp {X : Cx} {e : Stmt} {t t' : TS} (h : PS X e t) (i : ∀ D σ H, t' D σ H → t D σ H) : PS X e t' := ⟨fun pins s σ H D I q => h.run pins s σ H D I (i _ _ _ q)⟩
theorem _root_.L2.PSs.imp {X : Cx} {e : List Stmt} {t t' : TS} (h : PSs X e t) (i : ∀ D σ H, t' D σ H → t D σ H) : PSs X e t' := ⟨fun pins s σ H D I q => h.run pins s σ H D I (i _ _ _ q)⟩
theorem _root_.L2.PI.imp {X : Cx} {tg e : Expr} {t t' : TI} (h : PI X tg e t) (i : ∀ σ H Q, t' σ H Q → t σ H Q) : PI X tg e t' := ⟨fun pins s σ H Q I q => h.run pins s σ H Q I (i _ _ _ q)⟩
theorem _root_.L2.PG.imp {X : Cx} {e : Expr} {t t' : TG} (h : PG X e t) (i : ∀ v σ H Q, t' v σ H Q → t v σ H Q) : PG X e t' := ⟨fun pins s σ H v u Q I r q => h.run pins s σ H v u Q I r (i _ _ _ _ q)⟩

section
variable {X : Cx} {P O : List Nat} {a b e : Expr} {es : List Expr} {ga gb g : Gx} {pos : Pos}
/-! ### names, constants -/
def cVar (i : Nat) : Gx := fun ρ => (ρ[i]?.getD none).map fun d => (d, ρ)
def cK (d : D) : Gx := fun ρ => some (d, ρ)
theorem getD_some {ρ : Env} {i : Nat} {d : D} (h : ρ[i]?.getD none = some d) : ρ[i]? = some (some d) := by
  cases q : ρ[i]? with
  | none => rw [q] at h; cases h
  | some z => rw [q] at h; exact congrArg some h
theorem ej_var (i : Nat) {x : Str} {pos : Pos} (hN : X.N[i]? = some x := by rfl) (hv : Vis X.env.scope x := by first | exact Or.inl rfl | exact Or.inr (Or.inl rfl) | exact Or.inr (Or.inr rfl))
    (hd : (x == ("__debug__" : Str)) = false := by decide) (hcd : (x == ("__classdict__" : Str)) = false := by decide) (hi : i ∉ O := by decide) : EJ X P O (.Name x pos) (cVar i) := by
  refine (pe_var hN hv hd hcd).imp fun σ H Q ⟨B, Hf, ρ, d, ρ', R, e, k⟩ => ?_
  obtain ⟨d', h1, h2⟩ := Option.map_eq_some_iff.mp e
  cases h2
  obtain ⟨v, h3, h4⟩ := R.fz i d hi (getD_some h1)
  exact ⟨v, h3, k Hf v H (Same.refl _) R h4⟩
theorem ej_c {t : TE} {d : D} {v : V} (h : PE X e (tC v)) (r : ∀ H, Rep X.K H d v) : EJ X P O e (cK d) := by
  refine h.imp fun σ H Q ⟨B, Hf, ρ, d', ρ', R, e, k⟩ => ?_
  cases e
  exact k Hf v H (Same.refl _) R (r _)
theorem ej_int {i : Int} {j : Nat} : EJ X P O (.Constant (.int i) j pos) (cK (.int i)) := ej_c (t := tC .non) pe_int fun _ => rfl
theorem ej_bl {i : Bool} {j : Nat} : EJ X P O (.Constant (.bool i) j pos) (cK (.bl i)) := ej_c (t := tC .non) pe_bl fun _ => rfl
theorem ej_non {j : Nat} : EJ X P O (.Constant .none j pos) (cK .non) := ej_c (t := tC .non) pe_non fun _ => rfl
theorem ej_str {x : Str} {j : Nat} : EJ X P O (.Constant (.str x) j pos) (cK (.str x)) := ej_c (t := tC .non) pe_str fun _ => rfl
/-- a constant of the module -/
theorem ej_glob {x : Str} {d : D} {v : V} {u : Value} (hg : Gl X x) (hm : X.mg x = some u) (r : RelV v u) (hr : ∀ H, Rep X.K H d v) (hd : (x == ("__debug__" : Str)) = false := by decide) : EJ X P O (.Name x pos) (cK d) :=
  ej_c (t := tC .non) (pe_glob hg hm r hd) hr

/-! ### from a new object -/
theorem tO_E {K : PySem.W.Frag} {g : Gx} {σ : St} {H : Hp} {Q : VK} (h : tE K P O g σ H Q) : tO K P O g σ H Q := by
  obtain ⟨B, Hf, ρ, d, ρ', R, e, k⟩ := h
  refine ⟨B, Hf, ρ, d, ρ', R, e, fun Hf' a o H' s R' n ha ow hc ne => ?_⟩
  have fresh : ∀ b x, upd Hf' a o b = some x → H' b = some x := fun b x q => by
    by_cases z : b = a
    · subst z; rw [upd_same] at q; rw [ha]; exact q
    · rw [upd_ne z] at q; exact R'.ex _ _ q
  refine k (upd Hf' a o) (.ref a) H' (s.trans (same_upd n)) ⟨R'.iop, fresh, R'.ln, fun i d hi e => ?_, fun i d hi e => ?_, R'.sp, R'.fr, fun b hb => ?_, R'.ios⟩ ((ow.rep (same_upd n) upd_same))
  · obtain ⟨v, h1, h2⟩ := R'.fz i d hi e
    exact ⟨v, h1, Rep.mono (same_upd n) _ _ h2⟩
  · obtain ⟨c, u, h1, h2, h3, h4, h5⟩ := R'.ow i d hi e
    have z : c ≠ a := fun z => ne i d hi e (by rw [h1, z])
    exact ⟨c, u, h1, by rw [upd_ne z]; exact h2, h3, h4.mono (same_upd n), h5⟩
  · have z : b ≠ a := fun z => hb (by rw [z]; exact hc)
    rw [upd_ne z]
    exact R'.fq b hb
theorem EO.j (h : EO X P O e g) : EJ X P O e g := h.imp fun _ _ _ => tO_E

/-! ### operations by values -/
/-- f is what r does -/
def OpD (K : PySem.W.Frag) (r : R2) (f : D → D → Option D) : Prop := ∀ Hf H d e z x y, Same Hf H → Rep K Hf d x → Rep K Hf e y → f d e = some z → ∀ Q : VK, (∀ Hf' v H', Gr Hf H Hf' H' → Rep K Hf' z v → Q v H') → r x y H Q
/-- .. and hands back a new object -/
def OpDO (K : PySem.W.Frag) (r : R2) (f : D → D → Option D) : Prop := ∀ Hf H d e z x y, Same Hf H → Rep K Hf d x → Rep K Hf e y → f d e = some z → ∀ Q : VK, (∀ Hf' a o H', Gr Hf H Hf' H' → H a = none → Hf' a = none → H' a = some o → Own K Hf' z o → Q (.ref a) H') → r x y H Q
theorem OpDO.d {K : PySem.W.Frag} {r : R2} {f : D → D → Option D} (h : OpDO K r f) : OpD K r f := fun Hf H d e z x y s rx ry hf Q k =>
  h Hf H d e z x y s rx ry hf Q fun Hf' a o H' g n n' ha ow => k (upd Hf' a o) (.ref a) H' (g.frz n n' ha) (ow.rep (same_upd n') upd_same)
def cOp (f : D → D → Option D) (ga gb : Gx) : Gx := fun ρ => (ga ρ).bind fun p => (gb p.2).bind fun q => (f p.1 q.1).map fun z => (z, q.2)
theorem cOp_some {f : D → D → Option D} {ga gb : Gx} {ρ ρ' : Env} {z : D} (h : cOp f ga gb ρ = some (z, ρ')) : ∃ d ρ1 e, ga ρ = some (d, ρ1) ∧ gb ρ1 = some (e, ρ') ∧ f d e = some z := by
  obtain ⟨⟨d, ρ1⟩, h1, h⟩ := Option.bind_eq_some_iff.mp h
  obtain ⟨⟨e, ρ2⟩, h2, h⟩ := Option.bind_eq_some_iff.mp h
  obtain ⟨z', h3, h⟩ := Option.map_eq_some_iff.mp h
  cases h
  exact ⟨d, ρ1, e, h1, h2, h3⟩
theorem tOp_d {K : PySem.W.Frag} {r : R2} {f : D → D → Option D} (h : OpD K r f) {σ : St} {H : Hp} {Q : VK} (q : tE K P O (cOp f ga gb) σ H Q) : tOp r (tE K P O ga) (tE K P O gb) σ H Q := by
  obtain ⟨B, Hf, ρ, z, ρ', R, e, k⟩ := q
  obtain ⟨d, ρ1, e', h1, h2, h3⟩ := cOp_some e
  refine ⟨B, Hf, ρ, d, ρ1, R, h1, fun Hf1 x H1 s1 R1 rx => ⟨B, Hf1, ρ1, e', ρ', R1, h2, fun Hf2 y H2 s2 R2 ry => ?_⟩⟩
  exact h Hf2 H2 d e' z x y R2.ex (Rep.mono s2 _ _ rx) ry h3 Q fun Hf3 v H3 g rv => k Hf3 v H3 ((s1.trans s2).trans g.s1) (R2.gr g) rv
theorem fresh_ne {K : PySem.W.Frag} {B : Bs} {Hf H : Hp} {σ : St} {ρ : Env} {a : Addr} (R : Rl K B P O Hf σ H ρ) (n : H a = none) : ∀ i e, i ∈ O → ρ[i]? = some (some e) → σ[i]? ≠ some (some (.ref a)) := fun i e hi he z => by
  obtain ⟨c, u, h1, h2, h3, _⟩ := R.ow i e hi he
  rw [z] at h1
  cases h1
  rw [n] at h3
  cases h3
theorem fresh_hc {K : PySem.W.Frag} {B : Bs} {Hf H : Hp} {σ : St} {ρ : Env} {a : Addr} (R : Rl K B P O Hf σ H ρ) (n : H a = none) : B.Hc a = none := Classical.byContradiction fun z => R.hc z n
theorem tOp_o {K : PySem.W.Frag} {r : R2} {f : D → D → Option D} (h : OpDO K r f) {σ : St} {H : Hp} {Q : VK} (q : tO K P O (cOp f ga gb) σ H Q) : tOp r (tE K P O ga) (tE K P O gb) σ H Q := by
  obtain ⟨B, Hf, ρ, z, ρ', R, e, k⟩ := q
  obtain ⟨d, ρ1, e', h1, h2, h3⟩ := cOp_some e
  refine ⟨B, Hf, ρ, d, ρ1, R, h1, fun Hf1 x H1 s1 R1 rx => ⟨B, Hf1, ρ1, e', ρ', R1, h2, fun Hf2 y H2 s2 R2 ry => ?_⟩⟩
  exact h Hf2 H2 d e' z x y R2.ex (Rep.mono s2 _ _ rx) ry h3 Q fun Hf3 c o H3 g n n' hc ow => k Hf3 c o H3 ((s1.trans s2).trans g.s1) (R2.gr g) n' hc ow (fresh_hc R2 n) (fresh_ne R2 n)
theorem ej_op {op : Operator} {r : R2} {f : D → D → Option D} (ho : OpR X (binaryOp op) r) (h : OpD X.K r f) (ha : EJ X P O a ga) (hb : EJ X P O b gb) : EJ X P O (.BinOp a op b pos) (cOp f ga gb) := (pe_op ho ha hb).imp fun _ _ _ => tOp_d h
theorem eo_op {op : Operator} {r : R2} {f : D → D → Option D} (ho : OpR X (binaryOp op) r) (h : OpDO X.K r f) (ha : EJ X P O a ga) (hb : EJ X P O b gb) : EO X P O (.BinOp a op b pos) (cOp f ga gb) := (pe_op ho ha hb).imp fun _ _ _ => tOp_o h
theorem ej_cmp {op : CmpOp} {r : R2} {f : D → D → Option D} (ho : OpR X (compareOp op) r) (h : OpD X.K r f) (ha : EJ X P O a ga) (hb : EJ X P O b gb) (hm : behindInMarks op b = false) : EJ X P O (.Compare a [op] [b] pos) (cOp f ga gb) :=
  (pe_cmpR ho ha hb hm).imp fun _ _ _ => tOp_d h
theorem OpR.or {f : Value → Value → Sem Value} {r r' : R2} (h : OpR X f r) (h' : OpR X f r') : OpR X f (fun x y H Q => r x y H Q ∨ r' x y H Q) := fun pins s σ H x y v u Q I rx ry q => q.elim (h pins s σ H x y v u Q I rx ry) (h' pins s σ H x y v u Q I rx ry)
theorem OpD.or {K : PySem.W.Frag} {r r' : R2} {f f' g : D → D → Option D} (h : OpD K r f) (h' : OpD K r' f') (hg : ∀ d e z, g d e = some z → f d e = some z ∨ f' d e = some z) : OpD K (fun x y H Q => r x y H Q ∨ r' x y H Q) g := fun Hf H d e z x y s rx ry q Q k =>
  (hg d e z q).elim (fun q => .inl (h Hf H d e z x y s rx ry q Q k)) fun q => .inr (h' Hf H d e z x y s rx ry q Q k)
theorem OpDO.or {K : PySem.W.Frag} {r r' : R2} {f f' g : D → D → Option D} (h : OpDO K r f) (h' : OpDO K r' f') (hg : ∀ d e z, g d e = some z → f d e = some z ∨ f' d e = some z) : OpDO K (fun x y H Q => r x y H Q ∨ r' x y H Q) g := fun Hf H d e z x y s rx ry q Q k =>
  (hg d e z q).elim (fun q => .inl (h Hf H d e z x y s rx ry q Q k)) fun q => .inr (h' Hf H d e z x y s rx ry q Q k)
/-! ### tests -/
def truthB : D → Option Bool
  | .bl b => some b
  | _ => none
def cTest (g : Gx) : Gt := fun ρ => (g ρ).bind fun p => (truthB p.1).map fun b => (b, p.2)
theorem tB_d {K : PySem.W.Frag} {t : TE} {σ : St} {H : Hp} {Q : Bool → Hp → Prop} (ht : ∀ σ H Q, tE K P O g σ H Q → t σ H Q) (q : tT K P O (cTest g) σ H Q) : tB t σ H Q := by
  obtain ⟨B, Hf, ρ, z, ρ', R, e, k⟩ := q
  obtain ⟨⟨d, ρ1⟩, h1, h⟩ := Option.bind_eq_some_iff.mp e
  obtain ⟨z', h3, h⟩ := Option.map_eq_some_iff.mp h
  cases h
  refine ht σ H _ ⟨B, Hf, ρ, d, _, R, h1, fun Hf1 x H1 s1 R1 rx => ?_⟩
  cases d with
  | bl c =>
    cases h3
    exact ⟨_, rx, k Hf1 H1 s1 R1⟩
  | _ => cases h3
/-- an expression whose value is a bool, as a test -/
theorem tj_val (h : EJ X P O e g) (he : ∀ whole, isTrue e X.env whole = (do let v ← whole; standAt e.pos; holding [v] (truthy v)) := by intro _; rfl) : TJ X P O e (cTest g) := (pt_val h he).imp fun _ _ _ => tB_d fun _ _ _ => id
theorem tj_cmp {op : CmpOp} {r : R2} {f : D → D → Option D} (ho : OpR X (compareOp op) r) (h : OpD X.K r f) (ha : EJ X P O a ga) (hb : EJ X P O b gb) (hm : behindInMarks op b = false) : TJ X P O (.Compare a [op] [b] pos) (cTest (cOp f ga gb)) :=
  (pt_cmpR ho ha hb hm).imp fun _ _ _ q => tB_d (fun _ _ _ => tOp_d h) q
variable {ta tb : Gt} {rest : List Expr}
def cAnd (ta tb : Gt) : Gt := fun ρ => (ta ρ).bind fun p => if p.1 = true then tb p.2 else some (false, p.2)
def cOr (ta tb : Gt) : Gt := fun ρ => (ta ρ).bind fun p => if p.1 = true then some (true, p.2) else tb p.2
def cNot (ta : Gt) : Gt := fun ρ => (ta ρ).map fun p => (!p.1, p.2)
abbrev WJ (X : Cx) (P O : List Nat) (e : Expr) (g : Gt) : Prop := PW X e (tT X.K P O g)
theorem _root_.L2.PW.imp {X : Cx} {e : Expr} {t t' : TT} (h : PW X e t) (i : ∀ σ H Q, t' σ H Q → t σ H Q) : PW X e t' := ⟨fun w pins s σ H Q I q => h.run w pins s σ H Q I (i _ _ _ q)⟩
theorem wj_and1 (h : TJ X P O a ta) : WJ X P O (.BoolOp .And [a] pos) ta := pw_and1 h
theorem wj_or1 (h : TJ X P O a ta) : WJ X P O (.BoolOp .Or [a] pos) ta := pw_or1 h
theorem wj_and (ha : TJ X P O a ta) (hb : WJ X P O (.BoolOp .And (b :: rest) pos) tb) : WJ X P O (.BoolOp .And (a :: b :: rest) pos) (cAnd ta tb) := by
  refine PW.imp (pw_and ha hb) fun σ H Q ⟨B, Hf, ρ, z, ρ', R, e, k⟩ => ?_
  obtain ⟨⟨c, ρ1⟩, h1, h⟩ := Option.bind_eq_some_iff.mp e
  refine ⟨B, Hf, ρ, c, ρ1, R, h1, fun Hf1 H1 s1 R1 => ?_⟩
  cases c with
  | true => exact iteT ⟨B, Hf1, ρ1, z, ρ', R1, h, fun Hf2 H2 s2 R2 => k Hf2 H2 (s1.trans s2) R2⟩
  | false =>
    cases h
    exact iteF (k Hf1 H1 s1 R1)
theorem wj_or (ha : TJ X P O a ta) (hb : WJ X P O (.BoolOp .Or (b :: rest) pos) tb) : WJ X P O (.BoolOp .Or (a :: b :: rest) pos) (cOr ta tb) := by
  refine PW.imp (pw_or ha hb) fun σ H Q ⟨B, Hf, ρ, z, ρ', R, e, k⟩ => ?_
  obtain ⟨⟨c, ρ1⟩, h1, h⟩ := Option.bind_eq_some_iff.mp e
  refine ⟨B, Hf, ρ, c, ρ1, R, h1, fun Hf1 H1 s1 R1 => ?_⟩
  cases c with
  | false => exact iteF ⟨B, Hf1, ρ1, z, ρ', R1, h, fun Hf2 H2 s2 R2 => k Hf2 H2 (s1.trans s2) R2⟩
  | true =>
    cases h
    exact iteT (k Hf1 H1 s1 R1)
theorem WJ.t (h : WJ X P O e ta) : TJ X P O e ta := PW.pt h
theorem tj_not (h : TJ X P O a ta) : TJ X P O (.UnaryOp .Not a pos) (cNot ta) := by
  refine (pt_not h).imp fun σ H Q ⟨B, Hf, ρ, z, ρ', R, e, k⟩ => ?_
  obtain ⟨⟨c, ρ1⟩, h1, h⟩ := Option.map_eq_some_iff.mp e
  cases h
  exact ⟨B, Hf, ρ, c, _, R, h1, fun Hf1 H1 s1 R1 => k Hf1 H1 s1 R1⟩
/-! as values -/
def cAndV (ga gb : Gx) : Gx := fun ρ => (ga ρ).bind fun p => (truthB p.1).bind fun c => if c = true then gb p.2 else some (.bl false, p.2)
def cOrV (ga gb : Gx) : Gx := fun ρ => (ga ρ).bind fun p => (truthB p.1).bind fun c => if c = true then some (.bl true, p.2) else gb p.2
def cNotV (ga : Gx) : Gx := fun ρ => (ga ρ).bind fun p => (truthB p.1).map fun c => (.bl !c, p.2)
theorem ej_one {op} (h : EJ X P O a ga) : EJ X P O (.BoolOp op [a] pos) ga := pe_one h
theorem truthB_rep {K : PySem.W.Frag} {H : Hp} {d : D} {c : Bool} {v : V} (h : truthB d = some c) (r : Rep K H d v) : v = .bl c := by
  cases d with
  | bl b =>
    cases h
    exact r
  | _ => cases h
theorem ej_and (ha : EJ X P O a ga) (hb : EJ X P O (.BoolOp .And (b :: rest) pos) gb) : EJ X P O (.BoolOp .And (a :: b :: rest) pos) (cAndV ga gb) := by
  refine (pe_and ha hb).imp fun σ H Q ⟨B, Hf, ρ, z, ρ', R, e, k⟩ => ?_
  obtain ⟨⟨d, ρ1⟩, h1, h⟩ := Option.bind_eq_some_iff.mp e
  obtain ⟨c, h2, h⟩ := Option.bind_eq_some_iff.mp h
  refine ⟨B, Hf, ρ, d, ρ1, R, h1, fun Hf1 x H1 s1 R1 rx => ⟨c, truthB_rep h2 rx, ?_⟩⟩
  cases c with
  | true => exact iteT ⟨B, Hf1, ρ1, z, ρ', R1, h, fun Hf2 v H2 s2 R2 => k Hf2 v H2 (s1.trans s2) R2⟩
  | false =>
    cases h
    exact iteF (k Hf1 _ H1 s1 R1 rfl)
theorem ej_or (ha : EJ X P O a ga) (hb : EJ X P O (.BoolOp .Or (b :: rest) pos) gb) : EJ X P O (.BoolOp .Or (a :: b :: rest) pos) (cOrV ga gb) := by
  refine (pe_or ha hb).imp fun σ H Q ⟨B, Hf, ρ, z, ρ', R, e, k⟩ => ?_
  obtain ⟨⟨d, ρ1⟩, h1, h⟩ := Option.bind_eq_some_iff.mp e
  obtain ⟨c, h2, h⟩ := Option.bind_eq_some_iff.mp h
  refine ⟨B, Hf, ρ, d, ρ1, R, h1, fun Hf1 x H1 s1 R1 rx => ⟨c, truthB_rep h2 rx, ?_⟩⟩
  cases c with
  | false => exact iteF ⟨B, Hf1, ρ1, z, ρ', R1, h, fun Hf2 v H2 s2 R2 => k Hf2 v H2 (s1.trans s2) R2⟩
  | true =>
    cases h
    exact iteT (k Hf1 _ H1 s1 R1 rfl)
theorem ej_not (ha : EJ X P O a ga) : EJ X P O (.UnaryOp .Not a pos) (cNotV ga) := by
  refine (pe_not ha).imp fun σ H Q ⟨B, Hf, ρ, z, ρ', R, e, k⟩ => ?_
  obtain ⟨⟨d, ρ1⟩, h1, h⟩ := Option.bind_eq_some_iff.mp e
  obtain ⟨c, h2, h⟩ := Option.map_eq_some_iff.mp h
  cases h
  exact ⟨B, Hf, ρ, d, _, R, h1, fun Hf1 x H1 s1 R1 rx => ⟨c, truthB_rep h2 rx, k Hf1 _ H1 s1 R1 rfl⟩⟩
/-- a if t else b -/
def cIf (t : Gt) (ga gb : Gx) : Gx := fun ρ => (t ρ).bind fun p => if p.1 = true then ga p.2 else gb p.2
theorem ej_if {c : Expr} (hc : TJ X P O c ta) (ha : EJ X P O a ga) (hb : EJ X P O b gb) : EJ X P O (.IfExp c a b pos) (cIf ta ga gb) := by
  refine (pe_ifExp hc ha hb).imp fun σ H Q ⟨B, Hf, ρ, z, ρ', R, e, k⟩ => ?_
  obtain ⟨⟨c, ρ1⟩, h1, h⟩ := Option.bind_eq_some_iff.mp e
  refine ⟨B, Hf, ρ, c, ρ1, R, h1, fun Hf1 H1 s1 R1 => ?_⟩
  cases c with
  | true => exact iteT ⟨B, Hf1, ρ1, z, ρ', R1, h, fun Hf2 v H2 s2 R2 => k Hf2 v H2 (s1.trans s2) R2⟩
  | false => exact iteF ⟨B, Hf1, ρ1, z, ρ', R1, h, fun Hf2 v H2 s2 R2 => k Hf2 v H2 (s1.trans s2) R2⟩
theorem eo_if {c : Expr} (hc : TJ X P O c ta) (ha : EO X P O a ga) (hb : EO X P O b gb) : EO X P O (.IfExp c a b pos) (cIf ta ga gb) := by
  refine (pe_ifExp hc ha hb).imp fun σ H Q ⟨B, Hf, ρ, z, ρ', R, e, k⟩ => ?_
  obtain ⟨⟨c, ρ1⟩, h1, h⟩ := Option.bind_eq_some_iff.mp e
  refine ⟨B, Hf, ρ, c, ρ1, R, h1, fun Hf1 H1 s1 R1 => ?_⟩
  cases c with
  | true => exact iteT ⟨B, Hf1, ρ1, z, ρ', R1, h, fun Hf2 v o H2 s2 R2 => k Hf2 v o H2 (s1.trans s2) R2⟩
  | false => exact iteF ⟨B, Hf1, ρ1, z, ρ', R1, h, fun Hf2 v o H2 s2 R2 => k Hf2 v o H2 (s1.trans s2) R2⟩
end
end G
namespace G
open PySem PySem.Spec PyProof.Rows L2
section
variable {X : Cx} {P O : List Nat} {a b e : Expr} {es : List Expr} {ga gb g : Gx} {pos : Pos}
/-! ### arguments, displays -/
def evA : List Gx → Ga
  | [], ρ => some ([], ρ)
  | g :: gs, ρ => (g ρ).bind fun p => (evA gs p.2).map fun q => (p.1 :: q.1, q.2)
theorem evA_len : ∀ {gs : List Gx} {ρ ρ' : Env} {ds : List D}, evA gs ρ = some (ds, ρ') → ds.length = gs.length
  | [], _, _, _, h => by cases h; rfl
  | g :: gs, ρ, ρ', ds, h => by
    obtain ⟨⟨d, ρ1⟩, h1, h⟩ := Option.bind_eq_some_iff.mp h
    obtain ⟨⟨es, ρ2⟩, h2, h⟩ := Option.map_eq_some_iff.mp h
    cases h
    rw [List.length_cons, List.length_cons, evA_len h2]
theorem aj_nil : AJ X P O [] (evA []) := pa_nil.imp fun σ H Q ⟨B, Hf, ρ, d, ρ', R, e, k⟩ => by
  cases e
  exact k Hf [] H (Same.refl _) R rfl
theorem aj_cons {gs : List Gx} (h : EJ X P O e g) (hs : AJ X P O es (evA gs)) (hst : starEach (e :: es) X.env = (false, eval e X.env) :: starEach es X.env := by rfl) : AJ X P O (e :: es) (evA (g :: gs)) := by
  refine (pa_cons h hs hst).imp fun σ H Q ⟨B, Hf, ρ, ds, ρ', R, e, k⟩ => ?_
  obtain ⟨⟨d, ρ1⟩, h1, h⟩ := Option.bind_eq_some_iff.mp e
  obtain ⟨⟨es, ρ2⟩, h2, h⟩ := Option.map_eq_some_iff.mp h
  cases h
  exact ⟨B, Hf, ρ, d, ρ1, R, h1, fun Hf1 v H1 s1 R1 rv => ⟨B, Hf1, ρ1, es, _, R1, h2, fun Hf2 vs H2 s2 R2 rvs => k Hf2 (v :: vs) H2 (s1.trans s2) R2 (RepL.cons (Rep.mono s2 _ _ rv) rvs)⟩⟩
def cTup (gs : List Gx) : Gx := fun ρ => (evA gs ρ).map fun p => (.tup p.1, p.2)
def cLst (gs : List Gx) : Gx := fun ρ => (evA gs ρ).map fun p => (.lst p.1, p.2)
theorem small_gs {n : Nat} (h : n ≤ 1000) : n ≤ sizeLine := Nat.le_trans h (by decide)
theorem ej_tup {gs : List Gx} {k : Nat} (h : AJ X P O es (evA gs)) (hn : gs.length ≤ 1000 := by decide) : EJ X P O (.Tuple es k pos) (cTup gs) := by
  refine (pe_tup h).imp fun σ H Q ⟨B, Hf, ρ, z, ρ', R, e, k⟩ => ?_
  obtain ⟨⟨ds, ρ1⟩, h1, h⟩ := Option.map_eq_some_iff.mp e
  cases h
  refine ⟨B, Hf, ρ, ds, _, R, h1, fun Hf1 vs H1 s1 R1 rv => ⟨by rw [rv.len, evA_len h1]; exact small_gs hn, fun p np => ?_⟩⟩
  have gr : Gr Hf1 H1 (upd Hf1 p (.tup vs)) (upd H1 p (.tup vs)) := Gr.new R1.ex np
  exact k _ _ _ (s1.trans gr.s1) (R1.gr gr) ⟨p, vs, rfl, SqT.of upd_same, RepL.mono gr.s1 _ _ rv⟩
theorem eo_lst {gs : List Gx} (h : AJ X P O es (evA gs)) (hn : gs.length ≤ 1000 := by decide) : EO X P O (.List es pos) (cLst gs) := by
  refine (pe_lst h).imp fun σ H Q ⟨B, Hf, ρ, z, ρ', R, e, k⟩ => ?_
  obtain ⟨⟨ds, ρ1⟩, h1, h⟩ := Option.map_eq_some_iff.mp e
  cases h
  refine ⟨B, Hf, ρ, ds, _, R, h1, fun Hf1 vs H1 s1 R1 rv => ⟨by rw [rv.len, evA_len h1]; exact small_gs hn, fun p np => ?_⟩⟩
  have gr : Gr Hf1 H1 Hf1 (upd H1 p (.lst vs)) := Gr.newO R1.ex np
  exact k Hf1 p _ _ (s1.trans gr.s1) (R1.gr gr) (R1.ex.free np) upd_same ⟨vs, rfl, rv⟩ (fresh_hc R1 np) (fresh_ne R1 np)

/-! ### calls of built-ins -/
def CallD (K : PySem.W.Frag) (r : List V → Hp → VK → Prop) (f : List D → Option D) : Prop := ∀ Hf H ds z xs, Same Hf H → RepL K Hf ds xs → f ds = some z → ∀ Q : VK, (∀ Hf' v H', Gr Hf H Hf' H' → Rep K Hf' z v → Q v H') → r xs H Q
def CallDO (K : PySem.W.Frag) (r : List V → Hp → VK → Prop) (f : List D → Option D) : Prop := ∀ Hf H ds z xs, Same Hf H → RepL K Hf ds xs → f ds = some z → ∀ Q : VK, (∀ Hf' a o H', Gr Hf H Hf' H' → H a = none → Hf' a = none → H' a = some o → Own K Hf' z o → Q (.ref a) H') → r xs H Q
theorem CallDO.d {K : PySem.W.Frag} {r : List V → Hp → VK → Prop} {f : List D → Option D} (h : CallDO K r f) : CallD K r f := fun Hf H ds z xs s rx hf Q k =>
  h Hf H ds z xs s rx hf Q fun Hf' a o H' g n n' ha ow => k (upd Hf' a o) (.ref a) H' (g.frz n n' ha) (ow.rep (same_upd n') upd_same)
def cCall (f : List D → Option D) (gs : Ga) : Gx := fun ρ => (gs ρ).bind fun p => (f p.1).map fun z => (z, p.2)
theorem tCB_d {K : PySem.W.Frag} {r : List V → Hp → VK → Prop} {f : List D → Option D} {gs : Ga} (h : CallD K r f) {σ : St} {H : Hp} {Q : VK} (q : tE K P O (cCall f gs) σ H Q) : tCB r (tA K P O gs) σ H Q := by
  obtain ⟨B, Hf, ρ, z, ρ', R, e, k⟩ := q
  obtain ⟨⟨ds, ρ1⟩, h1, h'⟩ := Option.bind_eq_some_iff.mp e
  obtain ⟨z', h2, h'⟩ := Option.map_eq_some_iff.mp h'
  cases h'
  exact ⟨B, Hf, ρ, ds, _, R, h1, fun Hf1 vs H1 s1 R1 rv => h Hf1 H1 ds _ vs R1.ex rv h2 Q fun Hf2 v H2 gr rv2 => k Hf2 v H2 (s1.trans gr.s1) (R1.gr gr) rv2⟩
theorem tCB_o {K : PySem.W.Frag} {r : List V → Hp → VK → Prop} {f : List D → Option D} {gs : Ga} (h : CallDO K r f) {σ : St} {H : Hp} {Q : VK} (q : tO K P O (cCall f gs) σ H Q) : tCB r (tA K P O gs) σ H Q := by
  obtain ⟨B, Hf, ρ, z, ρ', R, e, k⟩ := q
  obtain ⟨⟨ds, ρ1⟩, h1, h'⟩ := Option.bind_eq_some_iff.mp e
  obtain ⟨z', h2, h'⟩ := Option.map_eq_some_iff.mp h'
  cases h'
  exact ⟨B, Hf, ρ, ds, _, R, h1, fun Hf1 vs H1 s1 R1 rv => h Hf1 H1 ds _ vs R1.ex rv h2 Q fun Hf2 p o H2 gr n n' hp ow => k Hf2 p o H2 (s1.trans gr.s1) (R1.gr gr) n' hp ow (fresh_hc R1 n) (fresh_ne R1 n)⟩
section
variable {x : Str} {p : Pos} {gs : Ga} {id T : String} {r : List V → Hp → VK → Prop} {f : List D → Option D}
theorem ej_callB (hc : CallR X (.builtin id) r) (h : CallD X.K r f) (hg : Gl X x) (hm : X.mg x = none) (hv : bootBuiltins x = some (.builtin id)) (ha : AJ X P O (e :: es) gs) (hn : x ≠ "__name__" := by decide) (hdb : (x == ("__debug__" : Str)) = false := by decide)
    (he : starEach (e :: es) X.env = (false, eval e X.env) :: starEach es X.env := by rfl) (hpl : (backTo pos (starEach es X.env)).any (·.1) = false := by rfl) : EJ X P O (.Call (.Name x p) (e :: es) [] pos) (cCall f gs) :=
  (pe_callB hc hg hm hv ha hn hdb he hpl).imp fun _ _ _ => tCB_d h
theorem eo_callB (hc : CallR X (.builtin id) r) (h : CallDO X.K r f) (hg : Gl X x) (hm : X.mg x = none) (hv : bootBuiltins x = some (.builtin id)) (ha : AJ X P O (e :: es) gs) (hn : x ≠ "__name__" := by decide) (hdb : (x == ("__debug__" : Str)) = false := by decide)
    (he : starEach (e :: es) X.env = (false, eval e X.env) :: starEach es X.env := by rfl) (hpl : (backTo pos (starEach es X.env)).any (·.1) = false := by rfl) : EO X P O (.Call (.Name x p) (e :: es) [] pos) (cCall f gs) :=
  (pe_callB hc hg hm hv ha hn hdb he hpl).imp fun _ _ _ => tCB_o h
theorem ej_callTy (hc : CallR X (.type T) r) (h : CallD X.K r f) (hg : Gl X x) (hm : X.mg x = none) (hv : bootBuiltins x = some (.type T)) (ha : AJ X P O (e :: es) gs) (hn : x ≠ "__name__" := by decide) (hdb : (x == ("__debug__" : Str)) = false := by decide)
    (he : starEach (e :: es) X.env = (false, eval e X.env) :: starEach es X.env := by rfl) (hpl : (backTo pos (starEach es X.env)).any (·.1) = false := by rfl) : EJ X P O (.Call (.Name x p) (e :: es) [] pos) (cCall f gs) :=
  (pe_callTy hc hg hm hv ha hn hdb he hpl).imp fun _ _ _ => tCB_d h
theorem eo_callTy (hc : CallR X (.type T) r) (h : CallDO X.K r f) (hg : Gl X x) (hm : X.mg x = none) (hv : bootBuiltins x = some (.type T)) (ha : AJ X P O (e :: es) gs) (hn : x ≠ "__name__" := by decide) (hdb : (x == ("__debug__" : Str)) = false := by decide)
    (he : starEach (e :: es) X.env = (false, eval e X.env) :: starEach es X.env := by rfl) (hpl : (backTo pos (starEach es X.env)).any (·.1) = false := by rfl) : EO X P O (.Call (.Name x p) (e :: es) [] pos) (cCall f gs) :=
  (pe_callTy hc hg hm hv ha hn hdb he hpl).imp fun _ _ _ => tCB_o h
theorem ej_callFun (hc : CallR X (.builtin id) r) (h : CallD X.K r f) (hg : Gl X x) (hm : X.mg x = some (.builtin id)) (ha : AJ X P O (e :: es) gs) (hdb : (x == ("__debug__" : Str)) = false := by decide)
    (he : starEach (e :: es) X.env = (false, eval e X.env) :: starEach es X.env := by rfl) (hpl : (backTo pos (starEach es X.env)).any (·.1) = false := by rfl) : EJ X P O (.Call (.Name x p) (e :: es) [] pos) (cCall f gs) :=
  (pe_callBfun hc hg hm ha hdb he hpl).imp fun _ _ _ => tCB_d h
end
theorem CallD.or {K : PySem.W.Frag} {r r' : List V → Hp → VK → Prop} {f f' g : List D → Option D} (h : CallD K r f) (h' : CallD K r' f') (hg : ∀ d z, g d = some z → f d = some z ∨ f' d = some z) : CallD K (fun x H Q => r x H Q ∨ r' x H Q) g := fun Hf H d z x s rx q Q k =>
  (hg d z q).elim (fun q => .inl (h Hf H d z x s rx q Q k)) fun q => .inr (h' Hf H d z x s rx q Q k)

/-! the built-ins -/
theorem ite_some {α : Type} {c : Prop} [Decidable c] {a b : α} (h : (if c then some a else none) = some b) : c ∧ a = b := by
  by_cases hc : c
  · rw [if_pos hc] at h
    exact ⟨hc, Option.some.inj h⟩
  · rw [if_neg hc] at h
    cases h

theorem repL1 {K : PySem.W.Frag} {H : Hp} {d : D} {xs : List V} (h : RepL K H [d] xs) : ∃ v, xs = [v] ∧ Rep K H d v := by
  obtain ⟨v, vs, rfl, h1, h2⟩ := h
  cases h2
  exact ⟨v, rfl, h1⟩
theorem repL2 {K : PySem.W.Frag} {H : Hp} {d e : D} {xs : List V} (h : RepL K H [d, e] xs) : ∃ v u, xs = [v, u] ∧ Rep K H d v ∧ Rep K H e u := by
  obtain ⟨v, vs, rfl, h1, h2⟩ := h
  obtain ⟨u, rfl, h3⟩ := repL1 h2
  exact ⟨v, u, rfl, h1, h3⟩
def lenD : List D → Option D
  | [.lst ds] => some (.int ds.length)
  | [.tup ds] => some (.int ds.length)
  | [.scr ns] => some (.int ns.length)
  | [.str x] => if x.length ≤ 100000 then some (.int x.length) else none
  | _ => none
theorem call_lenA : CallR X (.builtin "len") (fun xs H Q => (∃ p ys, xs = [.ref p] ∧ (SqL X.K H p ys ∨ SqT X.K H p ys) ∧ Q (.int ys.length) H) ∨ (∃ z, xs = [.str z] ∧ z.length ≤ sizeLine ∧ Q (.int z.length) H)) := call_len_seq.or call_len_str
theorem len_d {K : PySem.W.Frag} : CallD K (fun xs H Q => (∃ p ys, xs = [.ref p] ∧ (SqL K H p ys ∨ SqT K H p ys) ∧ Q (.int ys.length) H) ∨ (∃ z, xs = [.str z] ∧ z.length ≤ sizeLine ∧ Q (.int z.length) H)) lenD := fun Hf H ds z xs s rx hf Q k => by
  match ds, hf with
  | [.lst es], hf =>
    cases hf
    obtain ⟨v, rfl, a, ys, rfl, h1, h2⟩ := repL1 rx
    refine .inl ⟨a, ys, rfl, .inl (SqL.of (s _ _ h1)), k Hf _ H (Gr.refl s) ?_⟩
    rw [h2.len]; rfl
  | [.tup es], hf =>
    cases hf
    obtain ⟨v, rfl, a, ys, rfl, h1, h2⟩ := repL1 rx
    refine .inl ⟨a, ys, rfl, .inr (sqT_mono s h1), k Hf _ H (Gr.refl s) ?_⟩
    rw [h2.len]; rfl
  | [.scr ns], hf =>
    cases hf
    obtain ⟨v, rfl, a, rfl, h1⟩ := repL1 rx
    refine .inl ⟨a, _, rfl, .inl (s.seq h1), k Hf _ H (Gr.refl s) ?_⟩
    rw [List.length_map]; rfl
  | [.str x], hf =>
    obtain ⟨hl, rfl⟩ := ite_some hf
    obtain ⟨v, rfl, rfl⟩ := repL1 rx
    exact .inr ⟨x, rfl, Nat.le_trans hl (by decide), k Hf _ H (Gr.refl s) rfl⟩
def absD : List D → Option D
  | [.int i] => some (.int (if i < 0 then -i else i))
  | _ => none
theorem abs_d {K : PySem.W.Frag} : CallD K (fun xs H Q => ∃ i, xs = [.int i] ∧ Q (.int (if i < 0 then -i else i)) H) absD := fun Hf H ds z xs s rx hf Q k => by
  match ds, hf with
  | [.int i], hf =>
    cases hf
    obtain ⟨v, rfl, rfl⟩ := repL1 rx
    exact ⟨i, rfl, k Hf _ H (Gr.refl s) rfl⟩
def intD : List D → Option D
  | [.int i] => some (.int i)
  | _ => none
theorem int_d {K : PySem.W.Frag} : CallD K (fun xs H Q => (∃ i, xs = [.int i] ∧ Q (.int i) H) ∨ ∃ k, xs = [.bl k] ∧ Q (.int (if k then 1 else 0)) H) intD := fun Hf H ds z xs s rx hf Q k => by
  match ds, hf with
  | [.int i], hf =>
    cases hf
    obtain ⟨v, rfl, rfl⟩ := repL1 rx
    exact .inl ⟨i, rfl, k Hf _ H (Gr.refl s) rfl⟩
def gcdD : List D → Option D
  | [.int i, .int j] => some (.int (Nat.gcd i.natAbs j.natAbs : Nat))
  | _ => none
theorem gcd_d {K : PySem.W.Frag} : CallD K rGcd gcdD := fun Hf H ds z xs s rx hf Q k => by
  match ds, hf with
  | [.int i, .int j], hf =>
    cases hf
    obtain ⟨v, u, rfl, rfl, rfl⟩ := repL2 rx
    exact ⟨i, j, rfl, k Hf _ H (Gr.refl s) rfl⟩

/-! ### arithmetic -/
def intOp (f : Int → Int → Int) : D → D → Option D
  | .int i, .int j => some (.int (f i j))
  | _, _ => none
def intOpC (c : Int → Int → Bool) (f : Int → Int → Int) : D → D → Option D
  | .int i, .int j => if c i j = true then some (.int (f i j)) else none
  | _, _ => none
def intCmp (f : Int → Int → Bool) : D → D → Option D
  | .int i, .int j => some (.bl (f i j))
  | _, _ => none
theorem intOp_d {K : PySem.W.Frag} {f : Int → Int → Int} : OpD K (rI0 fun i j => .int (f i j)) (intOp f) := fun Hf H d e z x y s rx ry hf Q k => by
  match d, e, hf with
  | .int i, .int j, hf =>
    cases hf
    exact ⟨i, j, rx, ry, k Hf _ H (Gr.refl s) rfl⟩
theorem intOpC_d {K : PySem.W.Frag} {C : Int → Int → Prop} {c : Int → Int → Bool} {f : Int → Int → Int} (hc : ∀ i j, c i j = true → C i j) : OpD K (rI C fun i j => .int (f i j)) (intOpC c f) := fun Hf H d e z x y s rx ry hf Q k => by
  match d, e, hf with
  | .int i, .int j, hf =>
    obtain ⟨h, rfl⟩ := ite_some hf
    exact ⟨i, j, rx, ry, hc i j h, k Hf _ H (Gr.refl s) rfl⟩
theorem intCmp_d {K : PySem.W.Frag} {f : Int → Int → Bool} : OpD K (rI0 fun i j => .bl (f i j)) (intCmp f) := fun Hf H d e z x y s rx ry hf Q k => by
  match d, e, hf with
  | .int i, .int j, hf =>
    cases hf
    exact ⟨i, j, rx, ry, k Hf _ H (Gr.refl s) rfl⟩
def CMulG (i j : Int) : Prop := i.natAbs.log2 + j.natAbs.log2 < 100000000
theorem bits_le (x : Int) : Builtin.Int.intBits x ≤ x.natAbs.log2 + 1 := by
  unfold Builtin.Int.intBits
  cases x == 0 <;> simp
theorem CMulG.ok {i j : Int} (h : CMulG i j) : IntMulOk i j := fun z => by
  have big : bitsLine ≤ Builtin.Int.intBits i + Builtin.Int.intBits j := by
    have z2 := (Bool.and_eq_true_iff.mp z).2
    unfold Builtin.Int.intTooBig at z2
    have := of_decide_eq_true z2
    omega
  have hi := bits_le i
  have hj := bits_le j
  have hl : 134217728 ≤ bitsLine := by decide
  have hs : i.natAbs.log2 + j.natAbs.log2 < 100000000 := h
  omega
theorem op_mulG : OpR X (binaryOp .Mult) (rI CMulG fun i j => .int (i * j)) := opI fun _ _ _ _ _ _ _ hc q => mul_int q hc.ok
theorem op_fdivG : OpR X (binaryOp .FloorDiv) (rI (fun _ j => j ≠ 0 ∧ j.natAbs.log2 < 9000) fun i j => .int (i.fdiv j)) := opI fun i j _ _ _ _ _ hc q => floordiv_int hc.1 q (.inl (PyProof.noPylong_of_log2 hc.2))
def mulC (i j : Int) : Bool := decide (i.natAbs.log2 + j.natAbs.log2 < 100000000)
def divC (_ j : Int) : Bool := decide (j ≠ 0) && decide (j.natAbs.log2 < 9000)
def modC (_ j : Int) : Bool := decide (j ≠ 0)
def powC (i j : Int) : Bool := decide (0 ≤ j) && decide (j ≤ 1000000) && decide (i.natAbs < 2 ^ 64)
theorem mul_d {K : PySem.W.Frag} : OpD K (rI CMulG fun i j => .int (i * j)) (intOpC mulC fun i j => i * j) := intOpC_d fun i j h => (by
  have h' : i.natAbs.log2 + j.natAbs.log2 < 100000000 := of_decide_eq_true h
  exact h')
theorem fdiv_d {K : PySem.W.Frag} : OpD K (rI (fun _ j => j ≠ 0 ∧ j.natAbs.log2 < 9000) fun i j => .int (i.fdiv j)) (intOpC divC Int.fdiv) := intOpC_d fun _ _ h => ⟨of_decide_eq_true (Bool.and_eq_true_iff.mp h).1, of_decide_eq_true (Bool.and_eq_true_iff.mp h).2⟩
theorem mod_d {K : PySem.W.Frag} : OpD K (rI (fun _ j => j ≠ 0) fun i j => .int (i.fmod j)) (intOpC modC Int.fmod) := intOpC_d fun _ _ h => of_decide_eq_true h
theorem pow_d {K : PySem.W.Frag} : OpD K (rI CPow fun i j => .int (i ^ j.toNat)) (intOpC powC fun i j => i ^ j.toNat) := intOpC_d fun _ _ h => by
  have h1 := Bool.and_eq_true_iff.mp h
  have h2 := Bool.and_eq_true_iff.mp h1.1
  exact ⟨of_decide_eq_true h2.1, of_decide_eq_true h2.2, of_decide_eq_true h1.2⟩
def negD : D → Option D
  | .int i => some (.int (-i))
  | _ => none
def UnD (K : PySem.W.Frag) (r : V → Hp → VK → Prop) (f : D → Option D) : Prop := ∀ Hf H d z x, Same Hf H → Rep K Hf d x → f d = some z → ∀ Q : VK, (∀ Hf' v H', Gr Hf H Hf' H' → Rep K Hf' z v → Q v H') → r x H Q
theorem neg_d {K : PySem.W.Frag} : UnD K (rU fun i => .int (-i)) negD := fun Hf H d z x s rx hf Q k => by
  match d, hf with
  | .int i, hf =>
    cases hf
    exact ⟨i, rx, k Hf _ H (Gr.refl s) rfl⟩
def cUn (f : D → Option D) (g : Gx) : Gx := fun ρ => (g ρ).bind fun p => (f p.1).map fun z => (z, p.2)
theorem ej_un {op : UnaryOp} {r : V → Hp → VK → Prop} {f : D → Option D} (ho : UnR X (unaryOp op) r) (h : UnD X.K r f) (ha : EJ X P O a ga) : EJ X P O (.UnaryOp op a pos) (cUn f ga) := by
  refine (pe_un ho ha).imp fun σ H Q ⟨B, Hf, ρ, z, ρ', R, e, k⟩ => ?_
  obtain ⟨⟨d, ρ1⟩, h1, h'⟩ := Option.bind_eq_some_iff.mp e
  obtain ⟨z', h2, h'⟩ := Option.map_eq_some_iff.mp h'
  cases h'
  exact ⟨B, Hf, ρ, d, _, R, h1, fun Hf1 v H1 s1 R1 rv => h Hf1 H1 d _ v R1.ex rv h2 Q fun Hf2 u H2 gr ru => k Hf2 u H2 (s1.trans gr.s1) (R1.gr gr) ru⟩

/-! ### + of ints, texts, tuples, lists -/
def catT : D → D → Option D
  | .tup xs, .tup ys => if xs.length + ys.length ≤ 100000 then some (.tup (xs ++ ys)) else none
  | _, _ => none
def catL : D → D → Option D
  | .lst xs, .lst ys => if xs.length + ys.length ≤ 100000 then some (.lst (xs ++ ys)) else none
  | _, _ => none
def catS : D → D → Option D
  | .str x, .str y => if x.length + y.length ≤ 100000 then some (.str (x ++ y)) else none
  | _, _ => none
def addD : D → D → Option D
  | .int i, .int j => some (.int (i + j))
  | .str x, .str y => catS (.str x) (.str y)
  | .lst xs, .lst ys => catL (.lst xs) (.lst ys)
  | .tup xs, .tup ys => catT (.tup xs) (.tup ys)
  | _, _ => none
theorem catL_o {K : PySem.W.Frag} : OpDO K rCat catL := fun Hf H d e z x y s rx ry hf Q k => by
  match d, e, hf with
  | .lst xs, .lst ys, hf =>
    obtain ⟨h, rfl⟩ := ite_some hf
    obtain ⟨a, us, rfl, h1, h2⟩ := rx
    obtain ⟨b, ws, rfl, h3, h4⟩ := ry
    refine ⟨a, b, us, ws, rfl, rfl, s _ _ h1, s _ _ h3, by rw [h2.len, h4.len]; exact Nat.le_trans h (by decide), fun p np => ?_⟩
    exact k Hf p _ _ (Gr.newO s np) np (s.free np) upd_same ⟨_, rfl, h2.append h4⟩
theorem catT_d {K : PySem.W.Frag} : OpD K (rCatA K) catT := fun Hf H d e z x y s rx ry hf Q k => by
  match d, e, hf with
  | .tup xs, .tup ys, hf =>
    obtain ⟨h, rfl⟩ := ite_some hf
    obtain ⟨a, us, rfl, h1, h2⟩ := rx
    obtain ⟨b, ws, rfl, h3, h4⟩ := ry
    have h5 := h2.append h4
    refine ⟨a, b, us, ws, rfl, rfl, sqT_mono s h1, sqT_mono s h3, by rw [h2.len, h4.len]; exact Nat.le_trans h (by decide), fun e => ?_, fun _ e => ?_, fun _ _ p np => ?_⟩
    · subst e
      exact k Hf _ H (Gr.refl s) ⟨b, ws, rfl, h3, h5⟩
    · subst e
      exact k Hf _ H (Gr.refl s) ⟨a, us, rfl, h1, by rw [List.append_nil] at h5; exact h5⟩
    · have g := Gr.new (o := .tup (us ++ ws)) s np
      exact k _ _ _ g ⟨p, _, rfl, SqT.of upd_same, RepL.mono g.s1 _ _ h5⟩
theorem catS_d {K : PySem.W.Frag} : OpD K (fun x y H Q => ∃ i j, x = .str i ∧ y = .str j ∧ i.length + j.length ≤ sizeLine ∧ Q (.str (i ++ j)) H) catS := fun Hf H d e z x y s rx ry hf Q k => by
  match d, e, hf with
  | .str i, .str j, hf =>
    obtain ⟨h, rfl⟩ := ite_some hf
    exact ⟨i, j, rx, ry, Nat.le_trans h (by decide), k Hf _ H (Gr.refl s) rfl⟩
theorem op_addA : OpR X (binaryOp .Add) (fun x y H Q => (rI0 fun i j => .int (i + j)) x y H Q ∨ (fun x y H Q => (∃ i j, x = .str i ∧ y = .str j ∧ i.length + j.length ≤ sizeLine ∧ Q (.str (i ++ j)) H) ∨ (fun x y H Q => rCat x y H Q ∨ rCatA X.K x y H Q) x y H Q) x y H Q) :=
  OpR.or op_add (OpR.or op_add_str (OpR.or op_cat op_catA))
def addLT : D → D → Option D
  | .lst xs, .lst ys => catL (.lst xs) (.lst ys)
  | .tup xs, .tup ys => catT (.tup xs) (.tup ys)
  | _, _ => none
def addSLT : D → D → Option D
  | .str x, .str y => catS (.str x) (.str y)
  | .lst xs, .lst ys => catL (.lst xs) (.lst ys)
  | .tup xs, .tup ys => catT (.tup xs) (.tup ys)
  | _, _ => none
theorem add_d {K : PySem.W.Frag} : OpD K (fun x y H Q => (rI0 fun i j => .int (i + j)) x y H Q ∨ (fun x y H Q => (∃ i j, x = .str i ∧ y = .str j ∧ i.length + j.length ≤ sizeLine ∧ Q (.str (i ++ j)) H) ∨ (fun x y H Q => rCat x y H Q ∨ rCatA K x y H Q) x y H Q) x y H Q) addD :=
  OpD.or (f' := addSLT) intOp_d (OpD.or (f' := addLT) catS_d (OpD.or catL_o.d catT_d (by
    intro d e z h
    cases d with
    | lst xs => cases e with
      | lst ys => exact .inl h
      | _ => cases h
    | tup xs => cases e with
      | tup ys => exact .inr h
      | _ => cases h
    | _ => cases h)) (by
    intro d e z h
    cases d with
    | lst xs => cases e with
      | lst ys => exact .inr h
      | _ => cases h
    | tup xs => cases e with
      | tup ys => exact .inr h
      | _ => cases h
    | str xs => cases e with
      | str ys => exact .inl h
      | _ => cases h
    | _ => cases h)) (by
    intro d e z h
    cases d with
    | lst xs => cases e with
      | lst ys => exact .inr h
      | _ => cases h
    | tup xs => cases e with
      | tup ys => exact .inr h
      | _ => cases h
    | str xs => cases e with
      | str ys => exact .inr h
      | _ => cases h
    | int xs => cases e with
      | int ys => exact .inl h
      | _ => cases h
    | _ => cases h)
def subD : D → D → Option D := intOp fun i j => i - j
def fdivD : D → D → Option D := intOpC divC Int.fdiv
def modD : D → D → Option D := intOpC modC Int.fmod
def powD : D → D → Option D := intOpC powC fun i j => i ^ j.toNat
def ltD : D → D → Option D := intCmp fun i j => decide (i < j)
def leD : D → D → Option D := intCmp fun i j => decide (i ≤ j)
def gtD : D → D → Option D := intCmp fun i j => decide (j < i)
def geD : D → D → Option D := intCmp fun i j => decide (j ≤ i)
theorem ej_add (ha : EJ X P O a ga) (hb : EJ X P O b gb) : EJ X P O (.BinOp a .Add b pos) (cOp addD ga gb) := ej_op op_addA add_d ha hb
/-- a new list -/
theorem eo_add (ha : EJ X P O a ga) (hb : EJ X P O b gb) : EO X P O (.BinOp a .Add b pos) (cOp catL ga gb) := eo_op op_cat catL_o ha hb
theorem ej_sub (ha : EJ X P O a ga) (hb : EJ X P O b gb) : EJ X P O (.BinOp a .Sub b pos) (cOp subD ga gb) := ej_op op_sub intOp_d ha hb
theorem ej_fdiv (ha : EJ X P O a ga) (hb : EJ X P O b gb) : EJ X P O (.BinOp a .FloorDiv b pos) (cOp fdivD ga gb) := ej_op op_fdivG fdiv_d ha hb
theorem ej_mod (ha : EJ X P O a ga) (hb : EJ X P O b gb) : EJ X P O (.BinOp a .Mod b pos) (cOp modD ga gb) := ej_op op_modN mod_d ha hb
theorem ej_pow (ha : EJ X P O a ga) (hb : EJ X P O b gb) : EJ X P O (.BinOp a .Pow b pos) (cOp powD ga gb) := ej_op op_pow pow_d ha hb
theorem ej_neg (ha : EJ X P O a ga) : EJ X P O (.UnaryOp .USub a pos) (cUn negD ga) := ej_un un_neg neg_d ha
def repLs : D → D → Option D
  | .lst xs, .int k => if -1000000 ≤ k ∧ k ≤ 1000000 ∧ xs.length * k.toNat ≤ 100000 then some (.lst (List.replicate k.toNat xs).flatten) else none
  | _, _ => none
theorem RepL.rep {K : PySem.W.Frag} {H : Hp} {ds : List D} {xs : List V} (h : RepL K H ds xs) : ∀ k : Nat, RepL K H (List.replicate k ds).flatten (List.replicate k xs).flatten
  | 0 => rfl
  | k + 1 => by
    rw [List.replicate_succ, List.replicate_succ, List.flatten_cons, List.flatten_cons]
    exact h.append (RepL.rep h k)
theorem rep_o {K : PySem.W.Frag} : OpDO K rRep repLs := fun Hf H d e z x y s rx ry hf Q k => by
  match d, e, hf with
  | .lst xs, .int m, hf =>
    obtain ⟨⟨h1, h2, h3⟩, rfl⟩ := ite_some hf
    obtain ⟨a, us, rfl, h4, h5⟩ := rx
    cases ry
    refine ⟨a, m, us, rfl, rfl, s _ _ h4, by omega, by omega, by rw [h5.len]; exact Nat.le_trans h3 (by decide), fun p np => ?_⟩
    exact k Hf p _ _ (Gr.newO s np) np (s.free np) upd_same ⟨_, rfl, h5.rep _⟩
def mulD : D → D → Option D
  | .int i, .int j => intOpC mulC (fun i j => i * j) (.int i) (.int j)
  | .lst xs, .int k => repLs (.lst xs) (.int k)
  | _, _ => none
theorem op_mulA : OpR X (binaryOp .Mult) (fun x y H Q => (rI CMulG fun i j => .int (i * j)) x y H Q ∨ rRep x y H Q) := OpR.or op_mulG op_rep
theorem mulA_d {K : PySem.W.Frag} : OpD K (fun x y H Q => (rI CMulG fun i j => .int (i * j)) x y H Q ∨ rRep x y H Q) mulD := OpD.or mul_d rep_o.d (by
  intro d e z h
  match d, e, h with
  | .int _, .int _, h => exact .inl h
  | .lst _, .int _, h => exact .inr h)
theorem ej_mul (ha : EJ X P O a ga) (hb : EJ X P O b gb) : EJ X P O (.BinOp a .Mult b pos) (cOp mulD ga gb) := ej_op op_mulA mulA_d ha hb
theorem eo_mul (ha : EJ X P O a ga) (hb : EJ X P O b gb) : EO X P O (.BinOp a .Mult b pos) (cOp repLs ga gb) := eo_op op_rep rep_o ha hb

/-! ### comparisons -/
section
variable (hm : True)
theorem ej_lt (ha : EJ X P O a ga) (hb : EJ X P O b gb) : EJ X P O (.Compare a [.Lt] [b] pos) (cOp ltD ga gb) := ej_cmp op_lt intCmp_d ha hb (nomark _)
theorem ej_le (ha : EJ X P O a ga) (hb : EJ X P O b gb) : EJ X P O (.Compare a [.LtE] [b] pos) (cOp leD ga gb) := ej_cmp op_le intCmp_d ha hb (nomark _)
theorem ej_gt (ha : EJ X P O a ga) (hb : EJ X P O b gb) : EJ X P O (.Compare a [.Gt] [b] pos) (cOp gtD ga gb) := ej_cmp op_gt intCmp_d ha hb (nomark _)
theorem ej_ge (ha : EJ X P O a ga) (hb : EJ X P O b gb) : EJ X P O (.Compare a [.GtE] [b] pos) (cOp geD ga gb) := ej_cmp op_ge intCmp_d ha hb (nomark _)
theorem tj_lt (ha : EJ X P O a ga) (hb : EJ X P O b gb) : TJ X P O (.Compare a [.Lt] [b] pos) (cTest (cOp ltD ga gb)) := tj_cmp op_lt intCmp_d ha hb (nomark _)
theorem tj_le (ha : EJ X P O a ga) (hb : EJ X P O b gb) : TJ X P O (.Compare a [.LtE] [b] pos) (cTest (cOp leD ga gb)) := tj_cmp op_le intCmp_d ha hb (nomark _)
theorem tj_gt (ha : EJ X P O a ga) (hb : EJ X P O b gb) : TJ X P O (.Compare a [.Gt] [b] pos) (cTest (cOp gtD ga gb)) := tj_cmp op_gt intCmp_d ha hb (nomark _)
theorem tj_ge (ha : EJ X P O a ga) (hb : EJ X P O b gb) : TJ X P O (.Compare a [.GtE] [b] pos) (cTest (cOp geD ga gb)) := tj_cmp op_ge intCmp_d ha hb (nomark _)
end
mutual
def D.py : D → PyData
  | .non => .none
  | .bl b => .bool b
  | .int i => .int i
  | .str x => .str x
  | .tup ds => .tuple (D.pys ds)
  | .lst ds => .list (D.pys ds)
  | .scr ns => .list (ns.map .int)
def D.pys : List D → List PyData
  | [] => []
  | d :: ds => D.py d :: D.pys ds
end
theorem dpAll_ints {K : PySem.W.Frag} {H : Hp} : ∀ ns : List Int, DpAll K H (ns.map V.int) (ns.map PyData.int)
  | [] => .nil
  | n :: ns => .cons (.int n) (dpAll_ints ns)
mutual
theorem Rep.dp {K : PySem.W.Frag} {H : Hp} : ∀ (d : D) (v : V), Rep K H d v → Dp K H v d.py
  | .non, _, h => by rw [show _ = _ from h]; exact .non
  | .bl b, _, h => by rw [show _ = _ from h]; exact .bl b
  | .int i, _, h => by rw [show _ = _ from h]; exact .int i
  | .str x, _, h => by rw [show _ = _ from h]; exact .str x
  | .tup ds, v, h => by
    obtain ⟨a, xs, rfl, h1, h2⟩ := h
    exact .tup h1 (RepL.dp ds xs h2)
  | .lst ds, v, h => by
    obtain ⟨a, xs, rfl, h1, h2⟩ := h
    exact .lst (SqL.of h1) (RepL.dp ds xs h2)
  | .scr ns, v, h => by
    obtain ⟨a, rfl, h1⟩ := h
    exact .lst h1 (dpAll_ints ns)
theorem RepL.dp {K : PySem.W.Frag} {H : Hp} : ∀ (ds : List D) (xs : List V), RepL K H ds xs → DpAll K H xs (D.pys ds)
  | [], _, h => by rw [show _ = _ from h]; exact .nil
  | d :: ds, xs, h => by
    obtain ⟨v, vs, rfl, h1, h2⟩ := h
    exact .cons (Rep.dp d v h1) (RepL.dp ds vs h2)
end
def D.eqv (d e : D) : Bool := PyData.eqv d.py e.py
def D.shp (d : D) : Bool := SeqAt.shaped d.py
def eqD (d e : D) : Option D := if D.shp d = true ∧ D.shp e = true then some (.bl (D.eqv d e)) else none
def neD (d e : D) : Option D := if D.shp d = true ∧ D.shp e = true then some (.bl (!D.eqv d e)) else none
theorem eq_d {K : PySem.W.Frag} : OpD K (rEqD K) eqD := fun Hf H d e z x y s rx ry hf Q k => by
  obtain ⟨⟨h1, h2⟩, rfl⟩ := ite_some hf
  exact ⟨d.py, e.py, Rep.dp _ _ (Rep.mono s _ _ rx), Rep.dp _ _ (Rep.mono s _ _ ry), h1, h2, k Hf _ H (Gr.refl s) rfl⟩
theorem ne_d {K : PySem.W.Frag} : OpD K (rNeD K) neD := fun Hf H d e z x y s rx ry hf Q k => by
  obtain ⟨⟨h1, h2⟩, rfl⟩ := ite_some hf
  exact ⟨d.py, e.py, Rep.dp _ _ (Rep.mono s _ _ rx), Rep.dp _ _ (Rep.mono s _ _ ry), h1, h2, k Hf _ H (Gr.refl s) rfl⟩
theorem ej_eq (hu : X.A.units + 64 < cLine) (ha : EJ X P O a ga) (hb : EJ X P O b gb) : EJ X P O (.Compare a [.Eq] [b] pos) (cOp eqD ga gb) := ej_cmp (op_eqD hu) eq_d ha hb (nomark _)
theorem ej_ne (hu : X.A.units + 64 < cLine) (ha : EJ X P O a ga) (hb : EJ X P O b gb) : EJ X P O (.Compare a [.NotEq] [b] pos) (cOp neD ga gb) := ej_cmp (op_neD hu) ne_d ha hb (nomark _)
theorem tj_eq (hu : X.A.units + 64 < cLine) (ha : EJ X P O a ga) (hb : EJ X P O b gb) : TJ X P O (.Compare a [.Eq] [b] pos) (cTest (cOp eqD ga gb)) := tj_cmp (op_eqD hu) eq_d ha hb (nomark _)
theorem tj_ne (hu : X.A.units + 64 < cLine) (ha : EJ X P O a ga) (hb : EJ X P O b gb) : TJ X P O (.Compare a [.NotEq] [b] pos) (cTest (cOp neD ga gb)) := tj_cmp (op_neD hu) ne_d ha hb (nomark _)
def isN : D → D → Option D
  | .non, .non => some (.bl true)
  | _, .non => some (.bl false)
  | _, _ => none
def notN : D → D → Option D
  | .non, .non => some (.bl false)
  | _, .non => some (.bl true)
  | _, _ => none
theorem rep_non {K : PySem.W.Frag} {H : Hp} {v : V} : ∀ {d : D}, Rep K H d v → decide (v = .non) = (match d with | .non => true | _ => false)
  | .non, h => by rw [show v = _ from h]; rfl
  | .bl b, h => by rw [show v = _ from h]; rfl
  | .int i, h => by rw [show v = _ from h]; rfl
  | .str x, h => by rw [show v = _ from h]; rfl
  | .tup ds, ⟨a, _, h, _⟩ => by rw [h]; rfl
  | .lst ds, ⟨a, _, h, _⟩ => by rw [h]; rfl
  | .scr ds, ⟨a, h, _⟩ => by rw [h]; rfl
theorem isN_d {K : PySem.W.Frag} : OpD K (fun x y H Q => y = .non ∧ Q (.bl (decide (x = .non))) H) isN := fun Hf H d e z x y s rx ry hf Q k => by
  match e, ry with
  | .non, ry =>
    refine ⟨ry, k Hf _ H (Gr.refl s) ?_⟩
    rw [rep_non rx]
    cases d <;> (cases hf; rfl)
  | .bl _, _ => cases d <;> cases hf
  | .int _, _ => cases d <;> cases hf
  | .str _, _ => cases d <;> cases hf
  | .tup _, _ => cases d <;> cases hf
  | .lst _, _ => cases d <;> cases hf
  | .scr _, _ => cases d <;> cases hf
theorem notN_d {K : PySem.W.Frag} : OpD K (fun x y H Q => y = .non ∧ Q (.bl (!decide (x = .non))) H) notN := fun Hf H d e z x y s rx ry hf Q k => by
  match e, ry with
  | .non, ry =>
    refine ⟨ry, k Hf _ H (Gr.refl s) ?_⟩
    rw [rep_non rx]
    cases d <;> (cases hf; rfl)
  | .bl _, _ => cases d <;> cases hf
  | .int _, _ => cases d <;> cases hf
  | .str _, _ => cases d <;> cases hf
  | .tup _, _ => cases d <;> cases hf
  | .lst _, _ => cases d <;> cases hf
  | .scr _, _ => cases d <;> cases hf
theorem ej_is (ha : EJ X P O a ga) (hb : EJ X P O b gb) : EJ X P O (.Compare a [.Is] [b] pos) (cOp isN ga gb) := ej_cmp op_isN isN_d ha hb (nomark _)
theorem ej_isnot (ha : EJ X P O a ga) (hb : EJ X P O b gb) : EJ X P O (.Compare a [.IsNot] [b] pos) (cOp notN ga gb) := ej_cmp op_notN notN_d ha hb (nomark _)

/-! ### items -/
def ixD : D → D → Option D
  | .lst ds, .int i => atI ds i
  | .tup ds, .int i => atI ds i
  | .scr ns, .int i => (atI ns i).map D.int
  | .str z, .int i => if z.length ≤ 100000 then (atI z.cps.toList i).map fun c => D.str ⟨#[c]⟩ else none
  | _, _ => none
theorem atI_rep {K : PySem.W.Frag} {H : Hp} {ds : List D} {xs : List V} {i : Int} {d : D} (h : RepL K H ds xs) (e : atI ds i = some d) : ∃ v, atI xs i = some v ∧ Rep K H d v := by
  unfold atI at e ⊢
  rw [h.len]
  obtain ⟨j, h1, h2⟩ := Option.bind_eq_some_iff.mp e
  obtain ⟨v, h3, h4⟩ := h.get h2
  exact ⟨v, by rw [h1]; exact h3, h4⟩
theorem atI_map {α β : Type} (f : α → β) (xs : List α) (i : Int) : atI (xs.map f) i = (atI xs i).map f := by
  unfold atI
  rw [List.length_map]
  cases ixN xs.length i with
  | none => rfl
  | some j => exact List.getElem?_map
theorem ix_d {K : PySem.W.Frag} : OpD K (rIx K) ixD := fun Hf H d e z x y s rx ry hf Q k => by
  match d, e, hf with
  | .lst ds, .int i, hf =>
    obtain ⟨a, us, rfl, h1, h2⟩ := rx
    obtain ⟨v, h3, h4⟩ := atI_rep h2 hf
    exact .inl ⟨a, us, i, v, rfl, ry, SqL.of (s _ _ h1), h3, k Hf v H (Gr.refl s) h4⟩
  | .tup ds, .int i, hf =>
    obtain ⟨a, us, rfl, h1, h2⟩ := rx
    obtain ⟨v, h3, h4⟩ := atI_rep h2 hf
    exact .inr (.inl ⟨a, us, i, v, rfl, ry, sqT_mono s h1, h3, k Hf v H (Gr.refl s) h4⟩)
  | .scr ns, .int i, hf =>
    obtain ⟨a, rfl, h1⟩ := rx
    obtain ⟨n, h2, h3⟩ := Option.map_eq_some_iff.mp hf
    subst h3
    exact .inl ⟨a, _, i, .int n, rfl, ry, s.seq h1, by rw [atI_map, h2]; rfl, k Hf _ H (Gr.refl s) rfl⟩
  | .str w, .int i, hf =>
    have hf : (if w.length ≤ 100000 then (atI w.cps.toList i).map fun c => D.str ⟨#[c]⟩ else none) = some z := hf
    by_cases hc : w.length ≤ 100000
    · rw [if_pos hc] at hf
      obtain ⟨c, h2, h3⟩ := Option.map_eq_some_iff.mp hf
      subst h3
      exact .inr (.inr ⟨w, i, c, rx, ry, Nat.le_trans hc (by decide), h2, k Hf _ H (Gr.refl s) rfl⟩)
    · rw [if_neg hc] at hf
      cases hf
theorem ej_ix (ha : EJ X P O a ga) (hb : EJ X P O b gb) (hs : PlainIx b := by exact fun _ _ => rfl) : EJ X P O (.Subscript a b pos) (cOp ixD ga gb) := (pe_ix ix_seq ha hb hs).imp fun _ _ _ => tOp_d ix_d
/-! ### slices -/
def cutD (ds : List D) (lo hi : Option Int) : List D := (ds.drop (HT.sIx ds.length 0 lo)).take (HT.sIx ds.length ds.length hi - HT.sIx ds.length 0 lo)
theorem cut_rep {K : PySem.W.Frag} {H : Hp} {ds : List D} {xs : List V} (h : RepL K H ds xs) (lo hi : Option Int) : RepL K H (cutD ds lo hi) (cutV xs lo hi) := by
  unfold cutD cutV
  rw [h.len]
  exact (h.drop _).take _
end
end G
namespace G
open PySem PySem.Spec PyProof.Rows L2
section
variable {X : Cx} {P O : List Nat} {a b e : Expr} {es : List Expr} {ga gb g : Gx} {pos : Pos}
/-! ### slices -/
abbrev Go := Env → Option (Option Int × Env)
def tP (K : PySem.W.Frag) (P O : List Nat) (g : Go) : TO := fun σ H Q => ∃ B Hf ρ d ρ', Rl K B P O Hf σ H ρ ∧ g ρ = some (d, ρ') ∧ ∀ Hf' H', Same Hf Hf' → Rl K B P O Hf' σ H' ρ' → Q d H'
def cNoP : Go := fun ρ => some (none, ρ)
def asInt : D → Option Int
  | .int i => some i
  | _ => none
def cPart (g : Gx) : Go := fun ρ => (g ρ).bind fun p => (asInt p.1).map fun i => (some i, p.2)
theorem _root_.L2.PO.imp {X : Cx} {e : Option Expr} {t t' : TO} (h : PO X e t) (i : ∀ σ H Q, t' σ H Q → t σ H Q) : PO X e t' := ⟨fun pins s σ H Q I q => h.run pins s σ H Q I (i _ _ _ q)⟩
abbrev OJ (X : Cx) (P O : List Nat) (e : Option Expr) (g : Go) : Prop := PO X e (tP X.K P O g)
theorem oj_none : OJ X P O none cNoP := po_none.imp fun σ H Q ⟨B, Hf, ρ, d, ρ', R, e, k⟩ => by
  cases e
  exact k Hf H (Same.refl _) R
theorem oj_some (h : EJ X P O e g) : OJ X P O (some e) (cPart g) := (po_some h).imp fun σ H Q ⟨B, Hf, ρ, d, ρ', R, e, k⟩ => by
  obtain ⟨⟨z, ρ1⟩, h1, h'⟩ := Option.bind_eq_some_iff.mp e
  obtain ⟨i, h2, h'⟩ := Option.map_eq_some_iff.mp h'
  cases h'
  refine ⟨B, Hf, ρ, z, _, R, h1, fun Hf1 v H1 s1 R1 rv => ⟨i, ?_, k Hf1 H1 s1 R1⟩⟩
  cases z with
  | int j => cases h2; exact rv
  | _ => cases h2
def slL : D → Option Int → Option Int → Option D
  | .lst ds, lo, hi => some (.lst (cutD ds lo hi))
  | .scr ns, lo, hi => some (.lst ((ns.drop (HT.sIx ns.length 0 lo)).take (HT.sIx ns.length ns.length hi - HT.sIx ns.length 0 lo) |>.map D.int))
  | _, _, _ => none
def slD : D → Option Int → Option Int → Option D
  | .tup ds, lo, hi => some (.tup (cutD ds lo hi))
  | .str z, lo, hi => if z.length ≤ 100000 then some (.str (cutS z lo hi)) else none
  | d, lo, hi => slL d lo hi
def cSl (f : D → Option Int → Option Int → Option D) (g : Gx) (lo hi : Go) : Gx := fun ρ => (g ρ).bind fun p => (lo p.2).bind fun q => (hi q.2).bind fun r => (f p.1 q.1 r.1).map fun z => (z, r.2)
def SlDt (K : PySem.W.Frag) (r : V → Option Int → Option Int → Hp → VK → Prop) (f : D → Option Int → Option Int → Option D) : Prop := ∀ Hf H d lo hi z x, Same Hf H → Rep K Hf d x → f d lo hi = some z → ∀ Q : VK, (∀ Hf' v H', Gr Hf H Hf' H' → Rep K Hf' z v → Q v H') → r x lo hi H Q
def SlDO (K : PySem.W.Frag) (r : V → Option Int → Option Int → Hp → VK → Prop) (f : D → Option Int → Option Int → Option D) : Prop := ∀ Hf H d lo hi z x, Same Hf H → Rep K Hf d x → f d lo hi = some z → ∀ Q : VK, (∀ Hf' a o H', Gr Hf H Hf' H' → H a = none → Hf' a = none → H' a = some o → Own K Hf' z o → Q (.ref a) H') → r x lo hi H Q
theorem SlDO.d {K : PySem.W.Frag} {r : V → Option Int → Option Int → Hp → VK → Prop} {f : D → Option Int → Option Int → Option D} (h : SlDO K r f) : SlDt K r f := fun Hf H d lo hi z x s rx hf Q k =>
  h Hf H d lo hi z x s rx hf Q fun Hf' a o H' g n n' ha ow => k (upd Hf' a o) (.ref a) H' (g.frz n n' ha) (ow.rep (same_upd n') upd_same)
theorem slL_o {K : PySem.W.Frag} : SlDO K (rSlL K) slL := fun Hf H d lo hi z x s rx hf Q k => by
  cases d with
  | lst ds =>
    cases hf
    obtain ⟨a, us, rfl, h1, h2⟩ := rx
    exact ⟨a, us, rfl, SqL.of (s _ _ h1), fun p np => k Hf p _ _ (Gr.newO s np) np (s.free np) upd_same ⟨_, rfl, cut_rep h2 lo hi⟩⟩
  | scr ns =>
    cases hf
    obtain ⟨a, rfl, h1⟩ := rx
    refine ⟨a, _, rfl, s.seq h1, fun p np => k Hf p _ _ (Gr.newO s np) np (s.free np) upd_same ⟨_, rfl, ?_⟩⟩
    have := cut_rep (RepL.ofInts (K := K) (H := Hf) ns) lo hi
    unfold cutD at this
    rw [List.length_map, ← List.map_drop, ← List.map_take] at this
    exact this
  | _ => cases hf
theorem slD_d {K : PySem.W.Frag} : SlDt K (fun x lo hi H Q => rSlL K x lo hi H Q ∨ (fun x lo hi H Q => rSlA K x lo hi H Q ∨ rSlS x lo hi H Q) x lo hi H Q) slD := fun Hf H d lo hi z x s rx hf Q k => by
  cases d with
  | lst ds => exact .inl (slL_o.d Hf H _ lo hi z x s rx hf Q k)
  | scr ds => exact .inl (slL_o.d Hf H _ lo hi z x s rx hf Q k)
  | tup ds =>
    cases hf
    obtain ⟨a, us, rfl, h1, h2⟩ := rx
    have h3 := cut_rep h2 lo hi
    refine .inr (.inl ⟨a, us, rfl, sqT_mono s h1, fun hw => ?_, fun hw p np => ?_⟩)
    · refine k Hf _ H (Gr.refl s) ⟨a, us, rfl, h1, ?_⟩
      unfold cutV at h3
      rw [hw.1, hw.2, List.drop_zero, Nat.sub_zero, List.take_length] at h3
      exact h3
    · have g := Gr.new (o := .tup (cutV us lo hi)) s np
      exact k _ _ _ g ⟨p, _, rfl, SqT.of upd_same, RepL.mono g.s1 _ _ h3⟩
  | str w =>
    obtain ⟨h, rfl⟩ := ite_some hf
    exact .inr (.inr ⟨w, rx, Nat.le_trans h (by decide), k Hf _ H (Gr.refl s) rfl⟩)
  | _ => cases hf
theorem sl_all : SlR X (fun x lo hi H Q => rSlL X.K x lo hi H Q ∨ (fun x lo hi H Q => rSlA X.K x lo hi H Q ∨ rSlS x lo hi H Q) x lo hi H Q) := SlR.or sl_list (SlR.or sl_tupA sl_str)
variable {lo hi : Option Expr} {gl gh : Go} {p2 : Pos}
theorem ej_sl (ha : EJ X P O a ga) (hl : OJ X P O lo gl) (hh : OJ X P O hi gh) : EJ X P O (.Subscript a (.Slice lo hi none p2) pos) (cSl slD ga gl gh) := by
  refine (pe_slice sl_all ha hl hh).imp fun σ H Q ⟨B, Hf, ρ, z, ρ', R, e, k⟩ => ?_
  obtain ⟨⟨d, ρ1⟩, h1, h⟩ := Option.bind_eq_some_iff.mp e
  obtain ⟨⟨l, ρ2⟩, h2, h⟩ := Option.bind_eq_some_iff.mp h
  obtain ⟨⟨u, ρ3⟩, h3, h⟩ := Option.bind_eq_some_iff.mp h
  obtain ⟨z', h4, h⟩ := Option.map_eq_some_iff.mp h
  cases h
  refine ⟨B, Hf, ρ, d, ρ1, R, h1, fun Hf1 x H1 s1 R1 rx => ⟨B, Hf1, ρ1, l, ρ2, R1, h2, fun Hf2 H2 s2 R2 => ⟨B, Hf2, ρ2, u, _, R2, h3, fun Hf3 H3 s3 R3 => ?_⟩⟩⟩
  exact slD_d Hf3 H3 d l u _ x R3.ex (Rep.mono (s2.trans s3) _ _ rx) h4 Q fun Hf4 v H4 gr rv => k Hf4 v H4 (((s1.trans s2).trans s3).trans gr.s1) (R3.gr gr) rv
theorem eo_sl (ha : EJ X P O a ga) (hl : OJ X P O lo gl) (hh : OJ X P O hi gh) : EO X P O (.Subscript a (.Slice lo hi none p2) pos) (cSl slL ga gl gh) := by
  refine (pe_slice sl_list ha hl hh).imp fun σ H Q ⟨B, Hf, ρ, z, ρ', R, e, k⟩ => ?_
  obtain ⟨⟨d, ρ1⟩, h1, h⟩ := Option.bind_eq_some_iff.mp e
  obtain ⟨⟨l, ρ2⟩, h2, h⟩ := Option.bind_eq_some_iff.mp h
  obtain ⟨⟨u, ρ3⟩, h3, h⟩ := Option.bind_eq_some_iff.mp h
  obtain ⟨z', h4, h⟩ := Option.map_eq_some_iff.mp h
  cases h
  refine ⟨B, Hf, ρ, d, ρ1, R, h1, fun Hf1 x H1 s1 R1 rx => ⟨B, Hf1, ρ1, l, ρ2, R1, h2, fun Hf2 H2 s2 R2 => ⟨B, Hf2, ρ2, u, _, R2, h3, fun Hf3 H3 s3 R3 => ?_⟩⟩⟩
  exact slL_o Hf3 H3 d l u _ x R3.ex (Rep.mono (s2.trans s3) _ _ rx) h4 Q fun Hf4 p o H4 gr n n' hp ow => k Hf4 p o H4 (((s1.trans s2).trans s3).trans gr.s1) (R3.gr gr) n' hp ow (fresh_hc R3 n) (fresh_ne R3 n)
/-- xs[::-1] of a list -/
def revL : D → Option D
  | .lst ds => some (.lst ds.reverse)
  | _ => none
theorem eo_revL {k : Nat} {p1 p2 p3 : Pos} (ha : EJ X P O a ga) : EO X P O (.Subscript a (.Slice none none (some (.UnaryOp .USub (.Constant (.int 1) k p1) p2)) p3) pos) (cUn revL ga) := by
  refine (pe_revL ha).imp fun σ H Q ⟨B, Hf, ρ, z, ρ', R, e, k⟩ => ?_
  obtain ⟨⟨d, ρ1⟩, h1, h'⟩ := Option.bind_eq_some_iff.mp e
  obtain ⟨z', h2, h'⟩ := Option.map_eq_some_iff.mp h'
  cases h'
  refine ⟨B, Hf, ρ, d, _, R, h1, fun Hf1 v H1 s1 R1 rv => ?_⟩
  cases d with
  | lst ds =>
    cases h2
    obtain ⟨a, us, rfl, h3, h4⟩ := rv
    refine ⟨a, us, rfl, SqL.of (R1.ex _ _ h3), fun p np => ?_⟩
    have gr := Gr.newO (o := .lst us.reverse) R1.ex np
    exact k Hf1 p _ _ s1 (R1.gr gr) (R1.ex.free np) upd_same ⟨_, rfl, h4.reverse⟩ (fresh_hc R1 np) (fresh_ne R1 np)
  | _ => cases h2

/-! ### all that is owned, read for a while -/
mutual
def noMut : D → Bool
  | .lst _ => false
  | .scr _ => false
  | .tup ds => noMuts ds
  | _ => true
def noMuts : List D → Bool
  | [] => true
  | d :: ds => noMut d && noMuts ds
end
/-- the owned addresses -/
def OwnAt (O : List Nat) (σ : St) (ρ : Env) (a : Addr) : Prop := ∃ i d, i ∈ O ∧ ρ[i]? = some (some d) ∧ σ[i]? = some (some (.ref a))
open Classical in
noncomputable def allF (O : List Nat) (σ : St) (ρ : Env) (Hf H : Hp) : Hp := fun b => if OwnAt O σ ρ b then H b else Hf b
section
variable {K : PySem.W.Frag} {B : Bs} {Hf H Hf' H' : Hp} {σ : St} {ρ ρ' : Env}
theorem allF_same (R : Rl K B P O Hf σ H ρ) : Same Hf (allF O σ ρ Hf H) := fun b o e => by
  unfold allF
  split
  · exact R.ex _ _ e
  · exact e
theorem Rl.all (R : Rl K B P O Hf σ H ρ) : Rl K ⟨H, allF O σ ρ Hf H, []⟩ [] [] (allF O σ ρ Hf H) σ H ρ where
  iop := rfl
  ex := fun b o e => by
    unfold allF at e
    split at e
    · exact e
    · exact R.ex _ _ e
  ln := R.ln
  fz := fun i d _ e => by
    by_cases hi : i ∈ O
    · obtain ⟨a, o, h1, h2, h3, h4, h5⟩ := R.ow i d hi e
      refine ⟨_, h1, h4.rep (allF_same R) ?_⟩
      unfold allF
      rw [if_pos ⟨i, d, hi, e, h1⟩]
      exact h3
    · obtain ⟨v, h1, h2⟩ := R.fz i d hi e
      exact ⟨v, h1, Rep.mono (allF_same R) _ _ h2⟩
  ow := fun _ _ h => absurd h (by simp)
  sp := fun _ _ _ _ _ h => absurd h (by simp)
  fr := fun _ _ e _ => e
  fq := fun _ _ => rfl
  ios := fun p hp => absurd hp (by simp)
theorem own_lst {d : D} {o : HO} (h : Own K Hf d o) : ∃ xs, o = .lst xs := by
  cases d with
  | lst ds => obtain ⟨xs, e, _⟩ := h; exact ⟨xs, e⟩
  | _ => exact h.elim
/-- behind: what was owned is owned again -/
noncomputable def backF (Hf H Hf' : Hp) : Hp := fun b => match H b with
  | some _ => Hf b
  | none => Hf' b
theorem backF_gr (R : Rl K B P O Hf σ H ρ) (R' : Rl K ⟨H, allF O σ ρ Hf H, []⟩ [] [] Hf' σ H' ρ') : Gr Hf H (backF Hf H Hf') H' := by
  refine ⟨fun b o e => ?_, fun b o e => ?_, fun b hb => ?_⟩
  · unfold backF
    rw [R.ex _ _ e]
    exact e
  · unfold backF at e
    cases q : H b with
    | some u =>
      rw [q] at e
      have e2 := R.ex _ _ e
      exact R'.fr b o e2 fun p hp => absurd hp (by simp)
    | none =>
      rw [q] at e
      exact R'.ex _ _ e
  · cases q : H b with
    | none => exact absurd q hb
    | some u =>
      refine ⟨?_, R'.fr b u q fun p hp => absurd hp (by simp)⟩
      unfold backF
      rw [q]
theorem back_at (R : Rl K B P O Hf σ H ρ) (R' : Rl K ⟨H, allF O σ ρ Hf H, []⟩ [] [] Hf' σ H' ρ') {b : Addr} {o : HO} (e : Hf' b = some o) (n : ∀ xs, o ≠ .lst xs) : backF Hf H Hf' b = some o := by
  unfold backF
  cases q : H b with
  | none => exact e
  | some u =>
    have h1 := R'.fq b (by show H b ≠ none; rw [q]; exact fun z => nomatch z)
    rw [e] at h1
    have h2 : allF O σ ρ Hf H b = some o := h1.symm
    unfold allF at h2
    split at h2
    · rename_i hw
      obtain ⟨i, d, hi, e1, e2⟩ := hw
      obtain ⟨a, o', h3, _, h5, h6, _⟩ := R.ow i d hi e1
      rw [e2] at h3
      cases h3
      rw [h5] at h2
      cases h2
      obtain ⟨xs, rfl⟩ := own_lst h6
      exact absurd rfl (n xs)
    · exact h2
theorem back_sqT (R : Rl K B P O Hf σ H ρ) (R' : Rl K ⟨H, allF O σ ρ Hf H, []⟩ [] [] Hf' σ H' ρ') {b : Addr} {xs : List V} (h : SqT K Hf' b xs) : SqT K (backF Hf H Hf') b xs := by
  rcases h with (h | ⟨o, h⟩) | h
  · exact .inl (.inl (back_at R R' h fun _ z => nomatch z))
  · exact .inl (.inr ⟨o, back_at R R' h fun _ z => nomatch z⟩)
  · exact .inr h
theorem back_sqS (R : Rl K B P O Hf σ H ρ) (R' : Rl K ⟨H, allF O σ ρ Hf H, []⟩ [] [] Hf' σ H' ρ') {b : Addr} {xs : List V} (h : ∃ o, Hf' b = some (.frz o (.lst xs))) : ∃ o, backF Hf H Hf' b = some (.frz o (.lst xs)) := by
  obtain ⟨o, h⟩ := h
  exact ⟨o, back_at R R' h fun _ z => nomatch z⟩
mutual
theorem back_rep (R : Rl K B P O Hf σ H ρ) (R' : Rl K ⟨H, allF O σ ρ Hf H, []⟩ [] [] Hf' σ H' ρ') : ∀ (d : D) (v : V), noMut d = true → Rep K Hf' d v → Rep K (backF Hf H Hf') d v
  | .non, _, _, h => h
  | .bl _, _, _, h => h
  | .int _, _, _, h => h
  | .str _, _, _, h => h
  | .tup ds, v, n, h => by
    obtain ⟨a, xs, rfl, h1, h2⟩ := h
    exact ⟨a, xs, rfl, back_sqT R R' h1, back_reps R R' ds xs n h2⟩
  | .lst ds, v, n, h => by cases n
  | .scr ns, v, n, h => by cases n
theorem back_reps (R : Rl K B P O Hf σ H ρ) (R' : Rl K ⟨H, allF O σ ρ Hf H, []⟩ [] [] Hf' σ H' ρ') : ∀ (ds : List D) (xs : List V), noMuts ds = true → RepL K Hf' ds xs → RepL K (backF Hf H Hf') ds xs
  | [], _, _, h => h
  | d :: ds, xs, n, h => by
    obtain ⟨v, vs, rfl, h1, h2⟩ := h
    have n' := Bool.and_eq_true_iff.mp n
    exact ⟨v, vs, rfl, back_rep R R' d v n'.1 h1, back_reps R R' ds vs n'.2 h2⟩
end
end
end
end G
namespace G
open PySem PySem.Spec PyProof.Rows L2
section
variable {X : Cx} {P O : List Nat} {a b e : Expr} {es : List Expr} {ga gb g : Gx} {pos : Pos}
/-- all that is owned read for a while; the value holds no list -/
def cPure (g : Gx) : Gx := fun ρ => (g ρ).bind fun p => if noMut p.1 = true then some (p.1, ρ) else none
theorem ej_pure (h : EJ X [] [] e g) : EJ X P O e (cPure g) := h.imp fun σ H Q ⟨B, Hf, ρ, z, ρ', R, e, k⟩ => by
  obtain ⟨⟨d, ρ1⟩, h1, h'⟩ := Option.bind_eq_some_iff.mp e
  obtain ⟨n, e2⟩ := ite_some h'
  cases e2
  refine ⟨_, _, ρ, d, ρ1, R.all, h1, fun Hf1 v H1 s1 R1 rv => ?_⟩
  have g := backF_gr R R1
  exact k _ v H1 g.s1 (R.gr g) (back_rep R R1 d v n rv)
def noMutO : D → Bool
  | .lst ds => noMuts ds
  | _ => false
def cPureO (g : Gx) : Gx := fun ρ => (g ρ).bind fun p => if noMutO p.1 = true then some (p.1, ρ) else none
theorem eo_pure (h : EO X [] [] e g) : EO X P O e (cPureO g) := h.imp fun σ H Q ⟨B, Hf, ρ, z, ρ', R, e, k⟩ => by
  obtain ⟨⟨d, ρ1⟩, h1, h'⟩ := Option.bind_eq_some_iff.mp e
  obtain ⟨n, e2⟩ := ite_some h'
  cases e2
  refine ⟨_, _, ρ, d, ρ1, R.all, h1, fun Hf1 p o H1 s1 R1 n1 hp ow hc _ => ?_⟩
  have g := backF_gr R R1
  have np : H p = none := hc
  refine k _ p o H1 g.s1 (R.gr g) ?_ hp ?_ (fresh_hc R np) (fresh_ne R np)
  · unfold backF
    rw [np]
    exact n1
  · cases d with
    | lst ds =>
      obtain ⟨xs, e, r⟩ := ow
      exact ⟨xs, e, back_reps R R1 ds xs n r⟩
    | _ => cases n
def cPureT (g : Gt) : Gt := fun ρ => (g ρ).map fun p => (p.1, ρ)
theorem tj_pure {g : Gt} (h : TJ X [] [] e g) : TJ X P O e (cPureT g) := h.imp fun σ H Q ⟨B, Hf, ρ, z, ρ', R, e, k⟩ => by
  obtain ⟨⟨d, ρ1⟩, h1, h'⟩ := Option.map_eq_some_iff.mp e
  cases h'
  refine ⟨_, _, ρ, d, ρ1, R.all, h1, fun Hf1 H1 s1 R1 => ?_⟩
  have g := backF_gr R R1
  exact k _ H1 g.s1 (R.gr g)

/-! ### what a def promises -/
abbrev Fn := List D → Option (D × List D)
/-- io: the parameters that the def changes, with their addresses -/
def spF (K : PySem.W.Frag) (F : Fn) (P : List Nat) (own : Bool) : Sp := fun vs H Q _ => ∃ (Hf : Hp) (ds : List D) (r : D) (outs : List D) (io : List (Nat × Addr)), io.map (·.1) = P ∧ Same Hf H ∧ vs.length = ds.length ∧
  (∀ j d, ds[j]? = some d → j ∉ P → ∃ v, vs[j]? = some v ∧ Rep K Hf d v) ∧
  (∀ p ∈ io, ∃ d o, ds[p.1]? = some d ∧ vs[p.1]? = some (.ref p.2) ∧ Hf p.2 = none ∧ H p.2 = some o ∧ Own K Hf d o) ∧
  (∀ p ∈ io, ∀ q ∈ io, p.2 = q.2 → p.1 = q.1) ∧
  F ds = some (r, outs) ∧ outs.length = io.length ∧
  ∀ Hf' H', Same Hf Hf' → Same Hf' H' → (∀ b, H b ≠ none → Hf' b = Hf b) → (∀ b o, H b = some o → (∀ p ∈ io, p.2 ≠ b) → H' b = some o) →
    (∀ (n : Nat) p d, io[n]? = some p → outs[n]? = some d → ∃ o, H' p.2 = some o ∧ Own K Hf' d o) →
    (own = false → ∀ v, Rep K Hf' r v → Q v H') ∧ (own = true → ∀ a o, H a = none → Hf' a = none → H' a = some o → Own K Hf' r o → Q (.ref a) H')

/-! ### a call -/
/-- the arguments: a value, or an owned slot that the callee changes -/
inductive Ar where
  | v (g : Gx)
  | s (i : Nat)
/-- what is handed over: the data, by value -/
def evR : List Ar → Ga
  | [], ρ => some ([], ρ)
  | .v g :: gs, ρ => (g ρ).bind fun p => (evR gs p.2).map fun q => (p.1 :: q.1, q.2)
  | .s i :: gs, ρ => (ρ[i]?.getD none).bind fun _ => (evR gs ρ).bind fun q => (q.2[i]?.getD none).map fun d => (d :: q.1, q.2)
/-- the slots handed over, with their places -/
def slotsR : List Ar → Nat → List (Nat × Nat)
  | [], _ => []
  | .v _ :: gs, n => slotsR gs (n + 1)
  | .s i :: gs, n => (n, i) :: slotsR gs (n + 1)
def setOuts : List (Nat × Nat) → List D → Env → Option Env
  | [], [], ρ => some ρ
  | (_, i) :: r, d :: ds, ρ => setOuts r ds (ρ.set i (some d))
  | _, _, _ => none
def cUser (F : Fn) (as : List Ar) : Gx := fun ρ => (evR as ρ).bind fun p => (F p.1).bind fun q => (setOuts (slotsR as 0) q.2 p.2).map fun ρ' => (q.1, ρ')
/-- values by slots -/
def RepR (K : PySem.W.Frag) (Hf : Hp) (σ : St) : List Ar → List D → List V → Prop
  | [], ds, vs => ds = [] ∧ vs = []
  | .v _ :: gs, ds, vs => ∃ d ds' v vs', ds = d :: ds' ∧ vs = v :: vs' ∧ Rep K Hf d v ∧ RepR K Hf σ gs ds' vs'
  | .s i :: gs, ds, vs => ∃ d ds' v vs', ds = d :: ds' ∧ vs = v :: vs' ∧ σ[i]? = some (some v) ∧ RepR K Hf σ gs ds' vs'
def tR (K : PySem.W.Frag) (P O : List Nat) (as : List Ar) : TA := fun σ H Q => ∃ B Hf ρ ds ρ', Rl K B P O Hf σ H ρ ∧ evR as ρ = some (ds, ρ') ∧ (∀ q ∈ slotsR as 0, q.2 ∈ O) ∧
  ∀ Hf' vs H', Same Hf Hf' → Rl K B P O Hf' σ H' ρ' → RepR K Hf' σ as ds vs → Q vs H'
abbrev RJ (X : Cx) (P O : List Nat) (es : List Expr) (as : List Ar) : Prop := PA X es (tR X.K P O as)
theorem rj_nil : RJ X P O [] [] := pa_nil.imp fun σ H Q ⟨B, Hf, ρ, d, ρ', R, e, _, k⟩ => by
  cases e
  exact k Hf [] H (Same.refl _) R ⟨rfl, rfl⟩
theorem RepR.mono {K : PySem.W.Frag} {Hf Hf' : Hp} {σ : St} (s : Same Hf Hf') : ∀ {as : List Ar} {ds : List D} {vs : List V}, RepR K Hf σ as ds vs → RepR K Hf' σ as ds vs
  | [], _, _, h => h
  | .v _ :: _, _, _, ⟨d, ds', v, vs', e1, e2, r, t⟩ => ⟨d, ds', v, vs', e1, e2, Rep.mono s _ _ r, RepR.mono s t⟩
  | .s _ :: _, _, _, ⟨d, ds', v, vs', e1, e2, r, t⟩ => ⟨d, ds', v, vs', e1, e2, r, RepR.mono s t⟩
theorem rj_cons {as : List Ar} (h : EJ X P O e g) (hs : RJ X P O es as) (hst : starEach (e :: es) X.env = (false, eval e X.env) :: starEach es X.env := by rfl) : RJ X P O (e :: es) (.v g :: as) := by
  refine (pa_cons h hs hst).imp fun σ H Q ⟨B, Hf, ρ, ds, ρ', R, e, hq, k⟩ => ?_
  obtain ⟨⟨d, ρ1⟩, h1, h⟩ := Option.bind_eq_some_iff.mp e
  obtain ⟨⟨es, ρ2⟩, h2, h⟩ := Option.map_eq_some_iff.mp h
  cases h
  refine ⟨B, Hf, ρ, d, ρ1, R, h1, fun Hf1 v H1 s1 R1 rv => ⟨B, Hf1, ρ1, es, _, R1, h2, fun q hm => ?_, fun Hf2 vs H2 s2 R2 rvs => k Hf2 (v :: vs) H2 (s1.trans s2) R2 ⟨d, es, v, vs, rfl, rfl, Rep.mono s2 _ _ rv, rvs⟩⟩⟩
  have hs : ∀ (as : List Ar) (n m : Nat) (q : Nat × Nat), q ∈ slotsR as n → ∃ j, (j, q.2) ∈ slotsR as m := by
    intro as
    induction as with
    | nil => intro n m q h; cases h
    | cons x as ih =>
      intro n m q h
      cases x with
      | v g => exact ih _ _ q h
      | s i =>
        rcases List.mem_cons.mp h with e | h
        · subst e
          exact ⟨m, List.mem_cons_self⟩
        · obtain ⟨j, hj⟩ := ih _ (m + 1) q h
          exact ⟨j, List.mem_cons_of_mem _ hj⟩
  obtain ⟨j, hj⟩ := hs as 0 1 q hm
  exact hq (j, q.2) hj
theorem slots_any : ∀ (as : List Ar) (n m : Nat) (q : Nat × Nat), q ∈ slotsR as n → ∃ j, (j, q.2) ∈ slotsR as m := by
  intro as
  induction as with
  | nil => intro n m q h; cases h
  | cons x as ih =>
    intro n m q h
    cases x with
    | v g => exact ih _ _ q h
    | s i =>
      rcases List.mem_cons.mp h with e | h
      · subst e
        exact ⟨m, List.mem_cons_self⟩
      · obtain ⟨j, hj⟩ := ih _ (m + 1) q h
        exact ⟨j, List.mem_cons_of_mem _ hj⟩
/-- an owned slot handed over: it has a value ahead and behind the others -/
theorem rj_slot {as : List Ar} (i : Nat) {x : Str} {px : Pos} (hs : RJ X P O es as) (hN : X.N[i]? = some x := by rfl) (hv : Vis X.env.scope x := by first | exact Or.inl rfl | exact Or.inr (Or.inl rfl) | exact Or.inr (Or.inr rfl))
    (hd : (x == ("__debug__" : Str)) = false := by decide) (hcd : (x == ("__classdict__" : Str)) = false := by decide) (hst : starEach (.Name x px :: es) X.env = (false, eval (.Name x px) X.env) :: starEach es X.env := by rfl) : RJ X P O (.Name x px :: es) (.s i :: as) := by
  refine (pa_cons (pe_var hN hv hd hcd) hs hst).imp fun σ H Q ⟨B, Hf, ρ, ds, ρ', R, e, hq, k⟩ => ?_
  obtain ⟨d0, hd0, h⟩ := Option.bind_eq_some_iff.mp e
  obtain ⟨⟨es, ρ2⟩, h2, h⟩ := Option.bind_eq_some_iff.mp h
  obtain ⟨d, h1, h⟩ := Option.map_eq_some_iff.mp h
  cases h
  have hi : i ∈ O := hq (0, i) List.mem_cons_self
  obtain ⟨a, o, h3, _⟩ := R.ow i d0 hi (getD_some hd0)
  refine ⟨.ref a, h3, B, Hf, ρ, es, _, R, h2, fun q hm => ?_, fun Hf2 vs H2 s2 R2 rvs => k Hf2 (.ref a :: vs) H2 s2 R2 ⟨d, es, _, vs, rfl, rfl, h3, rvs⟩⟩
  obtain ⟨j, hj⟩ := slots_any as 0 1 q hm
  exact hq (j, q.2) (List.mem_cons_of_mem _ hj)

theorem evR_at : ∀ (as : List Ar) (n : Nat) {ρ ρ' : Env} {ds : List D}, evR as ρ = some (ds, ρ') → ∀ q ∈ slotsR as n, ∃ d, n ≤ q.1 ∧ ds[q.1 - n]? = some d ∧ ρ'[q.2]?.getD none = some d
  | [], _, _, _, _, _, _, hq => by cases hq
  | .v g :: as, n, ρ, ρ', ds, h, q, hq => by
    obtain ⟨⟨d, ρ1⟩, h1, h⟩ := Option.bind_eq_some_iff.mp h
    obtain ⟨⟨es, ρ2⟩, h2, h⟩ := Option.map_eq_some_iff.mp h
    cases h
    obtain ⟨d', h3, h4, h5⟩ := evR_at as (n + 1) h2 q hq
    refine ⟨d', by omega, ?_, h5⟩
    rw [show q.1 - n = (q.1 - (n + 1)) + 1 by omega]
    exact h4
  | .s i :: as, n, ρ, ρ', ds, h, q, hq => by
    obtain ⟨_, _, h⟩ := Option.bind_eq_some_iff.mp h
    obtain ⟨⟨es, ρ2⟩, h2, h⟩ := Option.bind_eq_some_iff.mp h
    obtain ⟨d, h1, h⟩ := Option.map_eq_some_iff.mp h
    cases h
    rcases List.mem_cons.mp hq with e | hq
    · subst e
      exact ⟨d, Nat.le_refl _, by simp, h1⟩
    · obtain ⟨d', h3, h4, h5⟩ := evR_at as (n + 1) h2 q hq
      refine ⟨d', by omega, ?_, h5⟩
      rw [show q.1 - n = (q.1 - (n + 1)) + 1 by omega]
      exact h4
theorem RepR.at {K : PySem.W.Frag} {Hf : Hp} {σ : St} : ∀ (as : List Ar) (n : Nat) {ds : List D} {vs : List V}, RepR K Hf σ as ds vs → ∀ q ∈ slotsR as n, ∃ v, vs[q.1 - n]? = some v ∧ σ[q.2]? = some (some v) ∧ n ≤ q.1
  | [], _, _, _, _, _, hq => by cases hq
  | .v g :: as, n, _, _, ⟨d, ds', v, vs', rfl, rfl, r, t⟩, q, hq => by
    obtain ⟨u, h1, h2, h3⟩ := RepR.at as (n + 1) t q hq
    refine ⟨u, ?_, h2, by omega⟩
    rw [show q.1 - n = (q.1 - (n + 1)) + 1 by omega]
    exact h1
  | .s i :: as, n, _, _, ⟨d, ds', v, vs', rfl, rfl, r, t⟩, q, hq => by
    rcases List.mem_cons.mp hq with e | hq
    · subst e
      exact ⟨v, by simp, r, Nat.le_refl _⟩
    · obtain ⟨u, h1, h2, h3⟩ := RepR.at as (n + 1) t q hq
      refine ⟨u, ?_, h2, by omega⟩
      rw [show q.1 - n = (q.1 - (n + 1)) + 1 by omega]
      exact h1
theorem RepR.fr {K : PySem.W.Frag} {Hf : Hp} {σ : St} : ∀ (as : List Ar) (n : Nat) {ds : List D} {vs : List V}, RepR K Hf σ as ds vs → ∀ (j : Nat) d, ds[j]? = some d → (∀ q ∈ slotsR as n, q.1 ≠ j + n) → ∃ v, vs[j]? = some v ∧ Rep K Hf d v
  | [], _, _, _, ⟨e1, e2⟩, j, d, hd, _ => by rw [e1] at hd; simp at hd
  | .v g :: as, n, _, _, ⟨d, ds', v, vs', rfl, rfl, r, t⟩, 0, d', hd, hq => by
    cases hd
    exact ⟨v, rfl, r⟩
  | .v g :: as, n, _, _, ⟨d, ds', v, vs', rfl, rfl, r, t⟩, j + 1, d', hd, hq => by
    exact RepR.fr as (n + 1) t j d' hd fun q h => by have := hq q h; omega
  | .s i :: as, n, _, _, ⟨d, ds', v, vs', rfl, rfl, r, t⟩, 0, d', hd, hq => by
    exact absurd (by simp) (hq (n, i) List.mem_cons_self)
  | .s i :: as, n, _, _, ⟨d, ds', v, vs', rfl, rfl, r, t⟩, j + 1, d', hd, hq => by
    exact RepR.fr as (n + 1) t j d' hd fun q h => by have := hq q (List.mem_cons_of_mem _ h); omega
theorem RepR.len {K : PySem.W.Frag} {Hf : Hp} {σ : St} : ∀ {as : List Ar} {ds : List D} {vs : List V}, RepR K Hf σ as ds vs → vs.length = ds.length
  | [], _, _, ⟨e1, e2⟩ => by rw [e1, e2]; rfl
  | .v g :: as, _, _, ⟨d, ds', v, vs', rfl, rfl, r, t⟩ => by rw [List.length_cons, List.length_cons, RepR.len t]
  | .s i :: as, _, _, ⟨d, ds', v, vs', rfl, rfl, r, t⟩ => by rw [List.length_cons, List.length_cons, RepR.len t]
theorem setOuts_len : ∀ {sl : List (Nat × Nat)} {outs : List D} {ρ ρ' : Env}, setOuts sl outs ρ = some ρ' → outs.length = sl.length ∧ ρ'.length = ρ.length
  | [], [], _, _, h => by cases h; exact ⟨rfl, rfl⟩
  | [], _ :: _, _, _, h => by cases h
  | _ :: _, [], _, _, h => by cases h
  | (_, i) :: sl, d :: outs, ρ, ρ', h => by
    obtain ⟨h1, h2⟩ := setOuts_len (sl := sl) h
    exact ⟨by rw [List.length_cons, List.length_cons, h1], by rw [h2, List.length_set]⟩
theorem setOuts_out : ∀ {sl : List (Nat × Nat)} {outs : List D} {ρ ρ' : Env} {j : Nat}, setOuts sl outs ρ = some ρ' → (∀ q ∈ sl, q.2 ≠ j) → ρ'[j]? = ρ[j]?
  | [], [], _, _, _, h, _ => by cases h; rfl
  | [], _ :: _, _, _, _, h, _ => by cases h
  | _ :: _, [], _, _, _, h, _ => by cases h
  | (n, i) :: sl, d :: outs, ρ, ρ', j, h, hj => by
    rw [setOuts_out (sl := sl) h fun q hq => hj q (List.mem_cons_of_mem _ hq), List.getElem?_set_ne (hj (n, i) List.mem_cons_self)]
theorem setOuts_in : ∀ {sl : List (Nat × Nat)} {outs : List D} {ρ ρ' : Env} {n : Nat} {q : Nat × Nat}, (sl.map (·.2)).Nodup → setOuts sl outs ρ = some ρ' → sl[n]? = some q → q.2 < ρ.length → ∃ d, outs[n]? = some d ∧ ρ'[q.2]? = some (some d)
  | [], _, _, _, _, _, _, _, hn, _ => by simp at hn
  | _ :: _, [], _, _, _, _, _, h, _, _ => by cases h
  | (m, i) :: sl, d :: outs, ρ, ρ', 0, q, nd, h, hn, hl => by
    cases hn
    refine ⟨d, rfl, ?_⟩
    have nd' := List.nodup_cons.mp nd
    rw [setOuts_out (sl := sl) h fun q hq e => nd'.1 (List.mem_map.mpr ⟨q, hq, e⟩)]
    exact List.getElem?_set_self hl
  | (m, i) :: sl, d :: outs, ρ, ρ', n + 1, q, nd, h, hn, hl => by
    obtain ⟨d', h1, h2⟩ := setOuts_in (sl := sl) (List.nodup_cons.mp nd).2 h (by simpa using hn) (by rw [List.length_set]; exact hl)
    exact ⟨d', h1, h2⟩
theorem nodup_ixN {N : List Nat} (hN : N.Nodup) {i j : Nat} {x : Nat} (a : N[i]? = some x) (b : N[j]? = some x) : i = j := by
  obtain ⟨h1, e1⟩ := List.getElem?_eq_some_iff.mp a
  obtain ⟨h2, e2⟩ := List.getElem?_eq_some_iff.mp b
  exact (List.getElem_inj hN).mp (e1.trans e2.symm)
def adr (σ : St) (i : Nat) : Addr := match σ[i]? with
  | some (some (.ref a)) => a
  | _ => 0
theorem adr_eq {σ : St} {i : Nat} {a : Addr} (h : σ[i]? = some (some (.ref a))) : adr σ i = a := by unfold adr; rw [h]
/-- behind a call: the slots at sl have changed -/
theorem Rl.call {K : PySem.W.Frag} {B : Bs} {Hf H Hf' H' : Hp} {σ : St} {ρ ρ' : Env} {sl : List (Nat × Nat)} {outs : List D} (R : Rl K B P O Hf σ H ρ) (hO : ∀ q ∈ sl, q.2 ∈ O) (nd : (sl.map (·.2)).Nodup)
    (hd : ∀ q ∈ sl, ∃ d, ρ[q.2]? = some (some d)) (h : setOuts sl outs ρ = some ρ') (s1 : Same Hf Hf') (s2 : Same Hf' H') (of_ : ∀ b, H b ≠ none → Hf' b = Hf b)
    (fr : ∀ b o, H b = some o → (∀ q ∈ sl, adr σ q.2 ≠ b) → H' b = some o) (ow : ∀ (n : Nat) q d, sl[n]? = some q → outs[n]? = some d → ∃ o, H' (adr σ q.2) = some o ∧ Own K Hf' d o) : Rl K B P O Hf' σ H' ρ' := by
  have dom : ∀ j d, ρ'[j]? = some (some d) → ∃ e, ρ[j]? = some (some e) := fun j d e => by
    by_cases hj : ∃ q ∈ sl, q.2 = j
    · obtain ⟨q, hq, rfl⟩ := hj
      exact hd q hq
    · exact ⟨d, by rw [← setOuts_out h fun q hq z => hj ⟨q, hq, z⟩]; exact e⟩
  refine ⟨R.iop, s2, by rw [R.ln, (setOuts_len h).2], fun i d hi e => ?_, fun i d hi e => ?_, fun i j a d e hi hj h1 h2 h3 h4 => ?_, fun b o e n => ?_, fun b hb => ?_, fun p hp => ?_⟩
  · have e' : ρ[i]? = some (some d) := by rw [← setOuts_out h fun q hq z => hi (by rw [← z]; exact hO q hq)]; exact e
    obtain ⟨v, h1, h2⟩ := R.fz i d hi e'
    exact ⟨v, h1, Rep.mono s1 _ _ h2⟩
  · obtain ⟨d0, e0⟩ := dom i d e
    obtain ⟨a, o, h1, h2, h3, h4, h5⟩ := R.ow i d0 hi e0
    have hz : Hf' a = none := by rw [of_ a (by rw [h3]; exact fun z => nomatch z)]; exact h2
    by_cases hj : ∃ q ∈ sl, q.2 = i
    · obtain ⟨q, hq, rfl⟩ := hj
      obtain ⟨n, hn⟩ := List.mem_iff_getElem?.mp hq
      have hl : q.2 < ρ.length := (List.getElem?_eq_some_iff.mp e0).1
      obtain ⟨d', h6, h7⟩ := setOuts_in nd h hn hl
      rw [e] at h7
      cases h7
      obtain ⟨o', h8, h9⟩ := ow n q d hn h6
      rw [adr_eq h1] at h8
      exact ⟨a, o', h1, hz, h8, h9, h5⟩
    · have e' : ρ[i]? = some (some d) := by rw [← setOuts_out h fun q hq z => hj ⟨q, hq, z⟩]; exact e
      rw [e'] at e0
      cases e0
      refine ⟨a, o, h1, hz, fr a o h3 fun q hq z => ?_, h4.mono s1, h5⟩
      obtain ⟨d2, e2⟩ := hd q hq
      obtain ⟨a2, _, g1, _⟩ := R.ow q.2 d2 (hO q hq) e2
      rw [adr_eq g1] at z
      subst z
      exact hj ⟨q, hq, R.sp _ _ _ _ _ (hO q hq) hi e2 e' g1 h1⟩
  · obtain ⟨d0, e0⟩ := dom i d h1
    obtain ⟨d1, e1⟩ := dom j e h2
    exact R.sp i j a d0 d1 hi hj e0 e1 h3 h4
  · refine fr b o (R.fr b o e n) fun q hq z => ?_
    obtain ⟨d2, e2⟩ := hd q hq
    obtain ⟨a2, _, g1, _, _, _, g5⟩ := R.ow q.2 d2 (hO q hq) e2
    rw [adr_eq g1] at z
    subst z
    rcases g5 with g5 | g5
    · rw [e] at g5; cases g5
    · exact n _ g5 rfl
  · rw [of_ b (R.hc hb)]
    exact R.fq b hb
  · obtain ⟨h1, h2, d, h3⟩ := R.ios p hp
    refine ⟨h1, h2, ?_⟩
    by_cases hj : ∃ q ∈ sl, q.2 = p.1
    · obtain ⟨q, hq, hqe⟩ := hj
      obtain ⟨n, hn⟩ := List.mem_iff_getElem?.mp hq
      obtain ⟨d', h6, h7⟩ := setOuts_in nd h hn (by rw [hqe]; exact (List.getElem?_eq_some_iff.mp h3).1)
      exact ⟨d', by rw [← hqe]; exact h7⟩
    · exact ⟨d, by rw [setOuts_out h fun q hq z => hj ⟨q, hq, z⟩]; exact h3⟩
theorem tUser {F : Fn} {Pc : List Nat} {K : PySem.W.Frag} {own : Bool} {as : List Ar} {σ : St} {H : Hp} {Q : VK} (hP : (slotsR as 0).map (·.1) = Pc) (hO : ∀ q ∈ slotsR as 0, q.2 ∈ O) (hn : ((slotsR as 0).map (·.2)).Nodup)
    {B : Bs} {Hf : Hp} {ρ ρ' : Env} {z : D} (R : Rl K B P O Hf σ H ρ) (e : cUser F as ρ = some (z, ρ'))
    (k : ∀ Hf0 H0 Hf' H', Same Hf Hf0 → Rl K B P O Hf0 σ H0 ρ' ∨ True → Same Hf0 Hf' → (∀ b, H0 b ≠ none → Hf' b = Hf0 b) → Rl K B P O Hf' σ H' ρ' → (own = false → ∀ v, Rep K Hf' z v → Q v H') ∧ (own = true → ∀ a o, H0 a = none → Hf' a = none → H' a = some o → Own K Hf' z o → B.Hc a = none → (∀ i e, i ∈ O → ρ'[i]? = some (some e) → σ[i]? ≠ some (some (.ref a))) → Q (.ref a) H')) :
    tCall (spF K F Pc own) [] E0 (tR K P O as) σ H Q := by
  obtain ⟨⟨ds, ρ1⟩, h1, h⟩ := Option.bind_eq_some_iff.mp e
  obtain ⟨⟨r, outs⟩, h2, h⟩ := Option.bind_eq_some_iff.mp h
  obtain ⟨ρ2, h3, h⟩ := Option.map_eq_some_iff.mp h
  cases h
  refine ⟨B, Hf, ρ, ds, ρ1, R, h1, hO, fun Hf1 vs H1 s1 R1 rr => ?_⟩
  show spF K F Pc own (vs ++ []) H1 Q E0
  rw [List.append_nil]
  have hd : ∀ q ∈ slotsR as 0, ∃ d, ρ1[q.2]? = some (some d) := fun q hq => by
    obtain ⟨d, _, _, h⟩ := evR_at as 0 h1 q hq
    exact ⟨d, getD_some h⟩
  refine ⟨Hf1, ds, r, outs, (slotsR as 0).map fun q => (q.1, adr σ q.2), by rw [List.map_map]; exact hP, R1.ex, rr.len, fun j d hj hn => ?_, fun p hp => ?_, fun p hp q hq e => ?_, h2, by rw [List.length_map]; exact (setOuts_len h3).1, fun Hf' H' t1 t2 t3 t4 t5 => ?_⟩
  · exact rr.fr as 0 j d hj fun q hq z => hn (by rw [← hP]; exact List.mem_map.mpr ⟨q, hq, z⟩)
  · obtain ⟨q, hq, rfl⟩ := List.mem_map.mp hp
    obtain ⟨d, _, e1, e2⟩ := evR_at as 0 h1 q hq
    obtain ⟨v, e3, e4, _⟩ := rr.at as 0 q hq
    obtain ⟨a, o, g1, g2, g3, g4, _⟩ := R1.ow q.2 d (hO q hq) (getD_some e2)
    rw [g1] at e4
    cases e4
    refine ⟨d, o, e1, ?_, ?_, ?_, g4⟩
    · show vs[q.1]? = some (.ref (adr σ q.2)); rw [adr_eq g1]; exact e3
    · show Hf1 (adr σ q.2) = none; rw [adr_eq g1]; exact g2
    · show H1 (adr σ q.2) = some o; rw [adr_eq g1]; exact g3
  · obtain ⟨q1, hq1, rfl⟩ := List.mem_map.mp hp
    obtain ⟨q2, hq2, rfl⟩ := List.mem_map.mp hq
    obtain ⟨d1, e1⟩ := hd q1 hq1
    obtain ⟨d2, e2⟩ := hd q2 hq2
    obtain ⟨a1, _, g1, _⟩ := R1.ow q1.2 d1 (hO q1 hq1) e1
    obtain ⟨a2, _, g2, _⟩ := R1.ow q2.2 d2 (hO q2 hq2) e2
    have e' : adr σ q1.2 = adr σ q2.2 := e
    rw [adr_eq g1, adr_eq g2] at e'
    subst e'
    have es : q1.2 = q2.2 := R1.sp _ _ _ _ _ (hO q1 hq1) (hO q2 hq2) e1 e2 g1 g2
    obtain ⟨n1, hn1⟩ := List.mem_iff_getElem?.mp hq1
    obtain ⟨n2, hn2⟩ := List.mem_iff_getElem?.mp hq2
    have m1 : ((slotsR as 0).map (·.2))[n1]? = some q1.2 := by rw [List.getElem?_map, hn1]; rfl
    have m2 : ((slotsR as 0).map (·.2))[n2]? = some q1.2 := by rw [List.getElem?_map, hn2, es]; rfl
    have : n1 = n2 := nodup_ixN hn m1 m2
    subst this
    rw [hn1] at hn2
    cases hn2
    rfl
  · have R2 : Rl K B P O Hf' σ H' ρ' := by
      refine R1.call hO hn hd h3 t1 t2 t3 (fun b o e hb => t4 b o e fun p hp z => ?_) fun n q d e1 e2 => ?_
      · obtain ⟨q, hq, rfl⟩ := List.mem_map.mp hp
        exact hb q hq z
      · exact t5 n (q.1, adr σ q.2) d (by rw [List.getElem?_map, e1]; rfl) e2
    obtain ⟨k1, k2⟩ := k Hf1 H1 Hf' H' s1 (.inr trivial) t1 t3 R2
    exact ⟨k1, fun ho a o n1 n2 n3 n4 => k2 ho a o n1 n2 n3 n4 (fresh_hc R1 n1) (fun i e hi he => by
      by_cases hj : ∃ q ∈ slotsR as 0, q.2 = i
      · obtain ⟨q, hq, rfl⟩ := hj
        obtain ⟨d, e1⟩ := hd q hq
        exact fresh_ne R1 n1 _ d hi e1
      · exact fresh_ne R1 n1 i e hi (by rw [← setOuts_out h3 fun q hq z => hj ⟨q, hq, z⟩]; exact he))⟩
section
variable {F : Fn} {Pc : List Nat} {k : Nat} {f : Addr} {fd : FuncData} {ps : List Str} {x : Str} {p : Pos} {as : List Ar}
theorem ej_user (FO : FnOk X.prog X.w X.K X.mg X.base CX0 k f fd ps (spF X.K F Pc false)) (hr : Room k X.A) (hg : Gl X x) (hm : X.mg x = some (.ref f)) (hk : PySem.W.keepIn X.K (.ref f) = true) (hb : Binds X.K fd ps []) (ha : RJ X P O (e :: es) as)
    (hP : (slotsR as 0).map (·.1) = Pc := by rfl) (hO : ∀ q ∈ slotsR as 0, q.2 ∈ O := by decide) (hn : ((slotsR as 0).map (·.2)).Nodup := by decide) (hdb : (x == ("__debug__" : Str)) = false := by decide)
    (he : starEach (e :: es) X.env = (false, eval e X.env) :: starEach es X.env := by rfl) (hpl : (backTo pos (starEach es X.env)).any (·.1) = false := by rfl) : EJ X P O (.Call (.Name x p) (e :: es) [] pos) (cUser F as) :=
  (pe_call FO hr hg hm hk hb .nil pass0 ha hdb he hpl).imp fun σ H Q ⟨B, Hf, ρ, z, ρ', R, e, kk⟩ =>
    tUser hP hO hn R e fun Hf0 H0 Hf' H' s0 _ s1 s2 R2 => ⟨fun _ v rv => kk Hf' v H' (s0.trans s1) R2 rv, fun z => absurd z (by decide)⟩
theorem eo_user (FO : FnOk X.prog X.w X.K X.mg X.base CX0 k f fd ps (spF X.K F Pc true)) (hr : Room k X.A) (hg : Gl X x) (hm : X.mg x = some (.ref f)) (hk : PySem.W.keepIn X.K (.ref f) = true) (hb : Binds X.K fd ps []) (ha : RJ X P O (e :: es) as)
    (hP : (slotsR as 0).map (·.1) = Pc := by rfl) (hO : ∀ q ∈ slotsR as 0, q.2 ∈ O := by decide) (hn : ((slotsR as 0).map (·.2)).Nodup := by decide) (hdb : (x == ("__debug__" : Str)) = false := by decide)
    (he : starEach (e :: es) X.env = (false, eval e X.env) :: starEach es X.env := by rfl) (hpl : (backTo pos (starEach es X.env)).any (·.1) = false := by rfl) : EO X P O (.Call (.Name x p) (e :: es) [] pos) (cUser F as) :=
  (pe_call FO hr hg hm hk hb .nil pass0 ha hdb he hpl).imp fun σ H Q ⟨B, Hf, ρ, z, ρ', R, e, kk⟩ =>
    tUser hP hO hn R e fun Hf0 H0 Hf' H' s0 _ s1 s2 R2 => ⟨fun z => absurd z (by decide), fun _ a o n1 n2 n3 n4 n5 n6 => kk Hf' a o H' (s0.trans s1) R2 n2 n3 n4 n5 n6⟩
end
end
end G
namespace G
open PySem PySem.Spec PyProof.Rows L2
inductive Out where
  | nx (ρ : Env) | bk (ρ : Env) | ct (ρ : Env) | rt (d : D) (ρ : Env)
abbrev Gs := Env → Option Out
structure Fin (K : PySem.W.Frag) (B : Bs) (Hf H : Hp) (ρ : Env) : Prop where
  ex : Same Hf H
  fr : ∀ b o, B.Hc b = some o → (∀ p ∈ B.io, p.2 ≠ b) → H b = some o
  fq : ∀ b, B.Hc b ≠ none → Hf b = B.Hz b
  io : ∀ p ∈ B.io, ∃ d o, ρ[p.1]? = some (some d) ∧ H p.2 = some o ∧ Own K Hf d o
theorem Rl.fin {K : PySem.W.Frag} {B : Bs} {P O : List Nat} {Hf H : Hp} {σ : St} {ρ : Env} (R : Rl K B P O Hf σ H ρ) : Fin K B Hf H ρ :=
  ⟨R.ex, R.fr, R.fq, fun p hp => by
    obtain ⟨h1, h2, d, h3⟩ := R.ios p hp
    obtain ⟨a, o, e1, _, e2, e3, _⟩ := R.ow _ _ h1 h3
    rw [h2] at e1
    cases e1
    exact ⟨d, o, h3, e2, e3⟩⟩
def Post (K : PySem.W.Frag) (B : Bs) (P : List Nat) (own : Bool) (Ob O' : List Nat) (Hf : Hp) (D : Ends) : Out → Prop
  | .nx ρ' => ∀ Hf' σ' H', Same Hf Hf' → Rl K B P O' Hf' σ' H' ρ' → D.nx σ' H'
  | .bk ρ' => ∀ Hf' σ' H', Same Hf Hf' → Rl K B P Ob Hf' σ' H' ρ' → D.bk σ' H'
  | .ct ρ' => ∀ Hf' σ' H', Same Hf Hf' → Rl K B P Ob Hf' σ' H' ρ' → D.ct σ' H'
  | .rt d ρ' => (own = false → ∀ Hf' v H', Same Hf Hf' → Fin K B Hf' H' ρ' → Rep K Hf' d v → D.rt v H') ∧
      (own = true → ∀ Hf' a o H', Same Hf Hf' → Fin K B Hf' H' ρ' → Hf' a = none → B.Hc a = none → H' a = some o → Own K Hf' d o → D.rt (.ref a) H')
theorem Post.mono {K : PySem.W.Frag} {B : Bs} {P : List Nat} {own : Bool} {Ob O' : List Nat} {Hf Hf1 : Hp} {D : Ends} (s : Same Hf Hf1) : ∀ {r : Out}, Post K B P own Ob O' Hf D r → Post K B P own Ob O' Hf1 D r
  | .nx _, h => fun Hf' σ' H' t => h Hf' σ' H' (s.trans t)
  | .bk _, h => fun Hf' σ' H' t => h Hf' σ' H' (s.trans t)
  | .ct _, h => fun Hf' σ' H' t => h Hf' σ' H' (s.trans t)
  | .rt _ _, h => ⟨fun o Hf' v H' t => h.1 o Hf' v H' (s.trans t), fun o Hf' a u H' t => h.2 o Hf' a u H' (s.trans t)⟩
def tS (K : PySem.W.Frag) (P : List Nat) (own : Bool) (Ob O O' : List Nat) (f : Gs) : TS := fun D σ H => ∃ B Hf ρ r, Rl K B P O Hf σ H ρ ∧ f ρ = some r ∧ Post K B P own Ob O' Hf D r
abbrev SJ (X : Cx) (P : List Nat) (own : Bool) (Ob O O' : List Nat) (st : Stmt) (f : Gs) : Prop := PS X st (tS X.K P own Ob O O' f)
abbrev SSJ (X : Cx) (P : List Nat) (own : Bool) (Ob O O' : List Nat) (st : List Stmt) (f : Gs) : Prop := PSs X st (tS X.K P own Ob O O' f)
section
variable {X : Cx} {P O O1 O2 Ob : List Nat} {own : Bool} {a b e : Expr} {es : List Expr} {ga gb g : Gx} {pos : Pos} {st : Stmt} {sts : List Stmt} {f h : Gs}
/-! ### blocks -/
def cNil : Gs := fun ρ => some (.nx ρ)
def cSeq (f h : Gs) : Gs := fun ρ => (f ρ).bind fun r => match r with
  | .nx ρ' => h ρ'
  | .bk ρ' => some (.bk ρ')
  | .ct ρ' => some (.ct ρ')
  | .rt d ρ' => some (.rt d ρ')
theorem ss_nil : SSJ X P own Ob O O [] cNil := pss_nil.imp fun D σ H ⟨B, Hf, ρ, r, R, e, k⟩ => by
  cases e
  exact k Hf σ H (Same.refl _) R
theorem tSeq_d {K : PySem.W.Frag} {D : Ends} {σ : St} {H : Hp} (q : tS K P own Ob O O2 (cSeq f h) D σ H) : tSeq (tS K P own Ob O O1 f) (tS K P own Ob O1 O2 h) D σ H := by
  obtain ⟨B, Hf, ρ, r, R, e, k⟩ := q
  obtain ⟨r1, h1, e⟩ := Option.bind_eq_some_iff.mp e
  refine ⟨B, Hf, ρ, r1, R, h1, ?_⟩
  cases r1 with
  | nx ρ1 => exact fun Hf1 σ1 H1 s1 R1 => ⟨B, Hf1, ρ1, r, R1, e, k.mono s1⟩
  | bk ρ1 => cases e; exact k
  | ct ρ1 => cases e; exact k
  | rt d ρ1 => cases e; exact k
theorem ss_cons (h1 : SJ X P own Ob O O1 st f) (h2 : SSJ X P own Ob O1 O2 sts h) : SSJ X P own Ob O O2 (st :: sts) (cSeq f h) := (pss_cons h1 h2).imp fun _ _ _ => tSeq_d
theorem ss_one (h1 : SJ X P own Ob O O1 st f) : SSJ X P own Ob O O1 [st] f := pss_one h1
/-- a slot is owned no more -/
theorem Rl.frz {K : PySem.W.Frag} {B : Bs} {Hf H : Hp} {σ : St} {ρ : Env} {i : Nat} (R : Rl K B P O Hf σ H ρ) (hP : i ∉ P) : ∃ Hf', Same Hf Hf' ∧ Rl K B P (O.filter (· != i)) Hf' σ H ρ := by
  have mem : ∀ j, j ∈ O.filter (· != i) ↔ j ∈ O ∧ j ≠ i := fun j => by rw [List.mem_filter]; simp
  have hpi : ∀ p ∈ B.io, p.1 ≠ i := fun p hp z => hP (by rw [← R.iop, ← z]; exact List.mem_map.mpr ⟨p, hp, rfl⟩)
  have ios' : ∀ p ∈ B.io, p.1 ∈ O.filter (· != i) ∧ σ[p.1]? = some (some (.ref p.2)) ∧ ∃ d, ρ[p.1]? = some (some d) := fun p hp => by
    obtain ⟨h1, h2⟩ := R.ios p hp
    exact ⟨(mem _).mpr ⟨h1, hpi p hp⟩, h2⟩
  by_cases hd : i ∈ O ∧ ∃ d, ρ[i]? = some (some d)
  · obtain ⟨hi, d, e⟩ := hd
    obtain ⟨a, o, h1, h2, h3, h4, h5⟩ := R.ow i d hi e
    have hc : B.Hc a = none := h5.resolve_right fun z => hpi _ z rfl
    refine ⟨upd Hf a o, same_upd h2, R.iop, fun b x q => ?_, R.ln, fun j e' hj ej => ?_, fun j e' hj ej => ?_, fun j l c d1 d2 hj hl => R.sp j l c d1 d2 ((mem j).mp hj).1 ((mem l).mp hl).1, R.fr, fun b hb => ?_, ios'⟩
    · by_cases z : b = a
      · subst z; rw [upd_same] at q; rw [h3]; exact q
      · rw [upd_ne z] at q; exact R.ex _ _ q
    · by_cases hji : j = i
      · subst hji
        rw [e] at ej
        cases ej
        exact ⟨_, h1, h4.rep (same_upd h2) upd_same⟩
      · obtain ⟨v, q1, q2⟩ := R.fz j e' (fun z => hj ((mem j).mpr ⟨z, hji⟩)) ej
        exact ⟨v, q1, Rep.mono (same_upd h2) _ _ q2⟩
    · obtain ⟨hj1, hj2⟩ := (mem j).mp hj
      obtain ⟨c, u, q1, q2, q3, q4, q5⟩ := R.ow j e' hj1 ej
      have z : c ≠ a := fun z => hj2 (R.sp j i a e' d hj1 hi ej e (by rw [q1, z]) h1)
      exact ⟨c, u, q1, by rw [upd_ne z]; exact q2, q3, q4.mono (same_upd h2), q5⟩
    · have z : b ≠ a := fun z => hb (by rw [z]; exact hc)
      rw [upd_ne z]
      exact R.fq b hb
  · refine ⟨Hf, Same.refl _, R.iop, R.ex, R.ln, fun j e' hj ej => ?_, fun j e' hj ej => R.ow j e' ((mem j).mp hj).1 ej, fun j l c d1 d2 hj hl => R.sp j l c d1 d2 ((mem j).mp hj).1 ((mem l).mp hl).1, R.fr, R.fq, ios'⟩
    refine R.fz j e' (fun z => ?_) ej
    by_cases hji : j = i
    · subst hji
      exact hd ⟨z, e', ej⟩
    · exact hj ((mem j).mpr ⟨z, hji⟩)
/-- ahead of a block -/
theorem ss_frz (i : Nat) (hP : i ∉ P) (h1 : SSJ X P own Ob (O.filter (· != i)) O2 sts f) : SSJ X P own Ob O O2 sts f := PSs.imp h1 fun D σ H ⟨B, Hf, ρ, r, R, e, k⟩ => by
  obtain ⟨Hf', s, R'⟩ := R.frz hP
  exact ⟨B, Hf', ρ, r, R', e, k.mono s⟩
/-- ahead of a statement -/
theorem sj_frz (i : Nat) (hP : i ∉ P) (h1 : SJ X P own Ob (O.filter (· != i)) O2 st f) : SJ X P own Ob O O2 st f := PS.imp h1 fun D σ H ⟨B, Hf, ρ, r, R, e, k⟩ => by
  obtain ⟨Hf', s, R'⟩ := R.frz hP
  exact ⟨B, Hf', ρ, r, R', e, k.mono s⟩
/-- behind a block -/
theorem ss_end (i : Nat) (hP : i ∉ P) (h1 : SSJ X P own Ob O O2 sts f) : SSJ X P own Ob O (O2.filter (· != i)) sts f := PSs.imp h1 fun D σ H ⟨B, Hf, ρ, r, R, e, k⟩ => by
  refine ⟨B, Hf, ρ, r, R, e, ?_⟩
  cases r with
  | nx ρ' => exact fun Hf' σ' H' s R' => let ⟨Hf2, s2, R2⟩ := R'.frz hP; k Hf2 σ' H' (s.trans s2) R2
  | bk ρ' => exact k
  | ct ρ' => exact k
  | rt d ρ' => exact k

/-! ### targets -/
abbrev Gh := D → Env → Option Env
/-- S: the slots that are stored -/
def tG (K : PySem.W.Frag) (P O O' S : List Nat) (h : Gh) : TG := fun v σ H Q => ∃ B Hf ρ d ρ', Rl K B P O Hf σ H ρ ∧ Rep K Hf d v ∧ h d ρ = some ρ' ∧ ∀ Hf' σ' H', Same Hf Hf' → Rl K B P O' Hf' σ' H' ρ' → (σ'.length = σ.length ∧ ∀ i, i ∉ S → σ'[i]? = σ[i]?) → Q σ' H'
abbrev GJ (X : Cx) (P O O' S : List Nat) (e : Expr) (h : Gh) : Prop := PG X e (tG X.K P O O' S h)
def hName (i : Nat) : Gh := fun d ρ => some (ρ.set i (some d))
theorem set_get {α : Type} {l : List α} {i j : Nat} {x y : α} (h : (l.set i x)[j]? = some y) : (j = i ∧ y = x ∧ i < l.length) ∨ (j ≠ i ∧ l[j]? = some y) := by
  rw [List.getElem?_set] at h
  by_cases e : i = j
  · rw [if_pos e] at h
    by_cases hl : i < l.length
    · rw [if_pos hl] at h
      exact .inl ⟨e.symm, (Option.some.inj h).symm, hl⟩
    · rw [if_neg hl] at h
      cases h
  · rw [if_neg e] at h
    exact .inr ⟨fun z => e z.symm, h⟩
theorem Rl.setF {K : PySem.W.Frag} {B : Bs} {Hf H : Hp} {σ : St} {ρ : Env} {i : Nat} {d : D} {v : V} (R : Rl K B P O Hf σ H ρ) (hP : i ∉ P) (r : Rep K Hf d v) : Rl K B P (O.filter (· != i)) Hf (σ.set i (some v)) H (ρ.set i (some d)) := by
  have mem : ∀ j, j ∈ O.filter (· != i) ↔ j ∈ O ∧ j ≠ i := fun j => by rw [List.mem_filter]; simp
  have hpi : ∀ p ∈ B.io, p.1 ≠ i := fun p hp z => hP (by rw [← R.iop, ← z]; exact List.mem_map.mpr ⟨p, hp, rfl⟩)
  refine ⟨R.iop, R.ex, by rw [List.length_set, List.length_set]; exact R.ln, fun j e hj ej => ?_, fun j e hj ej => ?_, fun j l c d1 d2 hj hl e1 e2 e3 e4 => ?_, R.fr, R.fq, fun p hp => ?_⟩
  · rcases set_get ej with ⟨rfl, e1, hl⟩ | ⟨hne, e1⟩
    · cases e1
      exact ⟨v, List.getElem?_set_self (by rw [R.ln]; exact hl), r⟩
    · obtain ⟨u, q1, q2⟩ := R.fz j e (fun z => hj ((mem j).mpr ⟨z, hne⟩)) e1
      exact ⟨u, by rw [List.getElem?_set_ne (Ne.symm hne)]; exact q1, q2⟩
  · obtain ⟨hj1, hj2⟩ := (mem j).mp hj
    rw [List.getElem?_set_ne (Ne.symm hj2)] at ej ⊢
    exact R.ow j e hj1 ej
  · obtain ⟨hj1, hj2⟩ := (mem j).mp hj
    obtain ⟨hl1, hl2⟩ := (mem l).mp hl
    rw [List.getElem?_set_ne (Ne.symm hj2)] at e1 e3
    rw [List.getElem?_set_ne (Ne.symm hl2)] at e2 e4
    exact R.sp j l c d1 d2 hj1 hl1 e1 e2 e3 e4
  · obtain ⟨h1, h2, h3⟩ := R.ios p hp
    have hne := hpi p hp
    rw [List.getElem?_set_ne (Ne.symm hne), List.getElem?_set_ne (Ne.symm hne)]
    exact ⟨(mem _).mpr ⟨h1, hne⟩, h2, h3⟩
theorem Rl.setO {K : PySem.W.Frag} {B : Bs} {Hf H : Hp} {σ : St} {ρ : Env} {i : Nat} {d : D} {c : Addr} {o : HO} (R : Rl K B P O Hf σ H ρ) (hP : i ∉ P) (n : Hf c = none) (hc : H c = some o) (ow : Own K Hf d o) (hb : B.Hc c = none)
    (ne : ∀ i e, i ∈ O → ρ[i]? = some (some e) → σ[i]? ≠ some (some (.ref c))) : Rl K B P (i :: O.filter (· != i)) Hf (σ.set i (some (.ref c))) H (ρ.set i (some d)) := by
  have mem : ∀ j, j ∈ i :: O.filter (· != i) ↔ j = i ∨ (j ∈ O ∧ j ≠ i) := fun j => by rw [List.mem_cons, List.mem_filter]; simp
  have hpi : ∀ p ∈ B.io, p.1 ≠ i := fun p hp z => hP (by rw [← R.iop, ← z]; exact List.mem_map.mpr ⟨p, hp, rfl⟩)
  refine ⟨R.iop, R.ex, by rw [List.length_set, List.length_set]; exact R.ln, fun j e hj ej => ?_, fun j e hj ej => ?_, fun j l x d1 d2 hj hl e1 e2 e3 e4 => ?_, R.fr, R.fq, fun p hp => ?_⟩
  · have hne : j ≠ i := fun z => hj ((mem j).mpr (.inl z))
    rw [List.getElem?_set_ne (Ne.symm hne)] at ej ⊢
    exact R.fz j e (fun z => hj ((mem j).mpr (.inr ⟨z, hne⟩))) ej
  · rcases set_get ej with ⟨rfl, e1, hl⟩ | ⟨hne, e1⟩
    · cases e1
      exact ⟨c, o, List.getElem?_set_self (by rw [R.ln]; exact hl), n, hc, ow, .inl hb⟩
    · rw [List.getElem?_set_ne (Ne.symm hne)]
      exact R.ow j e (((mem j).mp hj).resolve_left hne).1 e1
  · by_cases hji : j = i
    · by_cases hli : l = i
      · rw [hji, hli]
      · subst hji
        have hl1 := (((mem l).mp hl).resolve_left hli).1
        rw [List.getElem?_set_ne (Ne.symm hli)] at e2 e4
        rcases set_get e3 with ⟨_, e5, _⟩ | ⟨z, _⟩
        · cases e5
          exact absurd e4 (ne l d2 hl1 e2)
        · exact absurd rfl z
    · have hj1 := (((mem j).mp hj).resolve_left hji).1
      rw [List.getElem?_set_ne (Ne.symm hji)] at e1 e3
      by_cases hli : l = i
      · subst hli
        rcases set_get e4 with ⟨_, e5, _⟩ | ⟨z, _⟩
        · cases e5
          exact absurd e3 (ne j d1 hj1 e1)
        · exact absurd rfl z
      · have hl1 := (((mem l).mp hl).resolve_left hli).1
        rw [List.getElem?_set_ne (Ne.symm hli)] at e2 e4
        exact R.sp j l x d1 d2 hj1 hl1 e1 e2 e3 e4
  · obtain ⟨h1, h2, h3⟩ := R.ios p hp
    have hne := hpi p hp
    rw [List.getElem?_set_ne (Ne.symm hne), List.getElem?_set_ne (Ne.symm hne)]
    exact ⟨(mem _).mpr (.inr ⟨h1, hne⟩), h2, h3⟩
/-- an owned object has changed -/
theorem Rl.mut {K : PySem.W.Frag} {B : Bs} {Hf H : Hp} {σ : St} {ρ : Env} {i : Nat} {d d' : D} {c : Addr} {o' : HO} (R : Rl K B P O Hf σ H ρ) (hi : i ∈ O) (e : ρ[i]? = some (some d)) (hc : σ[i]? = some (some (.ref c))) (ow : Own K Hf d' o') :
    Rl K B P O Hf σ (upd H c o') (ρ.set i (some d')) := by
  obtain ⟨a, o, h1, h2, h3, h4, h5⟩ := R.ow i d hi e
  rw [hc] at h1
  cases h1
  have hl : i < ρ.length := (List.getElem?_eq_some_iff.mp e).1
  refine ⟨R.iop, fun b x q => ?_, by rw [List.length_set]; exact R.ln, fun j y hj ej => ?_, fun j y hj ej => ?_, fun j l x d1 d2 hj hl' e1 e2 e3 e4 => ?_, fun b x q n => ?_, R.fq, fun p hp => ?_⟩
  · rw [upd_ne (fun z => by rw [z, h2] at q; cases q)]
    exact R.ex _ _ q
  · have hne : j ≠ i := fun z => hj (z ▸ hi)
    rw [List.getElem?_set_ne (Ne.symm hne)] at ej
    exact R.fz j y hj ej
  · rcases set_get ej with ⟨rfl, e1, _⟩ | ⟨hne, e1⟩
    · cases e1
      exact ⟨c, o', hc, h2, upd_same, ow, h5⟩
    · obtain ⟨c2, u, q1, q2, q3, q4, q5⟩ := R.ow j y hj e1
      have z : c2 ≠ c := fun z => hne (R.sp j i c y d hj hi e1 e (by rw [q1, z]) hc)
      exact ⟨c2, u, q1, q2, by rw [upd_ne z]; exact q3, q4, q5⟩
  · have dom : ∀ j y, (ρ.set i (some d'))[j]? = some (some y) → ∃ z, ρ[j]? = some (some z) := fun j y q => by
      rcases set_get q with ⟨rfl, _, _⟩ | ⟨_, q⟩
      · exact ⟨d, e⟩
      · exact ⟨y, q⟩
    obtain ⟨z1, y1⟩ := dom j d1 e1
    obtain ⟨z2, y2⟩ := dom l d2 e2
    exact R.sp j l x z1 z2 hj hl' y1 y2 e3 e4
  · have z : b ≠ c := fun z => by
      subst z
      rcases h5 with h5 | h5
      · rw [q] at h5; cases h5
      · exact n _ h5 rfl
    rw [upd_ne z]
    exact R.fr b x q n
  · obtain ⟨q1, q2, y, q3⟩ := R.ios p hp
    refine ⟨q1, q2, ?_⟩
    by_cases hne : p.1 = i
    · rw [hne]
      exact ⟨d', List.getElem?_set_self hl⟩
    · rw [List.getElem?_set_ne (Ne.symm hne)]
      exact ⟨y, q3⟩
theorem gj_name {i : Nat} {x : Str} (hP : i ∉ P) (hN : X.N.Nodup) (hi : X.N[i]? = some x := by rfl) (hx : Loc X.env.scope x := by first | exact Or.inl rfl | exact Or.inr rfl) (hf : X.fn x = true ∨ X.env.scope.names.lookup x = some .local := by first | exact .inl rfl | exact .inr rfl) :
    GJ X P O (O.filter (· != i)) [i] (.Name x pos) (hName i) := (pg_name hN hi hx hf).imp fun v σ H Q ⟨B, Hf, ρ, d, ρ', R, r, e, k⟩ => by
  cases e
  exact k Hf _ H (Same.refl _) (R.setF hP r) ⟨List.length_set, fun j hj => List.getElem?_set_ne (fun z => hj (by simp [z]))⟩

/-! ### assignment -/
def cSet (i : Nat) (g : Gx) : Gs := fun ρ => (g ρ).map fun p => .nx (p.2.set i (some p.1))
theorem sj_set {i : Nat} {x : Str} {pos' : Pos} (hP : i ∉ P) (hN : X.N.Nodup) (he : EJ X P O e g) (hi : X.N[i]? = some x := by rfl) (hx : Loc X.env.scope x := by first | exact Or.inl rfl | exact Or.inr rfl) (hs : swapsWith e (some (.Name x pos')) pos.line X.env = pure false := by rfl)
    (hf : X.fn x = true ∨ X.env.scope.names.lookup x = some .local := by first | exact .inl rfl | exact .inr rfl) : SJ X P own Ob O (O.filter (· != i)) (.Assign [.Name x pos'] e pos) (cSet i g) := (ps_set hN hi hx he hs hf).imp fun D σ H ⟨B, Hf, ρ, r, R, e, k⟩ => by
  obtain ⟨⟨d, ρ1⟩, h1, e⟩ := Option.map_eq_some_iff.mp e
  cases e
  exact ⟨B, Hf, ρ, d, ρ1, R, h1, fun Hf1 v H1 s1 R1 rv => k Hf1 _ H1 s1 (R1.setF hP rv)⟩
theorem sj_setO {i : Nat} {x : Str} {pos' : Pos} (hP : i ∉ P) (hN : X.N.Nodup) (he : EO X P O e g) (hi : X.N[i]? = some x := by rfl) (hx : Loc X.env.scope x := by first | exact Or.inl rfl | exact Or.inr rfl) (hs : swapsWith e (some (.Name x pos')) pos.line X.env = pure false := by rfl)
    (hf : X.fn x = true ∨ X.env.scope.names.lookup x = some .local := by first | exact .inl rfl | exact .inr rfl) : SJ X P own Ob O (i :: O.filter (· != i)) (.Assign [.Name x pos'] e pos) (cSet i g) := (ps_set hN hi hx he hs hf).imp fun D σ H ⟨B, Hf, ρ, r, R, e, k⟩ => by
  obtain ⟨⟨d, ρ1⟩, h1, e⟩ := Option.map_eq_some_iff.mp e
  cases e
  exact ⟨B, Hf, ρ, d, ρ1, R, h1, fun Hf1 c o H1 s1 R1 n hc ow hb ne => k Hf1 _ H1 s1 (R1.setO hP n hc ow hb ne)⟩
/-- x, y = e, e' with plain local names -/
def cPar (i j : Nat) (g : Ga) : Gs := fun ρ => (g ρ).bind fun p => match p.1 with
  | [v, w] => some (.nx ((p.2.set i (some v)).set j (some w)))
  | _ => none
theorem sj_par {i j : Nat} {x y : Str} {px py pt : Pos} {kt k2 pt2} {gs : Ga} (hPi : i ∉ P) (hPj : j ∉ P) (hc : X.calm = true) (hN : X.N.Nodup) (hij : i ≠ j) (ha : AJ X P O [a, b] gs) (hi : X.N[i]? = some x := by rfl) (hj : X.N[j]? = some y := by rfl)
    (hx : X.env.scope.names.lookup x = some .local := by rfl) (hy : X.env.scope.names.lookup y = some .local := by rfl)
    (hw : swappedStores [.Tuple [.Name x px, .Name y py] kt pt] (.Tuple [a, b] k2 pt2) X.env = pure (some [x, y]) := by rfl)
    (hs : swapsWithSole [.Tuple [.Name x px, .Name y py] kt pt] (.Tuple [a, b] k2 pt2) pos.line X.env = pure false := by rfl) :
    SJ X P own Ob O ((O.filter (· != i)).filter (· != j)) (.Assign [.Tuple [.Name x px, .Name y py] kt pt] (.Tuple [a, b] k2 pt2) pos) (cPar i j gs) := (ps_par hc hN hi hj hij hx hy ha hw hs).imp fun D σ H ⟨B, Hf, ρ, r, R, e, k⟩ => by
  obtain ⟨⟨ds, ρ1⟩, h1, e⟩ := Option.bind_eq_some_iff.mp e
  refine ⟨B, Hf, ρ, ds, ρ1, R, h1, fun Hf1 vs H1 s1 R1 rv => ?_⟩
  match ds, e, rv with
  | [d1, d2], e, rv =>
    cases e
    obtain ⟨v, u, rfl, r1, r2⟩ := repL2 rv
    exact ⟨v, u, rfl, k Hf1 _ H1 s1 ((R1.setF hPi r1).setF hPj r2)⟩

/-! ### if, return, .. -/
def cIfS (t : Gt) (f h : Gs) : Gs := fun ρ => (t ρ).bind fun p => if p.1 = true then f p.2 else h p.2
theorem sj_if {c : Expr} {t : Gt} {s1 s2 : List Stmt} (hc : TJ X P O c t) (h1 : SSJ X P own Ob O O1 s1 f) (h2 : SSJ X P own Ob O O1 s2 h) : SJ X P own Ob O O1 (.If c s1 s2 pos) (cIfS t f h) := (ps_if hc h1 h2).imp fun D σ H ⟨B, Hf, ρ, r, R, e, k⟩ => by
  obtain ⟨⟨c, ρ1⟩, h1, e⟩ := Option.bind_eq_some_iff.mp e
  refine ⟨B, Hf, ρ, c, ρ1, R, h1, fun Hf1 H1 s1 R1 => ?_⟩
  cases c with
  | true => exact iteT ⟨B, Hf1, ρ1, r, R1, e, k.mono s1⟩
  | false => exact iteF ⟨B, Hf1, ρ1, r, R1, e, k.mono s1⟩
def cRet (g : Gx) : Gs := fun ρ => (g ρ).map fun p => .rt p.1 p.2
theorem sj_ret (he : EJ X P O e g) : SJ X P false Ob O O1 (.Return (some e) pos) (cRet g) := (ps_ret he).imp fun D σ H ⟨B, Hf, ρ, r, R, e, k⟩ => by
  obtain ⟨⟨d, ρ1⟩, h1, e⟩ := Option.map_eq_some_iff.mp e
  cases e
  exact ⟨B, Hf, ρ, d, ρ1, R, h1, fun Hf1 v H1 s1 R1 rv => k.1 rfl Hf1 v H1 s1 R1.fin rv⟩
theorem sj_retO (he : EO X P O e g) : SJ X P true Ob O O1 (.Return (some e) pos) (cRet g) := (ps_ret he).imp fun D σ H ⟨B, Hf, ρ, r, R, e, k⟩ => by
  obtain ⟨⟨d, ρ1⟩, h1, e⟩ := Option.map_eq_some_iff.mp e
  cases e
  exact ⟨B, Hf, ρ, d, ρ1, R, h1, fun Hf1 c o H1 s1 R1 n hc ow hb _ => k.2 rfl Hf1 c o H1 s1 R1.fin n hb hc ow⟩
/-- an owned slot handed back -/
theorem sj_retV (i : Nat) {x : Str} {px : Pos} (hP : i ∉ P) (hi : i ∈ O) (hN : X.N[i]? = some x := by rfl) (hv : Vis X.env.scope x := by first | exact Or.inl rfl | exact Or.inr (Or.inl rfl) | exact Or.inr (Or.inr rfl))
    (hd : (x == ("__debug__" : Str)) = false := by decide) (hcd : (x == ("__classdict__" : Str)) = false := by decide) : SJ X P true Ob O O1 (.Return (some (.Name x px)) pos) (cRet (cVar i)) := (ps_ret (pe_var hN hv hd hcd)).imp fun D σ H ⟨B, Hf, ρ, r, R, e, k⟩ => by
  obtain ⟨⟨d, ρ1⟩, h1, e⟩ := Option.map_eq_some_iff.mp e
  cases e
  obtain ⟨d', h2, h3⟩ := Option.map_eq_some_iff.mp h1
  cases h3
  obtain ⟨c, o, g1, g2, g3, g4, g5⟩ := R.ow i d hi (getD_some h2)
  exact ⟨_, g1, k.2 rfl Hf c o H (Same.refl _) R.fin g2 (g5.resolve_right fun z => hP (by rw [← R.iop]; exact List.mem_map.mpr ⟨_, z, rfl⟩)) g3 g4⟩
def cBrk : Gs := fun ρ => some (.bk ρ)
def cCnt : Gs := fun ρ => some (.ct ρ)
theorem sj_break : SJ X P own O O O1 (.Break pos) cBrk := ps_break.imp fun D σ H ⟨B, Hf, ρ, r, R, e, k⟩ => by
  cases e
  exact k Hf σ H (Same.refl _) R
theorem sj_continue : SJ X P own O O O1 (.Continue pos) cCnt := ps_continue.imp fun D σ H ⟨B, Hf, ρ, r, R, e, k⟩ => by
  cases e
  exact k Hf σ H (Same.refl _) R
theorem sj_pass : SJ X P own Ob O O (.Pass pos) cNil := ps_pass.imp fun D σ H ⟨B, Hf, ρ, r, R, e, k⟩ => by
  cases e
  exact k Hf σ H (Same.refl _) R
def cDrop (g : Gx) : Gs := fun ρ => (g ρ).map fun p => .nx p.2
theorem sj_expr (he : EJ X P O e g) (hs : swapsWith e none pos.line X.env = pure false := by rfl) : SJ X P own Ob O O (.Expr e pos) (cDrop g) := (ps_expr he hs).imp fun D σ H ⟨B, Hf, ρ, r, R, e, k⟩ => by
  obtain ⟨⟨d, ρ1⟩, h1, e⟩ := Option.map_eq_some_iff.mp e
  cases e
  exact ⟨B, Hf, ρ, d, ρ1, R, h1, fun Hf1 v H1 s1 R1 rv => k Hf1 σ H1 s1 R1⟩
end
end G
namespace G
open PySem PySem.Spec PyProof.Rows L2
/-! ### what is walked -/
def Wk (K : PySem.W.Frag) (J : It) (xs : List D) (Hf0 : Hp) : Prop := ∀ Hf H, Same Hf0 Hf → Same Hf H → (∀ (i : Nat) d, xs[i]? = some d → J.go i H ∧ ∀ x H', J.yld i H x H' → ∃ Hf', Gr Hf H Hf' H' ∧ Rep K Hf' d x) ∧ J.stop xs.length H
def tI (K : PySem.W.Frag) (P O : List Nat) (g : Ga) : TI := fun σ H R => ∃ B Hf ρ ds ρ', Rl K B P O Hf σ H ρ ∧ g ρ = some (ds, ρ') ∧ ∀ Hf' J H', Same Hf Hf' → Rl K B P O Hf' σ H' ρ' → Wk K J ds Hf' → R J H'
abbrev IJ (X : Cx) (P O : List Nat) (tg e : Expr) (g : Ga) : Prop := PI X tg e (tI X.K P O g)
section
variable {X : Cx} {P O O1 O2 Ob : List Nat} {own : Bool} {a b e tg : Expr} {es : List Expr} {ga gb g : Gx} {pos : Pos} {st : Stmt} {sts : List Stmt} {f h : Gs}
def itemsD : D → Option (List D)
  | .lst ds => some ds
  | .tup ds => some ds
  | .scr ns => some (ns.map D.int)
  | .str x => some (x.cps.toList.map fun c => D.str ⟨#[c]⟩)
  | _ => none
def cIt (g : Gx) : Ga := fun ρ => (g ρ).bind fun p => (itemsD p.1).map fun ds => (ds, p.2)
theorem wk_list {K : PySem.W.Frag} {Hf : Hp} {a : Addr} {xs : List V} {ds : List D} (h : ∀ Hf', Same Hf Hf' → SqL K Hf' a xs) (r : RepL K Hf ds xs) : Wk K (Itl K a) ds Hf := fun Hf1 H s1 s2 => by
  have hq : SqL K H a xs := s2.seq (h Hf1 s1)
  refine ⟨fun i d hd => ?_, ⟨xs, hq, by rw [r.len]; exact Nat.le_refl _⟩⟩
  obtain ⟨v, h1, h2⟩ := r.get hd
  refine ⟨⟨xs, v, hq, h1⟩, fun x H' hy => ?_⟩
  obtain ⟨rfl, hx⟩ := hy
  have := hx xs hq
  rw [h1] at this
  cases this
  exact ⟨Hf1, Gr.refl s2, Rep.mono s1 _ _ h2⟩
theorem wk_tup {K : PySem.W.Frag} {Hf : Hp} {a : Addr} {xs : List V} {ds : List D} (h : SqT K Hf a xs) (r : RepL K Hf ds xs) : Wk K (Itt K a) ds Hf := fun Hf1 H s1 s2 => by
  have hq : SqT K H a xs := sqT_mono s2 (sqT_mono s1 h)
  refine ⟨fun i d hd => ?_, ⟨xs, hq, by rw [r.len]; exact Nat.le_refl _⟩⟩
  obtain ⟨v, h1, h2⟩ := r.get hd
  refine ⟨⟨xs, v, hq, h1⟩, fun x H' hy => ?_⟩
  obtain ⟨rfl, hx⟩ := hy
  have := hx xs hq
  rw [h1] at this
  cases this
  exact ⟨Hf1, Gr.refl s2, Rep.mono s1 _ _ h2⟩
theorem wk_str {K : PySem.W.Frag} {Hf : Hp} {z : Str} : Wk K (Its z) (z.cps.toList.map fun c => D.str ⟨#[c]⟩) Hf := fun Hf1 H s1 s2 => by
  refine ⟨fun i d hd => ?_, ?_⟩
  · rw [List.getElem?_map] at hd
    obtain ⟨c, h1, h2⟩ := Option.map_eq_some_iff.mp hd
    have hl := (List.getElem?_eq_some_iff.mp h1).1
    refine ⟨(by
      show i < z.cps.size
      simpa using hl), fun x H' hy => ?_⟩
    obtain ⟨rfl, c', h3, rfl⟩ := hy
    have : c' = c := by
      rw [← Array.getElem?_toList, h1] at h3
      exact (Option.some.inj h3).symm
    subst this
    subst h2
    exact ⟨Hf1, Gr.refl s2, rfl⟩
  · show z.cps.size ≤ _
    simp
theorem wk_range {K : PySem.W.Frag} {Hf : Hp} {lo : Int} {n : Nat} : Wk K (Itr lo n) ((List.range n).map fun (i : Nat) => D.int (lo + (i : Int))) Hf := fun Hf1 H s1 s2 => by
  refine ⟨fun i d hd => ?_, ?_⟩
  · rw [List.getElem?_map] at hd
    obtain ⟨c, h1, h2⟩ := Option.map_eq_some_iff.mp hd
    obtain ⟨hl, h3⟩ := List.getElem?_eq_some_iff.mp h1
    rw [List.getElem_range] at h3
    subst h3 h2
    refine ⟨(by
      show i < n
      simpa using hl), fun x H' hy => ?_⟩
    obtain ⟨rfl, rfl⟩ := hy
    exact ⟨Hf1, Gr.refl s2, rfl⟩
  · show n ≤ _
    simp
theorem ij_any (he : EJ X P O e g) : IJ X P O tg e (cIt g) := ⟨fun pins s σ H R I ⟨B, Hf, ρ, ds, ρ', Rr, q, k⟩ => by
  obtain ⟨⟨d, ρ1⟩, h1, q⟩ := Option.bind_eq_some_iff.mp q
  obtain ⟨ds', h2, q⟩ := Option.map_eq_some_iff.mp q
  cases q
  cases d with
  | lst xs =>
    cases h2
    refine (pi_list he).run pins s σ H R I ⟨B, Hf, ρ, .lst _, _, Rr, h1, fun Hf1 v H1 s1 R1 rv => ?_⟩
    obtain ⟨a, us, rfl, h3, h4⟩ := rv
    exact ⟨a, rfl, ⟨us, SqL.of (R1.ex _ _ h3)⟩, k Hf1 _ H1 s1 R1 (wk_list (fun Hf' s => SqL.of (s _ _ h3)) h4)⟩
  | tup xs =>
    cases h2
    refine (pi_tup he).run pins s σ H R I ⟨B, Hf, ρ, .tup _, _, Rr, h1, fun Hf1 v H1 s1 R1 rv => ?_⟩
    obtain ⟨a, us, rfl, h3, h4⟩ := rv
    exact ⟨a, rfl, ⟨us, sqT_mono R1.ex h3⟩, k Hf1 _ H1 s1 R1 (wk_tup h3 h4)⟩
  | scr ns =>
    cases h2
    refine (pi_list he).run pins s σ H R I ⟨B, Hf, ρ, .scr _, _, Rr, h1, fun Hf1 v H1 s1 R1 rv => ?_⟩
    obtain ⟨a, rfl, h3⟩ := rv
    exact ⟨a, rfl, ⟨_, R1.ex.seq h3⟩, k Hf1 _ H1 s1 R1 (wk_list (fun Hf' s => s.seq h3) (RepL.ofInts _))⟩
  | str z =>
    cases h2
    refine (pi_str he).run pins s σ H R I ⟨B, Hf, ρ, .str _, _, Rr, h1, fun Hf1 v H1 s1 R1 rv => ?_⟩
    exact ⟨_, rv, k Hf1 _ H1 s1 R1 wk_str⟩
  | _ => cases h2⟩
def rngB (j : Int) : Bool := decide (-1000000000000 ≤ j) && decide (j ≤ 1000000000000)
theorem rngB_ok {j : Int} (h : rngB j = true) : -(2 ^ 62) ≤ j ∧ j < 2 ^ 62 := by
  have h1 := Bool.and_eq_true_iff.mp h
  have h2 := of_decide_eq_true h1.1
  have h3 := of_decide_eq_true h1.2
  omega
def rangeD (lo hi : Int) : List D := (List.range (hi - lo).toNat).map fun (i : Nat) => D.int (lo + (i : Int))
def rng1 : List D → Option (List D)
  | [.int j] => if rngB j = true then some (rangeD 0 j) else none
  | _ => none
def rng2 : List D → Option (List D)
  | [.int i, .int j] => if rngB i = true ∧ rngB j = true then some (rangeD i j) else none
  | _ => none
def cItA (f : List D → Option (List D)) (gs : Ga) : Ga := fun ρ => (gs ρ).bind fun p => (f p.1).map fun ds => (ds, p.2)
theorem ij_range1 {p : Pos} {gs : Ga} (hg : Gl X "range") (hm : X.mg "range" = none) (ha : AJ X P O [a] gs) (hs : starEach [a] X.env = [(false, eval a X.env)] := by rfl) : IJ X P O tg (.Call (.Name "range" p) [a] [] pos) (cItA rng1 gs) :=
  (pi_range1 hg hm ha hs).imp fun σ H R ⟨B, Hf, ρ, ds, ρ', Rr, e, k⟩ => by
    obtain ⟨⟨as, ρ1⟩, h1, e⟩ := Option.bind_eq_some_iff.mp e
    obtain ⟨ds', h2, e⟩ := Option.map_eq_some_iff.mp e
    cases e
    refine ⟨B, Hf, ρ, as, _, Rr, h1, fun Hf1 vs H1 s1 R1 rv => ?_⟩
    match as, h2, rv with
    | [.int j], h2, rv =>
      obtain ⟨hb, rfl⟩ := ite_some h2
      obtain ⟨v, rfl, rfl⟩ := repL1 rv
      refine ⟨j, rfl, (rngB_ok hb).1, (rngB_ok hb).2, k Hf1 _ H1 s1 R1 ?_⟩
      have := wk_range (K := X.K) (Hf := Hf1) (lo := 0) (n := j.toNat)
      unfold rangeD
      rw [Int.sub_zero]
      exact this
theorem ij_range2 {p : Pos} {gs : Ga} (hg : Gl X "range") (hm : X.mg "range" = none) (ha : AJ X P O [a, b] gs) (hs : starEach [a, b] X.env = [(false, eval a X.env), (false, eval b X.env)] := by rfl) (hs2 : starEach [b] X.env = [(false, eval b X.env)] := by rfl) : IJ X P O tg (.Call (.Name "range" p) [a, b] [] pos) (cItA rng2 gs) :=
  (pi_range2 hg hm ha hs hs2).imp fun σ H R ⟨B, Hf, ρ, ds, ρ', Rr, e, k⟩ => by
    obtain ⟨⟨as, ρ1⟩, h1, e⟩ := Option.bind_eq_some_iff.mp e
    obtain ⟨ds', h2, e⟩ := Option.map_eq_some_iff.mp e
    cases e
    refine ⟨B, Hf, ρ, as, _, Rr, h1, fun Hf1 vs H1 s1 R1 rv => ?_⟩
    match as, h2, rv with
    | [.int i, .int j], h2, rv =>
      obtain ⟨⟨hb, hc⟩, rfl⟩ := ite_some h2
      obtain ⟨v, u, rfl, rfl, rfl⟩ := repL2 rv
      exact ⟨i, j, rfl, ⟨(rngB_ok hb).1, (rngB_ok hb).2, (rngB_ok hc).1, (rngB_ok hc).2⟩, k Hf1 _ H1 s1 R1 wk_range⟩

/-! ### for -/
def loopL (body : D → Env → Option Out) : List D → Env → Option Out
  | [], ρ => some (.nx ρ)
  | x :: xs, ρ => (body x ρ).bind fun r => match r with
    | .nx ρ' => loopL body xs ρ'
    | .ct ρ' => loopL body xs ρ'
    | .bk ρ' => some (.nx ρ')
    | .rt d ρ' => some (.rt d ρ')
def cFor (it : Ga) (h : Gh) (body : Gs) : Gs := fun ρ => (it ρ).bind fun p => loopL (fun x ρ => (h x ρ).bind body) p.1 p.2
theorem drop_get {α : Type} {l : List α} {i : Nat} {x : α} (h : l[i]? = some x) : l.drop i = x :: l.drop (i + 1) := by
  obtain ⟨hl, e⟩ := List.getElem?_eq_some_iff.mp h
  rw [← e]
  exact List.drop_eq_getElem_cons hl
theorem sj_for {it : Ga} {hh : Gh} {S : List Nat} (hc : X.calm = true) (hp : PassesOwn (model X.prog X.w) X.A X.env X.xe) (hi : IJ X P O tg e it) (hg : GJ X P O O1 S tg hh) (hb : SSJ X P own O O1 O sts f) (hs : ∀ x, foldedSetIterable e X.env x = pure x := by intro _; rfl) :
    SJ X P own Ob O O (.For tg e sts [] pos) (cFor it hh f) := (ps_for hp hc hi hg hb hs).imp fun D σ H ⟨B, Hf, ρ, r, R, e, k⟩ => by
  obtain ⟨⟨ds, ρ1⟩, h1, e⟩ := Option.bind_eq_some_iff.mp e
  refine ⟨B, Hf, ρ, ds, ρ1, R, h1, fun Hf1 J H1 s1 R1 wk => ?_⟩
  refine ⟨fun i m σ' H' => ∃ Hf' ρ', Same Hf1 Hf' ∧ Rl X.K B P O Hf' σ' H' ρ' ∧ i ≤ ds.length ∧ m = ds.length - i ∧ loopL (fun x ρ => (hh x ρ).bind f) (ds.drop i) ρ' = some r ∧ Post X.K B P own Ob O Hf' D r, ⟨ds.length, Hf1, ρ1, Same.refl _, R1, Nat.zero_le _, by omega, e, k.mono s1⟩, ?_⟩
  rintro i m σ' H' ⟨Hf', ρ', s2, R2, hi, rfl, el, kp⟩
  obtain ⟨w1, w2⟩ := wk Hf' H' s2 R2.ex
  cases hd : ds[i]? with
  | none =>
    have hl : ds.length ≤ i := List.getElem?_eq_none_iff.mp hd
    have : i = ds.length := by omega
    subst this
    rw [List.drop_length] at el
    cases el
    exact .inl ⟨w2, kp Hf' σ' H' (Same.refl _) R2⟩
  | some d =>
    have hl : i < ds.length := (List.getElem?_eq_some_iff.mp hd).1
    obtain ⟨g1, g2⟩ := w1 i d hd
    rw [drop_get hd] at el
    obtain ⟨rb, e1, el⟩ := Option.bind_eq_some_iff.mp el
    obtain ⟨ρ2, e2, e3⟩ := Option.bind_eq_some_iff.mp e1
    refine .inr ⟨g1, fun σ2 H2 => ∃ Hf2 ρ3, Same Hf1 Hf2 ∧ Rl X.K B P O Hf2 σ2 H2 ρ3 ∧ i + 1 ≤ ds.length ∧ loopL (fun x ρ => (hh x ρ).bind f) (ds.drop (i + 1)) ρ3 = some r ∧ Post X.K B P own Ob O Hf2 D r, fun σ2 H2 ⟨Hf2, ρ3, q1, q2, q3, q4, q5⟩ => ⟨ds.length - (i + 1), by omega, Hf2, ρ3, q1, q2, q3, rfl, q4, q5⟩, fun x H2 hy => ?_⟩
    obtain ⟨Hf2, gr, rx⟩ := g2 x H2 hy
    refine ⟨B, Hf2, ρ', d, ρ2, R2.gr gr, rx, e2, fun Hf3 σ3 H3 s3 R3 _ => ⟨B, Hf3, ρ2, rb, R3, e3, ?_⟩⟩
    have s4 : Same Hf' Hf3 := gr.s1.trans s3
    cases rb with
    | nx ρ3 => exact fun Hf4 σ4 H4 s5 R4 => ⟨Hf4, ρ3, (s2.trans s4).trans s5, R4, hl, el, kp.mono (s4.trans s5)⟩
    | ct ρ3 => exact fun Hf4 σ4 H4 s5 R4 => ⟨Hf4, ρ3, (s2.trans s4).trans s5, R4, hl, el, kp.mono (s4.trans s5)⟩
    | bk ρ3 =>
      cases el
      exact fun Hf4 σ4 H4 s5 R4 => kp Hf4 σ4 H4 (s4.trans s5) R4
    | rt z ρ3 =>
      cases el
      exact kp.mono s4
/-! ### while: at most n turns -/
def loopW (t : Gt) (body : Gs) : Nat → Env → Option Out
  | 0, _ => none
  | n + 1, ρ => (t ρ).bind fun p => if p.1 = true then (body p.2).bind fun r => match r with
    | .nx ρ' => loopW t body n ρ'
    | .ct ρ' => loopW t body n ρ'
    | .bk ρ' => some (.nx ρ')
    | .rt d ρ' => some (.rt d ρ')
    else some (.nx p.2)
def cWhile (n : Nat) (t : Gt) (body : Gs) : Gs := loopW t body n
theorem sj_while {t : Gt} (n : Nat) (hp : PassesOwn (model X.prog X.w) X.A X.env X.xe) (hc : TJ X P O e t) (hb : SSJ X P own O O O sts f) : SJ X P own Ob O O (.While e sts [] pos) (cWhile n t f) := (ps_while hp hc hb).imp fun D σ H ⟨B, Hf, ρ, r, R, e, k⟩ => by
  refine ⟨fun m σ' H' => ∃ Hf' ρ', Same Hf Hf' ∧ Rl X.K B P O Hf' σ' H' ρ' ∧ loopW t f m ρ' = some r ∧ Post X.K B P own Ob O Hf' D r, ⟨n, Hf, ρ, Same.refl _, R, e, k⟩, ?_⟩
  rintro m σ' H' ⟨Hf', ρ', s2, R2, el, kp⟩
  cases m with
  | zero => cases el
  | succ m =>
    obtain ⟨⟨c, ρ1⟩, h1, el⟩ := Option.bind_eq_some_iff.mp el
    refine ⟨B, Hf', ρ', c, ρ1, R2, h1, fun Hf1 H1 s1 R1 => ?_⟩
    cases c with
    | false =>
      cases el
      exact iteF (kp Hf1 σ' H1 s1 R1)
    | true =>
      obtain ⟨rb, e1, el⟩ := Option.bind_eq_some_iff.mp el
      refine iteT ⟨fun σ2 H2 => ∃ Hf2 ρ3, Same Hf Hf2 ∧ Rl X.K B P O Hf2 σ2 H2 ρ3 ∧ loopW t f m ρ3 = some r ∧ Post X.K B P own Ob O Hf2 D r, fun σ2 H2 q => ⟨m, Nat.lt_succ_self _, q⟩, B, Hf1, ρ1, rb, R1, e1, ?_⟩
      cases rb with
      | nx ρ3 => exact fun Hf4 σ4 H4 s5 R4 => ⟨Hf4, ρ3, (s2.trans s1).trans s5, R4, el, kp.mono (s1.trans s5)⟩
      | ct ρ3 => exact fun Hf4 σ4 H4 s5 R4 => ⟨Hf4, ρ3, (s2.trans s1).trans s5, R4, el, kp.mono (s1.trans s5)⟩
      | bk ρ3 =>
        cases el
        exact fun Hf4 σ4 H4 s5 R4 => kp Hf4 σ4 H4 (s1.trans s5) R4
      | rt z ρ3 =>
        cases el
        exact kp.mono s1
end
end G
namespace G
open PySem PySem.Spec PyProof.Rows L2
/-! ### the tightest base -/
def OwnN (B : Bs) (O : List Nat) (σ : St) (ρ : Env) (a : Addr) : Prop := ∃ i d, i ∈ O ∧ ρ[i]? = some (some d) ∧ σ[i]? = some (some (.ref a)) ∧ (i, a) ∉ B.io
open Classical in
noncomputable def tgt (O : List Nat) (σ : St) (ρ : Env) (B : Bs) (Hf H : Hp) : Bs := ⟨fun b => if OwnN B O σ ρ b then none else H b, Hf, B.io⟩
section
variable {K : PySem.W.Frag} {B : Bs} {P O : List Nat} {Hf H Hf' H' : Hp} {σ σ' : St} {ρ ρ' : Env}
open Classical in
theorem tgt_hc (n : ¬ OwnN B O σ ρ b) : (tgt O σ ρ B Hf H).Hc b = H b := by
  show (if OwnN B O σ ρ b then none else H b) = H b
  rw [if_neg n]
theorem Rl.ownN_hc (R : Rl K B P O Hf σ H ρ) {b : Addr} (n : OwnN B O σ ρ b) : B.Hc b = none := by
  obtain ⟨i, d, h1, h2, h3, h4⟩ := n
  obtain ⟨a, o, g1, _, _, _, g5⟩ := R.ow i d h1 h2
  rw [h3] at g1
  cases g1
  exact g5.resolve_right h4
open Classical in
theorem Rl.tight (R : Rl K B P O Hf σ H ρ) : Rl K (tgt O σ ρ B Hf H) P O Hf σ H ρ where
  iop := R.iop
  ex := R.ex
  ln := R.ln
  fz := R.fz
  ow := fun i d hi e => by
    obtain ⟨a, o, h1, h2, h3, h4, h5⟩ := R.ow i d hi e
    refine ⟨a, o, h1, h2, h3, h4, ?_⟩
    by_cases q : (i, a) ∈ B.io
    · exact .inr q
    · refine .inl ?_
      show (if OwnN B O σ ρ a then none else H a) = none
      rw [if_pos ⟨i, d, hi, e, h1, q⟩]
  sp := R.sp
  fr := fun b o e _ => by
    have e : (if OwnN B O σ ρ b then none else H b) = some o := e
    split at e
    · cases e
    · exact e
  fq := fun _ _ => rfl
  ios := R.ios
theorem Rl.back (R : Rl K B P O Hf σ H ρ) (R' : Rl K (tgt O σ ρ B Hf H) P O Hf' σ' H' ρ') : Rl K B P O Hf' σ' H' ρ' where
  iop := R.iop
  ex := R'.ex
  ln := R'.ln
  fz := R'.fz
  ow := fun i d hi e => by
    obtain ⟨a, o, h1, h2, h3, h4, h5⟩ := R'.ow i d hi e
    refine ⟨a, o, h1, h2, h3, h4, h5.imp (fun q => ?_) id⟩
    refine Classical.byContradiction fun n => ?_
    have h6 : ¬ OwnN B O σ ρ a := fun z => n (R.ownN_hc z)
    rw [tgt_hc h6] at q
    exact R.hc n q
  sp := R'.sp
  fr := fun b o e n => by
    have h6 : ¬ OwnN B O σ ρ b := fun z => by rw [R.ownN_hc z] at e; cases e
    exact R'.fr b o (by rw [tgt_hc h6]; exact R.fr b o e n) n
  fq := fun b hb => by
    have h6 : ¬ OwnN B O σ ρ b := fun z => hb (R.ownN_hc z)
    rw [R'.fq b (by rw [tgt_hc h6]; exact R.hc hb)]
    exact R.fq b hb
  ios := R'.ios
/-! ### slots forgotten, and known again -/
def wipeE (ρ : Env) : List Nat → Env
  | [] => ρ
  | v :: vs => (wipeE ρ vs).set v none
def restE (ρ0 ρ : Env) : List Nat → Env
  | [] => ρ
  | v :: vs => (restE ρ0 ρ vs).set v (ρ0[v]?.getD none)
theorem wipeE_len (ρ : Env) : ∀ vs, (wipeE ρ vs).length = ρ.length
  | [] => rfl
  | v :: vs => by unfold wipeE; rw [List.length_set, wipeE_len ρ vs]
theorem restE_len (ρ0 ρ : Env) : ∀ vs, (restE ρ0 ρ vs).length = ρ.length
  | [] => rfl
  | v :: vs => by unfold restE; rw [List.length_set, restE_len ρ0 ρ vs]
theorem wipeE_some {i : Nat} {d : D} : ∀ {vs : List Nat}, (wipeE ρ vs)[i]? = some (some d) → ρ[i]? = some (some d) ∧ i ∉ vs
  | [], h => ⟨h, by simp⟩
  | v :: vs, h => by
    rcases set_get (l := wipeE ρ vs) h with ⟨_, e, _⟩ | ⟨hne, e⟩
    · cases e
    · obtain ⟨h1, h2⟩ := wipeE_some e
      exact ⟨h1, by simp [hne, h2]⟩
theorem restE_out {ρ0 : Env} {i : Nat} : ∀ {vs : List Nat}, i ∉ vs → (restE ρ0 ρ vs)[i]? = ρ[i]?
  | [], _ => rfl
  | v :: vs, h => by
    have hv : i ≠ v := fun z => h (by simp [z])
    unfold restE
    rw [List.getElem?_set_ne (Ne.symm hv)]
    exact restE_out fun z => h (List.mem_cons_of_mem _ z)
theorem restE_in {ρ0 : Env} {i : Nat} {d : D} : ∀ {vs : List Nat}, i ∈ vs → (restE ρ0 ρ vs)[i]? = some (some d) → ρ0[i]? = some (some d)
  | [], h, _ => by cases h
  | v :: vs, h, e => by
    rcases set_get (l := restE ρ0 ρ vs) e with ⟨rfl, e, _⟩ | ⟨hne, e⟩
    · exact getD_some e.symm
    · exact restE_in ((List.mem_cons.mp h).resolve_left hne) e
theorem wipe_outV {i : Nat} : ∀ {vs : List Nat}, i ∉ vs → (wipe σ vs)[i]? = σ[i]?
  | [], _ => rfl
  | v :: vs, h => by
    have hv : i ≠ v := fun z => h (by simp [z])
    unfold wipe
    rw [List.getElem?_set_ne (Ne.symm hv)]
    exact wipe_outV fun z => h (List.mem_cons_of_mem _ z)
theorem wipe_inV {i : Nat} : ∀ {vs : List Nat}, i ∈ vs → i < σ.length → (wipe σ vs)[i]? = some none
  | [], h, _ => by cases h
  | v :: vs, h, hl => by
    unfold wipe
    by_cases e : v = i
    · subst e
      exact List.getElem?_set_self (by rw [wipe_length]; exact hl)
    · rw [List.getElem?_set_ne e]
      exact wipe_inV ((List.mem_cons.mp h).resolve_left (Ne.symm e)) hl
theorem wipe_ext {vs : List Nat} (hl : σ'.length = σ.length) (h : ∀ i, i ∉ vs → σ'[i]? = σ[i]?) : wipe σ' vs = wipe σ vs := by
  apply List.ext_getElem?
  intro i
  by_cases hi : i ∈ vs
  · by_cases hb : i < σ.length
    · rw [wipe_inV hi (by rw [hl]; exact hb), wipe_inV hi hb]
    · rw [List.getElem?_eq_none_iff.mpr (by rw [wipe_length]; omega), List.getElem?_eq_none_iff.mpr (by rw [wipe_length]; omega)]
  · rw [wipe_outV hi, wipe_outV hi, h i hi]
theorem Rl.wipe {vs : List Nat} (R : Rl K B P O Hf σ H ρ) (hv : ∀ i ∈ vs, i ∉ O) : Rl K B P O Hf (wipe σ vs) H (wipeE ρ vs) where
  iop := R.iop
  ex := R.ex
  ln := by rw [wipe_length, wipeE_len]; exact R.ln
  fz := fun i d hi e => by
    obtain ⟨h1, h2⟩ := wipeE_some e
    rw [wipe_outV h2]
    exact R.fz i d hi h1
  ow := fun i d hi e => by
    obtain ⟨h1, h2⟩ := wipeE_some e
    rw [wipe_outV h2]
    exact R.ow i d hi h1
  sp := fun i j a d e hi hj h1 h2 h3 h4 => by
    obtain ⟨h5, h6⟩ := wipeE_some h1
    obtain ⟨h7, h8⟩ := wipeE_some h2
    rw [wipe_outV h6] at h3
    rw [wipe_outV h8] at h4
    exact R.sp i j a d e hi hj h5 h7 h3 h4
  fr := R.fr
  fq := R.fq
  ios := fun p hp => by
    obtain ⟨h1, h2, d, h3⟩ := R.ios p hp
    have h4 : p.1 ∉ vs := fun z => hv _ z h1
    refine ⟨h1, by rw [wipe_outV h4]; exact h2, d, ?_⟩
    have : ∀ vs : List Nat, p.1 ∉ vs → (wipeE ρ vs)[p.1]? = ρ[p.1]? := by
      intro vs
      induction vs with
      | nil => intro _; rfl
      | cons v vs ih =>
        intro h
        have hv : p.1 ≠ v := fun z => h (by simp [z])
        unfold wipeE
        rw [List.getElem?_set_ne (Ne.symm hv)]
        exact ih fun z => h (List.mem_cons_of_mem _ z)
    rw [this vs h4]
    exact h3
/-- behind a block: R0 ahead of it -/
theorem Rl.rest {vs : List Nat} {Hf0 H0 : Hp} {ρ0 : Env} (R0 : Rl K B P O Hf0 σ H0 ρ0) (s : Same Hf0 Hf) (R : Rl K B P O Hf (L2.wipe σ vs) H ρ) (hv : ∀ i ∈ vs, i ∉ O) : Rl K B P O Hf σ H (restE ρ0 ρ vs) where
  iop := R.iop
  ex := R.ex
  ln := by rw [restE_len, ← R.ln, wipe_length]
  fz := fun i d hi e => by
    by_cases h : i ∈ vs
    · obtain ⟨v, h1, h2⟩ := R0.fz i d hi (restE_in h e)
      exact ⟨v, h1, Rep.mono s _ _ h2⟩
    · rw [restE_out h] at e
      obtain ⟨v, h1, h2⟩ := R.fz i d hi e
      rw [wipe_outV h] at h1
      exact ⟨v, h1, h2⟩
  ow := fun i d hi e => by
    have h : i ∉ vs := fun z => hv i z hi
    rw [restE_out h] at e
    have := R.ow i d hi e
    rw [wipe_outV h] at this
    exact this
  sp := fun i j a d e hi hj h1 h2 h3 h4 => by
    have hi' : i ∉ vs := fun z => hv i z hi
    have hj' : j ∉ vs := fun z => hv j z hj
    rw [restE_out hi'] at h1
    rw [restE_out hj'] at h2
    refine R.sp i j a d e hi hj h1 h2 ?_ ?_
    · rw [wipe_outV hi']; exact h3
    · rw [wipe_outV hj']; exact h4
  fr := R.fr
  fq := R.fq
  ios := fun p hp => by
    obtain ⟨h1, h2, d, h3⟩ := R.ios p hp
    have h4 : p.1 ∉ vs := fun z => hv _ z h1
    rw [wipe_outV h4] at h2
    exact ⟨h1, h2, d, by rw [restE_out h4]; exact h3⟩
end
/-! ### comprehensions -/
def cYes : Gt := fun ρ => some (true, ρ)
abbrev NJ (X : Cx) (P O : List Nat) (ifs : List Expr) (t : Gt) : Prop := PTs X ifs (tT X.K P O t)
theorem _root_.L2.PTs.imp {X : Cx} {e : List Expr} {t t' : TT} (h : PTs X e t) (i : ∀ σ H Q, t' σ H Q → t σ H Q) : PTs X e t' := ⟨fun pins s σ H Q I q => h.run pins s σ H Q I (i _ _ _ q)⟩
theorem nj_nil {X : Cx} {P O : List Nat} : NJ X P O [] cYes := pts_nil.imp fun σ H Q ⟨B, Hf, ρ, d, ρ', R, e, k⟩ => by
  cases e
  exact k Hf H (Same.refl _) R
theorem nj_one {X : Cx} {P O : List Nat} {c : Expr} {t : Gt} (h : TJ X P O c t) : NJ X P O [c] t := pts_one h
def loopC (h : Gh) (t : Gt) (g : Gx) (vs : List Nat) : List D → Env → Option (List D × Env)
  | [], ρ => some ([], ρ)
  | x :: xs, ρ => (h x ρ).bind fun ρ1 => (t ρ1).bind fun p => if p.1 = true then (g p.2).bind fun q => (loopC h t g vs xs (wipeE q.2 vs)).map fun r => (q.1 :: r.1, r.2)
    else loopC h t g vs xs (wipeE p.2 vs)
def cComp (it : Ga) (h : Gh) (t : Gt) (g : Gx) (vs : List Nat) : Gx := fun ρ => (it ρ).bind fun p => if p.1.length ≤ 100000 then (loopC h t g vs p.1 (wipeE p.2 vs)).map fun q => (.lst q.1, restE p.2 q.2 vs) else none
section
variable {X : Cx} {P O : List Nat} {it : Ga} {hh : Gh} {t : Gt} {g : Gx} {vs S : List Nat}
theorem tLc_o {K : PySem.W.Frag} {σ : St} {H : Hp} {Q : VK} (hv : ∀ i ∈ vs, i ∉ O) (hS : ∀ i ∈ S, i ∈ vs) (q : tO K P O (cComp it hh t g vs) σ H Q) : tLc (tI K P O it) (tG K P O O S hh) (tT K P O t) (tE K P O g) vs σ H Q := by
  obtain ⟨B, Hf, ρ, z, ρ', R, e, k⟩ := q
  obtain ⟨⟨ds, ρ1⟩, h1, e⟩ := Option.bind_eq_some_iff.mp e
  have e : (if ds.length ≤ 100000 then (loopC hh t g vs ds (wipeE ρ1 vs)).map fun q => (D.lst q.1, restE ρ1 q.2 vs) else none) = some (z, ρ') := e
  by_cases hz : ds.length ≤ 100000
  case neg => rw [if_neg hz] at e; cases e
  rw [if_pos hz] at e
  obtain ⟨⟨zs, ρz⟩, h2, e⟩ := Option.map_eq_some_iff.mp e
  cases e
  refine ⟨B, Hf, ρ, ds, ρ1, R, h1, fun Hf1 J H1 s1 R1 wk Dd nD => ?_⟩
  have ioD : ∀ p ∈ B.io, p.2 ≠ Dd := fun p hp z => by
    obtain ⟨h1, h2, d, h3⟩ := R1.ios p hp
    obtain ⟨a, o, e1, _, e2, _⟩ := R1.ow _ _ h1 h3
    rw [h2] at e1
    cases e1
    rw [z, nD] at e2
    cases e2
  refine ⟨fun i m H' => ∃ Hf' ρ' acc accV rest, Same Hf1 Hf' ∧ Rl K B P O Hf' (wipe σ vs) H' ρ' ∧ i ≤ ds.length ∧ m = ds.length - i ∧ loopC hh t g vs (ds.drop i) ρ' = some (rest, ρz) ∧ acc ++ rest = zs ∧ acc.length ≤ i ∧
    Hf' Dd = none ∧ H' Dd = some (.lst accV) ∧ RepL K Hf' acc accV ∧ (∀ j e, j ∈ O → ρ'[j]? = some (some e) → (wipe σ vs)[j]? ≠ some (some (.ref Dd))), ⟨ds.length, Hf1, wipeE ρ1 vs, [], [], zs, Same.refl _, ?_, Nat.zero_le _, by omega, h2, rfl, Nat.le_refl _, R1.ex.free nD, upd_same, rfl, fun j e hj he => ?_⟩, ?_⟩
  · exact (R1.gr (Gr.newO R1.ex nD)).wipe hv
  · obtain ⟨h3, h4⟩ := wipeE_some he
    rw [wipe_outV h4]
    exact fresh_ne R1 nD j e hj h3
  rintro i m H2 ⟨Hf2, ρ2, acc, accV, rest, s2, R2, hi, rfl, el, ea, hlen, n2, hD, ra, neD⟩
  obtain ⟨w1, w2⟩ := wk Hf2 H2 s2 R2.ex
  cases hd : ds[i]? with
  | none =>
    have hl : ds.length ≤ i := List.getElem?_eq_none_iff.mp hd
    have : i = ds.length := by omega
    subst this
    rw [List.drop_length] at el
    cases el
    rw [List.append_nil] at ea
    subst ea
    have R3 : Rl K B P O Hf2 σ H2 (restE ρ1 ρz vs) := R1.rest s2 R2 hv
    exact .inl ⟨w2, k Hf2 Dd _ H2 (s1.trans s2) R3 n2 hD ⟨accV, rfl, ra⟩ (fresh_hc R1 nD) fun j e hj he => by
      have hj' : j ∉ vs := fun z => hv j z hj
      rw [restE_out hj'] at he
      have := neD j e hj he
      rw [wipe_outV hj'] at this
      exact this⟩
  | some d =>
    have hl : i < ds.length := (List.getElem?_eq_some_iff.mp hd).1
    obtain ⟨g1, g2⟩ := w1 i d hd
    rw [drop_get hd] at el
    obtain ⟨ρ3, e3, el⟩ := Option.bind_eq_some_iff.mp el
    obtain ⟨⟨c, ρ4⟩, e4, el⟩ := Option.bind_eq_some_iff.mp el
    refine .inr ⟨g1, fun H' => ∃ Hf' ρ' acc accV rest, Same Hf1 Hf' ∧ Rl K B P O Hf' (wipe σ vs) H' ρ' ∧ i + 1 ≤ ds.length ∧ loopC hh t g vs (ds.drop (i + 1)) ρ' = some (rest, ρz) ∧ acc ++ rest = zs ∧ acc.length ≤ i + 1 ∧
      Hf' Dd = none ∧ H' Dd = some (.lst accV) ∧ RepL K Hf' acc accV ∧ (∀ j e, j ∈ O → ρ'[j]? = some (some e) → (wipe σ vs)[j]? ≠ some (some (.ref Dd))), fun H' ⟨Hf', ρ', acc, accV, rest, q1, q2, q3, q4, q5, q6, q7, q8, q9, q10⟩ => ⟨ds.length - (i + 1), by omega, Hf', ρ', acc, accV, rest, q1, q2, q3, rfl, q4, q5, q6, q7, q8, q9, q10⟩, fun x H3 hy => ?_⟩
    obtain ⟨Hf3, gr, rx⟩ := g2 x H3 hy
    have R3 := R2.gr gr
    have hD3 : H3 Dd = some (.lst accV) := by rw [(gr.old Dd (by rw [hD]; exact fun z => nomatch z)).2]; exact hD
    have n3 : Hf3 Dd = none := by rw [(gr.old Dd (by rw [hD]; exact fun z => nomatch z)).1]; exact n2
    have T3 := R3.tight
    have notD : ¬ OwnN B O (wipe σ vs) ρ2 Dd := fun ⟨j, e, h1, h2, h3, _⟩ => neD j e h1 h2 h3
    have hcD : (tgt O (wipe σ vs) ρ2 B Hf3 H3).Hc Dd = some (.lst accV) := by rw [tgt_hc notD]; exact hD3
    -- what a later relation says of the new list
    have atD : ∀ {Hf' H' : Hp} {σ' : St} {ρ' : Env}, Rl K (tgt O (wipe σ vs) ρ2 B Hf3 H3) P O Hf' σ' H' ρ' → H' Dd = some (.lst accV) ∧ Hf' Dd = none ∧ ∀ j e, j ∈ O → ρ'[j]? = some (some e) → σ'[j]? ≠ some (some (.ref Dd)) := fun {Hf' H' σ' ρ'} R' => by
      refine ⟨R'.fr Dd _ hcD fun p hp => ioD p hp, ?_, fun j e hj he z => ?_⟩
      · rw [R'.fq Dd (by rw [hcD]; exact fun z => nomatch z)]
        exact n3
      · obtain ⟨a, o, h1, _, _, _, h5⟩ := R'.ow j e hj he
        rw [z] at h1
        cases h1
        rcases h5 with h5 | h5
        · rw [hcD] at h5; cases h5
        · exact ioD _ h5 rfl
    refine ⟨_, Hf3, ρ2, d, ρ3, T3, rx, e3, fun Hf4 σ4 H4 s4 R4 hσ => ⟨?_, _, Hf4, ρ3, c, ρ4, R4, e4, fun Hf5 H5 s5 R5 => ?_⟩⟩
    · have h6 : wipe σ4 vs = wipe (wipe σ vs) vs := wipe_ext hσ.1 fun j hj => hσ.2 j fun z => hj (hS j z)
      rw [h6]
      exact wipe_ext (wipe_length _ _) fun j hj => wipe_outV hj
    · have hw : wipe σ4 vs = wipe σ vs := by
        have h6 : wipe σ4 vs = wipe (wipe σ vs) vs := wipe_ext hσ.1 fun j hj => hσ.2 j fun z => hj (hS j z)
        rw [h6]
        exact wipe_ext (wipe_length _ _) fun j hj => wipe_outV hj
      cases c with
      | false =>
        have el : loopC hh t g vs (ds.drop (i + 1)) (wipeE ρ4 vs) = some (rest, ρz) := el
        have R6 := (R3.back R5).wipe hv
        rw [hw] at R6
        obtain ⟨a1, a2, a3⟩ := atD R5
        refine iteF ⟨Hf5, wipeE ρ4 vs, acc, accV, rest, ((s2.trans gr.s1).trans s4).trans s5, R6, hl, el, ea, by omega, a2, a1, RepL.mono ((gr.s1.trans s4).trans s5) _ _ ra, fun j e hj he => ?_⟩
        obtain ⟨h7, h8⟩ := wipeE_some he
        rw [wipe_outV h8, ← wipe_outV (σ := σ) (vs := vs) h8, ← hw, wipe_outV h8]
        exact a3 j e hj h7
      | true =>
        have el : ((g ρ4).bind fun q => (loopC hh t g vs (ds.drop (i + 1)) (wipeE q.2 vs)).map fun r => (q.1 :: r.1, r.2)) = some (rest, ρz) := el
        obtain ⟨⟨y, ρ5⟩, e5, el⟩ := Option.bind_eq_some_iff.mp el
        obtain ⟨⟨rest', ρz'⟩, e6, el⟩ := Option.map_eq_some_iff.mp el
        cases el
        refine iteT ⟨_, Hf5, ρ4, y, ρ5, R5, e5, fun Hf6 yv H6 s6 R6 ry => ?_⟩
        obtain ⟨a1, a2, a3⟩ := atD R6
        have sA : Same Hf2 Hf6 := ((gr.s1.trans s4).trans s5).trans s6
        refine ⟨accV, a1, ?_, ?_⟩
        · rw [ra.len]
          exact Nat.lt_of_le_of_lt hlen (Nat.lt_of_lt_of_le hl (Nat.le_trans hz (by decide)))
        · have R7 := (R3.back R6).wipe hv
          rw [hw] at R7
          have ne7 : ∀ j e, j ∈ O → (wipeE ρ5 vs)[j]? = some (some e) → (wipe σ vs)[j]? ≠ some (some (.ref Dd)) := fun j e hj he => by
            obtain ⟨h7, h8⟩ := wipeE_some he
            rw [wipe_outV h8, ← wipe_outV (σ := σ) (vs := vs) h8, ← hw, wipe_outV h8]
            exact a3 j e hj h7
          have R8 : Rl K B P O Hf6 (wipe σ vs) (upd H6 Dd (.lst (accV ++ [yv]))) (wipeE ρ5 vs) := by
            refine ⟨R7.iop, fun b u q => ?_, R7.ln, R7.fz, fun j e hj he => ?_, R7.sp, fun b u q n => ?_, R7.fq, R7.ios⟩
            · rw [upd_ne (fun z => by rw [z, a2] at q; cases q)]
              exact R7.ex _ _ q
            · obtain ⟨c, u, h1, h2, h3, h4, h5⟩ := R7.ow j e hj he
              exact ⟨c, u, h1, h2, by rw [upd_ne (fun z => ne7 j e hj he (by rw [h1, z]))]; exact h3, h4, h5⟩
            · have z : b ≠ Dd := fun z => by
                have := fresh_hc R1 nD
                rw [z, this] at q
                cases q
              rw [upd_ne z]
              exact R7.fr b u q n
          exact ⟨Hf6, wipeE ρ5 vs, acc ++ [y], accV ++ [yv], rest', s2.trans sA, R8, hl, e6, by rw [List.append_assoc]; exact ea, by rw [List.length_append]; show acc.length + 1 ≤ i + 1; omega, a2, upd_same, (RepL.mono sA _ _ ra).append (RepL.cons ry RepL.nil), ne7⟩
end
end G
namespace G
open PySem PySem.Spec PyProof.Rows L2
section
variable {X : Cx} {P O O1 O2 Ob S vs : List Nat} {own : Bool} {a b e elt tg iter : Expr} {es ifs : List Expr} {ga gb g : Gx} {pos : Pos} {st : Stmt} {sts : List Stmt} {f h : Gs} {it : Ga} {hh : Gh} {t : Gt} {scope : Scope}
theorem eo_comp {ow : List (Str × Nat)} (hc : X.calm = true) (hN : X.N.Nodup) (hi : IJ X P O tg iter it) (ok : BlkOk X.N X.env.scope scope ow)
    (hg : ∀ (s : Shared) (H : Hp) (C : Addr) (cl : List (Str × Addr)) (fp : List Addr), GJ (X.blk s H scope (compEnvC scope cl C X.env) fp) P O O S tg hh)
    (ht : ∀ (s : Shared) (H : Hp) (C : Addr) (cl : List (Str × Addr)) (fp : List Addr), NJ (X.blk s H scope (compEnvC scope cl C X.env) fp) P O ifs t)
    (he : ∀ (s : Shared) (H : Hp) (C : Addr) (cl : List (Str × Addr)) (fp : List Addr), EJ (X.blk s H scope (compEnvC scope cl C X.env) fp) P O elt g)
    (hv : ∀ i ∈ ow.map (·.2), i ∉ O := by decide) (hS : ∀ i ∈ S, i ∈ ow.map (·.2) := by decide) (hs : ∀ x, foldedSetIterable iter X.env x = pure x := by intro _; rfl) : EO X P O (.ListComp elt [⟨tg, iter, ifs, 0⟩] scope pos) (cComp it hh t g (ow.map (·.2))) :=
  (pe_lc hc hN hi ok hg ht he hs).imp fun _ _ _ => tLc_o hv hS
theorem sj_setComp {ow : List (Str × Nat)} {i : Nat} {y : Str} {py spos : Pos} (hP : i ∉ P) (hc : X.calm = true) (hN : X.N.Nodup) (hsw : swapsWith (.ListComp elt [⟨tg, iter, ifs, 0⟩] scope pos) (some (.Name y py)) spos.line X.env = pure true)
    (hi : IJ X P O tg iter it) (ok : BlkOk X.N X.env.scope scope ow)
    (hg : ∀ (s : Shared) (H : Hp) (C : Addr) (cl : List (Str × Addr)) (fp : List Addr), GJ (X.blk s H scope (compEnvC scope cl C X.env) fp) P O O S tg hh)
    (ht : ∀ (s : Shared) (H : Hp) (C : Addr) (cl : List (Str × Addr)) (fp : List Addr), NJ (X.blk s H scope (compEnvC scope cl C X.env) fp) P O ifs t)
    (he : ∀ (s : Shared) (H : Hp) (C : Addr) (cl : List (Str × Addr)) (fp : List Addr), EJ (X.blk s H scope (compEnvC scope cl C X.env) fp) P O elt g)
    (hv : ∀ i ∈ ow.map (·.2), i ∉ O := by decide) (hS : ∀ i ∈ S, i ∈ ow.map (·.2) := by decide) (hy : X.N[i]? = some y := by rfl) (hyl : X.env.scope.names.lookup y = some .local := by rfl) (hs : ∀ x, foldedSetIterable iter X.env x = pure x := by intro _; rfl) :
    SJ X P own Ob O (O.filter (· != i)) (.Assign [.Name y py] (.ListComp elt [⟨tg, iter, ifs, 0⟩] scope pos) spos) (cSet i (cComp it hh t g (ow.map (·.2)))) :=
  (ps_setLc hc hN hy hyl hsw hi ok hg ht he hs).imp fun D σ H ⟨B, Hf, ρ, r, R, e, k⟩ => by
    obtain ⟨⟨d, ρ1⟩, h1, e⟩ := Option.map_eq_some_iff.mp e
    cases e
    refine tLc_o hv hS (tO_E ⟨B, Hf, ρ, d, ρ1, R, h1, fun Hf1 v H1 s1 R1 rv => ?_⟩)
    exact k Hf1 _ H1 s1 (R1.setF hP rv)
theorem sj_setCompO {ow : List (Str × Nat)} {i : Nat} {y : Str} {py spos : Pos} (hP : i ∉ P) (hc : X.calm = true) (hN : X.N.Nodup) (hsw : swapsWith (.ListComp elt [⟨tg, iter, ifs, 0⟩] scope pos) (some (.Name y py)) spos.line X.env = pure true)
    (hi : IJ X P O tg iter it) (ok : BlkOk X.N X.env.scope scope ow)
    (hg : ∀ (s : Shared) (H : Hp) (C : Addr) (cl : List (Str × Addr)) (fp : List Addr), GJ (X.blk s H scope (compEnvC scope cl C X.env) fp) P O O S tg hh)
    (ht : ∀ (s : Shared) (H : Hp) (C : Addr) (cl : List (Str × Addr)) (fp : List Addr), NJ (X.blk s H scope (compEnvC scope cl C X.env) fp) P O ifs t)
    (he : ∀ (s : Shared) (H : Hp) (C : Addr) (cl : List (Str × Addr)) (fp : List Addr), EJ (X.blk s H scope (compEnvC scope cl C X.env) fp) P O elt g)
    (hv : ∀ i ∈ ow.map (·.2), i ∉ O := by decide) (hS : ∀ i ∈ S, i ∈ ow.map (·.2) := by decide) (hy : X.N[i]? = some y := by rfl) (hyl : X.env.scope.names.lookup y = some .local := by rfl) (hs : ∀ x, foldedSetIterable iter X.env x = pure x := by intro _; rfl) :
    SJ X P own Ob O (i :: O.filter (· != i)) (.Assign [.Name y py] (.ListComp elt [⟨tg, iter, ifs, 0⟩] scope pos) spos) (cSet i (cComp it hh t g (ow.map (·.2)))) :=
  (ps_setLc hc hN hy hyl hsw hi ok hg ht he hs).imp fun D σ H ⟨B, Hf, ρ, r, R, e, k⟩ => by
    obtain ⟨⟨d, ρ1⟩, h1, e⟩ := Option.map_eq_some_iff.mp e
    cases e
    refine tLc_o hv hS ⟨B, Hf, ρ, d, ρ1, R, h1, fun Hf1 c o H1 s1 R1 n hc ow hb ne => ?_⟩
    exact k Hf1 _ H1 s1 (R1.setO hP n hc ow hb ne)

/-! ### a list that is owned, changed by its methods -/
def MtO (K : PySem.W.Frag) (r : V → List V → Hp → VK → Prop) (f : List D → List D → Option (D × List D)) : Prop := ∀ Hf H c ds xs as vs z ds', Same Hf H → H c = some (.lst xs) → RepL K Hf ds xs → RepL K Hf as vs → f ds as = some (z, ds') →
  ∀ Q : VK, (∀ v xs', Rep K Hf z v → RepL K Hf ds' xs' → Q v (upd H c (.lst xs'))) → r (.ref c) vs H Q
def cMt (f : List D → List D → Option (D × List D)) (i : Nat) (gs : Ga) : Gx := fun ρ => (ρ[i]?.getD none).bind fun _ => (gs ρ).bind fun p => (p.2[i]?.getD none).bind fun d => match d with
  | .lst ds => (f ds p.1).map fun q => (q.1, p.2.set i (some (.lst q.2)))
  | _ => none
theorem tMt {K : PySem.W.Frag} {r : V → List V → Hp → VK → Prop} {m : List D → List D → Option (D × List D)} (hm : MtO K r m) {i : Nat} {gs : Ga} (hi : i ∈ O) {σ : St} {H : Hp} {Q : VK} (q : tE K P O (cMt m i gs) σ H Q) :
    tBM K "list" r (tVar i) (tA K P O gs) σ H Q := by
  obtain ⟨B, Hf, ρ, z, ρ', R, e, k⟩ := q
  obtain ⟨d0, h0, e⟩ := Option.bind_eq_some_iff.mp e
  obtain ⟨⟨as, ρ1⟩, h1, e⟩ := Option.bind_eq_some_iff.mp e
  obtain ⟨d, h2, e⟩ := Option.bind_eq_some_iff.mp e
  obtain ⟨c, o, g1, g2, g3, g4, _⟩ := R.ow i d0 hi (getD_some h0)
  obtain ⟨xs0, rfl⟩ := own_lst g4
  refine ⟨.ref c, g1, .inl ⟨rfl, xs0, SqL.of g3⟩, B, Hf, ρ, as, ρ1, R, h1, fun Hf1 vs H1 s1 R1 rv => ?_⟩
  obtain ⟨c', o', q1, q2, q3, q4, _⟩ := R1.ow i d hi (getD_some h2)
  rw [g1] at q1
  cases q1
  cases d with
  | lst ds =>
    obtain ⟨⟨z', ds'⟩, h3, e⟩ := Option.map_eq_some_iff.mp e
    cases e
    obtain ⟨xs, rfl, rx⟩ := q4
    refine hm Hf1 H1 c ds xs as vs z' ds' R1.ex q3 rx rv h3 Q fun v xs' r1 r2 => ?_
    exact k Hf1 v _ s1 (R1.mut hi (getD_some h2) g1 ⟨xs', rfl, r2⟩) r1
  | _ => cases e
theorem tMt0 {K : PySem.W.Frag} {r : V → List V → Hp → VK → Prop} {m : List D → List D → Option (D × List D)} (hm : MtO K r m) {i : Nat} (hi : i ∈ O) {σ : St} {H : Hp} {Q : VK} (q : tE K P O (cMt m i (evA [])) σ H Q) :
    tBM0 K "list" r (tVar i) σ H Q := by
  obtain ⟨B, Hf, ρ, z, ρ', R, e, k⟩ := q
  obtain ⟨d0, h0, e⟩ := Option.bind_eq_some_iff.mp e
  obtain ⟨⟨as, ρ1⟩, h1, e⟩ := Option.bind_eq_some_iff.mp e
  cases h1
  obtain ⟨d, h2, e⟩ := Option.bind_eq_some_iff.mp e
  obtain ⟨c, o, g1, g2, g3, g4, _⟩ := R.ow i d hi (getD_some h2)
  cases d with
  | lst ds =>
    obtain ⟨⟨z', ds'⟩, h3, e⟩ := Option.map_eq_some_iff.mp e
    cases e
    obtain ⟨xs, rfl, rx⟩ := g4
    refine ⟨.ref c, g1, .inl ⟨rfl, xs, SqL.of g3⟩, hm Hf H c ds xs [] [] z' ds' R.ex g3 rx rfl h3 Q fun v xs' r1 r2 => ?_⟩
    exact k Hf v _ (Same.refl _) (R.mut hi (getD_some h2) g1 ⟨xs', rfl, r2⟩) r1
  | _ => cases e
def appD : List D → List D → Option (D × List D)
  | ds, [d] => if ds.length < 100000 then some (.non, ds ++ [d]) else none
  | _, _ => none
theorem app_o {K : PySem.W.Frag} : MtO K rAppend appD := fun Hf H c ds xs as vs z ds' s hc rx ra e Q k => by
  match as, e with
  | [d], e =>
    obtain ⟨h, e⟩ := ite_some e
    cases e
    obtain ⟨v, rfl, rv⟩ := repL1 ra
    exact ⟨c, xs, v, rfl, rfl, hc, by rw [rx.len]; exact Nat.lt_of_lt_of_le h (by decide), k .non _ rfl (rx.append (RepL.cons rv RepL.nil))⟩
def popD : List D → List D → Option (D × List D)
  | ds, [] => (ds[ds.length - 1]?).map fun d => (d, ds.dropLast)
  | _, _ => none
theorem RepL.dropLast {K : PySem.W.Frag} {H : Hp} {ds : List D} {xs : List V} (h : RepL K H ds xs) : RepL K H ds.dropLast xs.dropLast := by
  rw [List.dropLast_eq_take, List.dropLast_eq_take, h.len]
  exact h.take _
theorem pop_o {K : PySem.W.Frag} : MtO K rPop popD := fun Hf H c ds xs as vs z ds' s hc rx ra e Q k => by
  match as, e with
  | [], e =>
    obtain ⟨d, h, e⟩ := Option.map_eq_some_iff.mp e
    cases e
    cases ra
    obtain ⟨v, h1, h2⟩ := rx.get h
    exact ⟨c, xs, v, rfl, rfl, hc, by rw [rx.len]; exact h1, k v _ h2 rx.dropLast⟩
def popAtD : List D → List D → Option (D × List D)
  | ds, [.int i] => if -1000000000 ≤ i ∧ i ≤ 1000000000 then (seqIndex? i ds.length).bind fun k => (ds[k]?).map fun d => (d, ds.eraseIdx k) else none
  | _, _ => none
theorem popAt_o {K : PySem.W.Frag} : MtO K rPopAt popAtD := fun Hf H c ds xs as vs z ds' s hc rx ra e Q k => by
  match as, e with
  | [.int i], e =>
    have e : (if -1000000000 ≤ i ∧ i ≤ 1000000000 then (seqIndex? i ds.length).bind fun k => (ds[k]?).map fun d => (d, ds.eraseIdx k) else none) = some (z, ds') := e
    by_cases hi : -1000000000 ≤ i ∧ i ≤ 1000000000
    case neg => rw [if_neg hi] at e; cases e
    rw [if_pos hi] at e
    obtain ⟨j, h1, e⟩ := Option.bind_eq_some_iff.mp e
    obtain ⟨d, h2, e⟩ := Option.map_eq_some_iff.mp e
    cases e
    obtain ⟨v, rfl, rfl⟩ := repL1 ra
    obtain ⟨u, h3, h4⟩ := rx.get h2
    exact ⟨c, xs, i, j, u, rfl, rfl, hc, by omega, by omega, by rw [rx.len]; exact h1, h3, k u _ h4 (rx.eraseIdx j)⟩
section
variable {i : Nat} {x : Str} {px apos : Pos} {gs : Ga}
theorem ej_append (i : Nat) (hi : i ∈ O) (ha : AJ X P O [e] gs) (hN : X.N[i]? = some x := by rfl) (hv : Vis X.env.scope x := by first | exact Or.inl rfl | exact Or.inr (Or.inl rfl) | exact Or.inr (Or.inr rfl))
    (h : PE X (.Call (.Attribute (.Name x px) "append" apos) [e] [] pos) (tBM X.K "list" rAppend (tVar i) (tA X.K P O gs))) : EJ X P O (.Call (.Attribute (.Name x px) "append" apos) [e] [] pos) (cMt appD i gs) := h.imp fun _ _ _ => tMt app_o hi
theorem ej_mt {r : V → List V → Hp → VK → Prop} {m : List D → List D → Option (D × List D)} {nm : Str} (i : Nat) (hi : i ∈ O) (hm : MtO X.K r m)
    (h : PE X (.Call (.Attribute (.Name x px) nm apos) (e :: es) [] pos) (tBM X.K "list" r (tVar i) (tA X.K P O gs))) : EJ X P O (.Call (.Attribute (.Name x px) nm apos) (e :: es) [] pos) (cMt m i gs) := h.imp fun _ _ _ => tMt hm hi
theorem ej_mt0 {r : V → List V → Hp → VK → Prop} {m : List D → List D → Option (D × List D)} {nm : Str} (i : Nat) (hi : i ∈ O) (hm : MtO X.K r m)
    (h : PE X (.Call (.Attribute (.Name x px) nm apos) [] [] pos) (tBM0 X.K "list" r (tVar i))) : EJ X P O (.Call (.Attribute (.Name x px) nm apos) [] [] pos) (cMt m i (evA [])) := h.imp fun _ _ _ => tMt0 hm hi
end
/-! ### x[k] = e, x owned -/
def cSetIx (i : Nat) (g gk : Gx) : Gs := fun ρ => (g ρ).bind fun p => (p.2[i]?.getD none).bind fun _ => (gk p.2).bind fun q => (q.2[i]?.getD none).bind fun d => match d, q.1 with
  | .lst ds, .int k => (ixN ds.length k).map fun j => .nx (q.2.set i (some (.lst (ds.set j p.1))))
  | _, _ => none
theorem sj_setIx {i : Nat} {x : Str} {px spos : Pos} {k : Expr} {gk : Gx} (hi : i ∈ O) (he : EJ X P O e g) (hk : EJ X P O k gk)
    (h : PS X (.Assign [.Subscript (.Name x px) k pos] e spos) (tAsg (tE X.K P O g) (gSub (tVar i) (tE X.K P O gk) rSetL))) : SJ X P own Ob O O (.Assign [.Subscript (.Name x px) k pos] e spos) (cSetIx i g gk) := h.imp fun D σ H ⟨B, Hf, ρ, r, R, e, kk⟩ => by
  obtain ⟨⟨d, ρ1⟩, h1, e⟩ := Option.bind_eq_some_iff.mp e
  obtain ⟨d0, hd0, e⟩ := Option.bind_eq_some_iff.mp e
  obtain ⟨⟨z, ρ2⟩, h2, e⟩ := Option.bind_eq_some_iff.mp e
  obtain ⟨l, h3, e⟩ := Option.bind_eq_some_iff.mp e
  refine ⟨B, Hf, ρ, d, ρ1, R, h1, fun Hf1 v H1 s1 R1 rv => ?_⟩
  obtain ⟨c, o, g1, g2, g3, g4, _⟩ := R1.ow i d0 hi (getD_some hd0)
  refine ⟨.ref c, g1, B, Hf1, ρ1, z, ρ2, R1, h2, fun Hf2 zv H2 s2 R2 rz => ?_⟩
  obtain ⟨c', o', q1, q2, q3, q4, _⟩ := R2.ow i l hi (getD_some h3)
  rw [g1] at q1
  cases q1
  cases l with
  | lst ds =>
    cases z with
    | int kz =>
      obtain ⟨j, h5, e⟩ := Option.map_eq_some_iff.mp e
      cases e
      obtain ⟨xs, rfl, rx⟩ := q4
      refine ⟨c, xs, kz, j, rfl, rz, q3, by rw [rx.len]; exact h5, ?_⟩
      exact kk Hf2 σ _ (s1.trans s2) (R2.mut hi (getD_some h3) g1 ⟨_, rfl, rx.set j (Rep.mono s2 _ _ rv)⟩)
    | _ => cases e
  | _ => cases e

/-! ### tuples of targets -/
def tGs (K : PySem.W.Frag) (P O O' S : List Nat) (h : List D → Env → Option Env) : TGs := fun vs σ H Q => ∃ B Hf ρ ds ρ', Rl K B P O Hf σ H ρ ∧ RepL K Hf ds vs ∧ h ds ρ = some ρ' ∧ ∀ Hf' σ' H', Same Hf Hf' → Rl K B P O' Hf' σ' H' ρ' → (σ'.length = σ.length ∧ ∀ i, i ∉ S → σ'[i]? = σ[i]?) → Q σ' H'
abbrev GsJ (X : Cx) (P O O' S : List Nat) (es : List Expr) (h : List D → Env → Option Env) : Prop := PGs X es (tGs X.K P O O' S h)
theorem _root_.L2.PGs.imp {X : Cx} {e : List Expr} {t t' : TGs} (h : PGs X e t) (i : ∀ v σ H Q, t' v σ H Q → t v σ H Q) : PGs X e t' := ⟨fun pins s σ H v u Q I r q => h.run pins s σ H v u Q I r (i _ _ _ _ q)⟩
def hNil : List D → Env → Option Env
  | [], ρ => some ρ
  | _, _ => none
def hCons (h : Gh) (hs : List D → Env → Option Env) : List D → Env → Option Env
  | d :: ds, ρ => (h d ρ).bind fun ρ' => hs ds ρ'
  | _, _ => none
theorem gsj_nil : GsJ X P O O [] [] hNil := pgs_nil.imp fun vs σ H Q ⟨B, Hf, ρ, ds, ρ', R, r, e, k⟩ => by
  cases ds with
  | nil =>
    cases e
    have r : vs = [] := r
    exact ⟨r, k Hf σ H (Same.refl _) R ⟨rfl, fun _ _ => rfl⟩⟩
  | cons d ds => cases e
theorem gsj_cons {S1 S2 : List Nat} {hs : List D → Env → Option Env} (h1 : GJ X P O O1 S1 e hh) (h2 : GsJ X P O1 O2 S2 es hs) (hst : (assignEach (e :: es) X.env).map (·.2) = assign e X.env :: (assignEach es X.env).map (·.2) := by rfl) : GsJ X P O O2 (S1 ++ S2) (e :: es) (hCons hh hs) :=
  (pgs_cons h1 h2 hst).imp fun vs σ H Q ⟨B, Hf, ρ, ds, ρ', R, r, e, k⟩ => by
    cases ds with
    | nil => cases e
    | cons d ds =>
      obtain ⟨v, vs', rfl, r1, r2⟩ := r
      obtain ⟨ρ1, e1, e2⟩ := Option.bind_eq_some_iff.mp e
      refine ⟨v, vs', rfl, B, Hf, ρ, d, ρ1, R, r1, e1, fun Hf1 σ1 H1 s1 R1 q1 => ⟨B, Hf1, ρ1, ds, ρ', R1, RepL.mono s1 _ _ r2, e2, fun Hf2 σ2 H2 s2 R2 q2 => k Hf2 σ2 H2 (s1.trans s2) R2 ⟨q2.1.trans q1.1, fun i hi => ?_⟩⟩⟩
      rw [List.mem_append] at hi
      rw [q2.2 i fun z => hi (.inr z), q1.2 i fun z => hi (.inl z)]
/-- (a, b, ..) = a tuple or a list -/
def hTup (n : Nat) (hs : List D → Env → Option Env) : Gh := fun d ρ => match d with
  | .tup ds => if ds.length = n then hs ds ρ else none
  | .lst ds => if ds.length = n then hs ds ρ else none
  | _ => none
theorem pg_or {e : Expr} {t u : TG} (h1 : PG X e t) (h2 : PG X e u) : PG X e (fun v σ H Q => t v σ H Q ∨ u v σ H Q) := ⟨fun pins s σ H v u' Q I r q => q.elim (h1.run pins s σ H v u' Q I r) (h2.run pins s σ H v u' Q I r)⟩
theorem gj_tup {k : Nat} {n : Nat} {hs : List D → Env → Option Env} (hc : X.calm = true) (h : GsJ X P O O1 S es hs) (hn : (assignEach es X.env).length = n := by rfl) (hst : (assignEach es X.env).findIdx? (·.1) = none := by rfl) : GJ X P O O1 S (.Tuple es k pos) (hTup n hs) :=
  (pg_or (pg_tup hc h hn hst) (pg_unl hc h hn hst)).imp fun v σ H Q ⟨B, Hf, ρ, d, ρ', R, r, e, kk⟩ => by
    cases d with
    | tup ds =>
      have e : (if ds.length = n then hs ds ρ else none) = some ρ' := e
      by_cases hl : ds.length = n
      case neg => rw [if_neg hl] at e; cases e
      rw [if_pos hl] at e
      obtain ⟨c, xs, rfl, h1, h2⟩ := r
      exact .inl ⟨c, xs, rfl, sqT_mono R.ex h1, by rw [h2.len]; exact hl, B, Hf, ρ, ds, ρ', R, h2, e, kk⟩
    | lst ds =>
      have e : (if ds.length = n then hs ds ρ else none) = some ρ' := e
      by_cases hl : ds.length = n
      case neg => rw [if_neg hl] at e; cases e
      rw [if_pos hl] at e
      obtain ⟨c, xs, rfl, h1, h2⟩ := r
      exact .inr ⟨c, xs, rfl, SqL.of (R.ex _ _ h1), by rw [h2.len]; exact hl, B, Hf, ρ, ds, ρ', R, h2, e, kk⟩
    | _ => cases e
/-- target = value -/
def cAsg (h : Gh) (g : Gx) : Gs := fun ρ => (g ρ).bind fun p => (h p.1 p.2).map Out.nx
theorem sj_asg (he : EJ X P O e g) (hg : GJ X P O O1 S tg hh) (hs : swapsWithSole [tg] e pos.line X.env = pure false := by rfl) (hw : swappedStores [tg] e X.env = pure none := by rfl)
    (h1 : (assignEach [tg] X.env).map (·.2) = [assign tg X.env] := by rfl) : SJ X P own Ob O O1 (.Assign [tg] e pos) (cAsg hh g) := (ps_asg he hg hs hw h1).imp fun D σ H ⟨B, Hf, ρ, r, R, e, k⟩ => by
  obtain ⟨⟨d, ρ1⟩, h1, e⟩ := Option.bind_eq_some_iff.mp e
  obtain ⟨ρ2, h2, e⟩ := Option.map_eq_some_iff.mp e
  cases e
  exact ⟨B, Hf, ρ, d, ρ1, R, h1, fun Hf1 v H1 s1 R1 rv => ⟨B, Hf1, ρ1, d, ρ2, R1, rv, h2, fun Hf2 σ2 H2 s2 R2 _ => k Hf2 σ2 H2 (s1.trans s2) R2⟩⟩
end

/-! ### a def -/
def outsOf : List Nat → Env → Option (List D)
  | [], _ => some []
  | i :: is, ρ => (ρ[i]?.getD none).bind fun d => (outsOf is ρ).map fun ds => d :: ds
def runB (n m : Nat) (P : List Nat) (own : Bool) (b : Gs) : Fn := fun ds => if ds.length = m then (b (ds.map some ++ List.replicate (n - m) none)).bind fun r => match r with
    | .rt d ρ => (outsOf P ρ).map fun o => (d, o)
    | .nx ρ => if own then none else (outsOf P ρ).map fun o => (.non, o)
    | _ => none
  else none
theorem outsOf_len : ∀ {P : List Nat} {ρ : Env} {o : List D}, outsOf P ρ = some o → o.length = P.length
  | [], _, _, h => by cases h; rfl
  | i :: is, ρ, o, h => by
    obtain ⟨d, h1, h⟩ := Option.bind_eq_some_iff.mp h
    obtain ⟨ds, h2, h⟩ := Option.map_eq_some_iff.mp h
    cases h
    rw [List.length_cons, List.length_cons, outsOf_len h2]
theorem outsOf_get : ∀ {P : List Nat} {ρ : Env} {o : List D} {n i : Nat} {d : D}, outsOf P ρ = some o → P[n]? = some i → o[n]? = some d → ρ[i]? = some (some d)
  | [], _, _, _, _, _, _, h, _ => by simp at h
  | j :: is, ρ, o, 0, i, d, h, h1, h2 => by
    obtain ⟨d', h3, h⟩ := Option.bind_eq_some_iff.mp h
    obtain ⟨ds, h4, h⟩ := Option.map_eq_some_iff.mp h
    cases h
    cases h1
    cases h2
    exact getD_some h3
  | j :: is, ρ, o, n + 1, i, d, h, h1, h2 => by
    obtain ⟨d', h3, h⟩ := Option.bind_eq_some_iff.mp h
    obtain ⟨ds, h4, h⟩ := Option.map_eq_some_iff.mp h
    cases h
    exact outsOf_get (n := n) h4 (by simpa using h1) (by simpa using h2)
section
variable {Pg : Program} {w : World} {K : PySem.W.Frag} {mg : Str → Option Value} {base : Heap}
theorem start_get {N : List Str} {vs : List V} {i : Nat} {v : V} (h : vs[i]? = some v) : (L2.start N vs)[i]? = some (some v) := by
  unfold L2.start
  have hl := (List.getElem?_eq_some_iff.mp h).1
  rw [List.getElem?_append_left (by simpa using hl), List.getElem?_map, h]
  rfl
theorem env_get {n : Nat} {ds : List D} {i : Nat} {d : D} (h : (ds.map some ++ List.replicate n none)[i]? = some (some d)) : ds[i]? = some d := by
  by_cases hl : i < ds.length
  · rw [List.getElem?_append_left (by simpa using hl), List.getElem?_map] at h
    obtain ⟨d', h1, h2⟩ := Option.map_eq_some_iff.mp h
    cases h2
    exact h1
  · rw [List.getElem?_append_right (by simpa using hl), List.getElem?_replicate] at h
    split at h <;> cases h
theorem env_of {n : Nat} {ds : List D} {i : Nat} {d : D} (h : ds[i]? = some d) : (ds.map some ++ List.replicate n none)[i]? = some (some d) := by
  have hl := (List.getElem?_eq_some_iff.mp h).1
  rw [List.getElem?_append_left (by simpa using hl), List.getElem?_map, h]
  rfl
theorem fn_mk {x qual : Str} {st : Stmt} {f : Addr} {fd : FuncData} {N ps : List Str} {k : Nat} {P Oe : List Nat} {own : Bool} {b : Gs} (F : Fun K x qual st f fd) (S : FnScope N ps (defScope st))
    (hb : ∀ (cdv : Value) (A : Around) (outer : List PySem.Env) (s : Shared) (H : Hp) (E : XK), Room k (A.deeper (envOfC qual (defScope st) s.heap.objs.size f cdv)) →
      SSJ (cxOf CX0 Pg w K mg base N qual (defScope st) f cdv A outer s H E).nox P own [] P Oe (defBody st) b) : FnOk Pg w K mg base CX0 (k + 1) f fd ps (spF K (runB N.length ps.length P own b) P own) := by
  have hpl : ps.length ≤ N.length := by have := congrArg List.length S.pre; rw [List.length_take] at this; omega
  have lenD : ∀ {ds : List D} {r : D} {outs : List D}, runB N.length ps.length P own b ds = some (r, outs) → ds.length = ps.length := fun {ds r outs} h => by
    unfold runB at h
    by_cases hl : ds.length = ps.length
    · exact hl
    · rw [if_neg hl] at h; cases h
  refine F.ok S (fun vs H Q E ⟨Hf, ds, r, outs, io, _, _, hl, _, _, _, hF, _⟩ => hl.trans (lenD hF)) (fun cdv A outer s H vs Q E hr h => ⟨_, hb cdv A outer s H E hr, ?_⟩)
  obtain ⟨Hf, ds, r, outs, io, hP, hs, hl, hfz, hio, hsp, hF, hol, hQ⟩ := h
  have hds := lenD hF
  unfold runB at hF
  rw [if_pos hds] at hF
  obtain ⟨ro, h1, hF⟩ := Option.bind_eq_some_iff.mp hF
  have mem : ∀ i, i ∈ P → ∃ p ∈ io, p.1 = i := fun i hi => by
    rw [← hP] at hi
    obtain ⟨p, hp, e⟩ := List.mem_map.mp hi
    exact ⟨p, hp, e⟩
  have R : Rl K ⟨H, Hf, io⟩ P P Hf (L2.start N vs) H (ds.map some ++ List.replicate (N.length - ps.length) none) := by
    refine ⟨hP, hs, ?_, fun i d hi e => ?_, fun i d hi e => ?_, fun i j c d e hi hj e1 e2 e3 e4 => ?_, fun _ _ e _ => e, fun _ _ => rfl, fun p hp => ?_⟩
    · unfold L2.start
      rw [List.length_append, List.length_append, List.length_map, List.length_map, List.length_replicate, List.length_replicate]
      omega
    · obtain ⟨v, h2, h3⟩ := hfz i d (env_get e) hi
      exact ⟨v, start_get h2, h3⟩
    · obtain ⟨p, hp, rfl⟩ := mem i hi
      obtain ⟨d', o, h2, h3, h4, h5, h6⟩ := hio p hp
      rw [env_get e] at h2
      cases h2
      exact ⟨p.2, o, start_get h3, h4, h5, h6, .inr hp⟩
    · obtain ⟨p, hp, rfl⟩ := mem i hi
      obtain ⟨q, hq, rfl⟩ := mem j hj
      obtain ⟨_, _, _, h3, _⟩ := hio p hp
      obtain ⟨_, _, _, h4, _⟩ := hio q hq
      rw [start_get h3] at e3
      rw [start_get h4] at e4
      cases e3
      refine hsp p hp q hq ?_
      injection e4 with e4
      injection e4 with e4
      injection e4 with e4
      exact e4.symm
    · obtain ⟨d', o, h2, h3, h4, h5, h6⟩ := hio p hp
      exact ⟨by rw [← hP]; exact List.mem_map.mpr ⟨p, hp, rfl⟩, start_get h3, d', env_of h2⟩
  have fin : ∀ {Hf' H' : Hp} {ρ' : Env} {os : List D}, outsOf P ρ' = some os → outs = os → Same Hf Hf' → Fin K ⟨H, Hf, io⟩ Hf' H' ρ' → (own = false → ∀ v, Rep K Hf' r v → Q v H') ∧ (own = true → ∀ a o, H a = none → Hf' a = none → H' a = some o → Own K Hf' r o → Q (.ref a) H') := fun {Hf' H' ρ' os} ho he t1 fn => by
    subst he
    refine hQ Hf' H' t1 fn.ex fn.fq fn.fr fun n p d e1 e2 => ?_
    obtain ⟨d', o, h2, h3, h4⟩ := fn.io p (List.mem_of_getElem? e1)
    have : P[n]? = some p.1 := by rw [← hP, List.getElem?_map, e1]; rfl
    have h5 := outsOf_get ho this e2
    rw [h2] at h5
    cases h5
    exact ⟨o, h3, h4⟩
  refine ⟨⟨H, Hf, io⟩, Hf, _, ro, R, h1, ?_⟩
  cases ro with
  | nx ρ' =>
    have hF : (if own = true then none else (outsOf P ρ').map fun o => (D.non, o)) = some (r, outs) := hF
    cases own with
    | true => cases hF
    | false =>
      obtain ⟨os, h2, hF⟩ := Option.map_eq_some_iff.mp hF
      cases hF
      exact fun Hf' σ' H' s1 R1 => (fin h2 rfl s1 R1.fin).1 rfl .non rfl
  | bk ρ' => cases hF
  | ct ρ' => cases hF
  | rt d ρ' =>
    obtain ⟨os, h2, hF⟩ := Option.map_eq_some_iff.mp hF
    cases hF
    exact ⟨fun ho Hf' v H' s1 fn rv => (fin h2 rfl s1 fn).1 ho v rv, fun ho Hf' a o H' s1 fn n hc ha ow => (fin h2 rfl s1 fn).2 ho a o hc n ha ow⟩
end
end G
namespace G
open PySem PySem.Spec PyProof.Rows L2
/-! ### a def of the module, a constant of the module -/
structure Cal (Pg : Program) (w : World) (K : PySem.W.Frag) (mg : Str → Option Value) (base : Heap) (k : Nat) (x : Str) (ps : List Str) (F : Fn) (P : List Nat) (own : Bool) : Prop where
  ex : ∃ f fd, FnOk Pg w K mg base CX0 k f fd ps (spF K F P own) ∧ mg x = some (.ref f) ∧ PySem.W.keepIn K (.ref f) = true ∧ Binds K fd ps []
structure Glb (K : PySem.W.Frag) (mg : Str → Option Value) (x : Str) (d : D) : Prop where
  ex : ∃ v u, mg x = some u ∧ RelV v u ∧ ∀ H, Rep K H d v
section
variable {X : Cx} {P O O1 O2 Ob S vs : List Nat} {own : Bool} {a b e : Expr} {es : List Expr} {ga gb g : Gx} {pos : Pos} {st : Stmt} {sts : List Stmt} {f h : Gs} {gs : Ga}
theorem ej_gl {x : Str} {d : D} (h : Glb X.K X.mg x d) (hg : Gl X x := by rfl) (hd : (x == ("__debug__" : Str)) = false := by decide) : EJ X P O (.Name x pos) (cK d) := by
  obtain ⟨v, u, h1, h2, h3⟩ := h.ex
  exact ej_glob hg h1 h2 h3 hd
section
variable {F : Fn} {Pc : List Nat} {k kr : Nat} {ps : List Str} {x : Str} {p : Pos} {as : List Ar}
theorem ej_call (C : Cal X.prog X.w X.K X.mg X.base k x ps F Pc false) (hr : Room kr X.A) (ha : RJ X P O (e :: es) as) (hk : k ≤ kr := by decide) (hg : Gl X x := by rfl)
    (hP : (slotsR as 0).map (·.1) = Pc := by rfl) (hO : ∀ q ∈ slotsR as 0, q.2 ∈ O := by decide) (hn : ((slotsR as 0).map (·.2)).Nodup := by decide) (hdb : (x == ("__debug__" : Str)) = false := by decide)
    (he : starEach (e :: es) X.env = (false, eval e X.env) :: starEach es X.env := by rfl) (hpl : (backTo pos (starEach es X.env)).any (·.1) = false := by rfl) : EJ X P O (.Call (.Name x p) (e :: es) [] pos) (cUser F as) := by
  obtain ⟨f, fd, h1, h2, h3, h4⟩ := C.ex
  exact ej_user h1 (hr.mono hk) hg h2 h3 h4 ha hP hO hn hdb he hpl
theorem eo_call (C : Cal X.prog X.w X.K X.mg X.base k x ps F Pc true) (hr : Room kr X.A) (ha : RJ X P O (e :: es) as) (hk : k ≤ kr := by decide) (hg : Gl X x := by rfl)
    (hP : (slotsR as 0).map (·.1) = Pc := by rfl) (hO : ∀ q ∈ slotsR as 0, q.2 ∈ O := by decide) (hn : ((slotsR as 0).map (·.2)).Nodup := by decide) (hdb : (x == ("__debug__" : Str)) = false := by decide)
    (he : starEach (e :: es) X.env = (false, eval e X.env) :: starEach es X.env := by rfl) (hpl : (backTo pos (starEach es X.env)).any (·.1) = false := by rfl) : EO X P O (.Call (.Name x p) (e :: es) [] pos) (cUser F as) := by
  obtain ⟨f, fd, h1, h2, h3, h4⟩ := C.ex
  exact eo_user h1 (hr.mono hk) hg h2 h3 h4 ha hP hO hn hdb he hpl
end
/-! built-ins by name -/
section
variable {p : Pos}
theorem ej_len (hm : X.mg "len" = none) (ha : AJ X P O (e :: es) gs) (hg : Gl X "len" := by rfl) (he : starEach (e :: es) X.env = (false, eval e X.env) :: starEach es X.env := by rfl) (hpl : (backTo pos (starEach es X.env)).any (·.1) = false := by rfl) :
    EJ X P O (.Call (.Name "len" p) (e :: es) [] pos) (cCall lenD gs) := ej_callB call_lenA len_d hg hm PySem.boot_len ha (by decide) (by decide) he hpl
theorem ej_abs (hm : X.mg "abs" = none) (ha : AJ X P O (e :: es) gs) (hg : Gl X "abs" := by rfl) (he : starEach (e :: es) X.env = (false, eval e X.env) :: starEach es X.env := by rfl) (hpl : (backTo pos (starEach es X.env)).any (·.1) = false := by rfl) :
    EJ X P O (.Call (.Name "abs" p) (e :: es) [] pos) (cCall absD gs) := ej_callB call_abs abs_d hg hm (by decide +kernel) ha (by decide) (by decide) he hpl
theorem ej_intc (hm : X.mg "int" = none) (ha : AJ X P O (e :: es) gs) (hg : Gl X "int" := by rfl) (he : starEach (e :: es) X.env = (false, eval e X.env) :: starEach es X.env := by rfl) (hpl : (backTo pos (starEach es X.env)).any (·.1) = false := by rfl) :
    EJ X P O (.Call (.Name "int" p) (e :: es) [] pos) (cCall intD gs) := ej_callTy call_int1 int_d hg hm (by decide +kernel) ha (by decide) (by decide) he hpl
theorem ej_gcd (hm : X.mg "gcd" = some (.builtin "math.gcd")) (ha : AJ X P O (e :: es) gs) (hg : Gl X "gcd" := by rfl) (he : starEach (e :: es) X.env = (false, eval e X.env) :: starEach es X.env := by rfl) (hpl : (backTo pos (starEach es X.env)).any (·.1) = false := by rfl) :
    EJ X P O (.Call (.Name "gcd" p) (e :: es) [] pos) (cCall gcdD gs) := ej_callFun cr_gcd gcd_d hg hm ha (by decide) he hpl
end
/-! owned slots, at the end of a block -/
theorem Rl.to {K : PySem.W.Frag} {B : Bs} {Hf H : Hp} {σ : St} {ρ : Env} (R : Rl K B P O Hf σ H ρ) (h1 : ∀ i ∈ O, i ∈ O1) (h2 : ∀ i ∈ O1, i ∈ O) : Rl K B P O1 Hf σ H ρ :=
  ⟨R.iop, R.ex, R.ln, fun i d hi => R.fz i d fun z => hi (h1 i z), fun i d hi => R.ow i d (h2 i hi), fun i j a d e hi hj => R.sp i j a d e (h2 i hi) (h2 j hj), R.fr, R.fq, fun p hp => let ⟨q1, q2⟩ := R.ios p hp; ⟨h1 _ q1, q2⟩⟩
theorem ss_to (h : SSJ X P own Ob O O2 sts f) (h1 : ∀ i ∈ O2, i ∈ O1 := by decide) (h2 : ∀ i ∈ O1, i ∈ O2 := by decide) : SSJ X P own Ob O O1 sts f := PSs.imp h fun D σ H ⟨B, Hf, ρ, r, R, e, k⟩ => by
  refine ⟨B, Hf, ρ, r, R, e, ?_⟩
  cases r with
  | nx ρ' => exact fun Hf' σ' H' s R' => k Hf' σ' H' s (R'.to h1 h2)
  | bk ρ' => exact k
  | ct ρ' => exact k
  | rt d ρ' => exact k
end
/-! ### the law's end -/
theorem law_sp {K : PySem.W.Frag} {F : Fn} {H : Hp} {a : Addr} {ns : List Int} (hS : SqL K H a (ns.map V.int)) (hF : F [.scr ns] = some (.bl true, [])) : spF K F [] false [.ref a] H (fun v _ => v = .bl true) fun _ _ _ => False :=
  ⟨H, [.scr ns], .bl true, [], [], rfl, Same.refl _, rfl, fun j d hj _ => by
    cases j with
    | zero => cases hj; exact ⟨.ref a, rfl, a, rfl, hS⟩
    | succ j => simp at hj, fun p hp => absurd hp (by simp), fun p hp => absurd hp (by simp), hF, rfl, fun Hf' H' _ _ _ _ _ => ⟨fun _ v rv => rv, fun z => absurd z (by decide)⟩⟩
end G
namespace G
open PySem PySem.Spec PyProof.Rows L2
/-! ### enumerate of a tuple or a text -/
set_option maxHeartbeats 4000000 in
theorem enum_new1 {v : Value} {o : Obj} {Hh : Heap → Prop} (B : Begins v o Hh) :
    Meets (Builtin.«enumerate.__new__» ⟨[.type "enumerate", v], []⟩) (fun _ R s => Hh s.heap ∧
      R (.ok (.ret (.ref (s.heap.push o).objs.size))) { s with heap := (s.heap.push o).push { cls := .type "enumerate", data := .fields #[.none, .bool false, .ref s.heap.objs.size, rawInt 0, .none, .none] } }) :=
  .of_wp fun prog w A R s h => by
    obtain ⟨hp, g, d, tk, os⟩ := s
    obtain ⟨h1, h⟩ := h
    have hsub := sub_enumerate
    have hi : ∀ {A' : Around} {E : Value → Shared → Prop} {Q : Value → Shared → Prop}, Q (.ref hp.objs.size) ⟨hp.push o, g, d, tk, os⟩ → wpAny (model prog w) A' (pyIter v) Q E ⟨hp, g, d, tk, os⟩ :=
      fun q => B.iter prog w _ _ ⟨hp, g, d, tk, os⟩ _ h1 q
    wp_walk using hi
    refine wpAny_stack_any fun st => wpAny_pure ?_
    split
    · rename_i c _ _ _ _ _
      cases (c == Value.type "enumerate") <;> (wp_walk using hi; exact ⟨_, rfl, h⟩)
    · wp_walk using hi
      exact ⟨_, rfl, h⟩
theorem enum_call1 {prog : Program} {w : World} {A : Around} {E : Value → Shared → Prop} {s : Shared} {v : Value} {o : Obj} {Hh : Heap → Prop} {Q : Value → Shared → Prop} (B : Begins v o Hh) (h1 : Hh s.heap)
    (h : ∀ h', IsEnum h' (s.heap.objs.size + 1) s.heap.objs.size 0 .none → h'.get? s.heap.objs.size = some o → (∀ b o, s.heap.get? b = some o → h'.get? b = some o) → Q (.ref (s.heap.objs.size + 1)) { s with heap := h' }) :
    wpAny (model prog w) A (call (.type "enumerate") [v]) Q E s := by
  refine callType_new F.called_enumerate (by decide) (F.typeCall_enumerate_1 _) (F.newCall_enumerate_1 _) (fun obj => F.args_object_init_2 obj _) F.entry_enumerate_new (enum_new1 B) ⟨h1, ?_⟩
  have hz : (s.heap.push o).objs.size = s.heap.objs.size + 1 := Heap.size_push ..
  show _ ∧ _
  rw [hz]
  have he : IsEnum ((s.heap.push o).push { cls := .type "enumerate", data := .fields #[.none, .bool false, .ref s.heap.objs.size, rawInt 0, .none, .none] }) (s.heap.objs.size + 1) s.heap.objs.size 0 .none := by
    have q := Heap.get?_push_size (s.heap.push o) (o := { cls := .type "enumerate", data := .fields #[.none, .bool false, .ref s.heap.objs.size, rawInt 0, .none, .none] }) rfl
    rw [hz] at q
    exact q
  exact ⟨⟨_, he, rfl⟩, h _ he (Heap.get?_push_of_some _ (Heap.get?_push_size _ B.free)) fun b u x => Heap.get?_push_of_some _ (Heap.get?_push_of_some _ x)⟩
/-- what is walked, each item in a new pair with its number -/
def EnI (J : It) : It := ⟨J.go, fun i H v H' => ∃ T x, v = .ref T ∧ H T = none ∧ H' = upd H T (.tup [.int (i : Nat), x]) ∧ J.yld i H x H, J.stop⟩
/-- what an iterator at it draws of J -/
structure Dw (P : Program) (w : World) (K : PySem.W.Frag) (J : It) (e it : Addr) (tn : Nat → Heap → Prop) : Prop where
  obj : ∀ i h, tn i h → ∃ o, h.get? it = some o ∧ ∀ v, o.data ≠ .cell v
  keep : ∀ i h h', tn i h → (∀ o, h.get? it = some o → h'.get? it = some o) → tn i h'
  item : ∀ (X : Cx), X.prog = P → X.w = w → X.K = K → X.calm = true → ∀ (i : Nat) (pins : List (Addr × Obj)) (s : Shared) (σ : St) (H : Hp), Inv X pins σ H s → tn i s.heap → J.go i H → H e = none → H it = none →
    ∃ fp n Pv St, Draws P w X.A.in1 it fp n Pv St ∧ e ∉ fp ∧ St i s.heap ∧ i < n ∧ (∀ v, Pv i v → ∃ x, RelV x v ∧ J.yld i H x H) ∧ ∀ h, St (i + 1) h → tn (i + 1) h
  done : ∀ (X : Cx), X.prog = P → X.w = w → X.K = K → X.calm = true → ∀ (i : Nat) (pins : List (Addr × Obj)) (s : Shared) (σ : St) (H : Hp), Inv X pins σ H s → tn i s.heap → J.stop i H →
    ∃ fp n Pv St, Draws P w X.A.in1 it fp n Pv St ∧ St n s.heap
theorem turn_enumD {P : Program} {w : World} {K : PySem.W.Frag} {elts : List Expr} {kk : Nat} {tpos : Pos} {J : It} {e it : Addr} {tn : Nat → Heap → Prop} (W : Dw P w K J e it tn) (hne : e ≠ it) :
    Turn P w K (.Tuple elts kk tpos) (EnI J) [e, it] e (fun i h => (∃ old, IsEnum h e it ((i : Nat) : Int) old) ∧ tn i h) where
  mem := by simp
  obj := fun i h st b hb => by
    obtain ⟨⟨old, he⟩, ht⟩ := st
    have e' : b = e ∨ b = it := by simpa using hb
    rcases e' with z | z
    · rw [z]; exact ⟨_, he, fun v q => nomatch q⟩
    · rw [z]; exact W.obj i h ht
  keep := fun i h h' st k => let ⟨⟨old, he⟩, ht⟩ := st; ⟨⟨old, k e (by simp) _ he⟩, W.keep i h h' ht fun o q => k it (by simp) o q⟩
  item := by
    intro X hP hw hK hc i pins s σ H E I hf st hg
    obtain ⟨⟨old, he⟩, ht⟩ := st
    obtain ⟨fp, n, Pv, St, Dr, hef, hst, hlt, hpv, hnx⟩ := W.item X hP hw hK hc i pins s σ H I ht hg (hf e (by simp)).1 (hf it (by simp)).1
    subst hP hw hK
    have hel : e < s.heap.objs.size := Heap.lt_size he
    have hil : it < s.heap.objs.size := by obtain ⟨_, q⟩ := Dr.live _ _ hst; exact Heap.lt_size q
    refine wpAny_pyNext_enum_itemD Dr he hst hlt hne hef fun u h' tk hu ho hst' hT hsz hk => ?_
    obtain ⟨x, ru, hy⟩ := hpv u hu
    refine ⟨_, rfl, wpAny_letOwnedTupleGo_enum (s := { s with heap := h', toks := tk + 1 }) ho fun h'' he' sb => ?_⟩
    have hT2 : h''.get? s.heap.objs.size = some { cls := .type "tuple", data := .seq #[.int i tk, u] } := (sb.2 _ (Nat.ne_of_gt hel)).trans hT
    have new : ObjOk X.prog X.w (upd H s.heap.objs.size (.tup [.int (i : Nat), x])) h'' s.heap.objs.size (.tup [.int (i : Nat), x]) :=
      ⟨by show 2 ≤ sizeLine; decide, [.int i tk, u], .cons ⟨_, rfl⟩ (.cons ru .nil), ⟨_, hT2, rfl, _, rfl⟩⟩
    have I1 : Inv X pins σ (upd H s.heap.objs.size (.tup [.int (i : Nat), x])) { s with heap := h'', toks := tk + 1 } :=
      I.turnedNew (ch := [e, it]) (fun b ob hb q => (sb.2 b (fun z => hb (by simp [z]))).trans (hk b ob (fun z => hb (by simp [z])) (fun z => hb (by simp [z])) q)) hf (Nat.le_refl _) new
    refine ⟨.ref s.heap.objs.size, _, I1, rfl, ⟨_, x, rfl, I.hok.fresh (Nat.le_refl _), rfl, hy⟩, ⟨⟨u, ?_⟩, W.keep _ _ _ (hnx _ hst') fun o q => (sb.2 it (Ne.symm hne)).trans q⟩, fun b hb => ?_⟩
    · have e1 : ((i + 1 : Nat) : Int) = (i : Int) + 1 := by omega
      rw [e1]; exact he'
    · have hb' : b < s.heap.objs.size := by
        have e' : b = e ∨ b = it := by simpa using hb
        rcases e' with z | z
        · rw [z]; exact hel
        · rw [z]; exact hil
      rw [upd_ne (Nat.ne_of_lt hb')]
      exact (hf b hb).1
  done := by
    intro X hP hw hK hc i pins s σ H E I hf st hg
    obtain ⟨⟨old, he⟩, ht⟩ := st
    obtain ⟨fp, n, Pv, St, Dr, hst⟩ := W.done X hP hw hK hc i pins s σ H I ht hg
    subst hP hw hK
    obtain ⟨f0, f1, f2, f3, f4, f5⟩ := hf it (by simp)
    exact wpAny_pyNext_enum_endD Dr he hst fun h' eb => ⟨rfl, I.turned (t' := s.toks) (fun b o hb q => eb b o hb q) f0 f1 f3 f4 f5⟩
  self := fun A i s Q E st h => let ⟨⟨_, he⟩, _⟩ := st; wpAny_pyIter_enum he h
theorem dw_tup {P : Program} {w : World} {K : PySem.W.Frag} {a e it : Addr} (hea : e ≠ a) (hia : it ≠ a) (hei : e ≠ it) : Dw P w K (Itt K a) e it (fun i h => h.IsTupleIter it a i) where
  obj := fun i h ⟨o, ho, _, hd⟩ => ⟨o, ho, fun v z => by rw [hd] at z; cases z⟩
  keep := fun i h h' st k => st.at fun o q => k o q
  item := by
    intro X hP hw hK hc i pins s σ H I ht hg he hi
    subst hP hw hK
    obtain ⟨xs, x, hq, hx⟩ := hg
    obtain ⟨its, rv, p, hz⟩ := I.tuple hq
    obtain ⟨u, hu, ru⟩ := rv.get hx
    refine ⟨_, _, _, _, Draws.tuple (A := X.A.in1) (I.ok.hd hc) it a (Ne.symm hia) its.toArray, by simp [hea, hei], ⟨ht, p⟩, ?_, fun v hv => ⟨x, ?_, rfl, fun ys hy => by rw [I.tuple_inj hy hq]; exact hx⟩, fun h q => q.1⟩
    · have := (List.getElem?_eq_some_iff.mp hu).1
      simpa using this
    · have : v = u := by
        have hv' : its[i]? = some v := by simpa using hv
        rw [hu] at hv'
        exact (Option.some.inj hv').symm
      rw [this]; exact ru
  done := by
    intro X hP hw hK hc i pins s σ H I ht hg
    subst hP hw hK
    obtain ⟨xs, hq, hx⟩ := hg
    obtain ⟨its, rv, p, hz⟩ := I.tuple hq
    have hl := rv.length
    have hp : s.heap.IsTuple a its.toArray := p
    refine ⟨[it, a], i, fun _ _ => False, fun j h => j = i ∧ h.IsTupleIter it a i ∧ h.IsTuple a its.toArray, ⟨fun j h st => ?_, fun j h h' st hk => ?_, fun j s' Q E' hj st => ?_, fun s' Q E' st hE => ?_⟩, rfl, ht, p⟩
    · obtain ⟨_, ⟨o, ho, _⟩, _⟩ := st
      exact ⟨o, ho⟩
    · exact ⟨st.1, st.2.1.at fun o q => hk it (by simp) o q, st.2.2.at fun o q => hk a (by simp) o q⟩
    · exact absurd st.1 (Nat.ne_of_lt hj)
    · exact wpAny_nextOf_tuple_end (A := X.A.in1) (I.ok.hd hc) st.2.1 st.2.2 (by simp; omega) hE
theorem dw_str {P : Program} {w : World} {K : PySem.W.Frag} {e it : Addr} {x : Str} {t : Tok} (hei : e ≠ it) : Dw P w K (Its x) e it (fun i h => h.IsStrIter it (strIterType x) x t i ∧ i ≤ x.cps.size) where
  obj := fun i h ⟨⟨o, ho, _, hd⟩, _⟩ => ⟨o, ho, fun v z => by rw [hd] at z; cases z⟩
  keep := fun i h h' st k => let ⟨⟨o, ho, r⟩, q⟩ := st; ⟨⟨o, k o ho, r⟩, q⟩
  item := by
    intro X hP hw hK hc i pins s σ H I ht hg he hi
    subst hP hw hK
    have hg : i < x.cps.size := hg
    refine ⟨_, _, _, _, Draws.text (A := X.A.in1) (I.ok.hd hc) it x t, by simp [hei], ht.1, hg, fun v hv => ?_, fun h q => ⟨q, hg⟩⟩
    obtain ⟨c, u, h1, rfl⟩ := hv
    exact ⟨.str ⟨#[c]⟩, ⟨u, rfl⟩, rfl, c, h1, rfl⟩
  done := by
    intro X hP hw hK hc i pins s σ H I ht hg
    subst hP hw hK
    have hg : x.cps.size ≤ i := hg
    have : i = x.cps.size := Nat.le_antisymm ht.2 hg
    subst this
    exact ⟨_, _, _, _, Draws.text (A := X.A.in1) (I.ok.hd hc) it x t, ht.1⟩
def iEnumA (K : PySem.W.Frag) (te : TE) : TI := fun σ H R => te σ H fun v H1 => (∃ a xs, v = .ref a ∧ SqL K H1 a xs ∧ R (Ite K a) H1) ∨ (∃ a xs, v = .ref a ∧ SqT K H1 a xs ∧ R (EnI (Itt K a)) H1) ∨ ∃ x, v = .str x ∧ R (EnI (Its x)) H1
theorem pi_enumA {X : Cx} {e : Expr} {te : TE} {p pos tpos : Pos} {elts : List Expr} {kk : Nat} (hg : Gl X "enumerate") (hm : X.mg "enumerate" = none) (ha : PE X e te) (hs : starEach [e] X.env = (false, eval e X.env) :: starEach [] X.env := by rfl) :
    PI X (.Tuple elts kk tpos) (.Call (.Name "enumerate" p) [e] [] pos) (iEnumA X.K te) := by
  refine ⟨fun pins s σ H R I h => ?_⟩
  refine Call_ (ld_blt I hg hm boot_enumerate (PyProof.Rows.callWith_type1 (one_arg ha I h (fun v s1 x H1 I1 r1 q1 => ?_) hs) hs rfl))
  have fin : ∀ (s' : Shared) (J : It) (tn : Nat → Heap → Prop) (o : Obj) (Hb : Heap → Prop), Inv X pins σ H1 s' → Begins v o Hb → Hb s'.heap → Dw X.prog X.w X.K J (s'.heap.objs.size + 1) s'.heap.objs.size tn → (∀ h', h'.get? s'.heap.objs.size = some o → tn 0 h') → R (EnI J) H1 →
      wpAny (model X.prog X.w) X.A (call (.type "enumerate") [v]) (fun v' s1 => wpAny (model X.prog X.w) X.A (pyIter v') (PIE X pins σ (.Tuple elts kk tpos) R) X.xe s1) X.xe s' := fun s' J tn o Hb I' B hb W ht q => by
    refine enum_call1 B hb fun h' he hit hk => wpAny_pyIter_enum he ?_
    have I2 : Inv X pins σ H1 { s' with heap := h' } := I'.kept (t' := s'.toks) hk
    refine ⟨s'.heap.objs.size + 1, [s'.heap.objs.size + 1, s'.heap.objs.size], _, _, H1, rfl, I2, turn_enumD W (Nat.succ_ne_self _), ⟨⟨.none, he⟩, ht _ hit⟩, fun b hb => ?_, q⟩
    have e' : b = s'.heap.objs.size + 1 ∨ b = s'.heap.objs.size := by simpa using hb
    have hle : s'.heap.objs.size ≤ b := by
      rcases e' with z | z
      · rw [z]; exact Nat.le_add_right _ _
      · rw [z]; exact Nat.le_refl _
    exact I'.fpOk hle (I'.hok.fresh hle)
  rcases q1 with ⟨a, xs, rfl, hq, q⟩ | ⟨a, xs, rfl, hq, q⟩ | ⟨z, rfl, q⟩
  · obtain rfl : v = Value.ref a := r1
    obtain ⟨its, rv, p', hz⟩ := I1.list hq
    refine call_enumerate_list p'.isList fun h' he hit hsz hk => wpAny_pyIter_enum he ?_
    have I2 : Inv X pins σ H1 { s1 with heap := h' } := I1.kept (t' := s1.toks) hk
    refine ⟨s1.heap.objs.size + 1, [s1.heap.objs.size + 1, s1.heap.objs.size], _, _, H1, rfl, I2, turn_enum a (s1.heap.objs.size + 1) s1.heap.objs.size, ⟨⟨.none, he⟩, hit, Nat.succ_ne_self _⟩, fun b hb => ?_, q⟩
    have e' : b = s1.heap.objs.size + 1 ∨ b = s1.heap.objs.size := by simpa using hb
    have hle : s1.heap.objs.size ≤ b := by
      rcases e' with z | z
      · rw [z]; exact Nat.le_add_right _ _
      · rw [z]; exact Nat.le_refl _
    exact I1.fpOk hle (I1.hok.fresh hle)
  · obtain rfl : v = Value.ref a := r1
    obtain ⟨its, rv, p', hz⟩ := I1.tuple hq
    have hp : s1.heap.IsTuple a its.toArray := p'
    have hal : a < s1.heap.objs.size := by obtain ⟨o, ho, _⟩ := hp; exact Heap.lt_size ho
    exact fin s1 (Itt X.K a) _ _ _ I1 (begins_tuple a its.toArray) p' (dw_tup (Nat.ne_of_gt (Nat.lt_succ_of_lt hal)) (Nat.ne_of_gt hal) (Nat.succ_ne_self _)) (fun h' e => ⟨_, e, rfl, rfl⟩) q
  · obtain ⟨t, rfl⟩ : ∃ t, v = .str z t := r1
    exact fin s1 (Its z) _ _ _ I1 (begins_text z t) trivial (dw_str (t := t) (Nat.succ_ne_self _)) (fun h' e => ⟨⟨_, e, rfl, rfl⟩, Nat.zero_le _⟩) q
section
variable {X : Cx} {P O O1 O2 Ob S : List Nat} {own : Bool} {a b e : Expr} {es : List Expr} {ga gb g : Gx} {pos : Pos} {gs : Ga}
def enD (ds : List D) : List D := ds.mapIdx fun i d => .tup [.int (i : Nat), d]
def cEn (g : Gx) : Ga := fun ρ => (g ρ).bind fun p => (itemsD p.1).map fun ds => (enD ds, p.2)
theorem enD_get {ds : List D} {i : Nat} {d : D} (h : (enD ds)[i]? = some d) : ∃ d', ds[i]? = some d' ∧ d = .tup [.int (i : Nat), d'] := by
  unfold enD at h
  rw [List.getElem?_mapIdx] at h
  obtain ⟨d', h1, h2⟩ := Option.map_eq_some_iff.mp h
  exact ⟨d', h1, h2.symm⟩
theorem wk_pair {K : PySem.W.Frag} {Hf1 H H' : Hp} {i : Nat} {T : Addr} {u x : V} {d : D} (s2 : Same Hf1 H) (hT : H T = none) (hu : u = .ref T) (hH : H' = upd H T (.tup [.int (i : Nat), x])) (r : Rep K Hf1 d x) :
    ∃ Hf', Gr Hf1 H Hf' H' ∧ Rep K Hf' (.tup [.int (i : Nat), d]) u := by
  subst hu hH
  have gr : Gr Hf1 H (upd Hf1 T (.tup [.int (i : Nat), x])) (upd H T (.tup [.int (i : Nat), x])) := Gr.new s2 hT
  exact ⟨_, gr, T, _, rfl, SqT.of upd_same, RepL.mono gr.s1 _ _ (RepL.cons (show Rep K Hf1 (.int (i : Nat)) (.int (i : Nat)) from rfl) (RepL.cons r RepL.nil))⟩
theorem wk_enL {K : PySem.W.Frag} {Hf : Hp} {a : Addr} {xs : List V} {ds : List D} (h : ∀ Hf', Same Hf Hf' → SqL K Hf' a xs) (r : RepL K Hf ds xs) : Wk K (Ite K a) (enD ds) Hf := fun Hf1 H s1 s2 => by
  have hq : SqL K H a xs := s2.seq (h Hf1 s1)
  refine ⟨fun i d hd => ?_, ⟨xs, hq, by rw [r.len]; unfold enD; rw [List.length_mapIdx]; exact Nat.le_refl _⟩⟩
  obtain ⟨d', hd', rfl⟩ := enD_get hd
  obtain ⟨v, h1, h2⟩ := r.get hd'
  refine ⟨⟨xs, v, hq, h1⟩, fun u H' hy => ?_⟩
  obtain ⟨T, x, hu, hT, hH, hx⟩ := hy
  have := hx xs hq
  rw [h1] at this
  cases this
  exact wk_pair s2 hT hu hH (Rep.mono s1 _ _ h2)
theorem wk_en {K : PySem.W.Frag} {Hf : Hp} {J : It} {ds : List D} (w : Wk K J ds Hf) (hs : ∀ i H x H', J.yld i H x H' → H' = H) : Wk K (EnI J) (enD ds) Hf := fun Hf1 H s1 s2 => by
  obtain ⟨w1, w2⟩ := w Hf1 H s1 s2
  refine ⟨fun i d hd => ?_, by unfold enD; rw [List.length_mapIdx]; exact w2⟩
  obtain ⟨d', hd', rfl⟩ := enD_get hd
  obtain ⟨g1, g2⟩ := w1 i d' hd'
  refine ⟨g1, fun u H' hy => ?_⟩
  obtain ⟨T, x, hu, hT, hH, hx⟩ := hy
  obtain ⟨Hf2, gr, rx⟩ := g2 x H hx
  subst hu hH
  have gr2 : Gr Hf2 H (upd Hf2 T (.tup [.int (i : Nat), x])) (upd H T (.tup [.int (i : Nat), x])) := Gr.new gr.s2 hT
  exact ⟨_, gr.trans gr2, T, _, rfl, SqT.of upd_same, RepL.mono gr2.s1 _ _ (RepL.cons (show Rep K Hf2 (.int (i : Nat)) (.int (i : Nat)) from rfl) (RepL.cons rx RepL.nil))⟩
theorem ij_enum {p tpos : Pos} {elts : List Expr} {kk : Nat} (hm : X.mg "enumerate" = none) (he : EJ X P O e g) (hg : Gl X "enumerate" := by rfl) (hs : starEach [e] X.env = (false, eval e X.env) :: starEach [] X.env := by rfl) :
    IJ X P O (.Tuple elts kk tpos) (.Call (.Name "enumerate" p) [e] [] pos) (cEn g) :=
  (pi_enumA hg hm he hs).imp fun σ H R ⟨B, Hf, ρ, ds, ρ', Rr, q, k⟩ => by
    obtain ⟨⟨d, ρ1⟩, h1, q⟩ := Option.bind_eq_some_iff.mp q
    obtain ⟨ds', h2, q⟩ := Option.map_eq_some_iff.mp q
    cases q
    refine ⟨B, Hf, ρ, d, _, Rr, h1, fun Hf1 v H1 s1 R1 rv => ?_⟩
    cases d with
    | lst xs =>
      cases h2
      obtain ⟨a, us, rfl, h3, h4⟩ := rv
      exact .inl ⟨a, us, rfl, SqL.of (R1.ex _ _ h3), k Hf1 _ H1 s1 R1 (wk_enL (fun Hf' s => SqL.of (s _ _ h3)) h4)⟩
    | tup xs =>
      cases h2
      obtain ⟨a, us, rfl, h3, h4⟩ := rv
      exact .inr (.inl ⟨a, us, rfl, sqT_mono R1.ex h3, k Hf1 _ H1 s1 R1 (wk_en (wk_tup h3 h4) fun _ _ _ _ q => q.1)⟩)
    | scr ns =>
      cases h2
      obtain ⟨a, rfl, h3⟩ := rv
      exact .inl ⟨a, _, rfl, R1.ex.seq h3, k Hf1 _ H1 s1 R1 (wk_enL (fun Hf' s => s.seq h3) (RepL.ofInts _))⟩
    | str z =>
      cases h2
      exact .inr (.inr ⟨z, rv, k Hf1 _ H1 s1 R1 (wk_en wk_str fun _ _ _ _ q => q.1)⟩)
    | _ => cases h2
end
end G
namespace G
open PySem PySem.Spec PyProof.Rows L2
section
variable {X : Cx} {P O O1 O2 Ob S : List Nat} {own : Bool} {a b e : Expr} {es : List Expr} {ga gb g : Gx} {pos : Pos} {gs : Ga}
theorem _root_.L2.Room.units65 {k : Nat} {A : Around} (r : Room k A) : A.units + 65 < cLine := by have := r.un; omega
/-! ### is True, is not True -/
def isB : D → D → Option D
  | .bl a, .bl b => some (.bl (decide (a = b)))
  | _, _ => none
def notB : D → D → Option D
  | .bl a, .bl b => some (.bl (!decide (a = b)))
  | _, _ => none
theorem isB_d {K : PySem.W.Frag} : OpD K rIsB isB := fun Hf H d e z x y s rx ry hf Q k => by
  match d, e, hf with
  | .bl a, .bl b, hf =>
    cases hf
    exact ⟨a, b, rx, ry, k Hf _ H (Gr.refl s) rfl⟩
theorem notB_d {K : PySem.W.Frag} : OpD K rNotB notB := fun Hf H d e z x y s rx ry hf Q k => by
  match d, e, hf with
  | .bl a, .bl b, hf =>
    cases hf
    exact ⟨a, b, rx, ry, k Hf _ H (Gr.refl s) rfl⟩
theorem ej_isB (ha : EJ X P O a ga) (hb : EJ X P O b gb) : EJ X P O (.Compare a [.Is] [b] pos) (cOp isB ga gb) := ej_cmp op_isBl isB_d ha hb (nomark _)
theorem ej_isnotB (ha : EJ X P O a ga) (hb : EJ X P O b gb) : EJ X P O (.Compare a [.IsNot] [b] pos) (cOp notB ga gb) := ej_cmp op_notBl notB_d ha hb (nomark _)
theorem tj_isB (ha : EJ X P O a ga) (hb : EJ X P O b gb) : TJ X P O (.Compare a [.Is] [b] pos) (cTest (cOp isB ga gb)) := tj_cmp op_isBl isB_d ha hb (nomark _)
theorem tj_isnotB (ha : EJ X P O a ga) (hb : EJ X P O b gb) : TJ X P O (.Compare a [.IsNot] [b] pos) (cTest (cOp notB ga gb)) := tj_cmp op_notBl notB_d ha hb (nomark _)
theorem tj_is (ha : EJ X P O a ga) (hb : EJ X P O b gb) : TJ X P O (.Compare a [.Is] [b] pos) (cTest (cOp isN ga gb)) := tj_cmp op_isN isN_d ha hb (nomark _)
theorem tj_isnot (ha : EJ X P O a ga) (hb : EJ X P O b gb) : TJ X P O (.Compare a [.IsNot] [b] pos) (cTest (cOp notN ga gb)) := tj_cmp op_notN notN_d ha hb (nomark _)
/-! ### in, not in -/
def inL (d : D) (ds : List D) : Bool := ds.any fun z => D.eqv z d
def flatD : D → Bool
  | .non | .bl _ | .int _ | .str _ => true
  | _ => false
def inB : D → D → Option Bool
  | .str x, .str z => match x.cps.toList with
    | [c] => some (decide (c ∈ z.cps.toList))
    | _ => none
  | d, .lst ds => if D.shp d = true ∧ D.shp (.lst ds) = true then some (inL d ds) else none
  | d, .tup ds => if flatD d = true ∧ ds.all flatD = true then some (inL d ds) else none
  | _, _ => none
def inD (d e : D) : Option D := (inB d e).map D.bl
def notInD (d e : D) : Option D := (inB d e).map fun b => .bl !b
theorem flat_v {K : PySem.W.Frag} {H : Hp} {d : D} {v : V} (h : flatD d = true) (r : Rep K H d v) : flatV v = true := by
  cases d <;> first | (cases (show v = _ from r); rfl) | exact absurd h Bool.false_ne_true
theorem flat_vs {K : PySem.W.Frag} {H : Hp} : ∀ {ds : List D} {xs : List V}, ds.all flatD = true → RepL K H ds xs → xs.all flatV = true
  | [], _, _, r => by rw [show _ = _ from r]; rfl
  | d :: ds, _, h, ⟨v, vs, e, r1, r2⟩ => by
    rw [List.all_cons, Bool.and_eq_true] at h
    rw [e, List.all_cons, flat_v h.1 r1, flat_vs h.2 r2]
    rfl
theorem eqV_py {K : PySem.W.Frag} {H : Hp} {d e : D} {v u : V} (h : flatD d = true) (h' : flatD e = true) (r : Rep K H d v) (r' : Rep K H e u) : eqV v u = D.eqv d e := by
  cases d <;> (first | exact absurd h Bool.false_ne_true | skip) <;> cases (show v = _ from r) <;> cases e <;> (first | exact absurd h' Bool.false_ne_true | skip) <;> cases (show u = _ from r') <;> (first | rfl | (unfold D.eqv; rw [D.py, D.py]; simp only [PyData.eqv]; rfl) | (unfold D.eqv; rw [D.py]; simp only [PyData.eqv]; rfl))
theorem inV_py {K : PySem.W.Frag} {H : Hp} {d : D} {v : V} (h : flatD d = true) (r : Rep K H d v) : ∀ {ds : List D} {xs : List V}, ds.all flatD = true → RepL K H ds xs → inV v xs = inL d ds
  | [], _, _, q => by rw [show _ = _ from q]; rfl
  | e :: ds, _, h', ⟨u, us, q, r1, r2⟩ => by
    rw [List.all_cons, Bool.and_eq_true] at h'
    subst q
    show (eqV u v || inV v us) = (D.eqv e d || inL d ds)
    rw [inV_py h r h'.2 r2, eqV_py h'.1 h r1 r]
def rInG (K : PySem.W.Frag) : R2 := fun x y H Q => (∃ (c : Nat) (z : Str), x = .str ⟨#[c]⟩ ∧ y = .str z ∧ Q (.bl (decide (c ∈ z.cps.toList))) H) ∨ rInD K x y H Q ∨ rIn K false x y H Q
def rNotInG (K : PySem.W.Frag) : R2 := fun x y H Q => (∃ (c : Nat) (z : Str), x = .str ⟨#[c]⟩ ∧ y = .str z ∧ Q (.bl (!decide (c ∈ z.cps.toList))) H) ∨ rNotInD K x y H Q ∨ rIn K true x y H Q
theorem one_cp {x : Str} {c : Nat} (h : x.cps.toList = [c]) : x = ⟨#[c]⟩ := by
  obtain ⟨cps⟩ := x
  obtain ⟨l⟩ := cps
  simp only at h
  subst h
  rfl
theorem any_pys (p : PyData → Bool) : ∀ ds : List D, (D.pys ds).any p = ds.any fun z => p z.py
  | [] => rfl
  | d :: ds => by rw [D.pys, List.any_cons, List.any_cons, any_pys p ds]
theorem in_g {K : PySem.W.Frag} : OpD K (rInG K) inD := fun Hf H d e z x y s rx ry hf Q k => by
  obtain ⟨c, h1, rfl⟩ := Option.map_eq_some_iff.mp hf
  clear hf
  cases e with
  | str w =>
    cases d with
    | str u =>
      simp only [inB] at h1
      cases q : u.cps.toList with
      | nil => rw [q] at h1; cases h1
      | cons c l =>
        cases l with
        | nil =>
          rw [q] at h1
          cases h1
          have := one_cp q
          subst this
          exact .inl ⟨c, w, rx, ry, k Hf _ H (Gr.refl s) rfl⟩
        | cons _ _ => rw [q] at h1; cases h1
    | _ => cases h1
  | lst ds =>
    have h1 : (if D.shp d = true ∧ D.shp (.lst ds) = true then some (inL d ds) else none) = some c := by cases d <;> exact h1
    obtain ⟨⟨h2, h3⟩, rfl⟩ := ite_some h1
    refine .inr (.inl ⟨d.py, D.pys ds, Rep.dp _ _ (Rep.mono s _ _ rx), Rep.dp _ _ (Rep.mono s _ _ ry), h2, h3, ?_⟩)
    rw [any_pys]
    exact k Hf _ H (Gr.refl s) rfl
  | tup ds =>
    have h1 : (if flatD d = true ∧ ds.all flatD = true then some (inL d ds) else none) = some c := by cases d <;> exact h1
    obtain ⟨⟨h2, h3⟩, rfl⟩ := ite_some h1
    obtain ⟨a, xs, rfl, h4, h5⟩ := ry
    refine .inr (.inr ⟨a, xs, rfl, .inr (sqT_mono s h4), flat_v h2 rx, flat_vs h3 h5, ?_⟩)
    rw [if_neg Bool.false_ne_true, inV_py h2 rx h3 h5]
    exact k Hf _ H (Gr.refl s) rfl
  | _ => cases d <;> cases h1
theorem notin_g {K : PySem.W.Frag} : OpD K (rNotInG K) notInD := fun Hf H d e z x y s rx ry hf Q k => by
  obtain ⟨c, h1, rfl⟩ := Option.map_eq_some_iff.mp hf
  clear hf
  cases e with
  | str w =>
    cases d with
    | str u =>
      simp only [inB] at h1
      cases q : u.cps.toList with
      | nil => rw [q] at h1; cases h1
      | cons c l =>
        cases l with
        | nil =>
          rw [q] at h1
          cases h1
          have := one_cp q
          subst this
          exact .inl ⟨c, w, rx, ry, k Hf _ H (Gr.refl s) rfl⟩
        | cons _ _ => rw [q] at h1; cases h1
    | _ => cases h1
  | lst ds =>
    have h1 : (if D.shp d = true ∧ D.shp (.lst ds) = true then some (inL d ds) else none) = some c := by cases d <;> exact h1
    obtain ⟨⟨h2, h3⟩, rfl⟩ := ite_some h1
    refine .inr (.inl ⟨d.py, D.pys ds, Rep.dp _ _ (Rep.mono s _ _ rx), Rep.dp _ _ (Rep.mono s _ _ ry), h2, h3, ?_⟩)
    rw [any_pys]
    exact k Hf _ H (Gr.refl s) rfl
  | tup ds =>
    have h1 : (if flatD d = true ∧ ds.all flatD = true then some (inL d ds) else none) = some c := by cases d <;> exact h1
    obtain ⟨⟨h2, h3⟩, rfl⟩ := ite_some h1
    obtain ⟨a, xs, rfl, h4, h5⟩ := ry
    refine .inr (.inr ⟨a, xs, rfl, .inr (sqT_mono s h4), flat_v h2 rx, flat_vs h3 h5, ?_⟩)
    rw [if_pos rfl, inV_py h2 rx h3 h5]
    exact k Hf _ H (Gr.refl s) rfl
  | _ => cases d <;> cases h1
theorem op_inG (hu : X.A.units + 65 < cLine) : OpR X (compareOp .In) (rInG X.K) := OpR.or op_in_sign (OpR.or (op_inD hu) op_in_seq)
theorem op_notinG (hu : X.A.units + 65 < cLine) : OpR X (compareOp .NotIn) (rNotInG X.K) := OpR.or op_notIn_sign (OpR.or (op_notInD hu) op_notIn_seq)
theorem ej_in {kr : Nat} (hr : Room kr X.A) (ha : EJ X P O a ga) (hb : EJ X P O b gb) (hm : behindInMarks .In b = false := by rfl) : EJ X P O (.Compare a [.In] [b] pos) (cOp inD ga gb) := ej_cmp (op_inG hr.units65) in_g ha hb hm
theorem ej_notin {kr : Nat} (hr : Room kr X.A) (ha : EJ X P O a ga) (hb : EJ X P O b gb) (hm : behindInMarks .NotIn b = false := by rfl) : EJ X P O (.Compare a [.NotIn] [b] pos) (cOp notInD ga gb) := ej_cmp (op_notinG hr.units65) notin_g ha hb hm
theorem tj_in {kr : Nat} (hr : Room kr X.A) (ha : EJ X P O a ga) (hb : EJ X P O b gb) (hm : behindInMarks .In b = false := by rfl) : TJ X P O (.Compare a [.In] [b] pos) (cTest (cOp inD ga gb)) := tj_cmp (op_inG hr.units65) in_g ha hb hm
theorem tj_notin {kr : Nat} (hr : Room kr X.A) (ha : EJ X P O a ga) (hb : EJ X P O b gb) (hm : behindInMarks .NotIn b = false := by rfl) : TJ X P O (.Compare a [.NotIn] [b] pos) (cTest (cOp notInD ga gb)) := tj_cmp (op_notinG hr.units65) notin_g ha hb hm
/-! ### lists of bools, of ints, of texts -/
def blsD : List D → Option (List Bool)
  | [] => some []
  | .bl b :: ds => (blsD ds).map (b :: ·)
  | _ :: _ => none
def intsD : List D → Option (List Int)
  | [] => some []
  | .int b :: ds => (intsD ds).map (b :: ·)
  | _ :: _ => none
def strsD : List D → Option (List Str)
  | [] => some []
  | .str b :: ds => (strsD ds).map (b :: ·)
  | _ :: _ => none
theorem bls_rep {K : PySem.W.Frag} {H : Hp} : ∀ {ds : List D} {bs : List Bool} {xs : List V}, blsD ds = some bs → RepL K H ds xs → xs = bs.map V.bl
  | [], _, _, h, r => by cases h; exact r
  | .bl b :: ds, _, _, h, ⟨v, vs, e, r1, r2⟩ => by
    obtain ⟨cs, h1, rfl⟩ := Option.map_eq_some_iff.mp h
    rw [e, show v = _ from r1, bls_rep h1 r2]; rfl
  | .non :: _, _, _, h, _ => by cases h
  | .int _ :: _, _, _, h, _ => by cases h
  | .str _ :: _, _, _, h, _ => by cases h
  | .tup _ :: _, _, _, h, _ => by cases h
  | .lst _ :: _, _, _, h, _ => by cases h
  | .scr _ :: _, _, _, h, _ => by cases h
theorem ints_rep {K : PySem.W.Frag} {H : Hp} : ∀ {ds : List D} {bs : List Int} {xs : List V}, intsD ds = some bs → RepL K H ds xs → xs = bs.map V.int
  | [], _, _, h, r => by cases h; exact r
  | .int b :: ds, _, _, h, ⟨v, vs, e, r1, r2⟩ => by
    obtain ⟨cs, h1, rfl⟩ := Option.map_eq_some_iff.mp h
    rw [e, show v = _ from r1, ints_rep h1 r2]; rfl
  | .non :: _, _, _, h, _ => by cases h
  | .bl _ :: _, _, _, h, _ => by cases h
  | .str _ :: _, _, _, h, _ => by cases h
  | .tup _ :: _, _, _, h, _ => by cases h
  | .lst _ :: _, _, _, h, _ => by cases h
  | .scr _ :: _, _, _, h, _ => by cases h
theorem strs_rep {K : PySem.W.Frag} {H : Hp} : ∀ {ds : List D} {bs : List Str} {xs : List V}, strsD ds = some bs → RepL K H ds xs → xs = bs.map V.str
  | [], _, _, h, r => by cases h; exact r
  | .str b :: ds, _, _, h, ⟨v, vs, e, r1, r2⟩ => by
    obtain ⟨cs, h1, rfl⟩ := Option.map_eq_some_iff.mp h
    rw [e, show v = _ from r1, strs_rep h1 r2]; rfl
  | .non :: _, _, _, h, _ => by cases h
  | .int _ :: _, _, _, h, _ => by cases h
  | .bl _ :: _, _, _, h, _ => by cases h
  | .tup _ :: _, _, _, h, _ => by cases h
  | .lst _ :: _, _, _, h, _ => by cases h
  | .scr _ :: _, _, _, h, _ => by cases h
def allD : List D → Option D
  | [.lst ds] => (blsD ds).map fun bs => .bl (bs.all id)
  | _ => none
def anyD : List D → Option D
  | [.lst ds] => (blsD ds).map fun bs => .bl (bs.any id)
  | _ => none
def sumD : List D → Option D
  | [.lst ds] => (intsD ds).map fun bs => .int bs.sum
  | _ => none
theorem all_d {K : PySem.W.Frag} : CallD K (rAll K) allD := fun Hf H ds z xs s rx hf Q k => by
  match ds, hf with
  | [.lst es], hf =>
    obtain ⟨bs, h1, rfl⟩ := Option.map_eq_some_iff.mp hf
    obtain ⟨v, rfl, a, ys, rfl, h3, h2⟩ := repL1 rx
    have := bls_rep h1 h2
    subst this
    exact ⟨a, bs, rfl, SqL.of (s _ _ h3), k Hf _ H (Gr.refl s) rfl⟩
theorem any_d {K : PySem.W.Frag} : CallD K (rAny K) anyD := fun Hf H ds z xs s rx hf Q k => by
  match ds, hf with
  | [.lst es], hf =>
    obtain ⟨bs, h1, rfl⟩ := Option.map_eq_some_iff.mp hf
    obtain ⟨v, rfl, a, ys, rfl, h3, h2⟩ := repL1 rx
    have := bls_rep h1 h2
    subst this
    exact ⟨a, bs, rfl, SqL.of (s _ _ h3), k Hf _ H (Gr.refl s) rfl⟩
theorem sum_d {K : PySem.W.Frag} : CallD K (rSum K) sumD := fun Hf H ds z xs s rx hf Q k => by
  match ds, hf with
  | [.lst es], hf =>
    obtain ⟨bs, h1, rfl⟩ := Option.map_eq_some_iff.mp hf
    obtain ⟨v, rfl, a, ys, rfl, h3, h2⟩ := repL1 rx
    have := ints_rep h1 h2
    subst this
    exact ⟨a, bs, rfl, SqL.of (s _ _ h3), k Hf _ H (Gr.refl s) rfl⟩
/-! ### list(x), tuple(x) -/
def listD : List D → Option D
  | [.lst ds] => some (.lst ds)
  | [.tup ds] => some (.lst ds)
  | [.scr ns] => some (.lst (ns.map D.int))
  | _ => none
def tupleD : List D → Option D
  | [.lst ds] => some (.tup ds)
  | [.tup ds] => some (.tup ds)
  | _ => none
theorem list_o {K : PySem.W.Frag} : CallDO K (fun xs H Q => ∃ p ys, xs = [.ref p] ∧ (SqL K H p ys ∨ SqT K H p ys) ∧ ∀ l, H l = none → Q (.ref l) (upd H l (.lst ys))) listD := fun Hf H ds z xs s rx hf Q k => by
  match ds, hf with
  | [.lst es], hf =>
    cases hf
    obtain ⟨v, rfl, a, ys, rfl, h3, h2⟩ := repL1 rx
    exact ⟨a, ys, rfl, .inl (SqL.of (s _ _ h3)), fun l hl => k Hf l _ _ (Gr.newO s hl) hl (s.free hl) upd_same ⟨ys, rfl, h2⟩⟩
  | [.tup es], hf =>
    cases hf
    obtain ⟨v, rfl, a, ys, rfl, h3, h2⟩ := repL1 rx
    exact ⟨a, ys, rfl, .inr (sqT_mono s h3), fun l hl => k Hf l _ _ (Gr.newO s hl) hl (s.free hl) upd_same ⟨ys, rfl, h2⟩⟩
  | [.scr ns], hf =>
    cases hf
    obtain ⟨v, rfl, a, rfl, h3⟩ := repL1 rx
    exact ⟨a, _, rfl, .inl (s.seq h3), fun l hl => k Hf l _ _ (Gr.newO s hl) hl (s.free hl) upd_same ⟨_, rfl, RepL.ofInts _⟩⟩
theorem tuple_d {K : PySem.W.Frag} : CallD K (fun xs H Q => ∃ p ys, xs = [.ref p] ∧ ((SqL K H p ys ∧ ∀ l, H l = none → Q (.ref l) (upd H l (.tup ys))) ∨ (SqT K H p ys ∧ Q (.ref p) H))) tupleD := fun Hf H ds z xs s rx hf Q k => by
  match ds, hf with
  | [.lst es], hf =>
    cases hf
    obtain ⟨v, rfl, a, ys, rfl, h3, h2⟩ := repL1 rx
    refine ⟨a, ys, rfl, .inl ⟨SqL.of (s _ _ h3), fun l hl => ?_⟩⟩
    have gr : Gr Hf H (upd Hf l (.tup ys)) (upd H l (.tup ys)) := Gr.new s hl
    exact k _ _ _ gr ⟨l, ys, rfl, SqT.of upd_same, RepL.mono gr.s1 _ _ h2⟩
  | [.tup es], hf =>
    cases hf
    obtain ⟨v, rfl, a, ys, rfl, h3, h2⟩ := repL1 rx
    exact ⟨a, ys, rfl, .inr ⟨sqT_mono s h3, k Hf _ H (Gr.refl s) ⟨a, ys, rfl, h3, h2⟩⟩⟩
section
variable {p : Pos}
theorem ej_all (hc : X.calm = true) (hm : X.mg "all" = none) (ha : AJ X P O (e :: es) gs) (hg : Gl X "all" := by rfl) (he : starEach (e :: es) X.env = (false, eval e X.env) :: starEach es X.env := by rfl) (hpl : (backTo pos (starEach es X.env)).any (·.1) = false := by rfl) :
    EJ X P O (.Call (.Name "all" p) (e :: es) [] pos) (cCall allD gs) := ej_callB (cr_all hc) all_d hg hm (by decide +kernel) ha (by decide) (by decide) he hpl
theorem ej_any (hc : X.calm = true) (hm : X.mg "any" = none) (ha : AJ X P O (e :: es) gs) (hg : Gl X "any" := by rfl) (he : starEach (e :: es) X.env = (false, eval e X.env) :: starEach es X.env := by rfl) (hpl : (backTo pos (starEach es X.env)).any (·.1) = false := by rfl) :
    EJ X P O (.Call (.Name "any" p) (e :: es) [] pos) (cCall anyD gs) := ej_callB (cr_any hc) any_d hg hm (by decide +kernel) ha (by decide) (by decide) he hpl
theorem ej_sum (hc : X.calm = true) (hm : X.mg "sum" = none) (ha : AJ X P O (e :: es) gs) (hg : Gl X "sum" := by rfl) (he : starEach (e :: es) X.env = (false, eval e X.env) :: starEach es X.env := by rfl) (hpl : (backTo pos (starEach es X.env)).any (·.1) = false := by rfl) :
    EJ X P O (.Call (.Name "sum" p) (e :: es) [] pos) (cCall sumD gs) := ej_callB (cr_sum hc) sum_d hg hm (by decide +kernel) ha (by decide) (by decide) he hpl
theorem eo_list (hm : X.mg "list" = none) (ha : AJ X P O (e :: es) gs) (hg : Gl X "list" := by rfl) (he : starEach (e :: es) X.env = (false, eval e X.env) :: starEach es X.env := by rfl) (hpl : (backTo pos (starEach es X.env)).any (·.1) = false := by rfl) :
    EO X P O (.Call (.Name "list" p) (e :: es) [] pos) (cCall listD gs) := eo_callTy call_list_of list_o hg hm (by decide +kernel) ha (by decide) (by decide) he hpl
theorem ej_tuple (hm : X.mg "tuple" = none) (ha : AJ X P O (e :: es) gs) (hg : Gl X "tuple" := by rfl) (he : starEach (e :: es) X.env = (false, eval e X.env) :: starEach es X.env := by rfl) (hpl : (backTo pos (starEach es X.env)).any (·.1) = false := by rfl) :
    EJ X P O (.Call (.Name "tuple" p) (e :: es) [] pos) (cCall tupleD gs) := ej_callTy call_tuple_of tuple_d hg hm (by decide +kernel) ha (by decide) (by decide) he hpl
end
/-! ### list(range(..)), tuple(range(..)) -/
def cLR (it : Ga) : Gx := fun ρ => (it ρ).bind fun p => if p.1.length ≤ 100000 then some (.lst p.1, p.2) else none
def cTR (it : Ga) : Gx := fun ρ => (it ρ).bind fun p => if p.1.length ≤ 100000 then some (.tup p.1, p.2) else none
theorem rg_rep {K : PySem.W.Frag} {H : Hp} (i j : Int) : RepL K H (rangeD i j) (rgV i j) := by
  unfold rangeD rgV
  generalize List.range (j - i).toNat = l
  induction l with
  | nil => rfl
  | cons n l ih => exact ⟨_, _, rfl, rfl, ih⟩
theorem rangeD_length (i j : Int) : (rangeD i j).length = (j - i).toNat := by unfold rangeD; rw [List.length_map, List.length_range]
theorem rgOk_of {i j : Int} (hb : rngB i = true) (hc : rngB j = true) (hl : (rangeD i j).length ≤ 100000) : RgOk i j := by
  have h1 := rngB_ok hb
  have h2 := rngB_ok hc
  rw [rangeD_length] at hl
  exact ⟨h1.1, h1.2, h2.1, h2.2, by omega⟩
/-- what range(..) as an argument gives -/
def RgT (K : PySem.W.Frag) (P O : List Nat) (te : St → Hp → (Int → Int → Hp → Prop) → Prop) (it : Ga) : Prop := ∀ σ H (Q : Int → Int → Hp → Prop) B Hf ρ ds ρ', Rl K B P O Hf σ H ρ → it ρ = some (ds, ρ') → (∀ i j Hf' H', ds = rangeD i j → rngB i = true → rngB j = true → Same Hf Hf' → Rl K B P O Hf' σ H' ρ' → Q i j H') → te σ H Q
theorem rgT1 {K : PySem.W.Frag} : RgT K P O (tRg1 (tE K P O ga)) (cItA rng1 (evA [ga])) := fun σ H Q B Hf ρ ds ρ' R e k => by
  obtain ⟨⟨as, ρ1⟩, h1, e⟩ := Option.bind_eq_some_iff.mp e
  obtain ⟨ds', h2, e⟩ := Option.map_eq_some_iff.mp e
  cases e
  obtain ⟨⟨d, ρ2⟩, h3, h1⟩ := Option.bind_eq_some_iff.mp h1
  obtain ⟨⟨es, ρ3⟩, h4, h1⟩ := Option.map_eq_some_iff.mp h1
  cases h4
  cases h1
  cases d with
  | int j =>
    obtain ⟨hb, rfl⟩ := ite_some h2
    exact ⟨B, Hf, ρ, _, _, R, h3, fun Hf' v H' s R' rv => ⟨j, rv, k 0 j Hf' H' rfl (by decide) hb s R'⟩⟩
  | _ => cases h2
theorem rgT2 {K : PySem.W.Frag} : RgT K P O (tRg2 (tE K P O ga) (tE K P O gb)) (cItA rng2 (evA [ga, gb])) := fun σ H Q B Hf ρ ds ρ' R e k => by
  obtain ⟨⟨as, ρ1⟩, h1, e⟩ := Option.bind_eq_some_iff.mp e
  obtain ⟨ds', h2, e⟩ := Option.map_eq_some_iff.mp e
  cases e
  obtain ⟨⟨d, ρ2⟩, h3, h1⟩ := Option.bind_eq_some_iff.mp h1
  obtain ⟨⟨es, ρ3⟩, h4, h1⟩ := Option.map_eq_some_iff.mp h1
  cases h1
  obtain ⟨⟨d2, ρ4⟩, h5, h4⟩ := Option.bind_eq_some_iff.mp h4
  obtain ⟨⟨es2, ρ5⟩, h6, h4⟩ := Option.map_eq_some_iff.mp h4
  cases h6
  cases h4
  cases d with
  | int i =>
    cases d2 with
    | int j =>
      obtain ⟨⟨hb, hc⟩, rfl⟩ := ite_some h2
      exact ⟨B, Hf, ρ, _, _, R, h3, fun Hf' v H' s R' rv => ⟨B, Hf', _, _, _, R', h5, fun Hf2 u H2 s2 R2 ru => ⟨i, j, rv, ru, k i j Hf2 H2 rfl hb hc (s.trans s2) R2⟩⟩⟩
    | _ => cases h2
  | _ => cases h2
theorem eo_listRg {te : St → Hp → (Int → Int → Hp → Prop) → Prop} {it : Ga} {p : Pos} (hc : X.calm = true) (hm : X.mg "list" = none) (he : PRg X e te) (ht : RgT X.K P O te it) (hg : Gl X "list" := by rfl) (na : starEach [e] X.env = (false, eval e X.env) :: starEach [] X.env := by rfl) :
    EO X P O (.Call (.Name "list" p) [e] [] pos) (cLR it) := (pe_listRg hc hg hm he na).imp fun σ H Q ⟨B, Hf, ρ, z, ρ', R, q, k⟩ => by
  obtain ⟨⟨ds, ρ1⟩, h1, q⟩ := Option.bind_eq_some_iff.mp q
  obtain ⟨hl, q⟩ := ite_some q
  cases q
  refine ht σ H _ B Hf ρ ds _ R h1 fun i j Hf' H' ed hb hc s R' => ?_
  subst ed
  exact ⟨rgOk_of hb hc hl, fun q hq => k Hf' q _ _ s (R'.gr (Gr.newO R'.ex hq)) (R'.ex.free hq) upd_same ⟨_, rfl, rg_rep i j⟩ (fresh_hc R' hq) (fresh_ne R' hq)⟩
theorem ej_tupRg {te : St → Hp → (Int → Int → Hp → Prop) → Prop} {it : Ga} {p : Pos} (hc : X.calm = true) (hm : X.mg "tuple" = none) (he : PRg X e te) (ht : RgT X.K P O te it) (hg : Gl X "tuple" := by rfl) (na : starEach [e] X.env = (false, eval e X.env) :: starEach [] X.env := by rfl) :
    EJ X P O (.Call (.Name "tuple" p) [e] [] pos) (cTR it) := (pe_tupRg hc hg hm he na).imp fun σ H Q ⟨B, Hf, ρ, z, ρ', R, q, k⟩ => by
  obtain ⟨⟨ds, ρ1⟩, h1, q⟩ := Option.bind_eq_some_iff.mp q
  obtain ⟨hl, q⟩ := ite_some q
  cases q
  refine ht σ H _ B Hf ρ ds _ R h1 fun i j Hf' H' ed hb hc s R' => ?_
  subst ed
  refine ⟨rgOk_of hb hc hl, fun q hq => ?_⟩
  have gr : Gr Hf' H' (upd Hf' q (.tup (rgV i j))) (upd H' q (.tup (rgV i j))) := Gr.new R'.ex hq
  exact k _ _ _ (s.trans gr.s1) (R'.gr gr) ⟨q, _, rfl, SqT.of upd_same, RepL.mono gr.s1 _ _ (rg_rep i j)⟩
/-! ### methods of texts -/
def cMtV (f : D → List D → Option D) (g : Gx) (gs : Ga) : Gx := fun ρ => (g ρ).bind fun p => (gs p.2).bind fun q => (f p.1 q.1).map fun z => (z, q.2)
def MtD (K : PySem.W.Frag) (r : V → List V → Hp → VK → Prop) (f : D → List D → Option D) : Prop := ∀ Hf H d ds z x xs, Same Hf H → Rep K Hf d x → RepL K Hf ds xs → f d ds = some z → ∀ Q : VK, (∀ Hf' v H', Gr Hf H Hf' H' → Rep K Hf' z v → Q v H') → r x xs H Q
def tyOf : D → Option String
  | .str _ => some "str"
  | .int _ => some "int"
  | .lst _ => some "list"
  | .scr _ => some "list"
  | _ => none
theorem tyOf_V {K : PySem.W.Frag} {Hf H : Hp} {d : D} {x : V} {T : String} (h : tyOf d = some T) (s : Same Hf H) (r : Rep K Hf d x) : tyV K T x H := by
  cases d with
  | str z => cases h; cases (show x = _ from r); rfl
  | int z => cases h; cases (show x = _ from r); rfl
  | lst ds => cases h; obtain ⟨a, xs, rfl, h1, h2⟩ := r; exact .inl ⟨rfl, xs, SqL.of (s _ _ h1)⟩
  | scr ns => cases h; obtain ⟨a, rfl, h1⟩ := r; exact .inl ⟨rfl, _, s.seq h1⟩
  | _ => cases h
section
variable {T id : String} {name : Str} {apos cpos : Pos} {r : V → List V → Hp → VK → Prop} {f : D → List D → Option D} {o : Expr} {go : Gx}
theorem ej_bm (pa : PlainAttrs T) (slot : Slot T name id) (hty : typeOf (.builtin id) = pure (.type "method_descriptor")) (hm : MtR X id r) (h : MtD X.K r f) (ty : ∀ d ds z, f d ds = some z → tyOf d = some T) (ho : EJ X P O o go) (ha : AJ X P O (e :: es) gs)
    (hbase : attributeBase o name X.env (eval o X.env) = eval o X.env := by rfl)
    (hfew : ((backTo cpos (starEach (e :: es) X.env)).all (fun x => !x.1) && (backToKw cpos (keywordEach [] X.env)).all (fun x => x.1.isSome)
      && decide ((e :: es).length + ([] : List Keyword).length + (if ([] : List Keyword).isEmpty then 0 else 1) < 30)) = true := by rfl)
    (hline : (apos.endLine == cpos.line) = true := by rfl) (hs : starEach (e :: es) X.env = (false, eval e X.env) :: starEach es X.env := by rfl) (hplain : (backTo cpos (starEach es X.env)).any (·.1) = false := by rfl) :
    EJ X P O (.Call (.Attribute o name apos) (e :: es) [] cpos) (cMtV f go gs) :=
  (pe_bm pa slot hty hm ho ha hbase hfew hline hs hplain).imp fun σ H Q ⟨B, Hf, ρ, z, ρ', R, q, k⟩ => by
    obtain ⟨⟨d, ρ1⟩, h1, q⟩ := Option.bind_eq_some_iff.mp q
    obtain ⟨⟨ds, ρ2⟩, h2, q⟩ := Option.bind_eq_some_iff.mp q
    obtain ⟨z', h3, q⟩ := Option.map_eq_some_iff.mp q
    cases q
    refine ⟨B, Hf, ρ, d, _, R, h1, fun Hf1 x H1 s1 R1 rx => ⟨tyOf_V (ty _ _ _ h3) R1.ex rx, B, Hf1, ρ1, ds, _, R1, h2, fun Hf2 xs H2 s2 R2 rxs => ?_⟩⟩
    exact h Hf2 H2 d ds _ x xs R2.ex (Rep.mono s2 _ _ rx) rxs h3 Q fun Hf3 v H3 gr rv => k Hf3 v H3 ((s1.trans s2).trans gr.s1) (R2.gr gr) rv
end
def joinD : D → List D → Option D
  | .str a, [.lst ds] => (strsD ds).bind fun ys => if (ys.map (·.length)).sum + ys.length * a.length ≤ 16777216 then some (.str (Txt.join a ys)) else none
  | .str a, [.tup ds] => (strsD ds).bind fun ys => if (ys.map (·.length)).sum + ys.length * a.length ≤ 16777216 then some (.str (Txt.join a ys)) else none
  | _, _ => none
theorem join_d {K : PySem.W.Frag} : MtD K (fun x xs H Q => ∃ a p, ∃ ys : List Str, x = .str a ∧ xs = [.ref p] ∧ (SqL K H p (ys.map V.str) ∨ SqT K H p (ys.map V.str)) ∧
    (ys.map (·.length)).sum + ys.length * a.length ≤ 16777216 ∧ Q (.str (Txt.join a ys)) H) joinD := fun Hf H d ds z x xs s rx rxs hf Q k => by
  match d, ds, hf with
  | .str a, [.lst es], hf =>
    obtain ⟨ys, h1, hf⟩ := Option.bind_eq_some_iff.mp hf
    obtain ⟨hl, rfl⟩ := ite_some hf
    obtain ⟨v, rfl, p, us, rfl, h3, h2⟩ := repL1 rxs
    have := strs_rep h1 h2
    subst this
    exact ⟨a, p, ys, rx, rfl, .inl (SqL.of (s _ _ h3)), hl, k Hf _ H (Gr.refl s) rfl⟩
  | .str a, [.tup es], hf =>
    obtain ⟨ys, h1, hf⟩ := Option.bind_eq_some_iff.mp hf
    obtain ⟨hl, rfl⟩ := ite_some hf
    obtain ⟨v, rfl, p, us, rfl, h3, h2⟩ := repL1 rxs
    have := strs_rep h1 h2
    subst this
    exact ⟨a, p, ys, rx, rfl, .inr (sqT_mono s h3), hl, k Hf _ H (Gr.refl s) rfl⟩
def indexS : D → List D → Option D
  | .str a, [.str b] => (Txt.index0 a b).map fun k => .int (k : Nat)
  | _, _ => none
def rIxS : V → List V → Hp → VK → Prop := fun x xs H Q => ∃ (a b : Str) (k : Nat), x = .str a ∧ xs = [.str b] ∧ Txt.index0 a b = some k ∧ Q (.int (k : Nat)) H
theorem mt_ixS : MtR X "str.index" rIxS := by
  intro pins s σ H x xs v us Q I rx rs h
  obtain ⟨a, b, k, rfl, rfl, hk, q⟩ := h
  obtain ⟨t, rfl⟩ := rx
  cases rs with
  | cons r1 rs =>
    cases rs
    obtain ⟨u, rfl⟩ := r1
    unfold Txt.index0 at hk
    cases ho : Builtin.Str.occurrences a b 0 a.length 1 with
    | nil => rw [ho] at hk; cases hk
    | cons i rest =>
      rw [ho] at hk
      cases hk
      exact PySem.SC.index ho ⟨.int (k : Nat), H, I.tok _, ⟨_, rfl⟩, q⟩
theorem ixS_d {K : PySem.W.Frag} : MtD K rIxS indexS := fun Hf H d ds z x xs s rx rxs hf Q k => by
  match d, ds, hf with
  | .str a, [.str b], hf =>
    obtain ⟨i, h1, rfl⟩ := Option.map_eq_some_iff.mp hf
    obtain ⟨v, rfl, rfl⟩ := repL1 rxs
    exact ⟨a, b, i, rx, rfl, h1, k Hf _ H (Gr.refl s) rfl⟩
/-! list.index -/
def indexL : D → List D → Option D
  | .lst ds, [d] => if D.shp d = true ∧ D.shp (.lst ds) = true then (ds.findIdx? fun z => D.eqv z d).map fun k => .int (k : Nat) else none
  | _, _ => none
theorem pys_get : ∀ (ds : List D) (j : Nat), (D.pys ds)[j]? = ds[j]?.map D.py
  | [], _ => by rw [D.pys]; rfl
  | d :: ds, 0 => by rw [D.pys]; rfl
  | d :: ds, j + 1 => by rw [D.pys, List.getElem?_cons_succ, List.getElem?_cons_succ, pys_get ds j]
theorem ixL_d {K : PySem.W.Frag} : MtD K (rIndexD K) indexL := fun Hf H d ds z x xs s rx rxs hf Q k => by
  match d, ds, hf with
  | .lst es, [e], hf =>
    have hf : (if D.shp e = true ∧ D.shp (.lst es) = true then (es.findIdx? fun z => D.eqv z e).map fun k => D.int (k : Nat) else none) = some z := hf
    by_cases hc : D.shp e = true ∧ D.shp (.lst es) = true
    · rw [if_pos hc] at hf
      obtain ⟨i, h1, rfl⟩ := Option.map_eq_some_iff.mp hf
      obtain ⟨hlt, h2, h3⟩ := List.findIdx?_eq_some_iff_getElem.mp h1
      obtain ⟨v, rfl, rv⟩ := repL1 rxs
      have rx' := rx
      obtain ⟨a, us, rfl, h4, h5⟩ := rx'
      refine ⟨a, v, e.py, D.pys es, i, es[i].py, rfl, rfl, Rep.dp _ _ (Rep.mono s _ _ rx), Rep.dp _ _ (Rep.mono s _ _ rv), hc.2, hc.1, by rw [pys_get, List.getElem?_eq_getElem hlt]; rfl, h2, fun m z' hm hz => ?_, k Hf _ H (Gr.refl s) rfl⟩
      rw [pys_get, List.getElem?_eq_getElem (Nat.lt_trans hm hlt)] at hz
      cases hz
      have := h3 m hm
      cases q : D.eqv es[m] e with
      | false => exact q
      | true => exact absurd q this
    · rw [if_neg hc] at hf
      cases hf
end
end G
namespace G
open PySem L2
section
variable {ρ ρ' : Env} {f h : Gs} {g ga gb gk : Gx} {t ta tb : Gt} {gs : List Gx} {d e z : D} {i j k n : Nat}
@[simp] theorem cSeq_ap : cSeq f h ρ = (f ρ).bind fun r => match r with
  | .nx ρ' => h ρ'
  | .bk ρ' => some (.bk ρ')
  | .ct ρ' => some (.ct ρ')
  | .rt d ρ' => some (.rt d ρ') := rfl
@[simp] theorem cNil_ap : cNil ρ = some (.nx ρ) := rfl
@[simp] theorem cSet_ap : cSet i g ρ = (g ρ).map fun p => .nx (p.2.set i (some p.1)) := rfl
@[simp] theorem cVar_ap : cVar i ρ = (ρ[i]?.getD none).map fun d => (d, ρ) := rfl
@[simp] theorem cK_ap : cK d ρ = some (d, ρ) := rfl
@[simp] theorem cOp_ap {o : D → D → Option D} : cOp o ga gb ρ = (ga ρ).bind fun p => (gb p.2).bind fun q => (o p.1 q.1).map fun z => (z, q.2) := rfl
@[simp] theorem cUn_ap {o : D → Option D} : cUn o g ρ = (g ρ).bind fun p => (o p.1).map fun z => (z, p.2) := rfl
@[simp] theorem cCall_ap {o : List D → Option D} {as : Ga} : cCall o as ρ = (as ρ).bind fun p => (o p.1).map fun z => (z, p.2) := rfl
@[simp] theorem evA_nil : evA [] ρ = some ([], ρ) := rfl
@[simp] theorem evA_cons : evA (g :: gs) ρ = (g ρ).bind fun p => (evA gs p.2).map fun q => (p.1 :: q.1, q.2) := rfl
@[simp] theorem cTup_ap : cTup gs ρ = (evA gs ρ).map fun p => (.tup p.1, p.2) := rfl
@[simp] theorem cLst_ap : cLst gs ρ = (evA gs ρ).map fun p => (.lst p.1, p.2) := rfl
@[simp] theorem evR_nil : evR [] ρ = some ([], ρ) := rfl
@[simp] theorem evR_v {as : List Ar} : evR (.v g :: as) ρ = (g ρ).bind fun p => (evR as p.2).map fun q => (p.1 :: q.1, q.2) := rfl
@[simp] theorem evR_s {as : List Ar} : evR (.s i :: as) ρ = (ρ[i]?.getD none).bind fun _ => (evR as ρ).bind fun q => (q.2[i]?.getD none).map fun d => (d :: q.1, q.2) := rfl
@[simp] theorem slotsR_nil : slotsR [] n = [] := rfl
@[simp] theorem slotsR_v {as : List Ar} : slotsR (.v g :: as) n = slotsR as (n + 1) := rfl
@[simp] theorem slotsR_s {as : List Ar} : slotsR (.s i :: as) n = (n, i) :: slotsR as (n + 1) := rfl
@[simp] theorem setOuts_nil : setOuts [] [] ρ = some ρ := rfl
@[simp] theorem setOuts_cons {r : List (Nat × Nat)} {ds : List D} : setOuts ((n, i) :: r) (d :: ds) ρ = setOuts r ds (ρ.set i (some d)) := rfl
@[simp] theorem cUser_ap {F : Fn} {as : List Ar} : cUser F as ρ = (evR as ρ).bind fun p => (F p.1).bind fun q => (setOuts (slotsR as 0) q.2 p.2).map fun ρ' => (q.1, ρ') := rfl
@[simp] theorem cTest_ap : cTest g ρ = (g ρ).bind fun p => (truthB p.1).map fun b => (b, p.2) := rfl
@[simp] theorem truthB_bl {b : Bool} : truthB (.bl b) = some b := rfl
@[simp] theorem cAnd_ap : cAnd ta tb ρ = (ta ρ).bind fun p => if p.1 = true then tb p.2 else some (false, p.2) := rfl
@[simp] theorem cOr_ap : cOr ta tb ρ = (ta ρ).bind fun p => if p.1 = true then some (true, p.2) else tb p.2 := rfl
@[simp] theorem cNot_ap : cNot ta ρ = (ta ρ).map fun p => (!p.1, p.2) := rfl
@[simp] theorem cAndV_ap : cAndV ga gb ρ = (ga ρ).bind fun p => (truthB p.1).bind fun c => if c = true then gb p.2 else some (.bl false, p.2) := rfl
@[simp] theorem cOrV_ap : cOrV ga gb ρ = (ga ρ).bind fun p => (truthB p.1).bind fun c => if c = true then some (.bl true, p.2) else gb p.2 := rfl
@[simp] theorem cNotV_ap : cNotV ga ρ = (ga ρ).bind fun p => (truthB p.1).map fun c => (.bl !c, p.2) := rfl
@[simp] theorem cIf_ap : cIf t ga gb ρ = (t ρ).bind fun p => if p.1 = true then ga p.2 else gb p.2 := rfl
@[simp] theorem cIfS_ap : cIfS t f h ρ = (t ρ).bind fun p => if p.1 = true then f p.2 else h p.2 := rfl
@[simp] theorem cRet_ap : cRet g ρ = (g ρ).map fun p => .rt p.1 p.2 := rfl
@[simp] theorem cBrk_ap : cBrk ρ = some (.bk ρ) := rfl
@[simp] theorem cCnt_ap : cCnt ρ = some (.ct ρ) := rfl
@[simp] theorem cDrop_ap : cDrop g ρ = (g ρ).map fun p => .nx p.2 := rfl
@[simp] theorem cPar_ap {as : Ga} : cPar i j as ρ = (as ρ).bind fun p => match p.1 with
  | [v, w] => some (.nx ((p.2.set i (some v)).set j (some w)))
  | _ => none := rfl
@[simp] theorem cPure_ap : cPure g ρ = (g ρ).bind fun p => if noMut p.1 = true then some (p.1, ρ) else none := rfl
@[simp] theorem cPureO_ap : cPureO g ρ = (g ρ).bind fun p => if noMutO p.1 = true then some (p.1, ρ) else none := rfl
@[simp] theorem cPureT_ap : cPureT t ρ = (t ρ).map fun p => (p.1, ρ) := rfl
@[simp] theorem noMut_int {i : Int} : noMut (.int i) = true := rfl
@[simp] theorem noMut_bl {b : Bool} : noMut (.bl b) = true := rfl
@[simp] theorem noMut_str {b : Str} : noMut (.str b) = true := rfl
@[simp] theorem noMut_non : noMut .non = true := rfl
@[simp] theorem noMut_tup {ds : List D} : noMut (.tup ds) = noMuts ds := rfl
@[simp] theorem noMuts_nil : noMuts [] = true := rfl
@[simp] theorem noMuts_cons {ds : List D} : noMuts (d :: ds) = (noMut d && noMuts ds) := rfl
@[simp] theorem noMutO_lst {ds : List D} : noMutO (.lst ds) = noMuts ds := rfl
theorem noMuts_all : ∀ {ds : List D}, (∀ d ∈ ds, noMut d = true) → noMuts ds = true
  | [], _ => rfl
  | d :: ds, h => by rw [noMuts_cons, h d List.mem_cons_self, noMuts_all fun e he => h e (List.mem_cons_of_mem _ he)]; rfl
@[simp] theorem noMuts_ints {ns : List Int} : noMuts (ns.map D.int) = true := noMuts_all fun d hd => by obtain ⟨n, _, rfl⟩ := List.mem_map.mp hd; rfl
@[simp] theorem cMt_ap {m : List D → List D → Option (D × List D)} {as : Ga} : cMt m i as ρ = (ρ[i]?.getD none).bind fun _ => (as ρ).bind fun p => (p.2[i]?.getD none).bind fun d => match d with
  | .lst ds => (m ds p.1).map fun q => (q.1, p.2.set i (some (.lst q.2)))
  | _ => none := rfl
@[simp] theorem cSetIx_ap : cSetIx i g gk ρ = (g ρ).bind fun p => (p.2[i]?.getD none).bind fun _ => (gk p.2).bind fun q => (q.2[i]?.getD none).bind fun d => match d, q.1 with
  | .lst ds, .int k => (ixN ds.length k).map fun j => .nx (q.2.set i (some (.lst (ds.set j p.1))))
  | _, _ => none := rfl
@[simp] theorem cIt_ap : cIt g ρ = (g ρ).bind fun p => (itemsD p.1).map fun ds => (ds, p.2) := rfl
@[simp] theorem itemsD_lst {ds : List D} : itemsD (.lst ds) = some ds := rfl
@[simp] theorem itemsD_tup {ds : List D} : itemsD (.tup ds) = some ds := rfl
@[simp] theorem cItA_ap {o : List D → Option (List D)} {as : Ga} : cItA o as ρ = (as ρ).bind fun p => (o p.1).map fun ds => (ds, p.2) := rfl
theorem rng1_ap {j : Int} (h : -1000000000000 ≤ j ∧ j ≤ 1000000000000) : rng1 [.int j] = some (rangeD 0 j) := by
  show (if rngB j = true then some (rangeD 0 j) else none) = _
  rw [if_pos]
  unfold rngB
  rw [decide_eq_true h.1, decide_eq_true h.2]
  rfl
theorem rng2_ap {i j : Int} (h : -1000000000000 ≤ j ∧ j ≤ 1000000000000) (h' : -1000000000000 ≤ i ∧ i ≤ 1000000000000) : rng2 [.int i, .int j] = some (rangeD i j) := by
  show (if rngB i = true ∧ rngB j = true then some (rangeD i j) else none) = _
  rw [if_pos]
  unfold rngB
  rw [decide_eq_true h.1, decide_eq_true h.2, decide_eq_true h'.1, decide_eq_true h'.2]
  exact ⟨rfl, rfl⟩
@[simp] theorem hName_ap : hName i d ρ = some (ρ.set i (some d)) := rfl
@[simp] theorem hNil_ap : hNil [] ρ = some ρ := rfl
@[simp] theorem hCons_ap {hh : Gh} {hs : List D → Env → Option Env} {ds : List D} : hCons hh hs (d :: ds) ρ = (hh d ρ).bind fun ρ' => hs ds ρ' := rfl
@[simp] theorem hTup_tup {hs : List D → Env → Option Env} {ds : List D} : hTup n hs (.tup ds) ρ = if ds.length = n then hs ds ρ else none := rfl
@[simp] theorem hTup_lst {hs : List D → Env → Option Env} {ds : List D} : hTup n hs (.lst ds) ρ = if ds.length = n then hs ds ρ else none := rfl
@[simp] theorem cAsg_ap {hh : Gh} : cAsg hh g ρ = (g ρ).bind fun p => (hh p.1 p.2).map Out.nx := rfl
@[simp] theorem cYes_ap : cYes ρ = some (true, ρ) := rfl
@[simp] theorem wipeE_nil : wipeE ρ [] = ρ := rfl
@[simp] theorem wipeE_cons {v : Nat} {vs : List Nat} : wipeE ρ (v :: vs) = (wipeE ρ vs).set v none := rfl
@[simp] theorem restE_nil {ρ0 : Env} : restE ρ0 ρ [] = ρ := rfl
@[simp] theorem restE_cons {ρ0 : Env} {v : Nat} {vs : List Nat} : restE ρ0 ρ (v :: vs) = (restE ρ0 ρ vs).set v (ρ0[v]?.getD none) := rfl
theorem cComp_ap {it : Ga} {hh : Gh} {vs : List Nat} : cComp it hh t g vs ρ = (it ρ).bind fun p => if p.1.length ≤ 100000 then (loopC hh t g vs p.1 (wipeE p.2 vs)).map fun q => (.lst q.1, restE p.2 q.2 vs) else none := rfl
theorem loopC_nil {hh : Gh} {vs : List Nat} : loopC hh t g vs [] ρ = some ([], ρ) := rfl
theorem loopC_cons {hh : Gh} {vs : List Nat} {x : D} {xs : List D} : loopC hh t g vs (x :: xs) ρ = (hh x ρ).bind fun ρ1 => (t ρ1).bind fun p => if p.1 = true then (g p.2).bind fun q => (loopC hh t g vs xs (wipeE q.2 vs)).map fun r => (q.1 :: r.1, r.2)
    else loopC hh t g vs xs (wipeE p.2 vs) := rfl
theorem cFor_ap {it : Ga} {hh : Gh} : cFor it hh f ρ = (it ρ).bind fun p => loopL (fun x ρ => (hh x ρ).bind f) p.1 p.2 := rfl
theorem loopL_nil {b : D → Env → Option Out} : loopL b [] ρ = some (.nx ρ) := rfl
theorem loopL_cons {b : D → Env → Option Out} {x : D} {xs : List D} : loopL b (x :: xs) ρ = (b x ρ).bind fun r => match r with
    | .nx ρ' => loopL b xs ρ'
    | .ct ρ' => loopL b xs ρ'
    | .bk ρ' => some (.nx ρ')
    | .rt d ρ' => some (.rt d ρ') := rfl
/-! ### operations -/
@[simp] theorem addD_int {i j : Int} : addD (.int i) (.int j) = some (.int (i + j)) := rfl
@[simp] theorem subD_int {i j : Int} : subD (.int i) (.int j) = some (.int (i - j)) := rfl
@[simp] theorem ltD_int {i j : Int} : ltD (.int i) (.int j) = some (.bl (decide (i < j))) := rfl
@[simp] theorem leD_int {i j : Int} : leD (.int i) (.int j) = some (.bl (decide (i ≤ j))) := rfl
@[simp] theorem gtD_int {i j : Int} : gtD (.int i) (.int j) = some (.bl (decide (j < i))) := rfl
@[simp] theorem geD_int {i j : Int} : geD (.int i) (.int j) = some (.bl (decide (j ≤ i))) := rfl
@[simp] theorem negD_int {i : Int} : negD (.int i) = some (.int (-i)) := rfl
@[simp] theorem intD_int {i : Int} : intD [.int i] = some (.int i) := rfl
@[simp] theorem absD_int {i : Int} : absD [.int i] = some (.int (if i < 0 then -i else i)) := rfl
@[simp] theorem gcdD_int {i j : Int} : gcdD [.int i, .int j] = some (.int (Nat.gcd i.natAbs j.natAbs : Nat)) := rfl
@[simp] theorem lenD_lst {ds : List D} : lenD [.lst ds] = some (.int ds.length) := rfl
@[simp] theorem lenD_tup {ds : List D} : lenD [.tup ds] = some (.int ds.length) := rfl
@[simp] theorem lenD_scr {ns : List Int} : lenD [.scr ns] = some (.int ns.length) := rfl
theorem log2_lt {i : Int} {a : Nat} (h : i.natAbs < 2 ^ a) (h0 : 0 < a) : i.natAbs.log2 < a := PySem.Flt.log2_lt_of h0 h
theorem mulD_int {i j : Int} (h : i.natAbs.log2 + j.natAbs.log2 < 100000000) : mulD (.int i) (.int j) = some (.int (i * j)) := by
  show intOpC mulC (fun i j => i * j) (.int i) (.int j) = _
  unfold intOpC
  exact if_pos (decide_eq_true h)
theorem mulD_lt {i j : Int} (a b : Nat) (hi : i.natAbs < 2 ^ a) (hj : j.natAbs < 2 ^ b) (h0 : 0 < a := by decide) (h1 : 0 < b := by decide) (h : a + b ≤ 100000000 := by decide) : mulD (.int i) (.int j) = some (.int (i * j)) :=
  mulD_int (by have := log2_lt hi h0; have := log2_lt hj h1; omega)
theorem fdivD_int {i j : Int} (h : 0 < j) (h2 : j.natAbs.log2 < 9000) : fdivD (.int i) (.int j) = some (.int (i / j)) := by
  show (if divC i j = true then some (D.int (i.fdiv j)) else none) = _
  rw [Int.fdiv_eq_ediv_of_nonneg i (by omega)]
  refine if_pos ?_
  unfold divC
  rw [decide_eq_true (show j ≠ 0 by omega), decide_eq_true h2]
  rfl
theorem fdivD_neg {i j : Int} (h : j ≠ 0) (h2 : j.natAbs.log2 < 9000) : fdivD (.int i) (.int j) = some (.int (i.fdiv j)) := by
  show intOpC divC Int.fdiv (.int i) (.int j) = _
  unfold intOpC
  refine if_pos ?_
  unfold divC
  rw [decide_eq_true h, decide_eq_true h2]
  rfl
theorem modD_int {i j : Int} (h : 0 < j) : modD (.int i) (.int j) = some (.int (i % j)) := by
  show (if modC i j = true then some (D.int (i.fmod j)) else none) = _
  rw [Int.fmod_eq_emod_of_nonneg i (by omega)]
  exact if_pos (decide_eq_true (show j ≠ 0 by omega))
theorem ixN_nat {n k : Nat} (h : k < n) : ixN n (k : Int) = some k := by
  unfold ixN
  rw [if_pos (by omega), if_pos (by omega)]
  rfl
theorem ixN_zero {n : Nat} (h : 0 < n) : ixN n 0 = some 0 := ixN_nat (k := 0) h
@[simp] theorem ixD_lst {ds : List D} {i : Int} : ixD (.lst ds) (.int i) = atI ds i := rfl
@[simp] theorem ixD_tup {ds : List D} {i : Int} : ixD (.tup ds) (.int i) = atI ds i := rfl
@[simp] theorem ixD_scr {ns : List Int} {i : Int} : ixD (.scr ns) (.int i) = (atI ns i).map D.int := rfl
theorem atI_lt {α : Type} {xs : List α} {i : Int} {k : Nat} (h : i = (k : Int)) (hk : k < xs.length) : atI xs i = xs[k]? := by
  subst h
  unfold atI
  rw [ixN_nat hk]
  rfl
@[simp] theorem atI_0 {α : Type} {x : α} {xs : List α} : atI (x :: xs) 0 = some x := atI_nat (j := 0) rfl
@[simp] theorem atI_1 {α : Type} {x y : α} {xs : List α} : atI (x :: y :: xs) 1 = some y := atI_nat (j := 1) rfl
@[simp] theorem atI_2 {α : Type} {x y z : α} {xs : List α} : atI (x :: y :: z :: xs) 2 = some z := atI_nat (j := 2) rfl
end
/-! ### loops -/
theorem loopL_inv {b : D → Env → Option Out} {I : Env → Prop} : ∀ {xs : List D} {ρ : Env}, (∀ x ∈ xs, ∀ ρ, I ρ → ∃ ρ', b x ρ = some (.nx ρ') ∧ I ρ') → I ρ → ∃ ρ', loopL b xs ρ = some (.nx ρ') ∧ I ρ'
  | [], ρ, _, h => ⟨ρ, rfl, h⟩
  | x :: xs, ρ, hs, h => by
    obtain ⟨ρ1, e1, i1⟩ := hs x List.mem_cons_self ρ h
    obtain ⟨ρ2, e2, i2⟩ := loopL_inv (xs := xs) (fun y hy => hs y (List.mem_cons_of_mem _ hy)) i1
    exact ⟨ρ2, by rw [loopL_cons, e1]; exact e2, i2⟩
/-- a loop by a state: turn i leads from S i to S (i + 1) -/
theorem loopL_at {b : D → Env → Option Out} {I : Nat → Env → Prop} : ∀ {xs : List D} {ρ : Env} {n : Nat}, (∀ (i : Nat) x, xs[i]? = some x → ∀ ρ, I (n + i) ρ → ∃ ρ', b x ρ = some (.nx ρ') ∧ I (n + i + 1) ρ') → I n ρ → ∃ ρ', loopL b xs ρ = some (.nx ρ') ∧ I (n + xs.length) ρ'
  | [], ρ, n, _, h => ⟨ρ, rfl, h⟩
  | x :: xs, ρ, n, hs, h => by
    obtain ⟨ρ1, e1, i1⟩ := hs 0 x rfl ρ h
    obtain ⟨ρ2, e2, i2⟩ := loopL_at (xs := xs) (n := n + 1) (fun i y hy ρ hi => by
      have := hs (i + 1) y (by simpa using hy) ρ (by rw [show n + (i + 1) = n + 1 + i by omega]; exact hi)
      rw [show n + (i + 1) + 1 = n + 1 + i + 1 by omega] at this
      exact this) i1
    exact ⟨ρ2, by rw [loopL_cons, e1]; exact e2, by rw [List.length_cons, show n + (xs.length + 1) = n + 1 + xs.length by omega]; exact i2⟩
theorem loopC_inv {hh : Gh} {t : Gt} {g : Gx} {vs : List Nat} {I : Env → Prop} {Pd : D → Prop} : ∀ {xs : List D} {ρ : Env}, (∀ x ∈ xs, ∀ ρ, I ρ → ∃ ρ1 ρ2 z ρ3, hh x ρ = some ρ1 ∧ t ρ1 = some (true, ρ2) ∧ g ρ2 = some (z, ρ3) ∧ Pd z ∧ I (wipeE ρ3 vs)) → I ρ →
    ∃ zs ρ', loopC hh t g vs xs ρ = some (zs, ρ') ∧ zs.length = xs.length ∧ (∀ z ∈ zs, Pd z) ∧ I ρ'
  | [], ρ, _, h => ⟨[], ρ, rfl, rfl, fun _ hz => absurd hz (by simp), h⟩
  | x :: xs, ρ, hs, h => by
    obtain ⟨ρ1, ρ2, z, ρ3, e1, e2, e3, p, i⟩ := hs x List.mem_cons_self ρ h
    obtain ⟨zs, ρ4, e4, l4, p4, i4⟩ := loopC_inv (xs := xs) (fun y hy => hs y (List.mem_cons_of_mem _ hy)) i
    refine ⟨z :: zs, ρ4, ?_, by rw [List.length_cons, List.length_cons, l4], fun y hy => (List.mem_cons.mp hy).elim (fun e => e ▸ p) (p4 y), i4⟩
    rw [loopC_cons, e1, Option.bind_some, e2, Option.bind_some]
    show ((g ρ2).bind fun q => (loopC hh t g vs xs (wipeE q.2 vs)).map fun r => (q.1 :: r.1, r.2)) = _
    rw [e3, Option.bind_some, e4]
    rfl
theorem seq_nx {f h : Gs} {ρ ρ' : Env} (e : f ρ = some (.nx ρ')) : cSeq f h ρ = h ρ' := by rw [cSeq_ap, e]; rfl
theorem if_no {t : Gt} {f h : Gs} {ρ ρ' : Env} (e : t ρ = some (false, ρ')) : cIfS t f h ρ = h ρ' := by rw [cIfS_ap, e]; rfl
theorem if_yes {t : Gt} {f h : Gs} {ρ ρ' : Env} (e : t ρ = some (true, ρ')) : cIfS t f h ρ = f ρ' := by rw [cIfS_ap, e]; rfl
theorem if_nil {t : Gt} {f : Gs} {ρ ρ' : Env} (e : t ρ = some (false, ρ')) : cIfS t f cNil ρ = some (.nx ρ') := if_no e
theorem runB_eq {n m : Nat} {P : List Nat} {own : Bool} {b : Gs} {ds : List D} {d : D} {ρ : Env} {os : List D} (hl : ds.length = m) (e : b (ds.map some ++ List.replicate (n - m) none) = some (.rt d ρ)) (ho : outsOf P ρ = some os) : runB n m P own b ds = some (d, os) := by
  unfold runB
  rw [if_pos hl, e, Option.bind_some]
  show (outsOf P ρ).map _ = _
  rw [ho]
  rfl
/-! ### the law's own helpers -/
def bDigit : Gs := (cSeq (cSet 2 (cOp modD (cCall intD (evA [(cPure (cOp ixD (cVar 0) (cK (D.int 0))))])) (cVar 1)))
    (cSeq (cSetIx 0 (cOp fdivD (cPure (cOp ixD (cVar 0) (cK (D.int 0)))) (cVar 1)) (cK (D.int 0)))
    (cRet (cVar 2))))
theorem digit_eq (n m : Nat) (h : 0 < m) (hm : m < 2 ^ 60) : runB 3 2 [0] false bDigit [.lst [.int n], .int m] = some (.int (n % m : Nat), [.lst [.int (n / m : Nat)]]) := by
  have hlog : ((m : Int)).natAbs.log2 < 9000 := Nat.lt_trans (log2_lt (i := (m : Int)) (a := 60) (by simpa using hm) (by decide)) (by decide)
  have e1 : modD (.int (n : Int)) (.int (m : Int)) = some (.int ((n % m : Nat) : Int)) := by rw [modD_int (by omega)]; rfl
  have e2 : fdivD (.int (n : Int)) (.int (m : Int)) = some (.int ((n / m : Nat) : Int)) := by rw [fdivD_int (by omega) hlog]; rfl
  refine runB_eq (ρ := [some (.lst [.int (n / m : Nat)]), some (.int m), some (.int (n % m : Nat))]) rfl ?_ rfl
  simp [bDigit, e1, e2, ixN_zero]

def bStart : Gs := (cSeq (cSet 2 (cK (D.int 0)))
    (cSeq (cIfS (cTest (cOp gtD (cCall lenD (evA [(cVar 0)])) (cK (D.int 0)))) (cSet 2 (cCall intD (evA [(cOp ixD (cVar 0) (cOp modD (cCall intD (evA [(cVar 1)])) (cCall lenD (evA [(cVar 0)]))))]))) cNil)
    (cSeq (cIfS (cAnd (cTest (cOp ltD (cVar 1) (cCall lenD (evA [(cVar 0)])))) (cTest (cOp geD (cCall absD (evA [(cVar 2)])) (cOp powD (cK (D.int 10)) (cK (D.int 18)))))) (cRet (cLst [(cCall absD (evA [(cVar 2)]))])) cNil)
    (cSeq (cSet 3 (cK (D.int 618970019642690137449562111)))
    (cSeq (cSet 4 (cOp modD (cCall intD (evA [(cOp addD (cOp addD (cOp mulD (cVar 2) (cK (D.int 2654435761))) (cOp mulD (cOp addD (cVar 1) (cK (D.int 1))) (cK (D.int 6700417)))) (cK (D.int 11)))])) (cVar 3)))
    (cSeq (cSet 5 (cK (D.int 0)))
    (cSeq (cFor (cItA rng1 (evA [(cK (D.int 6))])) (hName 6) (cSeq (cSet 4 (cOp modD (cCall intD (evA [(cOp addD (cOp addD (cOp addD (cOp addD (cOp mulD (cVar 4) (cVar 4)) (cOp mulD (cK (D.int 7)) (cVar 4))) (cOp mulD (cK (D.int 131)) (cVar 1))) (cVar 6)) (cK (D.int 3)))])) (cVar 3)))
    (cSet 5 (cOp addD (cOp mulD (cVar 5) (cVar 3)) (cVar 4)))))
    (cRet (cLst [(cVar 5)])))))))))
def prm : Int := 618970019642690137449562111
theorem rangeD_get {lo hi : Int} {i : Nat} {x : D} (h : (rangeD lo hi)[i]? = some x) : x = .int (lo + (i : Int)) ∧ (i : Int) < hi - lo := by
  unfold rangeD at h
  rw [List.getElem?_map] at h
  obtain ⟨c, h1, h2⟩ := Option.map_eq_some_iff.mp h
  obtain ⟨hl, h3⟩ := List.getElem?_eq_some_iff.mp h1
  rw [List.getElem_range] at h3
  rw [List.length_range] at hl
  subst h3
  exact ⟨h2.symm, by omega⟩
theorem rangeD_len {lo hi : Int} : (rangeD lo hi).length = (hi - lo).toNat := by
  unfold rangeD
  simp
theorem rangeD_mem {lo hi : Int} {x : D} (h : x ∈ rangeD lo hi) : ∃ i : Nat, x = .int (lo + (i : Int)) ∧ (i : Int) < hi - lo := by
  obtain ⟨i, hi⟩ := List.mem_iff_getElem?.mp h
  exact ⟨i, rangeD_get hi⟩
theorem bits_log {z : Int} (h : Builtin.Int.intBits z ≤ 1048576) : z.natAbs.log2 ≤ 1048576 := by
  unfold Builtin.Int.intBits at h
  split at h
  · rename_i e
    rw [eq_of_beq e]
    decide
  · omega
theorem start_ex (ns : List Int) (k : Nat) (hk : k < 1000) (hn : ns.length ≤ 63) (hb : ∀ z ∈ ns, Builtin.Int.intBits z ≤ 1048576) : ∃ st : Nat, runB 7 2 [] true bStart [.scr ns, .int k] = some (.lst [.int st], []) := by
  -- the cell
  obtain ⟨cell, e0, hc⟩ : ∃ cell : Int, cIfS (cTest (cOp gtD (cCall lenD (evA [(cVar 0)])) (cK (D.int 0)))) (cSet 2 (cCall intD (evA [(cOp ixD (cVar 0) (cOp modD (cCall intD (evA [(cVar 1)])) (cCall lenD (evA [(cVar 0)]))))]))) cNil [some (.scr ns), some (.int k), some (.int 0), none, none, none, none] =
      some (.nx [some (.scr ns), some (.int k), some (.int cell), none, none, none, none]) ∧ cell.natAbs.log2 ≤ 1048576 := by
    by_cases hl : 0 < ns.length
    · have e1 : modD (.int (k : Int)) (.int (ns.length : Int)) = some (.int ((k % ns.length : Nat) : Int)) := by rw [modD_int (by omega)]; rfl
      have hlt : k % ns.length < ns.length := Nat.mod_lt _ hl
      obtain ⟨z, hz⟩ : ∃ z, ns[k % ns.length]? = some z := ⟨_, List.getElem?_eq_getElem hlt⟩
      refine ⟨z, ?_, bits_log (hb z (List.mem_of_getElem? hz))⟩
      have e2 : atI ns ((k % ns.length : Nat) : Int) = some z := atI_nat hz
      rw [if_yes (ρ' := [some (.scr ns), some (.int k), some (.int 0), none, none, none, none]) (by simp; exact hl)]
      simp [e1, e2, -Int.natCast_emod]
    · refine ⟨0, ?_, by decide⟩
      rw [if_no (ρ' := [some (.scr ns), some (.int k), some (.int 0), none, none, none, none]) (by simp; exact List.length_eq_zero_iff.mp (by omega))]
      rfl
  have e10 : powD (.int 10) (.int 18) = some (.int (10 ^ 18)) := rfl
  by_cases big : (k : Int) < ns.length ∧ (10 ^ 18 : Int) ≤ (if cell < 0 then -cell else cell)
  · refine ⟨cell.natAbs, runB_eq (ρ := [some (.scr ns), some (.int k), some (.int cell), none, none, none, none]) rfl ?_ rfl⟩
    have ea : (if cell < 0 then -cell else cell) = (cell.natAbs : Int) := by split <;> omega
    unfold bStart
    rw [seq_nx (ρ' := [some (.scr ns), some (.int k), some (.int 0), none, none, none, none]) (by simp), seq_nx e0, cSeq_ap, if_yes (ρ' := [some (.scr ns), some (.int k), some (.int cell), none, none, none, none]) ?_]
    · simp [ea]
    · have h1 := big.1
      have h2 := big.2
      rw [ea] at h2
      simp only [cAnd_ap, cTest_ap, cOp_ap, cVar_ap, cCall_ap, evA_cons, evA_nil, cK_ap, List.getElem?_cons_zero, List.getElem?_cons_succ, Option.getD_some, Option.map_some, Option.bind_some, lenD_scr, ltD_int, truthB_bl, decide_eq_true h1, if_pos, absD_int, e10, geD_int, ea, decide_eq_true h2]
  · -- the drawn number
    have stop : cIfS (cAnd (cTest (cOp ltD (cVar 1) (cCall lenD (evA [(cVar 0)])))) (cTest (cOp geD (cCall absD (evA [(cVar 2)])) (cOp powD (cK (D.int 10)) (cK (D.int 18)))))) (cRet (cLst [(cCall absD (evA [(cVar 2)]))])) cNil [some (.scr ns), some (.int k), some (.int cell), none, none, none, none] = some (.nx [some (.scr ns), some (.int k), some (.int cell), none, none, none, none]) := by
      refine if_nil ?_
      by_cases h1 : (k : Int) < ns.length
      · have h2 : ¬ (10 ^ 18 : Int) ≤ (if cell < 0 then -cell else cell) := fun z => big ⟨h1, z⟩
        simp only [cAnd_ap, cTest_ap, cOp_ap, cVar_ap, cCall_ap, evA_cons, evA_nil, cK_ap, List.getElem?_cons_zero, List.getElem?_cons_succ, Option.getD_some, Option.map_some, Option.bind_some, lenD_scr, ltD_int, truthB_bl, decide_eq_true h1, if_pos, absD_int, e10, geD_int, decide_eq_false h2]
      · simp only [cAnd_ap, cTest_ap, cOp_ap, cVar_ap, cCall_ap, evA_cons, evA_nil, cK_ap, List.getElem?_cons_zero, List.getElem?_cons_succ, Option.getD_some, Option.map_some, Option.bind_some, lenD_scr, ltD_int, truthB_bl, decide_eq_false h1]
        rfl
    have m1 : mulD (.int cell) (.int 2654435761) = some (.int (cell * 2654435761)) := mulD_int (by
      have : (2654435761 : Int).natAbs.log2 = 31 := by decide
      omega)
    have m2 : mulD (.int ((k : Int) + 1)) (.int 6700417) = some (.int (((k : Int) + 1) * 6700417)) := mulD_lt 10 23 (by omega) (by decide)
    have pp : (0 : Int) < prm := by decide
    have hp : ∀ z : Int, 0 ≤ z % prm ∧ z % prm < prm := fun z => ⟨Int.emod_nonneg _ (by decide), Int.emod_lt_of_pos _ pp⟩
    have m3 : modD (.int (cell * 2654435761 + ((k : Int) + 1) * 6700417 + 11)) (.int 618970019642690137449562111) = some (.int ((cell * 2654435761 + ((k : Int) + 1) * 6700417 + 11) % prm)) := modD_int pp
    -- the six turns
    obtain ⟨ρ2, e2, m, nm, hρ2, hm, hnm⟩ : ∃ ρ2, loopL (fun x ρ => (hName 6 x ρ).bind (cSeq (cSet 4 (cOp modD (cCall intD (evA [(cOp addD (cOp addD (cOp addD (cOp addD (cOp mulD (cVar 4) (cVar 4)) (cOp mulD (cK (D.int 7)) (cVar 4))) (cOp mulD (cK (D.int 131)) (cVar 1))) (cVar 6)) (cK (D.int 3)))])) (cVar 3)))
        (cSet 5 (cOp addD (cOp mulD (cVar 5) (cVar 3)) (cVar 4))))) (rangeD 0 6) [some (.scr ns), some (.int k), some (.int cell), some (.int prm), some (.int ((cell * 2654435761 + ((k : Int) + 1) * 6700417 + 11) % prm)), some (.int 0), none] = some (.nx ρ2) ∧
        ∃ (m : Int) (nm : Nat), (∃ s, ρ2 = [some (.scr ns), some (.int k), some (.int cell), some (.int prm), some (.int m), some (.int nm), s]) ∧ (0 ≤ m ∧ m < prm) ∧ nm < 2 ^ (100 * 6) := by
      have := loopL_at (b := fun x ρ => (hName 6 x ρ).bind (cSeq (cSet 4 (cOp modD (cCall intD (evA [(cOp addD (cOp addD (cOp addD (cOp addD (cOp mulD (cVar 4) (cVar 4)) (cOp mulD (cK (D.int 7)) (cVar 4))) (cOp mulD (cK (D.int 131)) (cVar 1))) (cVar 6)) (cK (D.int 3)))])) (cVar 3)))
        (cSet 5 (cOp addD (cOp mulD (cVar 5) (cVar 3)) (cVar 4))))) (I := fun i ρ => i ≤ 6 → ∃ (m : Int) (nm : Nat), (∃ s, ρ = [some (.scr ns), some (.int k), some (.int cell), some (.int prm), some (.int m), some (.int nm), s]) ∧ (0 ≤ m ∧ m < prm) ∧ nm < 2 ^ (100 * i)) (xs := rangeD 0 6) (n := 0)
        (ρ := [some (.scr ns), some (.int k), some (.int cell), some (.int prm), some (.int ((cell * 2654435761 + ((k : Int) + 1) * 6700417 + 11) % prm)), some (.int 0), none]) (fun i x hx ρ hI => ?_) (fun _ => ⟨_, 0, ⟨none, rfl⟩, hp _, by decide⟩)
      · obtain ⟨ρ2, e, h⟩ := this
        exact ⟨ρ2, e, h (by rw [rangeD_len]; decide)⟩
      · obtain ⟨rfl, hi⟩ := rangeD_get hx
        have hi6 : i < 6 := by omega
        obtain ⟨m, nm, ⟨s, rfl⟩, hm, hnm⟩ := hI (by omega)
        have b1 : m.natAbs < 2 ^ 90 := by
          have : prm < 2 ^ 90 := by decide
          have e : (2 : Int) ^ 90 = ((2 ^ 90 : Nat) : Int) := by decide
          omega
        have b2 : ((nm : Int)).natAbs < 2 ^ 600 := by
          rw [Int.natAbs_natCast]
          exact Nat.lt_of_lt_of_le hnm (Nat.pow_le_pow_right (by decide) (by omega))
        have q1 : mulD (.int m) (.int m) = some (.int (m * m)) := mulD_lt 90 90 b1 b1
        have q2 : mulD (.int 7) (.int m) = some (.int (7 * m)) := mulD_lt 3 90 (by decide) b1
        have q3 : mulD (.int 131) (.int (k : Int)) = some (.int (131 * (k : Int))) := mulD_lt 8 10 (by decide) (by omega)
        have q4 : ∀ z : Int, modD (.int z) (.int prm) = some (.int (z % prm)) := fun z => modD_int pp
        have q5 : mulD (.int (nm : Int)) (.int prm) = some (.int ((nm : Int) * prm)) := mulD_lt 600 90 b2 (by decide)
        have hz := hp (m * m + 7 * m + 131 * (k : Int) + (0 + (i : Int)) + 3)
        generalize hzz : (m * m + 7 * m + 131 * (k : Int) + (0 + (i : Int)) + 3) % prm = z at hz
        have ez : z = ((z.toNat : Nat) : Int) := by omega
        have hzn : z.toNat < 618970019642690137449562111 := by
          have : prm = 618970019642690137449562111 := rfl
          omega
        refine ⟨[some (.scr ns), some (.int k), some (.int cell), some (.int prm), some (.int z), some (.int ((nm * 618970019642690137449562111 + z.toNat : Nat) : Int)), some (.int (0 + (i : Int)))], ?_, fun _ => ⟨z, nm * 618970019642690137449562111 + z.toNat, ⟨_, rfl⟩, hz, ?_⟩⟩
        · have ee : ((nm * 618970019642690137449562111 + z.toNat : Nat) : Int) = (nm : Int) * prm + z := by
            have : prm = 618970019642690137449562111 := rfl
            rw [this, Int.natCast_add, Int.natCast_mul, ← ez]
            rfl
          rw [ee]
          simp only [hName_ap, List.set_cons_succ, List.set_cons_zero, Option.bind_some, cSeq_ap, cSet_ap, cOp_ap, cCall_ap, evA_cons, evA_nil, cVar_ap, cK_ap, List.getElem?_cons_zero, List.getElem?_cons_succ, Option.getD_some, Option.map_some, q1, q2, q3, q4, q5, addD_int, intD_int, hzz]
        · have e100 : 2 ^ (100 * (0 + i + 1)) = 2 ^ (100 * i) * 2 ^ 100 := by rw [← Nat.pow_add]; congr 1; omega
          rw [e100]
          rw [Nat.zero_add] at hnm
          have h100 : (618970019642690137449562111 : Nat) + 1 ≤ 2 ^ 100 := by decide
          calc nm * 618970019642690137449562111 + z.toNat < nm * 618970019642690137449562111 + 618970019642690137449562111 := by omega
            _ = (nm + 1) * 618970019642690137449562111 := by omega
            _ ≤ 2 ^ (100 * i) * 618970019642690137449562111 := Nat.mul_le_mul_right _ hnm
            _ ≤ 2 ^ (100 * i) * 2 ^ 100 := Nat.mul_le_mul_left _ (by omega)
    obtain ⟨s, rfl⟩ := hρ2
    refine ⟨nm, runB_eq (ρ := [some (.scr ns), some (.int k), some (.int cell), some (.int prm), some (.int m), some (.int nm), s]) rfl ?_ rfl⟩
    unfold bStart
    rw [seq_nx (ρ' := [some (.scr ns), some (.int k), some (.int 0), none, none, none, none]) (by simp), seq_nx e0, seq_nx stop,
      seq_nx (ρ' := [some (.scr ns), some (.int k), some (.int cell), some (.int prm), none, none, none]) (by simp [prm]),
      seq_nx (ρ' := [some (.scr ns), some (.int k), some (.int cell), some (.int prm), some (.int ((cell * 2654435761 + ((k : Int) + 1) * 6700417 + 11) % prm)), none, none]) ?_,
      seq_nx (ρ' := [some (.scr ns), some (.int k), some (.int cell), some (.int prm), some (.int ((cell * 2654435761 + ((k : Int) + 1) * 6700417 + 11) % prm)), some (.int 0), none]) (by simp), seq_nx (ρ' := [some (.scr ns), some (.int k), some (.int cell), some (.int prm), some (.int m), some (.int nm), s]) ?_]
    · simp
    · rw [cFor_ap, cItA_ap, evA_cons, cK_ap, Option.bind_some, evA_nil, Option.map_some, Option.bind_some, rng1_ap (by decide), Option.map_some, Option.bind_some]
      exact e2
    · simp only [cSet_ap, cOp_ap, cCall_ap, evA_cons, evA_nil, cVar_ap, cK_ap, List.getElem?_cons_zero, List.getElem?_cons_succ, Option.getD_some, Option.map_some, Option.bind_some, m1, m2, addD_int, intD_int]
      show ((modD (.int (cell * 2654435761 + ((k : Int) + 1) * 6700417 + 11)) (.int 618970019642690137449562111)).map _).map _ = _
      rw [m3]
      rfl
end G
namespace G
open PySem L2
/-! ### equality of data -/
@[simp] theorem neD_int {i j : Int} : neD (.int i) (.int j) = some (.bl (decide (i ≠ j))) := by
  unfold neD
  rw [if_pos ⟨rfl, rfl⟩]
  show some (D.bl (!(i == j))) = _
  by_cases h : i = j <;> simp [h]
@[simp] theorem eqD_int {i j : Int} : eqD (.int i) (.int j) = some (.bl (decide (i = j))) := by
  unfold eqD
  rw [if_pos ⟨rfl, rfl⟩]
  show some (D.bl (i == j)) = _
  by_cases h : i = j <;> simp [h]
@[simp] theorem neD_bl {i j : Bool} : neD (.bl i) (.bl j) = some (.bl (decide (i ≠ j))) := by
  unfold neD
  rw [if_pos ⟨rfl, rfl⟩]
  show some (D.bl (!(i == j))) = _
  cases i <;> cases j <;> rfl
@[simp] theorem eqD_bl {i j : Bool} : eqD (.bl i) (.bl j) = some (.bl (decide (i = j))) := by
  unfold eqD
  rw [if_pos ⟨rfl, rfl⟩]
  show some (D.bl (i == j)) = _
  cases i <;> cases j <;> rfl
mutual
/-- data without bools -/
def nb : D → Bool
  | .bl _ => false
  | .scr _ => false
  | .tup ds => nbs ds
  | .lst ds => nbs ds
  | _ => true
def nbs : List D → Bool
  | [] => true
  | d :: ds => nb d && nbs ds
end
mutual
theorem eqv_iff : ∀ d e : D, nb d = true → nb e = true → (PyData.eqv d.py e.py = true ↔ d = e)
  | .non, e, _, h => by cases e <;> simp_all [D.py, PyData.eqv, nb]
  | .bl _, _, h, _ => by simp [nb] at h
  | .scr _, _, h, _ => by simp [nb] at h
  | .int i, e, _, h => by cases e <;> simp_all [D.py, PyData.eqv, nb]
  | .str i, e, _, h => by cases e <;> simp_all [D.py, PyData.eqv, nb]
  | .tup ds, e, h, h' => by
    cases e with
    | tup es =>
      rw [nb] at h h'
      rw [D.py, D.py, PyData.eqv, eqvs_iff ds es h h', D.tup.injEq]
    | _ => simp_all [D.py, PyData.eqv, nb]
  | .lst ds, e, h, h' => by
    cases e with
    | lst es =>
      rw [nb] at h h'
      rw [D.py, D.py, PyData.eqv, eqvs_iff ds es h h', D.lst.injEq]
    | _ => simp_all [D.py, PyData.eqv, nb]
theorem eqvs_iff : ∀ ds es : List D, nbs ds = true → nbs es = true → (PyData.eqvAll (D.pys ds) (D.pys es) = true ↔ ds = es)
  | [], [], _, _ => by simp [D.pys, PyData.eqvAll]
  | [], _ :: _, _, _ => by simp [D.pys, PyData.eqvAll]
  | _ :: _, [], _, _ => by simp [D.pys, PyData.eqvAll]
  | d :: ds, e :: es, h, h' => by
    rw [nbs, Bool.and_eq_true] at h h'
    rw [D.pys, D.pys, PyData.eqvAll, Bool.and_eq_true, eqv_iff d e h.1 h'.1, eqvs_iff ds es h.2 h'.2, List.cons.injEq]
end
mutual
theorem eqv_self : ∀ d : D, PyData.eqv d.py d.py = true
  | .non => by simp [D.py, PyData.eqv]
  | .bl b => by simp [D.py, PyData.eqv]
  | .int b => by simp [D.py, PyData.eqv]
  | .str b => by simp [D.py, PyData.eqv]
  | .tup ds => by rw [D.py, PyData.eqv]; exact eqvs_self ds
  | .lst ds => by rw [D.py, PyData.eqv]; exact eqvs_self ds
  | .scr ns => by
    rw [D.py, PyData.eqv]
    induction ns with
    | nil => simp [PyData.eqvAll]
    | cons n ns ih => rw [List.map_cons, PyData.eqvAll, ih]; simp [PyData.eqv]
theorem eqvs_self : ∀ ds : List D, PyData.eqvAll (D.pys ds) (D.pys ds) = true
  | [] => by simp [D.pys, PyData.eqvAll]
  | d :: ds => by rw [D.pys, PyData.eqvAll, eqv_self d, eqvs_self ds]; rfl
end
theorem neD_self {d : D} (h : d.shp = true) : neD d d = some (.bl false) := by
  unfold neD
  rw [if_pos ⟨h, h⟩, show D.eqv d d = true from eqv_self d]
  rfl
theorem eqD_self {d : D} (h : d.shp = true) : eqD d d = some (.bl true) := by
  unfold eqD
  rw [if_pos ⟨h, h⟩, show D.eqv d d = true from eqv_self d]
theorem eqv_ne {d e : D} (h : nb d = true) (h' : nb e = true) (n : d ≠ e) : D.eqv d e = false := by
  cases q : D.eqv d e with
  | false => rfl
  | true => exact absurd ((eqv_iff d e h h').mp q) n
theorem eqD_nb {d e : D} (s : d.shp = true) (s' : e.shp = true) (h : nb d = true) (h' : nb e = true) [Decidable (d = e)] : eqD d e = some (.bl (decide (d = e))) := by
  by_cases q : d = e
  · subst q; rw [eqD_self s]; simp
  · unfold eqD; rw [if_pos ⟨s, s'⟩, eqv_ne h h' q]; simp [q]
theorem neD_nb {d e : D} (s : d.shp = true) (s' : e.shp = true) (h : nb d = true) (h' : nb e = true) [Decidable (d = e)] : neD d e = some (.bl (decide (d ≠ e))) := by
  by_cases q : d = e
  · subst q; rw [neD_self s]; simp
  · unfold neD; rw [if_pos ⟨s, s'⟩, eqv_ne h h' q]; simp [q]
/-! ### shapes -/
mutual
def D.dep : D → Nat
  | .tup ds => D.deps ds + 1
  | .lst ds => D.deps ds + 1
  | .scr _ => 1
  | _ => 0
def D.deps : List D → Nat
  | [] => 0
  | d :: ds => max d.dep (D.deps ds)
end
mutual
def D.okS : D → Bool
  | .str x => PyData.strOk x
  | .tup ds => D.okSs ds
  | .lst ds => D.okSs ds
  | _ => true
def D.okSs : List D → Bool
  | [] => true
  | d :: ds => d.okS && D.okSs ds
end
mutual
theorem py_can : ∀ d : D, PyData.canLay0 d.py = d.okS
  | .non => rfl
  | .bl _ => rfl
  | .int _ => rfl
  | .str _ => rfl
  | .tup ds => by rw [D.py, PyData.canLay0, D.okS]; exact pys_can ds
  | .lst ds => by rw [D.py, PyData.canLay0, D.okS]; exact pys_can ds
  | .scr ns => by
    rw [D.py, PyData.canLay0, show D.okS (.scr ns) = true by simp [D.okS]]
    induction ns with
    | nil => rfl
    | cons n ns ih => rw [List.map_cons, PyData.canLayAll0, ih]; rfl
theorem pys_can : ∀ ds : List D, PyData.canLayAll0 (D.pys ds) = D.okSs ds
  | [] => rfl
  | d :: ds => by rw [D.pys, PyData.canLayAll0, D.okSs, py_can d, pys_can ds]
end
mutual
theorem py_dep : ∀ d : D, PyData.depth d.py = d.dep
  | .non => rfl
  | .bl _ => rfl
  | .int _ => rfl
  | .str _ => rfl
  | .tup ds => by rw [D.py, PyData.depth, D.dep, pys_dep ds]
  | .lst ds => by rw [D.py, PyData.depth, D.dep, pys_dep ds]
  | .scr ns => by
    rw [D.py, PyData.depth, D.dep]
    suffices h : PyData.depthAll (ns.map PyData.int) = 0 by rw [h]
    induction ns with
    | nil => rfl
    | cons n ns ih => rw [List.map_cons, PyData.depthAll, ih]; rfl
theorem pys_dep : ∀ ds : List D, PyData.depthAll (D.pys ds) = D.deps ds
  | [] => rfl
  | d :: ds => by rw [D.pys, PyData.depthAll, D.deps, py_dep d, pys_dep ds]
end
theorem shp_eq (d : D) : d.shp = (d.okS && decide (d.dep ≤ 64)) := by
  unfold D.shp SeqAt.shaped
  rw [py_can, py_dep]
theorem shp_of {d : D} (h : d.okS = true) (h2 : d.dep ≤ 64) : d.shp = true := by
  rw [shp_eq, h, decide_eq_true h2]; rfl
theorem okSs_all : ∀ {ds : List D}, (∀ d ∈ ds, d.okS = true) → D.okSs ds = true
  | [], _ => rfl
  | d :: ds, h => by rw [D.okSs, h d List.mem_cons_self, okSs_all fun x hx => h x (List.mem_cons_of_mem _ hx)]; rfl
theorem deps_le : ∀ {ds : List D} {n : Nat}, (∀ d ∈ ds, d.dep ≤ n) → D.deps ds ≤ n
  | [], _, _ => Nat.zero_le _
  | d :: ds, n, h => by
    rw [D.deps]
    exact Nat.max_le.mpr ⟨h d List.mem_cons_self, deps_le fun x hx => h x (List.mem_cons_of_mem _ hx)⟩
theorem nbs_all : ∀ {ds : List D}, (∀ d ∈ ds, nb d = true) → nbs ds = true
  | [], _ => rfl
  | d :: ds, h => by rw [nbs, h d List.mem_cons_self, nbs_all fun x hx => h x (List.mem_cons_of_mem _ hx)]; rfl
/-- plain data: equality is == -/
structure Pl (d : D) (n : Nat) : Prop where
  ok : d.okS = true
  dp : d.dep ≤ n
  nb : nb d = true
theorem Pl.int (i : Int) (n : Nat) : Pl (.int i) n := ⟨rfl, Nat.zero_le _, rfl⟩
theorem Pl.non (n : Nat) : Pl .non n := ⟨rfl, Nat.zero_le _, rfl⟩
theorem Pl.str {x : Str} (h : PyData.strOk x = true) (n : Nat) : Pl (.str x) n := ⟨h, Nat.zero_le _, rfl⟩
theorem Pl.lst {ds : List D} {n : Nat} (h : ∀ d ∈ ds, Pl d n) : Pl (.lst ds) (n + 1) := ⟨okSs_all fun d hd => (h d hd).ok, Nat.succ_le_succ (deps_le fun d hd => (h d hd).dp), nbs_all fun d hd => (h d hd).nb⟩
theorem Pl.tup {ds : List D} {n : Nat} (h : ∀ d ∈ ds, Pl d n) : Pl (.tup ds) (n + 1) := ⟨okSs_all fun d hd => (h d hd).ok, Nat.succ_le_succ (deps_le fun d hd => (h d hd).dp), nbs_all fun d hd => (h d hd).nb⟩
theorem Pl.ints (ns : List Int) : Pl (.lst (ns.map D.int)) 1 := Pl.lst fun d hd => by obtain ⟨i, _, rfl⟩ := List.mem_map.mp hd; exact Pl.int i 0
theorem Pl.intT (ns : List Int) : Pl (.tup (ns.map D.int)) 1 := Pl.tup fun d hd => by obtain ⟨i, _, rfl⟩ := List.mem_map.mp hd; exact Pl.int i 0
theorem Pl.shp {d : D} {n : Nat} (h : Pl d n) (hn : n ≤ 64 := by decide) : d.shp = true := shp_of h.ok (Nat.le_trans h.dp hn)
theorem Pl.ne {d e : D} {n m : Nat} (h : Pl d n) (h' : Pl e m) [Decidable (d = e)] (hn : n ≤ 64 := by decide) (hm : m ≤ 64 := by decide) : neD d e = some (.bl (decide (d ≠ e))) := neD_nb (h.shp hn) (h'.shp hm) h.nb h'.nb
theorem Pl.eq {d e : D} {n m : Nat} (h : Pl d n) (h' : Pl e m) [Decidable (d = e)] (hn : n ≤ 64 := by decide) (hm : m ≤ 64 := by decide) : eqD d e = some (.bl (decide (d = e))) := eqD_nb (h.shp hn) (h'.shp hm) h.nb h'.nb
theorem Pl.ne0 {d : D} {n : Nat} (h : Pl d n) (hn : n ≤ 64 := by decide) : neD d d = some (.bl false) := neD_self (h.shp hn)
theorem map_int_inj {a b : List Int} : a.map D.int = b.map D.int ↔ a = b := by
  constructor
  · intro h
    have := congrArg (List.map fun d => match d with | D.int i => i | _ => 0) h
    simpa [List.map_map, Function.comp_def] using this
  · rintro rfl; rfl
/-! ### comprehensions -/
section
variable {ρ : Env} {it : Ga} {v : Nat} {t : Gt} {g : Gx} {ds : List D}
theorem set_rest (ρ : Env) (v : Nat) (z : Option D) (hv : v < ρ.length) : (ρ.set v z).set v (ρ[v]?.getD none) = ρ := by
  rw [List.set_set, List.getElem?_eq_getElem hv, Option.getD_some, List.set_getElem_self]
theorem loopC_1 {F : D → D} {c : D → Bool} : ∀ {ds : List D} {z : Option D}, (∀ x ∈ ds, t (ρ.set v (some x)) = some (c x, ρ.set v (some x)) ∧ (c x = true → g (ρ.set v (some x)) = some (F x, ρ.set v (some x)))) →
    ∃ z', loopC (hName v) t g [v] ds (ρ.set v z) = some ((ds.filter c).map F, ρ.set v z')
  | [], z, _ => ⟨z, rfl⟩
  | x :: xs, z, h => by
    obtain ⟨h1, h2⟩ := h x List.mem_cons_self
    rw [loopC_cons, hName_ap, List.set_set, Option.bind_some, h1, Option.bind_some]
    cases hc : c x with
    | true =>
      rw [if_pos rfl, h2 hc, Option.bind_some, wipeE_cons, wipeE_nil, List.set_set]
      obtain ⟨z', e⟩ := loopC_1 (ds := xs) (z := none) fun y hy => h y (List.mem_cons_of_mem _ hy)
      exact ⟨z', by rw [e, List.filter_cons_of_pos hc]; rfl⟩
    | false =>
      rw [if_neg Bool.false_ne_true, wipeE_cons, wipeE_nil, List.set_set]
      obtain ⟨z', e⟩ := loopC_1 (ds := xs) (z := none) fun y hy => h y (List.mem_cons_of_mem _ hy)
      exact ⟨z', by rw [e, List.filter_cons_of_neg (by rw [hc]; exact Bool.false_ne_true)]⟩
/-- [g for v in it if t], that changes nothing -/
theorem comp_if {F : D → D} {c : D → Bool} (hv : v < ρ.length) (hi : it ρ = some (ds, ρ)) (hl : ds.length ≤ 100000) (h : ∀ x ∈ ds, t (ρ.set v (some x)) = some (c x, ρ.set v (some x)) ∧ (c x = true → g (ρ.set v (some x)) = some (F x, ρ.set v (some x)))) :
    cComp it (hName v) t g [v] ρ = some (.lst ((ds.filter c).map F), ρ) := by
  obtain ⟨z', e⟩ := loopC_1 (z := none) h
  rw [cComp_ap, hi, Option.bind_some, if_pos hl, wipeE_cons, wipeE_nil, e, Option.map_some, restE_cons, restE_nil]
  show some (D.lst ((ds.filter c).map F), (ρ.set v z').set v (ρ[v]?.getD none)) = _
  rw [set_rest ρ v z' hv]
/-- [g for v in it], that changes nothing -/
theorem comp_map {F : D → D} (hv : v < ρ.length) (hi : it ρ = some (ds, ρ)) (hl : ds.length ≤ 100000) (h : ∀ x ∈ ds, g (ρ.set v (some x)) = some (F x, ρ.set v (some x))) :
    cComp it (hName v) cYes g [v] ρ = some (.lst (ds.map F), ρ) := by
  rw [comp_if (F := F) (c := fun _ => true) hv hi hl fun x hx => ⟨rfl, fun _ => h x hx⟩, List.filter_eq_self.mpr fun _ _ => rfl]
end
theorem rangeD_map {β : Type} (lo hi : Int) (F : D → β) : (rangeD lo hi).map F = (List.range (hi - lo).toNat).map fun i => F (.int (lo + (i : Nat))) := by unfold rangeD; rw [List.map_map]; rfl
theorem range0_map {β : Type} (n : Nat) (F : D → β) : (rangeD 0 (n : Int)).map F = (List.range n).map fun i => F (.int (i : Nat)) := by
  rw [rangeD_map]
  simp
theorem rngN {n : Nat} (h : n ≤ 1000000 := by omega) : rng1 [.int (n : Int)] = some (rangeD 0 n) := rng1_ap ⟨by omega, by omega⟩
theorem mem_range0 {n : Nat} {x : D} (h : x ∈ rangeD 0 (n : Int)) : ∃ i : Nat, x = .int (i : Int) ∧ i < n := by
  obtain ⟨i, e, h⟩ := rangeD_mem h
  exact ⟨i, by rw [e]; simp, by omega⟩
theorem range0_len (n : Nat) : (rangeD 0 (n : Int)).length = n := by rw [rangeD_len]; simp
theorem range0_get {n i : Nat} {x : D} (h : (rangeD 0 (n : Int))[i]? = some x) : x = .int (i : Int) ∧ i < n := by
  obtain ⟨e, h⟩ := rangeD_get h
  exact ⟨by rw [e]; simp, by omega⟩
/-! ### comprehensions by index -/
section
variable {α : Type} {ρ : Env} {it : Ga} {v : Nat} {t : Gt} {g : Gx}
theorem loopC_ix {G F : α → D} {c : α → Bool} : ∀ {is : List α} {z : Option D}, (∀ i ∈ is, t (ρ.set v (some (G i))) = some (c i, ρ.set v (some (G i))) ∧ (c i = true → g (ρ.set v (some (G i))) = some (F i, ρ.set v (some (G i))))) →
    ∃ z', loopC (hName v) t g [v] (is.map G) (ρ.set v z) = some ((is.filter c).map F, ρ.set v z')
  | [], z, _ => ⟨z, rfl⟩
  | x :: xs, z, h => by
    obtain ⟨h1, h2⟩ := h x List.mem_cons_self
    rw [List.map_cons, loopC_cons, hName_ap, List.set_set, Option.bind_some, h1, Option.bind_some]
    cases hc : c x with
    | true =>
      rw [if_pos rfl, h2 hc, Option.bind_some, wipeE_cons, wipeE_nil, List.set_set]
      obtain ⟨z', e⟩ := loopC_ix (is := xs) (z := none) fun y hy => h y (List.mem_cons_of_mem _ hy)
      exact ⟨z', by rw [e, List.filter_cons_of_pos hc]; rfl⟩
    | false =>
      rw [if_neg Bool.false_ne_true, wipeE_cons, wipeE_nil, List.set_set]
      obtain ⟨z', e⟩ := loopC_ix (is := xs) (z := none) fun y hy => h y (List.mem_cons_of_mem _ hy)
      exact ⟨z', by rw [e, List.filter_cons_of_neg (by rw [hc]; exact Bool.false_ne_true)]⟩
theorem comp_ixIf {G F : α → D} {c : α → Bool} {is : List α} (hv : v < ρ.length) (hi : it ρ = some (is.map G, ρ)) (hl : is.length ≤ 100000)
    (h : ∀ i ∈ is, t (ρ.set v (some (G i))) = some (c i, ρ.set v (some (G i))) ∧ (c i = true → g (ρ.set v (some (G i))) = some (F i, ρ.set v (some (G i))))) :
    cComp it (hName v) t g [v] ρ = some (.lst ((is.filter c).map F), ρ) := by
  obtain ⟨z', e⟩ := loopC_ix (z := none) h
  rw [cComp_ap, hi, Option.bind_some, if_pos (by rw [List.length_map]; exact hl), wipeE_cons, wipeE_nil, e, Option.map_some, restE_cons, restE_nil]
  show some (D.lst ((is.filter c).map F), (ρ.set v z').set v (ρ[v]?.getD none)) = _
  rw [set_rest ρ v z' hv]
theorem comp_ix {G F : α → D} {is : List α} (hv : v < ρ.length) (hi : it ρ = some (is.map G, ρ)) (hl : is.length ≤ 100000) (h : ∀ i ∈ is, g (ρ.set v (some (G i))) = some (F i, ρ.set v (some (G i)))) :
    cComp it (hName v) cYes g [v] ρ = some (.lst (is.map F), ρ) := by
  rw [comp_ixIf (F := F) (c := fun _ => true) hv hi hl fun x hx => ⟨rfl, fun _ => h x hx⟩, List.filter_eq_self.mpr fun _ _ => rfl]
end
theorem rangeD_nat (n : Nat) : rangeD 0 (n : Int) = (List.range n).map fun (i : Nat) => D.int (i : Int) := by
  unfold rangeD
  simp
theorem filter_one {n k : Nat} {p : Nat → Bool} (hk : k < n) (h : ∀ i, i < n → (p i = true ↔ i = k)) : (List.range n).filter p = [k] := by
  induction n with
  | zero => omega
  | succ n ih =>
    rw [List.range_succ, List.filter_append]
    by_cases hn : n = k
    · subst hn
      rw [List.filter_eq_nil_iff.mpr fun i hi => by
        have hi := List.mem_range.mp hi
        rw [h i (by omega)]; omega, List.filter_cons_of_pos ((h n (by omega)).mpr rfl)]
      rfl
    · rw [ih (by omega) fun i hi => h i (by omega), List.filter_cons_of_neg (by rw [h n (by omega)]; exact hn)]
      rfl
theorem itR {g : Gx} {ρ ρ' : Env} {n : Nat} (h : g ρ = some (.int (n : Nat), ρ')) (hn : n ≤ 1000000 := by omega) : cItA rng1 (evA [g]) ρ = some (rangeD 0 (n : Nat), ρ') := by
  rw [cItA_ap, evA_cons, h, Option.bind_some, evA_nil, Option.map_some, Option.bind_some]
  show ((rng1 [.int (n : Nat)]).map fun ds => (ds, ρ')) = _
  rw [rngN hn]
  rfl
theorem itRm {g : Gx} {ρ ρ' : Env} {n : Nat} (h : g ρ = some (.int (n : Nat), ρ')) (hn : n ≤ 1000000 := by omega) : cItA rng1 (evA [g]) ρ = some ((List.range n).map fun (i : Nat) => D.int (i : Int), ρ') := by
  rw [itR h hn, rangeD_nat]
theorem lenD_str {x : Str} (h : x.length ≤ 100000) : lenD [.str x] = some (.int x.length) := if_pos h
/-! ### draws -/
abbrev sta (n : Nat) : D := .lst [.int n]
def DigF (F : Fn) : Prop := ∀ n m : Nat, 0 < m → m < 2 ^ 60 → F [sta n, .int m] = some (.int (n % m : Nat), [sta (n / m)])
theorem digit_ap {F : Fn} (hF : DigF F) {s m st : Nat} {g : Gx} {ρ : Env} (hs : ρ[s]? = some (some (sta st))) (hg : g ρ = some (.int (m : Nat), ρ)) (h0 : 0 < m) (h1 : m < 2 ^ 60) :
    cUser F [.s s, .v g] ρ = some (.int (st % m : Nat), ρ.set s (some (sta (st / m)))) := by
  rw [cUser_ap, evR_s, hs, Option.getD_some, Option.bind_some, evR_v, hg]
  simp only [Option.bind_some, evR_nil, Option.map_some, hs, Option.getD_some, hF st m h0 h1, slotsR_s, slotsR_v, slotsR_nil, setOuts_cons, setOuts_nil]
section
variable {α : Type} {G : α → D} {Pd : α → Prop} {v s : Nat} {g : Gx} {ρ : Env}
theorem loopC_draw (hvs : v ≠ s) : ∀ {ds : List D} {st : Nat} {z : Option D}, (∀ x ∈ ds, ∀ st : Nat, ∃ a, ∃ st' : Nat, Pd a ∧ g ((ρ.set s (some (sta st))).set v (some x)) = some (G a, (ρ.set s (some (sta st'))).set v (some x))) →
    ∃ (l : List α) (st' : Nat) (z' : Option D), l.length = ds.length ∧ (∀ a ∈ l, Pd a) ∧ loopC (hName v) cYes g [v] ds ((ρ.set s (some (sta st))).set v z) = some (l.map G, (ρ.set s (some (sta st'))).set v z')
  | [], st, z, _ => ⟨[], st, z, rfl, by simp, rfl⟩
  | x :: xs, st, z, h => by
    obtain ⟨a, st1, p, e⟩ := h x List.mem_cons_self st
    obtain ⟨l, st2, z', h1, h2, h3⟩ := loopC_draw hvs (ds := xs) (st := st1) (z := none) fun y hy => h y (List.mem_cons_of_mem _ hy)
    refine ⟨a :: l, st2, z', by rw [List.length_cons, List.length_cons, h1], fun b hb => (List.mem_cons.mp hb).elim (fun e => e ▸ p) (h2 b), ?_⟩
    rw [loopC_cons, hName_ap, List.set_set, Option.bind_some, cYes_ap, Option.bind_some, if_pos rfl]
    show (g ((ρ.set s (some (sta st))).set v (some x))).bind _ = _
    rw [e, Option.bind_some, wipeE_cons, wipeE_nil, List.set_set, h3]
    rfl
theorem comp_draw {it : Ga} {ρ0 : Env} {ds : List D} {st : Nat} (hvs : v ≠ s) (hit : it ρ0 = some (ds, ρ)) (hs : ρ[s]? = some (some (sta st))) (hv : v < ρ.length) (hl : ds.length ≤ 100000)
    (h : ∀ x ∈ ds, ∀ st : Nat, ∃ a, ∃ st' : Nat, Pd a ∧ g ((ρ.set s (some (sta st))).set v (some x)) = some (G a, (ρ.set s (some (sta st'))).set v (some x))) :
    ∃ (l : List α) (st' : Nat), l.length = ds.length ∧ (∀ a ∈ l, Pd a) ∧ cComp it (hName v) cYes g [v] ρ0 = some (.lst (l.map G), ρ.set s (some (sta st'))) := by
  obtain ⟨l, st', z', h1, h2, h3⟩ := loopC_draw hvs (st := st) (z := none) h
  refine ⟨l, st', h1, h2, ?_⟩
  have e : ρ.set s (some (sta st)) = ρ := by
    obtain ⟨hl, e⟩ := List.getElem?_eq_some_iff.mp hs
    rw [← e, List.set_getElem_self]
  rw [e] at h3
  rw [cComp_ap, hit, Option.bind_some, if_pos hl, wipeE_cons, wipeE_nil, h3, Option.map_some, restE_cons, restE_nil]
  show some (D.lst (l.map G), ((ρ.set s (some (sta st'))).set v z').set v (ρ[v]?.getD none)) = _
  have := set_rest (ρ.set s (some (sta st'))) v z' (by rw [List.length_set]; exact hv)
  rw [List.getElem?_set_ne (Ne.symm hvs)] at this
  rw [this]
end
theorem blsD_map {α : Type} (f : α → Bool) : ∀ l : List α, blsD (l.map fun i => D.bl (f i)) = some (l.map f)
  | [] => rfl
  | a :: l => by
    rw [List.map_cons, blsD, blsD_map f l]
    rfl
theorem strsD_map {α : Type} (f : α → Str) : ∀ l : List α, strsD (l.map fun i => D.str (f i)) = some (l.map f)
  | [] => rfl
  | a :: l => by
    rw [List.map_cons, strsD, strsD_map f l]
    rfl
theorem intsD_map {α : Type} (f : α → Int) : ∀ l : List α, intsD (l.map fun i => D.int (f i)) = some (l.map f)
  | [] => rfl
  | a :: l => by
    rw [List.map_cons, intsD, intsD_map f l]
    rfl
theorem allD_map {α : Type} (f : α → Bool) (l : List α) : allD [.lst (l.map fun i => D.bl (f i))] = some (.bl (l.all f)) := by
  show (blsD _).map _ = _
  rw [blsD_map, Option.map_some, List.all_map]
  rfl
end G
namespace T33
open PySem PySem.Spec PyProof.Rows L2 G
def topS (i : Nat) : Stmt := PySem.Challenge.pw_bellring_k33_whole_lines_and_their_slips.main.body.getD i (.Pass ⟨0, 0, 0, 0⟩)
abbrev whileN : Nat := 1000000

def c_SIGNS : D := (D.str "abcdefghijklmnopqrstuvwxyz0123456789ET,./*+-= ")
def c_RING : D := (D.int 23)
section
variable {Pg : Program} {w : World} {K : PySem.W.Frag} {mg : Str → Option Value} {base : Heap}
abbrev s_joined_turns : Stmt := topS 3
abbrev N_joined_turns : List Str := ["one", "other", "first", "mirrored", "second", "turned", "place"]
abbrev p_joined_turns : List Str := ["one", "other"]
theorem sc_joined_turns : FnScope N_joined_turns p_joined_turns (defScope s_joined_turns) := ⟨rfl, rfl, rfl, by decide +kernel, rfl, by decide +kernel, by decide +kernel⟩
def b_joined_turns : Gs := (cSeq (cPar 2 3 (evA [(cOp modD (cVar 0) (cK c_RING)), (cOp geD (cVar 0) (cK c_RING))]))
    (cSeq (cPar 4 5 (evA [(cOp modD (cVar 1) (cK c_RING)), (cOp geD (cVar 1) (cK c_RING))]))
    (cSeq (cSet 6 (cOp modD (cIf (cTest (cVar 3)) (cOp subD (cVar 2) (cVar 4)) (cOp addD (cVar 2) (cVar 4))) (cK c_RING)))
    (cRet (cOp addD (cVar 6) (cIf (cTest (cOp neD (cVar 3) (cVar 5))) (cK c_RING) (cK (D.int 0))))))))
def f_joined_turns : Fn := runB 7 2 [] false b_joined_turns
theorem ok_joined_turns {f : Addr} {fd : FuncData} (F : Fun K "joined_turns" "joined_turns" s_joined_turns f fd) (g_RING : Glb K mg "RING" c_RING) : FnOk Pg w K mg base CX0 1 f fd p_joined_turns (spF K f_joined_turns [] false) := by
  have S := sc_joined_turns
  exact fn_mk (N := N_joined_turns) (P := []) (Oe := []) (own := false) (b := b_joined_turns) F S fun cdv A outer s H E hr =>
    (ss_cons (O1 := []) (sj_par (i := 2) (j := 3) (by decide) (by decide) rfl S.nd (by decide) (aj_cons (ej_mod (ej_var 0) (ej_gl g_RING)) (aj_cons (ej_ge (ej_var 0) (ej_gl g_RING)) aj_nil)))
    (ss_cons (O1 := []) (sj_par (i := 4) (j := 5) (by decide) (by decide) rfl S.nd (by decide) (aj_cons (ej_mod (ej_var 1) (ej_gl g_RING)) (aj_cons (ej_ge (ej_var 1) (ej_gl g_RING)) aj_nil)))
    (ss_cons (O1 := []) (sj_set (i := 6) (by decide) S.nd (ej_mod (ej_if (tj_val (ej_var 3)) (ej_sub (ej_var 2) (ej_var 4)) (ej_add (ej_var 2) (ej_var 4))) (ej_gl g_RING)))
    (ss_one (sj_ret (ej_add (ej_var 6) (ej_if (tj_ne hr.units (ej_var 3) (ej_var 5)) (ej_gl g_RING) ej_int)))))))
abbrev s_moved : Stmt := topS 4
abbrev N_moved : List Str := ["number"]
abbrev p_moved : List Str := ["number"]
theorem sc_moved : FnScope N_moved p_moved (defScope s_moved) := ⟨rfl, rfl, rfl, by decide +kernel, rfl, by decide +kernel, by decide +kernel⟩
def b_moved : Gs := (cSeq (cIfS (cTest (cOp ltD (cVar 0) (cK c_RING))) (cRet (cOp modD (cUn negD (cVar 0)) (cK c_RING))) cNil)
    (cRet (cOp addD (cK c_RING) (cOp modD (cOp addD (cOp subD (cVar 0) (cK c_RING)) (cK (D.int 1))) (cK c_RING)))))
def f_moved : Fn := runB 1 1 [] false b_moved
theorem ok_moved {f : Addr} {fd : FuncData} (F : Fun K "moved" "moved" s_moved f fd) (g_RING : Glb K mg "RING" c_RING) : FnOk Pg w K mg base CX0 1 f fd p_moved (spF K f_moved [] false) := by
  have S := sc_moved
  exact fn_mk (N := N_moved) (P := []) (Oe := []) (own := false) (b := b_moved) F S fun cdv A outer s H E hr =>
    (ss_cons (O1 := []) (sj_if (tj_lt (ej_var 0) (ej_gl g_RING)) (ss_one (sj_ret (ej_mod (ej_neg (ej_var 0)) (ej_gl g_RING)))) ss_nil)
    (ss_one (sj_ret (ej_add (ej_gl g_RING) (ej_mod (ej_add (ej_sub (ej_var 0) (ej_gl g_RING)) ej_int) (ej_gl g_RING))))))
abbrev s_moved_often : Stmt := topS 5
abbrev N_moved_often : List Str := ["number", "times"]
abbrev p_moved_often : List Str := ["number", "times"]
theorem sc_moved_often : FnScope N_moved_often p_moved_often (defScope s_moved_often) := ⟨rfl, rfl, rfl, by decide +kernel, rfl, by decide +kernel, by decide +kernel⟩
def b_moved_often : Gs := (cSeq (cIfS (cTest (cOp ltD (cVar 0) (cK c_RING))) (cRet (cIf (cTest (cOp eqD (cOp modD (cVar 1) (cK (D.int 2))) (cK (D.int 0)))) (cVar 0) (cOp modD (cUn negD (cVar 0)) (cK c_RING)))) cNil)
    (cRet (cOp addD (cK c_RING) (cOp modD (cOp addD (cOp subD (cVar 0) (cK c_RING)) (cVar 1)) (cK c_RING)))))
def f_moved_often : Fn := runB 2 2 [] false b_moved_often
theorem ok_moved_often {f : Addr} {fd : FuncData} (F : Fun K "moved_often" "moved_often" s_moved_often f fd) (g_RING : Glb K mg "RING" c_RING) : FnOk Pg w K mg base CX0 1 f fd p_moved_often (spF K f_moved_often [] false) := by
  have S := sc_moved_often
  exact fn_mk (N := N_moved_often) (P := []) (Oe := []) (own := false) (b := b_moved_often) F S fun cdv A outer s H E hr =>
    (ss_cons (O1 := []) (sj_if (tj_lt (ej_var 0) (ej_gl g_RING)) (ss_one (sj_ret (ej_if (tj_eq hr.units (ej_mod (ej_var 1) ej_int) ej_int) (ej_var 0) (ej_mod (ej_neg (ej_var 0)) (ej_gl g_RING))))) ss_nil)
    (ss_one (sj_ret (ej_add (ej_gl g_RING) (ej_mod (ej_add (ej_sub (ej_var 0) (ej_gl g_RING)) (ej_var 1)) (ej_gl g_RING))))))
abbrev s_sum_of_line : Stmt := topS 6
abbrev N_sum_of_line : List Str := ["text", "total", "at", "sign"]
abbrev p_sum_of_line : List Str := ["text"]
theorem sc_sum_of_line : FnScope N_sum_of_line p_sum_of_line (defScope s_sum_of_line) := ⟨rfl, rfl, rfl, by decide +kernel, rfl, by decide +kernel, by decide +kernel⟩
def b_sum_of_line_L1 : Gs := (cSet 1 (cUser f_joined_turns [.v (cVar 1), .v (cUser f_moved_often [.v (cMtV indexS (cK c_SIGNS) (evA [(cVar 3)])), .v (cVar 2)])]))
def b_sum_of_line : Gs := (cSeq (cSet 1 (cK (D.int 0)))
    (cSeq (cFor (cEn (cVar 0)) (hTup 2 (hCons (hName 2) (hCons (hName 3) hNil))) b_sum_of_line_L1)
    (cRet (cVar 1))))
def f_sum_of_line : Fn := runB 4 1 [] false b_sum_of_line
theorem ok_sum_of_line {f : Addr} {fd : FuncData} (F : Fun K "sum_of_line" "sum_of_line" s_sum_of_line f fd) (C_joined_turns : Cal Pg w K mg base 1 "joined_turns" p_joined_turns f_joined_turns [] false) (C_moved_often : Cal Pg w K mg base 1 "moved_often" p_moved_often f_moved_often [] false) (g_SIGNS : Glb K mg "SIGNS" c_SIGNS) (m_enumerate : mg "enumerate" = none) : FnOk Pg w K mg base CX0 2 f fd p_sum_of_line (spF K f_sum_of_line [] false) := by
  have S := sc_sum_of_line
  exact fn_mk (N := N_sum_of_line) (P := []) (Oe := []) (own := false) (b := b_sum_of_line) F S fun cdv A outer s H E hr =>
    (ss_cons (O1 := []) (sj_set (i := 1) (by decide) S.nd ej_int)
    (ss_cons (O1 := []) (sj_for rfl PassesOwn.never (ij_enum m_enumerate (ej_var 0)) (gj_tup rfl (gsj_cons (gj_name (by decide) S.nd) (gsj_cons (gj_name (by decide) S.nd) gsj_nil))) (ss_one (sj_set (i := 1) (by decide) S.nd (ej_call C_joined_turns hr (rj_cons (ej_var 1) (rj_cons (ej_call C_moved_often hr (rj_cons (ej_bm PySem.F.plainAttrs_str PySem.F.slot_str_index PySem.F.type_str_index mt_ixS ixS_d (fun d ds z h => by unfold indexS at h; split at h <;> first | rfl | cases h) (ej_gl g_SIGNS) (aj_cons (ej_var 3) aj_nil)) (rj_cons (ej_var 2) rj_nil))) rj_nil))))))
    (ss_one (sj_ret (ej_var 1)))))
abbrev s_checked : Stmt := topS 7
abbrev N_checked : List Str := ["text", "sign"]
abbrev p_checked : List Str := ["text"]
theorem sc_checked : FnScope N_checked p_checked (defScope s_checked) := ⟨rfl, rfl, rfl, by decide +kernel, rfl, by decide +kernel, by decide +kernel⟩
def b_checked : Gs := (cRet (cOp addD (cVar 0) (cOp ixD (cComp (cIt (cK c_SIGNS)) (hName 1) (cTest (cOp eqD (cUser f_sum_of_line [.v (cOp addD (cVar 0) (cVar 1))]) (cK (D.int 0)))) (cVar 1) [1]) (cK (D.int 0)))))
def f_checked : Fn := runB 2 1 [] false b_checked
theorem ok_checked {f : Addr} {fd : FuncData} (F : Fun K "checked" "checked" s_checked f fd) (C_sum_of_line : Cal Pg w K mg base 2 "sum_of_line" p_sum_of_line f_sum_of_line [] false) (g_SIGNS : Glb K mg "SIGNS" c_SIGNS) : FnOk Pg w K mg base CX0 3 f fd p_checked (spF K f_checked [] false) := by
  have S := sc_checked
  exact fn_mk (N := N_checked) (P := []) (Oe := []) (own := false) (b := b_checked) F S fun cdv A outer s H E hr =>
    (ss_one (sj_ret (ej_add (ej_var 0) (ej_ix (EO.j (eo_comp rfl S.nd (ow := [("sign", 1)]) (S := [1]) (ij_any (ej_gl g_SIGNS)) (blkOk_by (own := [("sign", 1)]) (N := N_checked) (sc := defScope s_checked) (by decide +kernel)) (fun _ _ _ _ _ => (gj_name (by decide) S.nd)) (fun _ _ _ _ _ => (nj_one (tj_eq hr.units (ej_call C_sum_of_line hr (rj_cons (ej_add (ej_var 0) (ej_var 1)) rj_nil)) ej_int))) (fun _ _ _ _ _ => (ej_var 1)))) ej_int))))
abbrev s_is_checked : Stmt := topS 8
abbrev N_is_checked : List Str := ["text", "sign"]
abbrev p_is_checked : List Str := ["text"]
theorem sc_is_checked : FnScope N_is_checked p_is_checked (defScope s_is_checked) := ⟨rfl, rfl, rfl, by decide +kernel, rfl, by decide +kernel, by decide +kernel⟩
def b_is_checked : Gs := (cRet (cAndV (cOp neD (cVar 0) (cK (D.str ""))) (cAndV (cCall allD (evA [(cComp (cIt (cVar 0)) (hName 1) cYes (cOp inD (cVar 1) (cK c_SIGNS)) [1])])) (cOp eqD (cUser f_sum_of_line [.v (cVar 0)]) (cK (D.int 0))))))
def f_is_checked : Fn := runB 2 1 [] false b_is_checked
theorem ok_is_checked {f : Addr} {fd : FuncData} (F : Fun K "is_checked" "is_checked" s_is_checked f fd) (C_sum_of_line : Cal Pg w K mg base 2 "sum_of_line" p_sum_of_line f_sum_of_line [] false) (g_SIGNS : Glb K mg "SIGNS" c_SIGNS) (m_all : mg "all" = none) : FnOk Pg w K mg base CX0 3 f fd p_is_checked (spF K f_is_checked [] false) := by
  have S := sc_is_checked
  exact fn_mk (N := N_is_checked) (P := []) (Oe := []) (own := false) (b := b_is_checked) F S fun cdv A outer s H E hr =>
    (ss_one (sj_ret (ej_and (ej_ne hr.units (ej_var 0) ej_str) (ej_and (ej_all rfl m_all (aj_cons (EO.j (eo_comp rfl S.nd (ow := [("sign", 1)]) (S := [1]) (ij_any (ej_var 0)) (blkOk_by (own := [("sign", 1)]) (N := N_is_checked) (sc := defScope s_is_checked) (by decide +kernel)) (fun _ _ _ _ _ => (gj_name (by decide) S.nd)) (fun _ _ _ _ _ => nj_nil) (fun _ _ _ _ _ => (ej_in hr (ej_var 1) (ej_gl g_SIGNS))))) aj_nil)) (ej_one (ej_eq hr.units (ej_call C_sum_of_line hr (rj_cons (ej_var 0) rj_nil)) ej_int))))))
abbrev s__law_start : Stmt := topS 10
abbrev N__law_start : List Str := ["script", "k", "cell", "prime", "mixed", "number", "turn"]
abbrev p__law_start : List Str := ["script", "k"]
theorem sc__law_start : FnScope N__law_start p__law_start (defScope s__law_start) := ⟨rfl, rfl, rfl, by decide +kernel, rfl, by decide +kernel, by decide +kernel⟩
def b__law_start_L1 : Gs := (cSeq (cSet 4 (cOp modD (cCall intD (evA [(cOp addD (cOp addD (cOp addD (cOp addD (cOp mulD (cVar 4) (cVar 4)) (cOp mulD (cK (D.int 7)) (cVar 4))) (cOp mulD (cK (D.int 131)) (cVar 1))) (cVar 6)) (cK (D.int 3)))])) (cVar 3)))
    (cSet 5 (cOp addD (cOp mulD (cVar 5) (cVar 3)) (cVar 4))))
def b__law_start : Gs := (cSeq (cSet 2 (cK (D.int 0)))
    (cSeq (cIfS (cTest (cOp gtD (cCall lenD (evA [(cVar 0)])) (cK (D.int 0)))) (cSet 2 (cCall intD (evA [(cOp ixD (cVar 0) (cOp modD (cCall intD (evA [(cVar 1)])) (cCall lenD (evA [(cVar 0)]))))]))) cNil)
    (cSeq (cIfS (cAnd (cTest (cOp ltD (cVar 1) (cCall lenD (evA [(cVar 0)])))) (cTest (cOp geD (cCall absD (evA [(cVar 2)])) (cOp powD (cK (D.int 10)) (cK (D.int 18)))))) (cRet (cLst [(cCall absD (evA [(cVar 2)]))])) cNil)
    (cSeq (cSet 3 (cK (D.int 618970019642690137449562111)))
    (cSeq (cSet 4 (cOp modD (cCall intD (evA [(cOp addD (cOp addD (cOp mulD (cVar 2) (cK (D.int 2654435761))) (cOp mulD (cOp addD (cVar 1) (cK (D.int 1))) (cK (D.int 6700417)))) (cK (D.int 11)))])) (cVar 3)))
    (cSeq (cSet 5 (cK (D.int 0)))
    (cSeq (cFor (cItA rng1 (evA [(cK (D.int 6))])) (hName 6) b__law_start_L1)
    (cRet (cLst [(cVar 5)])))))))))
def f__law_start : Fn := runB 7 2 [] true b__law_start
theorem ok__law_start {f : Addr} {fd : FuncData} (F : Fun K "_law_start" "_law_start" s__law_start f fd) (m_abs : mg "abs" = none) (m_int : mg "int" = none) (m_len : mg "len" = none) (m_range : mg "range" = none) : FnOk Pg w K mg base CX0 1 f fd p__law_start (spF K f__law_start [] true) := by
  have S := sc__law_start
  exact fn_mk (N := N__law_start) (P := []) (Oe := []) (own := true) (b := b__law_start) F S fun cdv A outer s H E hr =>
    (ss_cons (O1 := []) (sj_set (i := 2) (by decide) S.nd ej_int)
    (ss_cons (O1 := []) (sj_if (tj_gt (ej_len m_len (aj_cons (ej_var 0) aj_nil)) ej_int) (ss_one (sj_set (i := 2) (by decide) S.nd (ej_intc m_int (aj_cons (ej_ix (ej_var 0) (ej_mod (ej_intc m_int (aj_cons (ej_var 1) aj_nil)) (ej_len m_len (aj_cons (ej_var 0) aj_nil)))) aj_nil)))) ss_nil)
    (ss_cons (O1 := []) (sj_if (WJ.t (wj_and (tj_lt (ej_var 1) (ej_len m_len (aj_cons (ej_var 0) aj_nil))) (wj_and1 (tj_ge (ej_abs m_abs (aj_cons (ej_var 2) aj_nil)) (ej_pow ej_int ej_int))))) (ss_one (sj_retO (eo_lst (aj_cons (ej_abs m_abs (aj_cons (ej_var 2) aj_nil)) aj_nil)))) ss_nil)
    (ss_cons (O1 := []) (sj_set (i := 3) (by decide) S.nd ej_int)
    (ss_cons (O1 := []) (sj_set (i := 4) (by decide) S.nd (ej_mod (ej_intc m_int (aj_cons (ej_add (ej_add (ej_mul (ej_var 2) ej_int) (ej_mul (ej_add (ej_var 1) ej_int) ej_int)) ej_int) aj_nil)) (ej_var 3)))
    (ss_cons (O1 := []) (sj_set (i := 5) (by decide) S.nd ej_int)
    (ss_cons (O1 := []) (sj_for rfl PassesOwn.never (ij_range1 (by rfl) m_range (aj_cons ej_int aj_nil)) (gj_name (by decide) S.nd) (ss_cons (O1 := []) (sj_set (i := 4) (by decide) S.nd (ej_mod (ej_intc m_int (aj_cons (ej_add (ej_add (ej_add (ej_add (ej_mul (ej_var 4) (ej_var 4)) (ej_mul ej_int (ej_var 4))) (ej_mul ej_int (ej_var 1))) (ej_var 6)) ej_int) aj_nil)) (ej_var 3)))
    (ss_one (sj_set (i := 5) (by decide) S.nd (ej_add (ej_mul (ej_var 5) (ej_var 3)) (ej_var 4))))))
    (ss_one (sj_retO (eo_lst (aj_cons (ej_var 5) aj_nil)))))))))))
abbrev s__law_digit : Stmt := topS 11
abbrev N__law_digit : List Str := ["state", "many", "digit"]
abbrev p__law_digit : List Str := ["state", "many"]
theorem sc__law_digit : FnScope N__law_digit p__law_digit (defScope s__law_digit) := ⟨rfl, rfl, rfl, by decide +kernel, rfl, by decide +kernel, by decide +kernel⟩
def b__law_digit : Gs := (cSeq (cSet 2 (cOp modD (cCall intD (evA [(cPure (cOp ixD (cVar 0) (cK (D.int 0))))])) (cVar 1)))
    (cSeq (cSetIx 0 (cOp fdivD (cPure (cOp ixD (cVar 0) (cK (D.int 0)))) (cVar 1)) (cK (D.int 0)))
    (cRet (cVar 2))))
def f__law_digit : Fn := runB 3 2 [0] false b__law_digit
theorem ok__law_digit {f : Addr} {fd : FuncData} (F : Fun K "_law_digit" "_law_digit" s__law_digit f fd) (m_int : mg "int" = none) : FnOk Pg w K mg base CX0 1 f fd p__law_digit (spF K f__law_digit [0] false) := by
  have S := sc__law_digit
  exact fn_mk (N := N__law_digit) (P := [0]) (Oe := []) (own := false) (b := b__law_digit) F S fun cdv A outer s H E hr =>
    (ss_cons (O1 := [0]) (sj_set (i := 2) (by decide) S.nd (ej_mod (ej_intc m_int (aj_cons (ej_pure (ej_ix (ej_var 0) ej_int)) aj_nil)) (ej_var 1)))
    (ss_cons (O1 := [0]) (sj_setIx (i := 0) (by decide) (ej_fdiv (ej_pure (ej_ix (ej_var 0) ej_int)) (ej_var 1)) ej_int (ps_asg (ej_fdiv (ej_pure (ej_ix (ej_var 0) ej_int)) (ej_var 1)) (pg_sub (pv 0) ej_int set_list)))
    (ss_one (sj_ret (ej_var 2)))))
abbrev s__law_map : Stmt := topS 12
abbrev N__law_map : List Str := ["number", "place"]
abbrev p__law_map : List Str := ["number"]
theorem sc__law_map : FnScope N__law_map p__law_map (defScope s__law_map) := ⟨rfl, rfl, rfl, by decide +kernel, rfl, by decide +kernel, by decide +kernel⟩
def b__law_map : Gs := (cSeq (cIfS (cTest (cOp ltD (cVar 0) (cK (D.int 23)))) (cRet (cComp (cItA rng1 (evA [(cK (D.int 23))])) (hName 1) cYes (cOp modD (cCall intD (evA [(cOp addD (cVar 1) (cVar 0))])) (cK (D.int 23))) [1])) cNil)
    (cRet (cComp (cItA rng1 (evA [(cK (D.int 23))])) (hName 1) cYes (cOp modD (cCall intD (evA [(cOp subD (cOp subD (cVar 0) (cK (D.int 23))) (cVar 1))])) (cK (D.int 23))) [1])))
def f__law_map : Fn := runB 2 1 [] false b__law_map
theorem ok__law_map {f : Addr} {fd : FuncData} (F : Fun K "_law_map" "_law_map" s__law_map f fd) (m_int : mg "int" = none) (m_range : mg "range" = none) : FnOk Pg w K mg base CX0 1 f fd p__law_map (spF K f__law_map [] false) := by
  have S := sc__law_map
  exact fn_mk (N := N__law_map) (P := []) (Oe := []) (own := false) (b := b__law_map) F S fun cdv A outer s H E hr =>
    (ss_cons (O1 := []) (sj_if (tj_lt (ej_var 0) ej_int) (ss_one (sj_ret (EO.j (eo_comp rfl S.nd (ow := [("place", 1)]) (S := [1]) (ij_range1 (by rfl) m_range (aj_cons ej_int aj_nil)) (blkOk_by (own := [("place", 1)]) (N := N__law_map) (sc := defScope s__law_map) (by decide +kernel)) (fun _ _ _ _ _ => (gj_name (by decide) S.nd)) (fun _ _ _ _ _ => nj_nil) (fun _ _ _ _ _ => (ej_mod (ej_intc m_int (aj_cons (ej_add (ej_var 1) (ej_var 0)) aj_nil)) ej_int)))))) ss_nil)
    (ss_one (sj_ret (EO.j (eo_comp rfl S.nd (ow := [("place", 1)]) (S := [1]) (ij_range1 (by rfl) m_range (aj_cons ej_int aj_nil)) (blkOk_by (own := [("place", 1)]) (N := N__law_map) (sc := defScope s__law_map) (by decide +kernel)) (fun _ _ _ _ _ => (gj_name (by decide) S.nd)) (fun _ _ _ _ _ => nj_nil) (fun _ _ _ _ _ => (ej_mod (ej_intc m_int (aj_cons (ej_sub (ej_sub (ej_var 0) ej_int) (ej_var 1)) aj_nil)) ej_int)))))))
abbrev s__law_number : Stmt := topS 13
abbrev N__law_number : List Str := ["told", "found", "number"]
abbrev p__law_number : List Str := ["told"]
theorem sc__law_number : FnScope N__law_number p__law_number (defScope s__law_number) := ⟨rfl, rfl, rfl, by decide +kernel, rfl, by decide +kernel, by decide +kernel⟩
def b__law_number : Gs := (cSeq (cSet 1 (cComp (cItA rng1 (evA [(cK (D.int 46))])) (hName 2) (cTest (cOp eqD (cUser f__law_map [.v (cVar 2)]) (cVar 0))) (cVar 2) [2]))
    (cRet (cOp ixD (cVar 1) (cK (D.int 0)))))
def f__law_number : Fn := runB 3 1 [] false b__law_number
theorem ok__law_number {f : Addr} {fd : FuncData} (F : Fun K "_law_number" "_law_number" s__law_number f fd) (C__law_map : Cal Pg w K mg base 1 "_law_map" p__law_map f__law_map [] false) (m_range : mg "range" = none) : FnOk Pg w K mg base CX0 2 f fd p__law_number (spF K f__law_number [] false) := by
  have S := sc__law_number
  exact fn_mk (N := N__law_number) (P := []) (Oe := []) (own := false) (b := b__law_number) F S fun cdv A outer s H E hr =>
    (ss_cons (O1 := []) (sj_setComp (i := 1) (by decide) rfl S.nd (sw_true rfl rfl rfl (by decide +kernel)) (ow := [("number", 2)]) (S := [2]) (ij_range1 (by rfl) m_range (aj_cons ej_int aj_nil)) (blkOk_by (own := [("number", 2)]) (N := N__law_number) (sc := defScope s__law_number) (by decide +kernel)) (fun _ _ _ _ _ => (gj_name (by decide) S.nd)) (fun _ _ _ _ _ => (nj_one (tj_eq hr.units (ej_call C__law_map hr (rj_cons (ej_var 2) rj_nil)) (ej_var 0)))) (fun _ _ _ _ _ => (ej_var 2)))
    (ss_one (sj_ret (ej_ix (ej_var 1) ej_int))))
abbrev s__law_moved : Stmt := topS 14
abbrev N__law_moved : List Str := ["number", "times", "turn"]
abbrev p__law_moved : List Str := ["number", "times"]
theorem sc__law_moved : FnScope N__law_moved p__law_moved (defScope s__law_moved) := ⟨rfl, rfl, rfl, by decide +kernel, rfl, by decide +kernel, by decide +kernel⟩
def b__law_moved_L1 : Gs := (cSet 0 (cIf (cTest (cOp ltD (cVar 0) (cK (D.int 23)))) (cOp modD (cCall intD (evA [(cOp subD (cK (D.int 0)) (cVar 0))])) (cK (D.int 23))) (cOp addD (cK (D.int 23)) (cOp modD (cCall intD (evA [(cOp subD (cVar 0) (cK (D.int 22)))])) (cK (D.int 23))))))
def b__law_moved : Gs := (cSeq (cFor (cItA rng1 (evA [(cVar 1)])) (hName 2) b__law_moved_L1)
    (cRet (cVar 0)))
def f__law_moved : Fn := runB 3 2 [] false b__law_moved
theorem ok__law_moved {f : Addr} {fd : FuncData} (F : Fun K "_law_moved" "_law_moved" s__law_moved f fd) (m_int : mg "int" = none) (m_range : mg "range" = none) : FnOk Pg w K mg base CX0 1 f fd p__law_moved (spF K f__law_moved [] false) := by
  have S := sc__law_moved
  exact fn_mk (N := N__law_moved) (P := []) (Oe := []) (own := false) (b := b__law_moved) F S fun cdv A outer s H E hr =>
    (ss_cons (O1 := []) (sj_for rfl PassesOwn.never (ij_range1 (by rfl) m_range (aj_cons (ej_var 1) aj_nil)) (gj_name (by decide) S.nd) (ss_one (sj_set (i := 0) (by decide) S.nd (ej_if (tj_lt (ej_var 0) ej_int) (ej_mod (ej_intc m_int (aj_cons (ej_sub ej_int (ej_var 0)) aj_nil)) ej_int) (ej_add ej_int (ej_mod (ej_intc m_int (aj_cons (ej_sub (ej_var 0) ej_int) aj_nil)) ej_int))))))
    (ss_one (sj_ret (ej_var 0))))
abbrev s__law_sum : Stmt := topS 15
abbrev N__law_sum : List Str := ["text", "told", "k", "own", "place"]
abbrev p__law_sum : List Str := ["text"]
theorem sc__law_sum : FnScope N__law_sum p__law_sum (defScope s__law_sum) := ⟨rfl, rfl, rfl, by decide +kernel, rfl, by decide +kernel, by decide +kernel⟩
def b__law_sum_L1 : Gs := (cSeq (cSet 3 (cUser f__law_map [.v (cUser f__law_moved [.v (cMtV indexS (cK (D.str "abcdefghijklmnopqrstuvwxyz0123456789ET,./*+-= ")) (evA [(cOp ixD (cVar 0) (cVar 2))])), .v (cVar 2)])]))
    (cSet 1 (cComp (cItA rng1 (evA [(cK (D.int 23))])) (hName 4) cYes (cOp ixD (cVar 1) (cOp ixD (cVar 3) (cVar 4))) [4])))
def b__law_sum : Gs := (cSeq (cSet 1 (cLR (cItA rng1 (evA [(cK (D.int 23))]))))
    (cSeq (cFor (cItA rng1 (evA [(cCall lenD (evA [(cVar 0)]))])) (hName 2) b__law_sum_L1)
    (cRet (cUser f__law_number [.v (cVar 1)]))))
def f__law_sum : Fn := runB 5 1 [] false b__law_sum
theorem ok__law_sum {f : Addr} {fd : FuncData} (F : Fun K "_law_sum" "_law_sum" s__law_sum f fd) (C__law_map : Cal Pg w K mg base 1 "_law_map" p__law_map f__law_map [] false) (C__law_number : Cal Pg w K mg base 2 "_law_number" p__law_number f__law_number [] false) (C__law_moved : Cal Pg w K mg base 1 "_law_moved" p__law_moved f__law_moved [] false) (m_len : mg "len" = none) (m_list : mg "list" = none) (m_range : mg "range" = none) : FnOk Pg w K mg base CX0 3 f fd p__law_sum (spF K f__law_sum [] false) := by
  have S := sc__law_sum
  exact fn_mk (N := N__law_sum) (P := []) (Oe := []) (own := false) (b := b__law_sum) F S fun cdv A outer s H E hr =>
    (ss_cons (O1 := []) (sj_set (i := 1) (by decide) S.nd (EO.j (eo_listRg rfl m_list (prg_1 rfl m_range ej_int) rgT1)))
    (ss_cons (O1 := []) (sj_for rfl PassesOwn.never (ij_range1 (by rfl) m_range (aj_cons (ej_len m_len (aj_cons (ej_var 0) aj_nil)) aj_nil)) (gj_name (by decide) S.nd) (ss_cons (O1 := []) (sj_set (i := 3) (by decide) S.nd (ej_call C__law_map hr (rj_cons (ej_call C__law_moved hr (rj_cons (ej_bm PySem.F.plainAttrs_str PySem.F.slot_str_index PySem.F.type_str_index mt_ixS ixS_d (fun d ds z h => by unfold indexS at h; split at h <;> first | rfl | cases h) ej_str (aj_cons (ej_ix (ej_var 0) (ej_var 2)) aj_nil)) (rj_cons (ej_var 2) rj_nil))) rj_nil)))
    (ss_one (sj_set (i := 1) (by decide) S.nd (EO.j (eo_comp rfl S.nd (ow := [("place", 4)]) (S := [4]) (ij_range1 (by rfl) m_range (aj_cons ej_int aj_nil)) (blkOk_by (own := [("place", 4)]) (N := N__law_sum) (sc := defScope s__law_sum) (by decide +kernel)) (fun _ _ _ _ _ => (gj_name (by decide) S.nd)) (fun _ _ _ _ _ => nj_nil) (fun _ _ _ _ _ => (ej_ix (ej_var 1) (ej_ix (ej_var 3) (ej_var 4))))))))))
    (ss_one (sj_ret (ej_call C__law_number hr (rj_cons (ej_var 1) rj_nil))))))
abbrev s__law_moved_sum : Stmt := topS 16
abbrev N__law_moved_sum : List Str := ["text", "times", "told", "k", "own", "place"]
abbrev p__law_moved_sum : List Str := ["text", "times"]
theorem sc__law_moved_sum : FnScope N__law_moved_sum p__law_moved_sum (defScope s__law_moved_sum) := ⟨rfl, rfl, rfl, by decide +kernel, rfl, by decide +kernel, by decide +kernel⟩
def b__law_moved_sum_L1 : Gs := (cSeq (cSet 4 (cUser f__law_map [.v (cUser f__law_moved [.v (cMtV indexS (cK (D.str "abcdefghijklmnopqrstuvwxyz0123456789ET,./*+-= ")) (evA [(cOp ixD (cVar 0) (cVar 3))])), .v (cOp addD (cVar 3) (cVar 1))])]))
    (cSet 2 (cComp (cItA rng1 (evA [(cK (D.int 23))])) (hName 5) cYes (cOp ixD (cVar 2) (cOp ixD (cVar 4) (cVar 5))) [5])))
def b__law_moved_sum : Gs := (cSeq (cSet 2 (cLR (cItA rng1 (evA [(cK (D.int 23))]))))
    (cSeq (cFor (cItA rng1 (evA [(cCall lenD (evA [(cVar 0)]))])) (hName 3) b__law_moved_sum_L1)
    (cRet (cUser f__law_number [.v (cVar 2)]))))
def f__law_moved_sum : Fn := runB 6 2 [] false b__law_moved_sum
theorem ok__law_moved_sum {f : Addr} {fd : FuncData} (F : Fun K "_law_moved_sum" "_law_moved_sum" s__law_moved_sum f fd) (C__law_map : Cal Pg w K mg base 1 "_law_map" p__law_map f__law_map [] false) (C__law_number : Cal Pg w K mg base 2 "_law_number" p__law_number f__law_number [] false) (C__law_moved : Cal Pg w K mg base 1 "_law_moved" p__law_moved f__law_moved [] false) (m_len : mg "len" = none) (m_list : mg "list" = none) (m_range : mg "range" = none) : FnOk Pg w K mg base CX0 3 f fd p__law_moved_sum (spF K f__law_moved_sum [] false) := by
  have S := sc__law_moved_sum
  exact fn_mk (N := N__law_moved_sum) (P := []) (Oe := []) (own := false) (b := b__law_moved_sum) F S fun cdv A outer s H E hr =>
    (ss_cons (O1 := []) (sj_set (i := 2) (by decide) S.nd (EO.j (eo_listRg rfl m_list (prg_1 rfl m_range ej_int) rgT1)))
    (ss_cons (O1 := []) (sj_for rfl PassesOwn.never (ij_range1 (by rfl) m_range (aj_cons (ej_len m_len (aj_cons (ej_var 0) aj_nil)) aj_nil)) (gj_name (by decide) S.nd) (ss_cons (O1 := []) (sj_set (i := 4) (by decide) S.nd (ej_call C__law_map hr (rj_cons (ej_call C__law_moved hr (rj_cons (ej_bm PySem.F.plainAttrs_str PySem.F.slot_str_index PySem.F.type_str_index mt_ixS ixS_d (fun d ds z h => by unfold indexS at h; split at h <;> first | rfl | cases h) ej_str (aj_cons (ej_ix (ej_var 0) (ej_var 3)) aj_nil)) (rj_cons (ej_add (ej_var 3) (ej_var 1)) rj_nil))) rj_nil)))
    (ss_one (sj_set (i := 2) (by decide) S.nd (EO.j (eo_comp rfl S.nd (ow := [("place", 5)]) (S := [5]) (ij_range1 (by rfl) m_range (aj_cons ej_int aj_nil)) (blkOk_by (own := [("place", 5)]) (N := N__law_moved_sum) (sc := defScope s__law_moved_sum) (by decide +kernel)) (fun _ _ _ _ _ => (gj_name (by decide) S.nd)) (fun _ _ _ _ _ => nj_nil) (fun _ _ _ _ _ => (ej_ix (ej_var 2) (ej_ix (ej_var 4) (ej_var 5))))))))))
    (ss_one (sj_ret (ej_call C__law_number hr (rj_cons (ej_var 2) rj_nil))))))
abbrev s_law : Stmt := topS 17
abbrev N_law : List Str := ["script", "signs", "turn", "state", "one", "two", "three", "k", "joined", "place", "text", "line", "sign", "at", "other", "turned", "behind", "whole"]
abbrev p_law : List Str := ["script"]
theorem sc_law : FnScope N_law p_law (defScope s_law) := ⟨rfl, rfl, rfl, by decide +kernel, rfl, by decide +kernel, by decide +kernel⟩
def b_law_L1 : Gs := (cSeq (cSet 3 (cUser f__law_start [.v (cVar 0), .v (cVar 2)]))
    (cSeq (cAsg (hTup 3 (hCons (hName 4) (hCons (hName 5) (hCons (hName 6) hNil)))) (cComp (cItA rng1 (evA [(cK (D.int 3))])) (hName 7) cYes (cUser f__law_digit [.s 3, .v (cK (D.int 46))]) [7]))
    (cSeq (cSet 8 (cUser f_joined_turns [.v (cVar 4), .v (cVar 5)]))
    (cSeq (cIfS (cOr (cTest (cOp neD (cUser f__law_map [.v (cVar 8)]) (cComp (cIt (cUser f__law_map [.v (cVar 5)])) (hName 9) cYes (cOp ixD (cUser f__law_map [.v (cVar 4)]) (cVar 9)) [9]))) (cTest (cOp neD (cUser f_joined_turns [.v (cVar 8), .v (cVar 6)]) (cUser f_joined_turns [.v (cVar 4), .v (cUser f_joined_turns [.v (cVar 5), .v (cVar 6)])])))) (cRet (cK (D.bl false))) cNil)
    (cSeq (cIfS (cOr (cTest (cOp neD (cUser f_joined_turns [.v (cK (D.int 0)), .v (cVar 4)]) (cVar 4))) (cOr (cTest (cOp neD (cUser f_joined_turns [.v (cVar 4), .v (cK (D.int 0))]) (cVar 4))) (cTest (cOp neD (cUser f_moved [.v (cVar 4)]) (cUser f__law_moved [.v (cVar 4), .v (cK (D.int 1))]))))) (cRet (cK (D.bl false))) cNil)
    (cSeq (cSet 10 (cMtV joinD (cK (D.str "")) (evA [(cComp (cItA rng1 (evA [(cUser f__law_digit [.s 3, .v (cK (D.int 30))])])) (hName 7) cYes (cOp ixD (cVar 1) (cUser f__law_digit [.s 3, .v (cK (D.int 46))])) [7])])))
    (cSeq (cSet 11 (cUser f_checked [.v (cVar 10)]))
    (cSeq (cIfS (cOr (cTest (cOp neD (cUser f_sum_of_line [.v (cVar 10)]) (cUser f__law_sum [.v (cVar 10)]))) (cOr (cTest (cOp neD (cSl slD (cVar 11) cNoP (cPart (cCall lenD (evA [(cVar 10)])))) (cVar 10))) (cOr (cTest (cOp neD (cCall lenD (evA [(cVar 11)])) (cOp addD (cCall lenD (evA [(cVar 10)])) (cK (D.int 1))))) (cOr (cTest (cOp notB (cUser f_is_checked [.v (cVar 11)]) (cK (D.bl true)))) (cTest (cOp neD (cUser f_sum_of_line [.v (cVar 11)]) (cK (D.int 0)))))))) (cRet (cK (D.bl false))) cNil)
    (cSeq (cIfS (cTest (cOp neD (cCall lenD (evA [(cComp (cIt (cVar 1)) (hName 12) (cTest (cUser f_is_checked [.v (cOp addD (cVar 10) (cVar 12))])) (cVar 12) [12])])) (cK (D.int 1)))) (cRet (cK (D.bl false))) cNil)
    (cSeq (cSet 13 (cUser f__law_digit [.s 3, .v (cCall lenD (evA [(cVar 11)]))]))
    (cSeq (cSet 14 (cOp ixD (cVar 1) (cUser f__law_digit [.s 3, .v (cK (D.int 46))])))
    (cSeq (cIfS (cTest (cOp neD (cUser f_is_checked [.v (cOp addD (cOp addD (cSl slD (cVar 11) cNoP (cPart (cVar 13))) (cVar 14)) (cSl slD (cVar 11) (cPart (cOp addD (cVar 13) (cK (D.int 1)))) cNoP))]) (cOp eqD (cVar 14) (cOp ixD (cVar 11) (cVar 13))))) (cRet (cK (D.bl false))) cNil)
    (cSeq (cIfS (cTest (cOp gtD (cCall lenD (evA [(cVar 11)])) (cK (D.int 1)))) (cSeq (cSet 13 (cUser f__law_digit [.s 3, .v (cOp subD (cCall lenD (evA [(cVar 11)])) (cK (D.int 1)))]))
    (cSeq (cSet 15 (cOp addD (cOp addD (cOp addD (cSl slD (cVar 11) cNoP (cPart (cVar 13))) (cOp ixD (cVar 11) (cOp addD (cVar 13) (cK (D.int 1))))) (cOp ixD (cVar 11) (cVar 13))) (cSl slD (cVar 11) (cPart (cOp addD (cVar 13) (cK (D.int 2)))) cNoP)))
    (cIfS (cTest (cOp neD (cUser f_is_checked [.v (cVar 15)]) (cOp eqD (cOp ixD (cVar 11) (cVar 13)) (cOp ixD (cVar 11) (cOp addD (cVar 13) (cK (D.int 1))))))) (cRet (cK (D.bl false))) cNil))) cNil)
    (cSeq (cSet 16 (cMtV joinD (cK (D.str "")) (evA [(cComp (cItA rng1 (evA [(cUser f__law_digit [.s 3, .v (cK (D.int 9))])])) (hName 7) cYes (cOp ixD (cVar 1) (cUser f__law_digit [.s 3, .v (cK (D.int 46))])) [7])])))
    (cSeq (cSet 17 (cUser f__law_moved_sum [.v (cVar 16), .v (cCall lenD (evA [(cVar 10)]))]))
    (cSeq (cIfS (cTest (cOp neD (cUser f_sum_of_line [.v (cOp addD (cVar 10) (cVar 16))]) (cUser f_joined_turns [.v (cUser f_sum_of_line [.v (cVar 10)]), .v (cVar 17)]))) (cRet (cK (D.bl false))) cNil)
    (cIfS (cOr (cTest (cOp notB (cUser f_is_checked [.v (cK (D.str ""))]) (cK (D.bl false)))) (cOr (cTest (cOp notB (cUser f_is_checked [.v (cOp addD (cVar 11) (cK (D.str "A")))]) (cK (D.bl false)))) (cOr (cTest (cOp notB (cUser f_is_checked [.v (cOp addD (cVar 11) (cK (D.str "\n")))]) (cK (D.bl false)))) (cTest (cOp neD (cUser f_checked [.v (cK (D.str ""))]) (cK (D.str "a"))))))) (cRet (cK (D.bl false))) cNil)))))))))))))))))
def b_law : Gs := (cSeq (cSet 1 (cK (D.str "abcdefghijklmnopqrstuvwxyz0123456789ET,./*+-= ")))
    (cSeq (cIfS (cTest (cOp neD (cK c_SIGNS) (cVar 1))) (cRet (cK (D.bl false))) cNil)
    (cSeq (cFor (cItA rng1 (evA [(cK (D.int 4))])) (hName 2) b_law_L1)
    (cRet (cK (D.bl true))))))
def f_law : Fn := runB 18 1 [] false b_law
theorem ok_law {f : Addr} {fd : FuncData} (F : Fun K "law" "law" s_law f fd) (C_joined_turns : Cal Pg w K mg base 1 "joined_turns" p_joined_turns f_joined_turns [] false) (C_moved : Cal Pg w K mg base 1 "moved" p_moved f_moved [] false) (C_sum_of_line : Cal Pg w K mg base 2 "sum_of_line" p_sum_of_line f_sum_of_line [] false) (C_checked : Cal Pg w K mg base 3 "checked" p_checked f_checked [] false) (C_is_checked : Cal Pg w K mg base 3 "is_checked" p_is_checked f_is_checked [] false) (C__law_start : Cal Pg w K mg base 1 "_law_start" p__law_start f__law_start [] true) (C__law_digit : Cal Pg w K mg base 1 "_law_digit" p__law_digit f__law_digit [0] false) (C__law_map : Cal Pg w K mg base 1 "_law_map" p__law_map f__law_map [] false) (C__law_moved : Cal Pg w K mg base 1 "_law_moved" p__law_moved f__law_moved [] false) (C__law_sum : Cal Pg w K mg base 3 "_law_sum" p__law_sum f__law_sum [] false) (C__law_moved_sum : Cal Pg w K mg base 3 "_law_moved_sum" p__law_moved_sum f__law_moved_sum [] false) (g_SIGNS : Glb K mg "SIGNS" c_SIGNS) (m_len : mg "len" = none) (m_range : mg "range" = none) : FnOk Pg w K mg base CX0 4 f fd p_law (spF K f_law [] false) := by
  have S := sc_law
  exact fn_mk (N := N_law) (P := []) (Oe := []) (own := false) (b := b_law) F S fun cdv A outer s H E hr =>
    (ss_cons (O1 := []) (sj_set (i := 1) (by decide) S.nd ej_str)
    (ss_cons (O1 := []) (sj_if (tj_ne hr.units (ej_gl g_SIGNS) (ej_var 1)) (ss_one (sj_ret ej_bl)) ss_nil)
    (ss_cons (O1 := []) (sj_for rfl PassesOwn.never (ij_range1 (by rfl) m_range (aj_cons ej_int aj_nil)) (gj_name (by decide) S.nd) (ss_end 3 (by decide) (ss_cons (O1 := [3]) (sj_setO (i := 3) (by decide) S.nd (eo_call C__law_start hr (rj_cons (ej_var 0) (rj_cons (ej_var 2) rj_nil))))
    (ss_cons (O1 := [3]) (sj_asg (EO.j (eo_comp rfl S.nd (ow := [("k", 7)]) (S := [7]) (ij_range1 (by rfl) m_range (aj_cons ej_int aj_nil)) (blkOk_by (own := [("k", 7)]) (N := N_law) (sc := defScope s_law) (by decide +kernel)) (fun _ _ _ _ _ => (gj_name (by decide) S.nd)) (fun _ _ _ _ _ => nj_nil) (fun _ _ _ _ _ => (ej_call C__law_digit hr (rj_slot 3 (rj_cons ej_int rj_nil)))))) (gj_tup rfl (gsj_cons (gj_name (by decide) S.nd) (gsj_cons (gj_name (by decide) S.nd) (gsj_cons (gj_name (by decide) S.nd) gsj_nil)))))
    (ss_cons (O1 := [3]) (sj_set (i := 8) (by decide) S.nd (ej_call C_joined_turns hr (rj_cons (ej_var 4) (rj_cons (ej_var 5) rj_nil))))
    (ss_cons (O1 := [3]) (sj_if (WJ.t (wj_or (tj_ne hr.units (ej_call C__law_map hr (rj_cons (ej_var 8) rj_nil)) (EO.j (eo_comp rfl S.nd (ow := [("place", 9)]) (S := [9]) (ij_any (ej_call C__law_map hr (rj_cons (ej_var 5) rj_nil))) (blkOk_by (own := [("place", 9)]) (N := N_law) (sc := defScope s_law) (by decide +kernel)) (fun _ _ _ _ _ => (gj_name (by decide) S.nd)) (fun _ _ _ _ _ => nj_nil) (fun _ _ _ _ _ => (ej_ix (ej_call C__law_map hr (rj_cons (ej_var 4) rj_nil)) (ej_var 9)))))) (wj_or1 (tj_ne hr.units (ej_call C_joined_turns hr (rj_cons (ej_var 8) (rj_cons (ej_var 6) rj_nil))) (ej_call C_joined_turns hr (rj_cons (ej_var 4) (rj_cons (ej_call C_joined_turns hr (rj_cons (ej_var 5) (rj_cons (ej_var 6) rj_nil))) rj_nil))))))) (ss_one (sj_ret ej_bl)) ss_nil)
    (ss_cons (O1 := [3]) (sj_if (WJ.t (wj_or (tj_ne hr.units (ej_call C_joined_turns hr (rj_cons ej_int (rj_cons (ej_var 4) rj_nil))) (ej_var 4)) (wj_or (tj_ne hr.units (ej_call C_joined_turns hr (rj_cons (ej_var 4) (rj_cons ej_int rj_nil))) (ej_var 4)) (wj_or1 (tj_ne hr.units (ej_call C_moved hr (rj_cons (ej_var 4) rj_nil)) (ej_call C__law_moved hr (rj_cons (ej_var 4) (rj_cons ej_int rj_nil)))))))) (ss_one (sj_ret ej_bl)) ss_nil)
    (ss_cons (O1 := [3]) (sj_set (i := 10) (by decide) S.nd (ej_bm PySem.F.plainAttrs_str PySem.F.slot_str_join PySem.F.type_str_join mt_join join_d (fun d ds z h => by unfold joinD at h; split at h <;> first | rfl | cases h) ej_str (aj_cons (EO.j (eo_comp rfl S.nd (ow := [("k", 7)]) (S := [7]) (ij_range1 (by rfl) m_range (aj_cons (ej_call C__law_digit hr (rj_slot 3 (rj_cons ej_int rj_nil))) aj_nil)) (blkOk_by (own := [("k", 7)]) (N := N_law) (sc := defScope s_law) (by decide +kernel)) (fun _ _ _ _ _ => (gj_name (by decide) S.nd)) (fun _ _ _ _ _ => nj_nil) (fun _ _ _ _ _ => (ej_ix (ej_var 1) (ej_call C__law_digit hr (rj_slot 3 (rj_cons ej_int rj_nil))))))) aj_nil)))
    (ss_cons (O1 := [3]) (sj_set (i := 11) (by decide) S.nd (ej_call C_checked hr (rj_cons (ej_var 10) rj_nil)))
    (ss_cons (O1 := [3]) (sj_if (WJ.t (wj_or (tj_ne hr.units (ej_call C_sum_of_line hr (rj_cons (ej_var 10) rj_nil)) (ej_call C__law_sum hr (rj_cons (ej_var 10) rj_nil))) (wj_or (tj_ne hr.units (ej_sl (ej_var 11) oj_none (oj_some (ej_len m_len (aj_cons (ej_var 10) aj_nil)))) (ej_var 10)) (wj_or (tj_ne hr.units (ej_len m_len (aj_cons (ej_var 11) aj_nil)) (ej_add (ej_len m_len (aj_cons (ej_var 10) aj_nil)) ej_int)) (wj_or (tj_isnotB (ej_call C_is_checked hr (rj_cons (ej_var 11) rj_nil)) ej_bl) (wj_or1 (tj_ne hr.units (ej_call C_sum_of_line hr (rj_cons (ej_var 11) rj_nil)) ej_int))))))) (ss_one (sj_ret ej_bl)) ss_nil)
    (ss_cons (O1 := [3]) (sj_if (tj_ne hr.units (ej_len m_len (aj_cons (EO.j (eo_comp rfl S.nd (ow := [("sign", 12)]) (S := [12]) (ij_any (ej_var 1)) (blkOk_by (own := [("sign", 12)]) (N := N_law) (sc := defScope s_law) (by decide +kernel)) (fun _ _ _ _ _ => (gj_name (by decide) S.nd)) (fun _ _ _ _ _ => (nj_one (tj_val (ej_call C_is_checked hr (rj_cons (ej_add (ej_var 10) (ej_var 12)) rj_nil))))) (fun _ _ _ _ _ => (ej_var 12)))) aj_nil)) ej_int) (ss_one (sj_ret ej_bl)) ss_nil)
    (ss_cons (O1 := [3]) (sj_set (i := 13) (by decide) S.nd (ej_call C__law_digit hr (rj_slot 3 (rj_cons (ej_len m_len (aj_cons (ej_var 11) aj_nil)) rj_nil))))
    (ss_cons (O1 := [3]) (sj_set (i := 14) (by decide) S.nd (ej_ix (ej_var 1) (ej_call C__law_digit hr (rj_slot 3 (rj_cons ej_int rj_nil)))))
    (ss_cons (O1 := [3]) (sj_if (tj_ne hr.units (ej_call C_is_checked hr (rj_cons (ej_add (ej_add (ej_sl (ej_var 11) oj_none (oj_some (ej_var 13))) (ej_var 14)) (ej_sl (ej_var 11) (oj_some (ej_add (ej_var 13) ej_int)) oj_none)) rj_nil)) (ej_eq hr.units (ej_var 14) (ej_ix (ej_var 11) (ej_var 13)))) (ss_one (sj_ret ej_bl)) ss_nil)
    (ss_cons (O1 := [3]) (sj_if (tj_gt (ej_len m_len (aj_cons (ej_var 11) aj_nil)) ej_int) (ss_cons (O1 := [3]) (sj_set (i := 13) (by decide) S.nd (ej_call C__law_digit hr (rj_slot 3 (rj_cons (ej_sub (ej_len m_len (aj_cons (ej_var 11) aj_nil)) ej_int) rj_nil))))
    (ss_cons (O1 := [3]) (sj_set (i := 15) (by decide) S.nd (ej_add (ej_add (ej_add (ej_sl (ej_var 11) oj_none (oj_some (ej_var 13))) (ej_ix (ej_var 11) (ej_add (ej_var 13) ej_int))) (ej_ix (ej_var 11) (ej_var 13))) (ej_sl (ej_var 11) (oj_some (ej_add (ej_var 13) ej_int)) oj_none)))
    (ss_one (sj_if (tj_ne hr.units (ej_call C_is_checked hr (rj_cons (ej_var 15) rj_nil)) (ej_eq hr.units (ej_ix (ej_var 11) (ej_var 13)) (ej_ix (ej_var 11) (ej_add (ej_var 13) ej_int)))) (ss_one (sj_ret ej_bl)) ss_nil)))) ss_nil)
    (ss_cons (O1 := [3]) (sj_set (i := 16) (by decide) S.nd (ej_bm PySem.F.plainAttrs_str PySem.F.slot_str_join PySem.F.type_str_join mt_join join_d (fun d ds z h => by unfold joinD at h; split at h <;> first | rfl | cases h) ej_str (aj_cons (EO.j (eo_comp rfl S.nd (ow := [("k", 7)]) (S := [7]) (ij_range1 (by rfl) m_range (aj_cons (ej_call C__law_digit hr (rj_slot 3 (rj_cons ej_int rj_nil))) aj_nil)) (blkOk_by (own := [("k", 7)]) (N := N_law) (sc := defScope s_law) (by decide +kernel)) (fun _ _ _ _ _ => (gj_name (by decide) S.nd)) (fun _ _ _ _ _ => nj_nil) (fun _ _ _ _ _ => (ej_ix (ej_var 1) (ej_call C__law_digit hr (rj_slot 3 (rj_cons ej_int rj_nil))))))) aj_nil)))
    (ss_cons (O1 := [3]) (sj_set (i := 17) (by decide) S.nd (ej_call C__law_moved_sum hr (rj_cons (ej_var 16) (rj_cons (ej_len m_len (aj_cons (ej_var 10) aj_nil)) rj_nil))))
    (ss_cons (O1 := [3]) (sj_if (tj_ne hr.units (ej_call C_sum_of_line hr (rj_cons (ej_add (ej_var 10) (ej_var 16)) rj_nil)) (ej_call C_joined_turns hr (rj_cons (ej_call C_sum_of_line hr (rj_cons (ej_var 10) rj_nil)) (rj_cons (ej_var 17) rj_nil)))) (ss_one (sj_ret ej_bl)) ss_nil)
    (ss_one (sj_if (WJ.t (wj_or (tj_isnotB (ej_call C_is_checked hr (rj_cons ej_str rj_nil)) ej_bl) (wj_or (tj_isnotB (ej_call C_is_checked hr (rj_cons (ej_add (ej_var 11) ej_str) rj_nil)) ej_bl) (wj_or (tj_isnotB (ej_call C_is_checked hr (rj_cons (ej_add (ej_var 11) ej_str) rj_nil)) ej_bl) (wj_or1 (tj_ne hr.units (ej_call C_checked hr (rj_cons ej_str rj_nil)) ej_str)))))) (ss_one (sj_ret ej_bl)) ss_nil))))))))))))))))))))
    (ss_one (sj_ret ej_bl)))))
end
end T33
namespace T33
open PySem L2 G
/-! ### the ring -/
def J (a b : Nat) : Nat := (if a < 23 then a % 23 + b % 23 else a % 23 + 23 - b % 23) % 23 + (if (a < 23) = (b < 23) then 0 else 23)
def M (n t : Nat) : Nat := if n < 23 then (if t % 2 = 0 then n else (23 - n) % 23) else 23 + (n - 23 + t) % 23
theorem J_lt {a b : Nat} : J a b < 46 := by
  unfold J
  split <;> split <;> omega
theorem M_lt {a t : Nat} (ha : a < 46) : M a t < 46 := by
  unfold M
  split
  · split <;> omega
  · omega
theorem J_cases (a b : Nat) : (a < 23 ∧ b < 23 ∧ J a b = (a + b) % 23) ∨ (a < 23 ∧ 23 ≤ b ∧ J a b = (a + b % 23) % 23 + 23) ∨ (23 ≤ a ∧ b < 23 ∧ J a b = (a % 23 + 23 - b) % 23 + 23) ∨ (23 ≤ a ∧ 23 ≤ b ∧ J a b = (a % 23 + 23 - b % 23) % 23) := by
  unfold J
  by_cases h : a < 23 <;> by_cases h' : b < 23 <;> simp [h, h'] <;> omega
theorem J_assoc {a b c : Nat} (ha : a < 46) (hb : b < 46) (hc : c < 46) : J (J a b) c = J a (J b c) := by
  rcases J_cases a b with ⟨h1, h2, e1⟩ | ⟨h1, h2, e1⟩ | ⟨h1, h2, e1⟩ | ⟨h1, h2, e1⟩ <;>
  rcases J_cases b c with ⟨h3, h4, e2⟩ | ⟨h3, h4, e2⟩ | ⟨h3, h4, e2⟩ | ⟨h3, h4, e2⟩ <;>
  (have e3 := J_cases (J a b) c; have e4 := J_cases a (J b c); omega)
theorem J_zero {a : Nat} (ha : a < 46) : J a 0 = a := by
  rcases J_cases a 0 with ⟨h1, h2, e1⟩ | ⟨h1, h2, e1⟩ | ⟨h1, h2, e1⟩ | ⟨h1, h2, e1⟩ <;> omega
theorem zero_J {a : Nat} (ha : a < 46) : J 0 a = a := by
  rcases J_cases 0 a with ⟨h1, h2, e1⟩ | ⟨h1, h2, e1⟩ | ⟨h1, h2, e1⟩ | ⟨h1, h2, e1⟩ <;> omega
theorem J_left {a b c : Nat} (ha : a < 46) (hb : b < 46) (hc : c < 46) (h : J a b = J a c) : b = c := by
  rcases J_cases a b with ⟨h1, h2, e1⟩ | ⟨h1, h2, e1⟩ | ⟨h1, h2, e1⟩ | ⟨h1, h2, e1⟩ <;>
  rcases J_cases a c with ⟨h3, h4, e2⟩ | ⟨h3, h4, e2⟩ | ⟨h3, h4, e2⟩ | ⟨h3, h4, e2⟩ <;> omega
theorem J_right {a b c : Nat} (ha : a < 46) (hb : b < 46) (hc : c < 46) (h : J b a = J c a) : b = c := by
  rcases J_cases b a with ⟨h1, h2, e1⟩ | ⟨h1, h2, e1⟩ | ⟨h1, h2, e1⟩ | ⟨h1, h2, e1⟩ <;>
  rcases J_cases c a with ⟨h3, h4, e2⟩ | ⟨h3, h4, e2⟩ | ⟨h3, h4, e2⟩ | ⟨h3, h4, e2⟩ <;> omega
/-- the inverse -/
def V (a : Nat) : Nat := if a < 23 then (23 - a) % 23 else a
theorem V_lt {a : Nat} (ha : a < 46) : V a < 46 := by unfold V; split <;> omega
theorem J_V {a : Nat} (ha : a < 46) : J a (V a) = 0 := by
  unfold V
  split
  · rcases J_cases a ((23 - a) % 23) with ⟨h1, h2, e1⟩ | ⟨h1, h2, e1⟩ | ⟨h1, h2, e1⟩ | ⟨h1, h2, e1⟩ <;> omega
  · rcases J_cases a a with ⟨h1, h2, e1⟩ | ⟨h1, h2, e1⟩ | ⟨h1, h2, e1⟩ | ⟨h1, h2, e1⟩ <;> omega
theorem M_cases (n t : Nat) : (n < 23 ∧ t % 2 = 0 ∧ M n t = n) ∨ (n < 23 ∧ t % 2 = 1 ∧ M n t = (23 - n) % 23) ∨ (23 ≤ n ∧ M n t = 23 + (n - 23 + t) % 23) := by
  unfold M
  by_cases h : n < 23 <;> by_cases h' : t % 2 = 0 <;> simp [h, h'] <;> omega
theorem M_inj {a b t : Nat} (ha : a < 46) (hb : b < 46) (h : M a t = M b t) : a = b := by
  rcases M_cases a t with ⟨h1, h2, e1⟩ | ⟨h1, h2, e1⟩ | ⟨h1, e1⟩ <;>
  rcases M_cases b t with ⟨h3, h4, e2⟩ | ⟨h3, h4, e2⟩ | ⟨h3, e2⟩ <;> omega
/-- back by t -/
def W (a t : Nat) : Nat := if a < 23 then (if t % 2 = 0 then a else (23 - a) % 23) else 23 + (a - 23 + 23 - t % 23) % 23
theorem W_lt {a t : Nat} (ha : a < 46) : W a t < 46 := by
  unfold W
  split
  · split <;> omega
  · omega
theorem M_W {a t : Nat} (ha : a < 46) : M (W a t) t = a := by
  unfold W
  by_cases h : a < 23
  · rw [if_pos h]
    by_cases h' : t % 2 = 0
    · rw [if_pos h']
      rcases M_cases a t with ⟨h1, h2, e1⟩ | ⟨h1, h2, e1⟩ | ⟨h1, e1⟩ <;> omega
    · rw [if_neg h']
      rcases M_cases ((23 - a) % 23) t with ⟨h1, h2, e1⟩ | ⟨h1, h2, e1⟩ | ⟨h1, e1⟩ <;> omega
  · rw [if_neg h]
    rcases M_cases (23 + (a - 23 + 23 - t % 23) % 23) t with ⟨h1, h2, e1⟩ | ⟨h1, h2, e1⟩ | ⟨h1, e1⟩ <;> omega
theorem M_succ {a t : Nat} (ha : a < 46) : M (M a t) 1 = M a (t + 1) := by
  rcases M_cases a t with ⟨h1, h2, e1⟩ | ⟨h1, h2, e1⟩ | ⟨h1, e1⟩ <;>
  rcases M_cases (M a t) 1 with ⟨h3, h4, e2⟩ | ⟨h3, h4, e2⟩ | ⟨h3, e2⟩ <;>
  rcases M_cases a (t + 1) with ⟨h5, h6, e3⟩ | ⟨h5, h6, e3⟩ | ⟨h5, e3⟩ <;> omega
theorem M_zero {a : Nat} (ha : a < 46) : M a 0 = a := by
  rcases M_cases a 0 with ⟨h1, h2, e1⟩ | ⟨h1, h2, e1⟩ | ⟨h1, e1⟩ <;> omega
/-- neighbours exchanged are told apart -/
theorem swap_ne {a b t : Nat} (ha : a < 46) (hb : b < 46) (h : J (M a t) (M b (t + 1)) = J (M b t) (M a (t + 1))) : a = b := by
  have e1 : M a (t + 1) = M (M a t) 1 := (M_succ ha).symm
  have e2 : M b (t + 1) = M (M b t) 1 := (M_succ hb).symm
  rw [e1, e2] at h
  have hx : M a t < 46 := M_lt ha
  have hy : M b t < 46 := M_lt hb
  have : M a t = M b t := by
    generalize M a t = x at h hx ⊢
    generalize M b t = y at h hy ⊢
    have c1 := M_cases x 1
    have c2 := M_cases y 1
    have c3 := J_cases x (M y 1)
    have c4 := J_cases y (M x 1)
    rcases c1 with c1 | c1 | c1 <;> rcases c2 with c2 | c2 | c2 <;> omega
  exact M_inj ha hb this
def S0 : Nat → Nat → List Nat → Nat
  | acc, _, [] => acc
  | acc, n, i :: l => S0 (J acc (M i n)) (n + 1) l
theorem S0_lt {l : List Nat} : ∀ {acc n : Nat}, acc < 46 → S0 acc n l < 46 := by
  induction l with
  | nil => exact fun h => h
  | cons i l ih => exact fun h => ih J_lt
theorem S0_app {l m : List Nat} : ∀ {acc n : Nat}, S0 acc n (l ++ m) = S0 (S0 acc n l) (n + l.length) m := by
  induction l with
  | nil => intro acc n; rfl
  | cons i l ih =>
    intro acc n
    show S0 (J acc (M i n)) (n + 1) (l ++ m) = S0 (S0 (J acc (M i n)) (n + 1) l) (n + (l.length + 1)) m
    rw [ih, Nat.add_assoc n 1, Nat.add_comm 1]
def Al (l : List Nat) : Prop := ∀ i ∈ l, i < 46
theorem S0_J {l : List Nat} : ∀ {acc n : Nat}, acc < 46 → Al l → S0 acc n l = J acc (S0 0 n l) := by
  induction l with
  | nil => intro acc n h _; exact (J_zero h).symm
  | cons i l ih =>
    intro acc n h hl
    have hi : i < 46 := hl i List.mem_cons_self
    have hl' : Al l := fun j hj => hl j (List.mem_cons_of_mem _ hj)
    show S0 (J acc (M i n)) (n + 1) l = J acc (S0 (J 0 (M i n)) (n + 1) l)
    rw [ih J_lt hl', ih (acc := J 0 (M i n)) J_lt hl', zero_J (M_lt hi), J_assoc h (M_lt hi) (S0_lt (by decide))]

end T33
namespace T33
open PySem L2 G
theorem J_int (a b : Nat) : ((J a b : Nat) : Int) = (if a < 23 then ((a : Int) % 23 + (b : Int) % 23) else ((a : Int) % 23 - (b : Int) % 23)) % 23 + (if (a < 23) = (b < 23) then 0 else 23) := by
  unfold J
  by_cases h : a < 23 <;> by_cases h' : b < 23 <;> simp [h, h'] <;> omega
theorem joined_eq (a b : Nat) : f_joined_turns [.int a, .int b] = some (.int (J a b : Nat), []) := by
  refine runB_eq (ρ := [some (.int a), some (.int b), some (.int ((a : Int) % 23)), some (.bl (decide (23 ≤ a))), some (.int ((b : Int) % 23)), some (.bl (decide (23 ≤ b))), some (.int ((if a < 23 then ((a : Int) % 23 + (b : Int) % 23) else ((a : Int) % 23 - (b : Int) % 23)) % 23))]) rfl ?_ rfl
  rw [J_int]
  by_cases h : a < 23 <;> by_cases h' : b < 23
  · have e1 : ¬ (23 : Int) ≤ (a : Int) := by omega
    have e2 : ¬ (23 : Int) ≤ (b : Int) := by omega
    have e3 : ¬ 23 ≤ a := by omega
    have e4 : ¬ 23 ≤ b := by omega
    simp [b_joined_turns, c_RING, modD_int, h, h', e1, e2, e3, e4, -Int.natCast_emod]
  · have e1 : ¬ (23 : Int) ≤ (a : Int) := by omega
    have e2 : (23 : Int) ≤ (b : Int) := by omega
    have e3 : ¬ 23 ≤ a := by omega
    have e4 : 23 ≤ b := by omega
    simp [b_joined_turns, c_RING, modD_int, h, h', e1, e2, e3, e4, -Int.natCast_emod]
  · have e1 : (23 : Int) ≤ (a : Int) := by omega
    have e2 : ¬ (23 : Int) ≤ (b : Int) := by omega
    have e3 : 23 ≤ a := by omega
    have e4 : ¬ 23 ≤ b := by omega
    simp [b_joined_turns, c_RING, modD_int, h, h', e1, e2, e3, e4, -Int.natCast_emod]
  · have e1 : (23 : Int) ≤ (a : Int) := by omega
    have e2 : (23 : Int) ≤ (b : Int) := by omega
    have e3 : 23 ≤ a := by omega
    have e4 : 23 ≤ b := by omega
    simp [b_joined_turns, c_RING, modD_int, h, h', e1, e2, e3, e4, -Int.natCast_emod]
theorem moved_eq (a : Nat) (ha : a < 46) : f_moved [.int a] = some (.int (M a 1 : Nat), []) := by
  refine runB_eq (ρ := [some (.int a)]) rfl ?_ rfl
  rcases M_cases a 1 with ⟨h1, h2, e1⟩ | ⟨h1, h2, e1⟩ | ⟨h1, e1⟩
  · omega
  · have e : ((M a 1 : Nat) : Int) = (-(a : Int)) % 23 := by omega
    have q : (a : Int) < 23 := by omega
    rw [e]
    simp [b_moved, c_RING, modD_int, q]
  · have e : ((M a 1 : Nat) : Int) = 23 + ((a : Int) - 23 + 1) % 23 := by omega
    have q : ¬ (a : Int) < 23 := by omega
    rw [e]
    simp [b_moved, c_RING, modD_int, q]
theorem moved_often_eq (a t : Nat) (ha : a < 46) : f_moved_often [.int a, .int t] = some (.int (M a t : Nat), []) := by
  refine runB_eq (ρ := [some (.int a), some (.int t)]) rfl ?_ rfl
  rcases M_cases a t with ⟨h1, h2, e1⟩ | ⟨h1, h2, e1⟩ | ⟨h1, e1⟩
  · have q : (a : Int) < 23 := by omega
    have q2 : (t : Int) % 2 = 0 := by omega
    rw [e1]
    simp [b_moved_often, c_RING, modD_int, q, q2, -Int.natCast_emod]
  · have e : ((M a t : Nat) : Int) = (-(a : Int)) % 23 := by omega
    have q : (a : Int) < 23 := by omega
    have q2 : ¬ (t : Int) % 2 = 0 := by omega
    rw [e]
    simp [b_moved_often, c_RING, modD_int, q, q2, -Int.natCast_emod]
  · have e : ((M a t : Nat) : Int) = 23 + ((a : Int) - 23 + t) % 23 := by omega
    have q : ¬ (a : Int) < 23 := by omega
    rw [e]
    simp [b_moved_often, c_RING, modD_int, q]
/-! ### texts -/
def sg : List Nat := [97, 98, 99, 100, 101, 102, 103, 104, 105, 106, 107, 108, 109, 110, 111, 112, 113, 114, 115, 116, 117, 118, 119, 120, 121, 122, 48, 49, 50, 51, 52, 53, 54, 55, 56, 57, 69, 84, 44, 46, 47, 42, 43, 45, 61, 32]
theorem sg_eq : (Str.ofString "abcdefghijklmnopqrstuvwxyz0123456789ET,./*+-= ") = ⟨sg.toArray⟩ := by decide +kernel
def cp (i : Nat) : Nat := sg.getD i 0
def wd (l : List Nat) : Str := ⟨(l.map cp).toArray⟩
theorem cp_inj {a b : Nat} (ha : a < 46) (hb : b < 46) (h : cp a = cp b) : a = b := by
  have := (by decide +kernel : ∀ a : Fin 46, ∀ b : Fin 46, cp a.val = cp b.val → a = b) ⟨a, ha⟩ ⟨b, hb⟩ h
  exact congrArg Fin.val this
theorem cp_ok : ∀ i : Fin 46, cp i.val < 0x110000 := by decide +kernel
theorem index_sg {a : Nat} (ha : a < 46) : indexS (.str ⟨sg.toArray⟩) [.str (wd [a])] = some (.int (a : Nat)) := by
  have := (by decide +kernel : ∀ a : Fin 46, Txt.index0 ⟨sg.toArray⟩ (wd [a.val]) = some a.val) ⟨a, ha⟩
  show (Txt.index0 ⟨sg.toArray⟩ (wd [a])).map _ = _
  rw [this]
  rfl
theorem wd_app (l m : List Nat) : wd l ++ wd m = wd (l ++ m) := by
  show Str.mk ((l.map cp).toArray ++ (m.map cp).toArray) = Str.mk _
  rw [List.map_append]; simp
theorem wd_len (l : List Nat) : (wd l).length = l.length := by
  show (l.map cp).toArray.size = _
  simp
theorem wd_inj {l m : List Nat} (hl : Al l) (hm : Al m) (h : wd l = wd m) : l = m := by
  have h' : l.map cp = m.map cp := by
    have := congrArg (fun s : Str => s.cps.toList) h
    simpa [wd] using this
  induction l generalizing m with
  | nil => cases m with
    | nil => rfl
    | cons _ _ => cases h'
  | cons a l ih => cases m with
    | nil => cases h'
    | cons b m =>
      rw [List.map_cons, List.map_cons] at h'
      injection h' with h1 h2
      rw [cp_inj (hl a List.mem_cons_self) (hm b List.mem_cons_self) h1, ih (fun i hi => hl i (List.mem_cons_of_mem _ hi)) (fun i hi => hm i (List.mem_cons_of_mem _ hi)) (by unfold wd; rw [h2]) h2]
theorem wd_ok {l : List Nat} (hl : Al l) : PyData.strOk (wd l) = true := by
  unfold PyData.strOk wd
  simp only [List.all_toArray, List.all_map, List.all_eq_true, Function.comp_apply, decide_eq_true_eq]
  exact fun i hi => cp_ok ⟨i, hl i hi⟩
theorem wd_items (l : List Nat) : itemsD (.str (wd l)) = some (l.map fun i => .str (wd [i])) := by
  show some _ = _
  unfold wd
  simp [List.map_map, Function.comp_def]
theorem wd_cat {l m : List Nat} (h : l.length + m.length ≤ 100000) : addD (.str (wd l)) (.str (wd m)) = some (.str (wd (l ++ m))) := by
  show (if (wd l).length + (wd m).length ≤ 100000 then some (D.str (wd l ++ wd m)) else none) = _
  rw [wd_len, wd_len, if_pos h, wd_app]
theorem wd_ix {l : List Nat} {k : Nat} (hk : k < l.length) (hl : l.length ≤ 100000) : ixD (.str (wd l)) (.int (k : Nat)) = some (.str (wd [l[k]])) := by
  show (if (wd l).length ≤ 100000 then (atI (wd l).cps.toList (k : Nat)).map fun c => D.str ⟨#[c]⟩ else none) = _
  rw [wd_len, if_pos hl, atI_lt (k := k) rfl (by simp [wd, hk])]
  simp [wd, hk]
theorem cutS_wd (l : List Nat) (lo hi : Option Int) : cutS (wd l) lo hi = wd ((l.drop (HT.sIx l.length 0 lo)).take (HT.sIx l.length l.length hi - HT.sIx l.length 0 lo)) := by
  unfold cutS
  rw [wd_len]
  unfold wd
  simp only [List.map_take, List.map_drop]
theorem wd_sl {l : List Nat} (h : l.length ≤ 100000) (lo hi : Option Int) : slD (.str (wd l)) lo hi = some (.str (wd ((l.drop (HT.sIx l.length 0 lo)).take (HT.sIx l.length l.length hi - HT.sIx l.length 0 lo)))) := by
  show (if (wd l).length ≤ 100000 then some (D.str (cutS (wd l) lo hi)) else none) = _
  rw [wd_len, if_pos h, cutS_wd]
theorem wd_pre {l : List Nat} (h : l.length ≤ 100000) {k : Nat} (hk : k ≤ l.length) : slD (.str (wd l)) none (some (k : Int)) = some (.str (wd (l.take k))) := by
  rw [wd_sl h, HT.sIx_none, HT.sIx_nat, Nat.min_eq_left hk]
  rfl
theorem wd_suf {l : List Nat} (h : l.length ≤ 100000) {k : Nat} (hk : k ≤ l.length) : slD (.str (wd l)) (some (k : Int)) none = some (.str (wd (l.drop k))) := by
  rw [wd_sl h, HT.sIx_none, HT.sIx_nat, Nat.min_eq_left hk, List.take_of_length_le (by rw [List.length_drop]; omega)]
theorem wd_pl {l : List Nat} (hl : Al l) (n : Nat) : Pl (.str (wd l)) n := Pl.str (wd_ok hl) n
theorem wd_eq {l m : List Nat} (hl : Al l) (hm : Al m) : eqD (.str (wd l)) (.str (wd m)) = some (.bl (decide (l = m))) := by
  by_cases h : l = m
  · subst h; rw [eqD_self ((wd_pl hl 0).shp)]; simp
  · have : D.str (wd l) ≠ D.str (wd m) := fun z => h (wd_inj hl hm (by injection z))
    unfold eqD
    rw [if_pos ⟨(wd_pl hl 0).shp, (wd_pl hm 0).shp⟩, eqv_ne rfl rfl this]
    simp [h]
theorem wd_ne {l m : List Nat} (hl : Al l) (hm : Al m) : neD (.str (wd l)) (.str (wd m)) = some (.bl (decide (l ≠ m))) := by
  by_cases h : l = m
  · subst h; rw [neD_self ((wd_pl hl 0).shp)]; simp
  · have : D.str (wd l) ≠ D.str (wd m) := fun z => h (wd_inj hl hm (by injection z))
    unfold neD
    rw [if_pos ⟨(wd_pl hl 0).shp, (wd_pl hm 0).shp⟩, eqv_ne rfl rfl this]
    simp [h]
theorem c_sg : c_SIGNS = .str ⟨sg.toArray⟩ := by unfold c_SIGNS; rw [← sg_eq]
theorem Al.take {l : List Nat} (h : Al l) (n : Nat) : Al (l.take n) := fun i hi => h i (List.mem_of_mem_take hi)
theorem Al.drop {l : List Nat} (h : Al l) (n : Nat) : Al (l.drop n) := fun i hi => h i (List.mem_of_mem_drop hi)
theorem Al.app {l m : List Nat} (h : Al l) (h' : Al m) : Al (l ++ m) := fun i hi => (List.mem_append.mp hi).elim (h i) (h' i)
theorem Al.one {a : Nat} (h : a < 46) : Al [a] := fun i hi => by rw [List.mem_singleton.mp hi]; exact h
theorem Al.get {l : List Nat} (h : Al l) {k : Nat} (hk : k < l.length) : l[k] < 46 := h _ (List.getElem_mem hk)
abbrev S (l : List Nat) : Nat := S0 0 0 l
theorem S_lt {l : List Nat} : S l < 46 := S0_lt (by decide)
theorem take_succ_S {l : List Nat} {n k acc : Nat} (hk : k < l.length) : S0 acc n (l.take (k + 1)) = J (S0 acc n (l.take k)) (M l[k] (n + k)) := by
  rw [List.take_succ_eq_append_getElem hk, S0_app, List.length_take, Nat.min_eq_left (Nat.le_of_lt hk)]
  rfl
theorem sum_eq (l : List Nat) (hl : Al l) (hn : l.length ≤ 1000) : f_sum_of_line [.str (wd l)] = some (.int (S l : Nat), []) := by
  have key : ∃ ρ', loopL (fun x ρ => (hTup 2 (hCons (hName 2) (hCons (hName 3) hNil)) x ρ).bind b_sum_of_line_L1) (enD (l.map fun i => .str (wd [i]))) [some (.str (wd l)), some (.int 0), none, none] = some (.nx ρ') ∧
      ∃ z2 z3, ρ' = [some (.str (wd l)), some (.int (S0 0 0 (l.take (0 + (enD (l.map fun i => .str (wd [i]))).length)) : Nat)), z2, z3] := by
    refine loopL_at (I := fun n ρ => ∃ z2 z3, ρ = [some (.str (wd l)), some (.int (S0 0 0 (l.take n) : Nat)), z2, z3]) (n := 0) (fun i x hx ρ hI => ?_) ⟨none, none, rfl⟩
    obtain ⟨z2, z3, rfl⟩ := hI
    obtain ⟨d, hd, rfl⟩ := enD_get hx
    rw [List.getElem?_map] at hd
    obtain ⟨a, ha, rfl⟩ := Option.map_eq_some_iff.mp hd
    obtain ⟨hk, rfl⟩ := List.getElem?_eq_some_iff.mp ha
    have hi := index_sg (hl.get hk)
    rw [Nat.zero_add]
    refine ⟨_, ?_, some (.int (i : Nat)), some (.str (wd [l[i]])), rfl⟩
    have hJ := joined_eq (S0 0 0 (l.take i)) (M l[i] i)
    rw [take_succ_S hk, Nat.zero_add]
    have hM := moved_often_eq l[i] i (hl.get hk)
    simp only [hTup_tup, List.length_cons, List.length_nil, if_true, hCons_ap, hName_ap, hNil_ap, Option.bind_some, List.set_cons_succ, List.set_cons_zero, b_sum_of_line_L1, cSet_ap, cUser_ap, evR_v, evR_nil, cVar_ap, List.getElem?_cons_succ, List.getElem?_cons_zero, Option.getD_some, Option.map_some, cMtV, cK_ap, c_sg, evA_cons, evA_nil, hi, hM, slotsR_v, slotsR_nil, setOuts_nil, hJ]
  obtain ⟨ρ', e, z2, z3, rfl⟩ := key
  rw [show (enD (l.map fun i => D.str (wd [i]))).length = l.length by unfold enD; rw [List.length_mapIdx, List.length_map], Nat.zero_add, List.take_length] at e
  refine runB_eq (ρ := [some (.str (wd l)), some (.int (S l : Nat)), z2, z3]) rfl ?_ rfl
  rw [b_sum_of_line, seq_nx (ρ' := [some (.str (wd l)), some (.int 0), none, none]) rfl, seq_nx (ρ' := [some (.str (wd l)), some (.int (S l : Nat)), z2, z3])]
  · rfl
  · rw [cFor_ap]
    show ((itemsD (.str (wd l))).map fun ds => (enD ds, _)).bind _ = _
    rw [wd_items]
    exact e
end T33
namespace T33
open PySem L2 G
def mp (n p : Nat) : Nat := if n < 23 then (p + n) % 23 else (n - p) % 23
def mapL (n : Nat) : D := .lst ((List.range 23).map fun p => .int (mp n p : Nat))
theorem mp_lt {n p : Nat} : mp n p < 23 := by unfold mp; split <;> omega
theorem mp_J {a b p : Nat} (ha : a < 46) (hb : b < 46) (hp : p < 23) : mp (J a b) p = mp a (mp b p) := by
  unfold mp
  rcases J_cases a b with ⟨h1, h2, e1⟩ | ⟨h1, h2, e1⟩ | ⟨h1, h2, e1⟩ | ⟨h1, h2, e1⟩
  · rw [if_pos (by omega), if_pos h1, if_pos h2]; omega
  · rw [if_neg (by omega), if_pos h1, if_neg (by omega)]; omega
  · rw [if_neg (by omega), if_neg (by omega), if_pos h2]; omega
  · rw [if_pos (by omega), if_neg (by omega), if_neg (by omega)]; omega
theorem map_eq (n : Nat) (hn : n < 46) : f__law_map [.int n] = some (mapL n, []) := by
  refine runB_eq (ρ := [some (.int n), none]) rfl ?_ rfl
  have hr : ∀ ρ : G.Env, (cItA rng1 (evA [cK (.int 23)])) ρ = some ((List.range 23).map fun (i : Nat) => D.int (i : Int), ρ) := fun ρ => itRm (n := 23) rfl
  by_cases h : n < 23
  · have q : (n : Int) < 23 := by omega
    rw [b__law_map, cSeq_ap, if_yes (ρ' := [some (.int n), none]) (by simp [q])]
    rw [cRet_ap, comp_ix (G := fun (i : Nat) => D.int (i : Int)) (F := fun i => D.int (mp n i : Nat)) (by show 1 < 2; decide) (hr _) (by simp) fun i hi => ?_]
    · rfl
    · have e : ((mp n i : Nat) : Int) = ((i : Int) + n) % 23 := by unfold mp; rw [if_pos h]; omega
      simp [modD_int, e]
  · have q : ¬ (n : Int) < 23 := by omega
    rw [b__law_map, seq_nx (ρ' := [some (.int n), none]) (if_nil (by simp [q]))]
    rw [cRet_ap, comp_ix (G := fun (i : Nat) => D.int (i : Int)) (F := fun i => D.int (mp n i : Nat)) (by show 1 < 2; decide) (hr _) (by simp) fun i hi => ?_]
    · rfl
    · have hi := List.mem_range.mp hi
      have e : ((mp n i : Nat) : Int) = ((n : Int) - 23 - i) % 23 := by unfold mp; rw [if_neg h]; omega
      simp [modD_int, e]
theorem mapL_pl (n : Nat) : Pl (mapL n) 1 := Pl.lst fun d hd => by obtain ⟨i, _, rfl⟩ := List.mem_map.mp hd; exact Pl.int _ 0
theorem mapL_get {n k : Nat} (hk : k < 23) : ixD (mapL n) (.int (k : Nat)) = some (.int (mp n k : Nat)) := by
  show atI _ _ = _
  rw [atI_lt (k := k) rfl (by simpa using hk)]
  simp [hk]
theorem mapL_inj {a b : Nat} (ha : a < 46) (hb : b < 46) (h : mapL a = mapL b) : a = b := by
  have h0 := congrArg (fun d => ixD d (.int (0 : Nat))) h
  have h1 := congrArg (fun d => ixD d (.int (1 : Nat))) h
  simp only [mapL_get (show 0 < 23 by decide), mapL_get (show 1 < 23 by decide), Option.some.injEq, D.int.injEq] at h0 h1
  unfold mp at h0 h1
  by_cases h2 : a < 23 <;> by_cases h3 : b < 23 <;> simp only [h2, h3, if_true, if_false] at h0 h1 <;> omega
theorem number_eq (n : Nat) (hn : n < 46) : f__law_number [mapL n] = some (.int n, []) := by
  have hr : ∀ ρ : G.Env, (cItA rng1 (evA [cK (.int 46)])) ρ = some ((List.range 46).map fun (i : Nat) => D.int (i : Int), ρ) := fun ρ => itRm (n := 46) rfl
  refine runB_eq (ρ := [some (mapL n), some (.lst [.int n]), none]) rfl ?_ rfl
  rw [b__law_number, seq_nx (ρ' := [some (mapL n), some (.lst [.int n]), none])]
  · rfl
  · rw [cSet_ap, comp_ixIf (G := fun (i : Nat) => D.int (i : Int)) (F := fun (i : Nat) => D.int (i : Int)) (c := fun i => decide (i = n)) (by show 2 < 3; decide) (hr _) (by simp) fun i hi => ⟨?_, fun _ => rfl⟩]
    · rw [filter_one hn fun i _ => by simp]
      rfl
    · have hi := List.mem_range.mp hi
      have e : eqD (mapL i) (mapL n) = some (.bl (decide (i = n))) := by
        by_cases q : i = n
        · subst q; rw [eqD_self (mapL_pl _).shp]; simp
        · unfold eqD
          rw [if_pos ⟨(mapL_pl _).shp, (mapL_pl _).shp⟩, eqv_ne (mapL_pl _).nb (mapL_pl _).nb fun z => q (mapL_inj hi hn z)]
          simp [q]
      simp [map_eq i hi, e]
theorem lmoved_eq (n t : Nat) (hn : n < 46) (ht : t ≤ 1000) : f__law_moved [.int n, .int t] = some (.int (M n t : Nat), []) := by
  have key : ∃ ρ', loopL (fun x ρ => (hName 2 x ρ).bind b__law_moved_L1) (rangeD 0 t) [some (.int n), some (.int t), none] = some (.nx ρ') ∧ ∃ z, ρ' = [some (.int (M n (0 + (rangeD 0 (t : Int)).length) : Nat)), some (.int t), z] := by
    refine loopL_at (I := fun k ρ => ∃ z, ρ = [some (.int (M n k : Nat)), some (.int t), z]) (n := 0) (fun i x hx ρ hI => ?_) ⟨none, by rw [M_zero hn]⟩
    obtain ⟨z, rfl⟩ := hI
    obtain ⟨rfl, hi⟩ := range0_get hx
    rw [Nat.zero_add, ← M_succ hn]
    refine ⟨_, ?_, some (.int (i : Nat)), rfl⟩
    have hM : M n i < 46 := M_lt hn
    generalize M n i = m at hM
    rcases M_cases m 1 with ⟨h1, h2, e1⟩ | ⟨h1, h2, e1⟩ | ⟨h1, e1⟩
    · omega
    · have q : (m : Int) < 23 := by omega
      have e : ((M m 1 : Nat) : Int) = (0 - (m : Int)) % 23 := by omega
      rw [e]
      simp [b__law_moved_L1, modD_int, q, -Int.zero_sub]
    · have q : ¬ (m : Int) < 23 := by omega
      have e : ((M m 1 : Nat) : Int) = 23 + ((m : Int) - 22) % 23 := by omega
      rw [e]
      simp [b__law_moved_L1, modD_int, q]
  obtain ⟨ρ', e, z, rfl⟩ := key
  rw [range0_len, Nat.zero_add] at e
  refine runB_eq (ρ := [some (.int (M n t : Nat)), some (.int t), z]) rfl ?_ rfl
  rw [b__law_moved, seq_nx (ρ' := [some (.int (M n t : Nat)), some (.int t), z])]
  · rfl
  · rw [cFor_ap]
    show ((rng1 [.int (t : Int)]).map fun ds => (ds, _)).bind _ = _
    rw [rngN]
    exact e
theorem comp23 {ρ : G.Env} {v a b : Nat} {x y : Nat} (hv : v < ρ.length) (ha : a ≠ v) (hb : b ≠ v) (h1 : ρ[a]? = some (some (mapL x))) (h2 : ρ[b]? = some (some (mapL y))) (hx : x < 46) (hy : y < 46) :
    cComp (cItA rng1 (evA [cK (.int 23)])) (hName v) cYes (cOp ixD (cVar a) (cOp ixD (cVar b) (cVar v))) [v] ρ = some (mapL (J x y), ρ) := by
  rw [comp_ix (G := fun (i : Nat) => D.int (i : Int)) (F := fun p => .int (mp (J x y) p : Nat)) hv (is := List.range 23) (itRm (n := 23) rfl) (by simp) fun i hi => ?_]
  · rfl
  · have hi := List.mem_range.mp hi
    have g1 : (ρ.set v (some (D.int (i : Int))))[a]? = some (some (mapL x)) := by rw [List.getElem?_set_ne (Ne.symm ha)]; exact h1
    have g2 : (ρ.set v (some (D.int (i : Int))))[b]? = some (some (mapL y)) := by rw [List.getElem?_set_ne (Ne.symm hb)]; exact h2
    have g3 : (ρ.set v (some (D.int (i : Int))))[v]? = some (some (D.int (i : Int))) := List.getElem?_set_self hv
    simp only [cOp_ap, cVar_ap, g1, g2, g3, Option.getD_some, Option.map_some, Option.bind_some, mapL_get hi, mapL_get mp_lt, mp_J hx hy hi]
theorem mapL_rng : D.lst (rangeD 0 ((23 : Nat) : Int)) = mapL 0 := by
  rw [rangeD_nat]
  unfold mapL
  congr 1
theorem lsum_eq (l : List Nat) (hl : Al l) (hn : l.length ≤ 1000) : f__law_sum [.str (wd l)] = some (.int (S l : Nat), []) := by
  have key : ∃ ρ', loopL (fun x ρ => (hName 2 x ρ).bind b__law_sum_L1) (rangeD 0 (l.length : Nat)) [some (.str (wd l)), some (mapL 0), none, none, none] = some (.nx ρ') ∧
      ∃ z2 z3 z4, ρ' = [some (.str (wd l)), some (mapL (S (l.take (0 + (rangeD 0 (l.length : Nat)).length)))), z2, z3, z4] := by
    refine loopL_at (I := fun k ρ => ∃ z2 z3 z4, ρ = [some (.str (wd l)), some (mapL (S (l.take k))), z2, z3, z4]) (n := 0) (fun i x hx ρ hI => ?_) ⟨none, none, none, rfl⟩
    obtain ⟨z2, z3, z4, rfl⟩ := hI
    obtain ⟨rfl, hi⟩ := range0_get hx
    rw [Nat.zero_add]
    refine ⟨_, ?_, some (.int (i : Nat)), some (mapL (M l[i] i)), z4, rfl⟩
    have hJ : S (l.take (i + 1)) = J (S (l.take i)) (M l[i] i) := by rw [S, take_succ_S hi, Nat.zero_add]
    rw [hJ]
    show b__law_sum_L1 [some (.str (wd l)), some (mapL (S (l.take i))), some (.int (i : Nat)), z3, z4] = _
    rw [b__law_sum_L1, seq_nx (ρ' := [some (.str (wd l)), some (mapL (S (l.take i))), some (.int (i : Nat)), some (mapL (M l[i] i)), z4])]
    · rw [cSet_ap, comp23 (x := S (l.take i)) (y := M l[i] i) (by show 4 < 5; decide) (by decide) (by decide) rfl rfl S_lt (M_lt (hl.get hi))]
      rfl
    · have h1 := index_sg (hl.get hi)
      rw [← sg_eq] at h1
      have h2 := lmoved_eq l[i] i (hl.get hi) (by omega)
      have h3 := map_eq (M l[i] i) (M_lt (hl.get hi))
      have h4 := wd_ix hi (by omega)
      simp only [cSet_ap, cUser_ap, evR_v, evR_nil, cMtV, cK_ap, evA_cons, evA_nil, cOp_ap, cVar_ap, List.getElem?_cons_succ, List.getElem?_cons_zero, Option.getD_some, Option.map_some, Option.bind_some, h1, h2, h3, h4, slotsR_v, slotsR_nil, setOuts_nil, List.set_cons_succ, List.set_cons_zero]
  obtain ⟨ρ', e, z2, z3, z4, rfl⟩ := key
  rw [range0_len, Nat.zero_add, List.take_length] at e
  refine runB_eq (ρ := [some (.str (wd l)), some (mapL (S l)), z2, z3, z4]) rfl ?_ rfl
  rw [b__law_sum, seq_nx (ρ' := [some (.str (wd l)), some (mapL 0), none, none, none]), seq_nx (ρ' := [some (.str (wd l)), some (mapL (S l)), z2, z3, z4])]
  · simp only [cRet_ap, cUser_ap, evR_v, evR_nil, cVar_ap, List.getElem?_cons_succ, List.getElem?_cons_zero, Option.getD_some, Option.map_some, Option.bind_some, number_eq (S l) S_lt, slotsR_v, slotsR_nil, setOuts_nil]
  · rw [cFor_ap, itR (n := l.length) (by rw [cCall_ap]; simp only [evA_cons, evA_nil, cVar_ap, List.getElem?_cons_zero, Option.getD_some, Option.map_some, Option.bind_some]; rw [lenD_str (by rw [wd_len]; omega), wd_len]; rfl)]
    exact e
  · rw [cSet_ap]
    unfold cLR
    rw [itR (n := 23) rfl, Option.bind_some, if_pos (by rw [range0_len]; decide), mapL_rng]
    rfl
theorem lmsum_eq (l : List Nat) (t : Nat) (hl : Al l) (hn : l.length ≤ 300) (ht : t ≤ 300) : f__law_moved_sum [.str (wd l), .int t] = some (.int (S0 0 t l : Nat), []) := by
  have key : ∃ ρ', loopL (fun x ρ => (hName 3 x ρ).bind b__law_moved_sum_L1) (rangeD 0 (l.length : Nat)) [some (.str (wd l)), some (.int t), some (mapL 0), none, none, none] = some (.nx ρ') ∧
      ∃ z2 z3 z4, ρ' = [some (.str (wd l)), some (.int t), some (mapL (S0 0 t (l.take (0 + (rangeD 0 (l.length : Nat)).length)))), z2, z3, z4] := by
    refine loopL_at (I := fun k ρ => ∃ z2 z3 z4, ρ = [some (.str (wd l)), some (.int t), some (mapL (S0 0 t (l.take k))), z2, z3, z4]) (n := 0) (fun i x hx ρ hI => ?_) ⟨none, none, none, rfl⟩
    obtain ⟨z2, z3, z4, rfl⟩ := hI
    obtain ⟨rfl, hi⟩ := range0_get hx
    rw [Nat.zero_add]
    refine ⟨_, ?_, some (.int (i : Nat)), some (mapL (M l[i] (t + i))), z4, rfl⟩
    have hJ : S0 0 t (l.take (i + 1)) = J (S0 0 t (l.take i)) (M l[i] (t + i)) := by rw [take_succ_S hi]
    rw [hJ]
    show b__law_moved_sum_L1 [some (.str (wd l)), some (.int t), some (mapL (S0 0 t (l.take i))), some (.int (i : Nat)), z3, z4] = _
    rw [b__law_moved_sum_L1, seq_nx (ρ' := [some (.str (wd l)), some (.int t), some (mapL (S0 0 t (l.take i))), some (.int (i : Nat)), some (mapL (M l[i] (t + i))), z4])]
    · rw [cSet_ap, comp23 (x := S0 0 t (l.take i)) (y := M l[i] (t + i)) (by show 5 < 6; decide) (by decide) (by decide) rfl rfl (S0_lt (by decide)) (M_lt (hl.get hi))]
      rfl
    · have h1 := index_sg (hl.get hi)
      rw [← sg_eq] at h1
      have h2 := lmoved_eq l[i] (t + i) (hl.get hi) (by omega)
      have h3 := map_eq (M l[i] (t + i)) (M_lt (hl.get hi))
      have h4 := wd_ix hi (by omega)
      have h5 : addD (.int (i : Nat)) (.int (t : Nat)) = some (.int ((t + i : Nat) : Int)) := by rw [addD_int]; congr 2; omega
      simp only [cSet_ap, cUser_ap, evR_v, evR_nil, cMtV, cK_ap, evA_cons, evA_nil, cOp_ap, cVar_ap, List.getElem?_cons_succ, List.getElem?_cons_zero, Option.getD_some, Option.map_some, Option.bind_some, h1, h2, h3, h4, h5, slotsR_v, slotsR_nil, setOuts_nil, List.set_cons_succ, List.set_cons_zero]
  obtain ⟨ρ', e, z2, z3, z4, rfl⟩ := key
  rw [range0_len, Nat.zero_add, List.take_length] at e
  refine runB_eq (ρ := [some (.str (wd l)), some (.int t), some (mapL (S0 0 t l)), z2, z3, z4]) rfl ?_ rfl
  rw [b__law_moved_sum, seq_nx (ρ' := [some (.str (wd l)), some (.int t), some (mapL 0), none, none, none]), seq_nx (ρ' := [some (.str (wd l)), some (.int t), some (mapL (S0 0 t l)), z2, z3, z4])]
  · simp only [cRet_ap, cUser_ap, evR_v, evR_nil, cVar_ap, List.getElem?_cons_succ, List.getElem?_cons_zero, Option.getD_some, Option.map_some, Option.bind_some, number_eq (S0 0 t l) (S0_lt (by decide)), slotsR_v, slotsR_nil, setOuts_nil]
  · rw [cFor_ap, itR (n := l.length) (by rw [cCall_ap]; simp only [evA_cons, evA_nil, cVar_ap, List.getElem?_cons_zero, Option.getD_some, Option.map_some, Option.bind_some]; rw [lenD_str (by rw [wd_len]; omega), wd_len]; rfl)]
    exact e
  · rw [cSet_ap]
    unfold cLR
    rw [itR (n := 23) rfl, Option.bind_some, if_pos (by rw [range0_len]; decide), mapL_rng]
    rfl
end T33
namespace T33
open PySem L2 G
theorem sg_wd : (⟨sg.toArray⟩ : Str) = wd (List.range 46) := by decide +kernel
theorem c_wd : c_SIGNS = .str (wd (List.range 46)) := by rw [c_sg, sg_wd]
theorem em_wd : Str.ofString "" = wd [] := by decide +kernel
theorem Al.nil : Al [] := fun i hi => absurd hi (by simp)
theorem Al.rng : Al (List.range 46) := fun i hi => List.mem_range.mp hi
/-- the sign at the end -/
def Ks (l : List Nat) : Nat := W (V (S l)) l.length
theorem Ks_lt {l : List Nat} : Ks l < 46 := W_lt (V_lt S_lt)
theorem S_app {l m : List Nat} (h : Al m) : S (l ++ m) = J (S l) (S0 0 l.length m) := by
  rw [S, S0_app, Nat.zero_add, S0_J S_lt h]
theorem S_one {l : List Nat} {i : Nat} (h : i < 46) : S (l ++ [i]) = J (S l) (M i l.length) := by
  rw [S_app (Al.one h)]
  show J (S l) (J 0 (M i l.length)) = _
  rw [zero_J (M_lt h)]
theorem S_K {l : List Nat} {i : Nat} (h : i < 46) : S (l ++ [i]) = 0 ↔ i = Ks l := by
  rw [S_one h]
  constructor
  · intro e
    rw [← J_V S_lt] at e
    have := J_left S_lt (M_lt h) (V_lt S_lt) e
    exact M_inj h Ks_lt (this.trans (M_W (V_lt S_lt)).symm)
  · rintro rfl
    rw [Ks, M_W (V_lt S_lt), J_V S_lt]
theorem checked_eq (l : List Nat) (hl : Al l) (hn : l.length ≤ 500) : f_checked [.str (wd l)] = some (.str (wd (l ++ [Ks l])), []) := by
  refine runB_eq (ρ := [some (.str (wd l)), none]) rfl ?_ rfl
  rw [b_checked, cRet_ap, cOp_ap]
  show ((cOp ixD _ _ [some (.str (wd l)), none]).bind fun q => (addD (.str (wd l)) q.1).map fun z => (z, q.2)).map _ = _
  rw [cOp_ap, comp_ixIf (G := fun i => .str (wd [i])) (F := fun i => .str (wd [i])) (c := fun i => decide (i = Ks l)) (is := List.range 46) (by show 1 < 2; decide) (by
      rw [cIt_ap, cK_ap, c_wd, Option.bind_some, wd_items]; rfl) (by simp) fun i hi => ⟨?_, fun _ => rfl⟩]
  · rw [filter_one (k := Ks l) Ks_lt fun i _ => by simp]
    simp only [List.map_cons, List.map_nil, Option.bind_some, cK_ap, ixD_lst, atI_0, Option.map_some]
    rw [wd_cat (by simp; omega)]
    rfl
  · have hi := List.mem_range.mp hi
    have h1 := wd_cat (l := l) (m := [i]) (by simp; omega)
    have h2 := sum_eq (l ++ [i]) (hl.app (Al.one hi)) (by simp; omega)
    simp only [cTest_ap, cOp_ap, cUser_ap, evR_v, evR_nil, cVar_ap, List.set_cons_succ, List.set_cons_zero, List.getElem?_cons_succ, List.getElem?_cons_zero, Option.getD_some, Option.map_some, Option.bind_some, h1, h2, slotsR_v, slotsR_nil, setOuts_nil, cK_ap, eqD_int, truthB_bl]
    have e : decide (((S (l ++ [i]) : Nat) : Int) = 0) = decide (i = Ks l) := by
      rw [decide_eq_decide, ← S_K hi]; omega
    rw [e]
theorem in_sg {c : Nat} : inD (.str ⟨#[c]⟩) c_SIGNS = some (.bl (decide (c ∈ sg))) := by
  rw [c_sg]
  rfl
theorem cp_mem {i : Nat} (h : i < 46) : cp i ∈ sg := by
  have := (by decide +kernel : ∀ i : Fin 46, cp i.val ∈ sg) ⟨i, h⟩
  exact this
theorem all_sg (z : Str) (hz : z.length ≤ 1000) (x : Option D) : (cCall allD (evA [(cComp (cIt (cVar 0)) (hName 1) cYes (cOp inD (cVar 1) (cK c_SIGNS)) [1])])) [some (.str z), x] = some (.bl (z.cps.toList.all fun c => decide (c ∈ sg)), [some (.str z), x]) := by
  rw [cCall_ap, evA_cons, comp_ix (G := fun c => D.str ⟨#[c]⟩) (F := fun c => .bl (decide (c ∈ sg))) (is := z.cps.toList) (by show 1 < 2; decide) rfl (by
    have : z.cps.size ≤ 1000 := hz
    rw [Array.length_toList]; omega) fun c hc => ?_]
  · simp only [Option.bind_some, evA_nil, Option.map_some, allD_map]
  · simp only [cOp_ap, cVar_ap, List.set_cons_succ, List.set_cons_zero, List.getElem?_cons_succ, List.getElem?_cons_zero, Option.getD_some, Option.map_some, Option.bind_some, cK_ap, in_sg]
theorem isch_eq (l : List Nat) (hl : Al l) (hn : l.length ≤ 500) : f_is_checked [.str (wd l)] = some (.bl (decide (l ≠ [] ∧ S l = 0)), []) := by
  refine runB_eq (ρ := [some (.str (wd l)), none]) rfl ?_ rfl
  have h1 := all_sg (wd l) (by rw [wd_len]; omega) none
  have h2 : (wd l).cps.toList.all (fun c => decide (c ∈ sg)) = true := by
    rw [List.all_eq_true]
    intro c hc
    have : c ∈ l.map cp := by simpa [wd] using hc
    obtain ⟨i, hi, rfl⟩ := List.mem_map.mp this
    exact decide_eq_true (cp_mem (hl i hi))
  rw [h2] at h1
  have h3 := sum_eq l hl (by omega)
  have h4 := wd_ne hl Al.nil
  rw [← em_wd] at h4
  show b_is_checked [some (.str (wd l)), none] = _
  rw [b_is_checked, cRet_ap, cAndV_ap, cOp_ap]
  simp only [cVar_ap, cK_ap, List.getElem?_cons_zero, Option.getD_some, Option.map_some, Option.bind_some, h4, truthB_bl]
  by_cases q : l = []
  · subst q
    simp only [ne_eq, not_true_eq_false, decide_false, Bool.false_eq_true, if_false, false_and]
    rfl
  · simp only [ne_eq, q, not_false_eq_true, decide_true, if_true, cAndV_ap, h1, Option.bind_some, truthB_bl, cOp_ap, cUser_ap, evR_v, evR_nil, cVar_ap, List.getElem?_cons_zero, Option.getD_some, Option.map_some, h3, slotsR_v, slotsR_nil, setOuts_nil, cK_ap, eqD_int, true_and]
    have e : decide (((S l : Nat) : Int) = 0) = decide (S l = 0) := by rw [decide_eq_decide]; omega
    rw [e]
theorem isch_bad (z : Str) (hz : z.length ≤ 1000) (ok : PyData.strOk z = true) (hb : (z.cps.toList.all fun c => decide (c ∈ sg)) = false) : f_is_checked [.str z] = some (.bl false, []) := by
  refine runB_eq (ρ := [some (.str z), none]) rfl ?_ rfl
  have h1 := all_sg z hz none
  rw [hb] at h1
  show b_is_checked [some (.str z), none] = _
  rw [b_is_checked, cRet_ap, cAndV_ap, cOp_ap]
  simp only [cVar_ap, cK_ap, List.getElem?_cons_zero, Option.getD_some, Option.map_some, Option.bind_some]
  have h5 : neD (.str z) (.str (Str.ofString "")) = some (.bl true) := by
    unfold neD
    rw [if_pos ⟨(Pl.str ok 0).shp, (Pl.str (by rw [em_wd]; exact wd_ok Al.nil) 0).shp⟩, eqv_ne rfl rfl]
    · rfl
    · intro q
      injection q with q
      rw [q] at hb
      revert hb
      decide +kernel
  simp only [h5, Option.map_some, Option.bind_some, truthB_bl, if_true, cAndV_ap, h1, Bool.false_eq_true, if_false]
end T33
namespace T33
open PySem L2 G
abbrev SG : D := .str (wd (List.range 46))
theorem dig : DigF f__law_digit := fun n m h h1 => digit_eq n m h h1
theorem sgn_ix {i : Nat} (h : i < 46) : ixD SG (.int (i : Nat)) = some (.str (wd [i])) := by
  rw [wd_ix (k := i) (by simpa using h) (by simp)]
  simp
theorem join_wd : ∀ l : List Nat, Str.join (wd []) (l.map fun i => wd [i]) = wd l
  | [] => rfl
  | [a] => rfl
  | a :: b :: l => by
    show wd [a] ++ wd [] ++ Str.join (wd []) ((b :: l).map fun i => wd [i]) = _
    rw [join_wd (b :: l), wd_app, wd_app]
    rfl
theorem len_sum : ∀ l : List Nat, ((l.map fun i => wd [i]).map (·.length)).sum = l.length
  | [] => rfl
  | a :: l => by
    rw [List.map_cons, List.map_cons, List.sum_cons, len_sum l, wd_len, List.length_cons, List.length_cons, List.length_nil]; omega
theorem joinD_wd {l : List Nat} (h : l.length ≤ 1000) : joinD (.str (Str.ofString "")) [.lst (l.map fun i => .str (wd [i]))] = some (.str (wd l)) := by
  show (strsD _).bind _ = _
  rw [strsD_map, Option.bind_some, if_pos, em_wd, TL.join_eq, join_wd]
  rw [len_sum, List.length_map, em_wd, wd_len]
  simp; omega
theorem text_eq {ρ : G.Env} {st : Nat} (m : Nat) (h0 : 0 < m) (hm : m ≤ 40) (hl : ρ.length = 18) (h3 : ρ[3]? = some (some (sta st))) (h1 : ρ[1]? = some (some SG)) :
    ∃ (l : List Nat) (st' : Nat), Al l ∧ l.length < m ∧ cMtV joinD (cK (D.str "")) (evA [cComp (cItA rng1 (evA [cUser f__law_digit [.s 3, .v (cK (D.int (m : Nat)))]])) (hName 7) cYes (cOp ixD (cVar 1) (cUser f__law_digit [.s 3, .v (cK (D.int 46))])) [7]]) ρ = some (.str (wd l), ρ.set 3 (some (sta st'))) := by
  have hi : cItA rng1 (evA [cUser f__law_digit [.s 3, .v (cK (D.int (m : Nat)))]]) ρ = some (rangeD 0 ((st % m : Nat) : Int), ρ.set 3 (some (sta (st / m)))) := itR (digit_ap dig h3 rfl h0 (by omega)) (by have := Nat.mod_lt st h0; omega)
  obtain ⟨l, st', e1, e2, e3⟩ := comp_draw (α := Nat) (G := fun i => .str (wd [i])) (Pd := fun i => i < 46) (v := 7) (s := 3) (g := cOp ixD (cVar 1) (cUser f__law_digit [.s 3, .v (cK (D.int 46))])) (st := st / m) (by decide) hi (List.getElem?_set_self (by omega)) (by rw [List.length_set, hl]; decide) (by rw [range0_len]; have := Nat.mod_lt st h0; omega) (fun x _ st1 => by
    rw [List.set_set]
    have g1 : (((ρ.set 3 (some (sta st1))).set 7 (some x))[1]?) = some (some SG) := by rw [List.getElem?_set_ne (by decide), List.getElem?_set_ne (by decide)]; exact h1
    have g3 : (((ρ.set 3 (some (sta st1))).set 7 (some x))[3]?) = some (some (sta st1)) := by rw [List.getElem?_set_ne (by decide), List.getElem?_set_self (by omega)]
    refine ⟨st1 % 46, st1 / 46, Nat.mod_lt _ (by decide), ?_⟩
    rw [cOp_ap, cVar_ap, g1, Option.getD_some, Option.map_some, Option.bind_some, digit_ap (m := 46) dig g3 rfl (by decide) (by decide), Option.bind_some, sgn_ix (Nat.mod_lt _ (by decide)), Option.map_some, List.set_set, List.set_comm _ _ (by decide), List.set_set])
  refine ⟨l, st', e2, by rw [e1, range0_len]; exact Nat.mod_lt _ h0, ?_⟩
  unfold cMtV
  rw [cK_ap, Option.bind_some, evA_cons, e3, Option.bind_some, evA_nil, Option.map_some, Option.bind_some, joinD_wd (by rw [e1, range0_len]; have := Nat.mod_lt st h0; omega), Option.map_some, List.set_set]

theorem S_mid {p q : List Nat} {x : Nat} (hx : x < 46) (hq : Al q) : S (p ++ [x] ++ q) = J (J (S p) (M x p.length)) (S0 0 (p.length + 1) q) := by
  rw [S_app hq, S_one hx, List.length_append]
  rfl
theorem S_mid2 {p q : List Nat} {x y : Nat} (hx : x < 46) (hy : y < 46) (hq : Al q) : S (p ++ [x] ++ [y] ++ q) = J (J (S p) (J (M x p.length) (M y (p.length + 1)))) (S0 0 (p.length + 2) q) := by
  rw [S_app hq, S_one hy, S_one hx, J_assoc S_lt (M_lt hx) (M_lt hy)]
  simp only [List.length_append, List.length_cons, List.length_nil]
theorem cut1 {l : List Nat} {k : Nat} (hk : k < l.length) : l.take k ++ [l[k]] ++ l.drop (k + 1) = l := by simp
theorem cut2 {l : List Nat} {k : Nat} (hk : k + 1 < l.length) : l.take k ++ [l[k]] ++ [l[k + 1]] ++ l.drop (k + 2) = l := by simp
theorem other_iff {l : List Nat} (hl : Al l) {k o : Nat} (hk : k < l.length) (ho : o < 46) (h0 : S l = 0) : (l.take k ++ [o] ++ l.drop (k + 1) ≠ [] ∧ S (l.take k ++ [o] ++ l.drop (k + 1)) = 0) ↔ [o] = [l[k]] := by
  constructor
  · rintro ⟨_, h⟩
    have h1 := S_mid (p := l.take k) (hl.get hk) (hl.drop (k + 1))
    rw [cut1 hk, h0] at h1
    rw [S_mid ho (hl.drop _)] at h
    have h := h.trans h1
    have h2 := J_right (S0_lt (show 0 < 46 by decide)) J_lt J_lt h
    have h3 := J_left S_lt (M_lt ho) (M_lt (hl.get hk)) h2
    rw [M_inj ho (hl.get hk) h3]
  · intro h
    rw [h, cut1 hk]
    exact ⟨fun z => by rw [z] at hk; simp at hk, h0⟩
theorem swap_iff {l : List Nat} (hl : Al l) {k : Nat} (hk : k + 1 < l.length) (h0 : S l = 0) : (l.take k ++ [l[k + 1]] ++ [l[k]] ++ l.drop (k + 2) ≠ [] ∧ S (l.take k ++ [l[k + 1]] ++ [l[k]] ++ l.drop (k + 2)) = 0) ↔ [l[k]] = [l[k + 1]] := by
  have hx : l[k] < 46 := hl.get (by omega)
  have hy : l[k + 1] < 46 := hl.get hk
  constructor
  · rintro ⟨_, h⟩
    have h1 := S_mid2 (p := l.take k) hx hy (hl.drop (k + 2))
    rw [cut2 hk, h0] at h1
    rw [S_mid2 hy hx (hl.drop _)] at h
    have h := h.trans h1
    have h2 := J_right (S0_lt (show 0 < 46 by decide)) J_lt J_lt h
    have h3 := J_left S_lt J_lt J_lt h2
    rw [swap_ne hy hx h3]
  · intro h
    injection h with h
    have := cut2 hk
    rw [← h] at this ⊢
    rw [this]
    exact ⟨fun z => by rw [z] at hk; simp at hk, h0⟩
theorem bad_ch {l : List Nat} (hl : Al l) (hn : l.length ≤ 500) {c : Nat} {z : Str} (hz : z = ⟨#[c]⟩) (hc : c ∉ sg) (ho : c < 0x110000) : f_is_checked [.str (wd l ++ z)] = some (.bl false, []) ∧ addD (.str (wd l)) (.str z) = some (.str (wd l ++ z)) := by
  subst hz
  have e : (wd l ++ ⟨#[c]⟩ : Str).cps.toList = l.map cp ++ [c] := by
    show ((l.map cp).toArray ++ #[c]).toList = _
    simp
  constructor
  · refine isch_bad _ ?_ ?_ ?_
    · show ((l.map cp).toArray ++ #[c]).size ≤ 1000
      simp; omega
    · have := wd_ok hl
      unfold PyData.strOk wd at this
      show ((l.map cp).toArray ++ #[c]).all (fun x => decide (x < 0x110000)) = true
      rw [Array.all_append, this]
      simp [ho]
    · rw [e, List.all_append]
      simp [hc]
  · show (if (wd l).length + 1 ≤ 100000 then some (D.str (wd l ++ ⟨#[c]⟩)) else none) = _
    rw [wd_len, if_pos (by omega)]
theorem K_nil : wd ([] ++ [Ks []]) = Str.ofString "a" := by decide +kernel
theorem bl_ne (b : Bool) : neD (.bl b) (.bl b) = some (.bl false) := by simp
theorem c1 (k : Nat) : (k : Int) + 1 = ((k + 1 : Nat) : Int) := by omega
theorem c2 (k : Nat) : (k : Int) + 2 = ((k + 2 : Nat) : Int) := by omega

theorem turn_ok (ns : List Int) (hn : ns.length ≤ 63) (hb : ∀ z ∈ ns, Builtin.Int.intBits z ≤ 1048576) (k : Nat) (hk : k < 1000) (s3 s4 s5 s6 s7 s8 s9 s10 s11 s12 s13 s14 s15 s16 s17 : Option D) :
    ∃ ρ', b_law_L1 [some (.scr ns), some SG, some (.int (k : Nat)), s3, s4, s5, s6, s7, s8, s9, s10, s11, s12, s13, s14, s15, s16, s17] = some (.nx ρ') ∧ ∃ r, ρ' = some (.scr ns) :: some SG :: r ∧ r.length = 16 := by
  obtain ⟨st, e0⟩ := start_ex ns k hk hn hb
  have e0 : f__law_start [.scr ns, .int (k : Nat)] = some (sta st, []) := e0
  rw [b_law_L1, seq_nx (ρ' := [some (.scr ns), some SG, some (.int (k : Nat)), some (sta st), s4, s5, s6, s7, s8, s9, s10, s11, s12, s13, s14, s15, s16, s17]) (by simp [e0])]
  obtain ⟨l3, st1, l3len, l3lt, l3e⟩ := comp_draw (α := Nat) (G := fun (i : Nat) => D.int (i : Int)) (Pd := fun i => i < 46) (v := 7) (s := 3) (g := cUser f__law_digit [.s 3, .v (cK (D.int 46))]) (ρ := [some (.scr ns), some SG, some (.int (k : Nat)), some (sta st), s4, s5, s6, s7, s8, s9, s10, s11, s12, s13, s14, s15, s16, s17]) (st := st) (it := cItA rng1 (evA [cK (D.int 3)])) (by decide) (itR (g := cK (D.int 3)) (n := 3) rfl) rfl (by show 7 < 18; decide) (by rw [range0_len]; decide) (fun x _ st1 => by
    refine ⟨st1 % 46, st1 / 46, Nat.mod_lt _ (by decide), ?_⟩
    rw [digit_ap (m := 46) dig (by rfl) rfl (by decide) (by decide), List.set_comm _ _ (by decide), List.set_set])
  rw [range0_len] at l3len
  match l3, l3len, l3lt, l3e with
  | [a, b, c], _, l3lt, l3e =>
  have ha : a < 46 := l3lt a (by simp)
  have hb' : b < 46 := l3lt b (by simp)
  have hc : c < 46 := l3lt c (by simp)
  rw [seq_nx (ρ' := [some (.scr ns), some SG, some (.int (k : Nat)), some (sta st1), some (.int (a : Nat)), some (.int (b : Nat)), some (.int (c : Nat)), s7, s8, s9, s10, s11, s12, s13, s14, s15, s16, s17]) (by rw [cAsg_ap, l3e]; rfl)]
  rw [seq_nx (ρ' := [some (.scr ns), some SG, some (.int (k : Nat)), some (sta st1), some (.int (a : Nat)), some (.int (b : Nat)), some (.int (c : Nat)), s7, some (.int (J a b : Nat)), s9, s10, s11, s12, s13, s14, s15, s16, s17]) (by simp [joined_eq])]
  have t1 : neD (mapL (J a b)) (mapL (J a b)) = some (.bl false) := (mapL_pl _).ne0
  have t2 : cComp (cIt (cUser f__law_map [.v (cVar 5)])) (hName 9) cYes (cOp ixD (cUser f__law_map [.v (cVar 4)]) (cVar 9)) [9] [some (.scr ns), some SG, some (.int (k : Nat)), some (sta st1), some (.int (a : Nat)), some (.int (b : Nat)), some (.int (c : Nat)), s7, some (.int (J a b : Nat)), s9, s10, s11, s12, s13, s14, s15, s16, s17] = some (mapL (J a b), [some (.scr ns), some SG, some (.int (k : Nat)), some (sta st1), some (.int (a : Nat)), some (.int (b : Nat)), some (.int (c : Nat)), s7, some (.int (J a b : Nat)), s9, s10, s11, s12, s13, s14, s15, s16, s17]) := by
    rw [comp_ix (G := fun p => .int (mp b p : Nat)) (F := fun p => .int (mp (J a b) p : Nat)) (is := List.range 23) (by show 9 < 18; decide) (by
      rw [cIt_ap]; simp only [cUser_ap, evR_v, evR_nil, cVar_ap, List.getElem?_cons_succ, List.getElem?_cons_zero, Option.getD_some, Option.map_some, Option.bind_some, map_eq b hb', slotsR_v, slotsR_nil, setOuts_nil]; rfl) (by simp) fun i hi => ?_]
    · rfl
    · have hi := List.mem_range.mp hi
      simp only [cOp_ap, cUser_ap, evR_v, evR_nil, cVar_ap, List.set_cons_succ, List.set_cons_zero, List.getElem?_cons_succ, List.getElem?_cons_zero, Option.getD_some, Option.map_some, Option.bind_some, map_eq a ha, slotsR_v, slotsR_nil, setOuts_nil, mapL_get mp_lt, mp_J ha hb' hi]
  rw [seq_nx (ρ' := [some (.scr ns), some SG, some (.int (k : Nat)), some (sta st1), some (.int (a : Nat)), some (.int (b : Nat)), some (.int (c : Nat)), s7, some (.int (J a b : Nat)), s9, s10, s11, s12, s13, s14, s15, s16, s17]) (if_nil (by
    simp only [cOr_ap, cTest_ap, cOp_ap, t2, cUser_ap, evR_v, evR_nil, cVar_ap, List.getElem?_cons_succ, List.getElem?_cons_zero, Option.getD_some, Option.map_some, Option.bind_some, map_eq (J a b) J_lt, slotsR_v, slotsR_nil, setOuts_nil, t1, truthB_bl, Bool.false_eq_true, if_false, joined_eq, J_assoc ha hb' hc, neD_int, ne_eq, not_true_eq_false, decide_false]))]
  have z1 := joined_eq 0 a
  have z2 := joined_eq a 0
  rw [zero_J ha] at z1
  rw [J_zero ha] at z2
  have z3 := lmoved_eq a 1 ha (by decide)
  rw [seq_nx (ρ' := [some (.scr ns), some SG, some (.int (k : Nat)), some (sta st1), some (.int (a : Nat)), some (.int (b : Nat)), some (.int (c : Nat)), s7, some (.int (J a b : Nat)), s9, s10, s11, s12, s13, s14, s15, s16, s17]) (if_nil (by
    simp only [cOr_ap, cTest_ap, cOp_ap, cUser_ap, evR_v, evR_nil, cVar_ap, cK_ap, List.getElem?_cons_succ, List.getElem?_cons_zero, Option.getD_some, Option.map_some, Option.bind_some, slotsR_v, slotsR_nil, setOuts_nil, show f_joined_turns [.int 0, .int (a : Nat)] = _ from z1, show f_joined_turns [.int (a : Nat), .int 0] = _ from z2, moved_eq a ha, show f__law_moved [.int (a : Nat), .int 1] = _ from z3, truthB_bl, Bool.false_eq_true, if_false, neD_int, ne_eq, not_true_eq_false, decide_false]))]
  obtain ⟨l, st2, hl, hlen, he⟩ := text_eq (ρ := [some (.scr ns), some SG, some (.int (k : Nat)), some (sta st1), some (.int (a : Nat)), some (.int (b : Nat)), some (.int (c : Nat)), s7, some (.int (J a b : Nat)), s9, s10, s11, s12, s13, s14, s15, s16, s17]) (st := st1) 30 (by decide) (by decide) rfl rfl rfl
  have he : cMtV joinD (cK (D.str "")) (evA [cComp (cItA rng1 (evA [cUser f__law_digit [.s 3, .v (cK (D.int 30))]])) (hName 7) cYes (cOp ixD (cVar 1) (cUser f__law_digit [.s 3, .v (cK (D.int 46))])) [7]]) [some (.scr ns), some SG, some (.int (k : Nat)), some (sta st1), some (.int (a : Nat)), some (.int (b : Nat)), some (.int (c : Nat)), s7, some (.int (J a b : Nat)), s9, s10, s11, s12, s13, s14, s15, s16, s17] = _ := he
  rw [seq_nx (ρ' := [some (.scr ns), some SG, some (.int (k : Nat)), some (sta st2), some (.int (a : Nat)), some (.int (b : Nat)), some (.int (c : Nat)), s7, some (.int (J a b : Nat)), s9, some (.str (wd l)), s11, s12, s13, s14, s15, s16, s17]) (by rw [cSet_ap, he]; rfl)]
  have hc1 := checked_eq l hl (by omega)
  generalize hln : l ++ [Ks l] = ln at hc1
  have al : Al ln := by rw [← hln]; exact hl.app (Al.one Ks_lt)
  have llen : ln.length = l.length + 1 := by rw [← hln, List.length_append]; rfl
  have lS : S ln = 0 := by rw [← hln, S_K Ks_lt]
  have lne : ln ≠ [] := fun z => by rw [z] at llen; cases llen
  have ltk : ln.take l.length = l := by rw [← hln, List.take_left' rfl]
  rw [seq_nx (ρ' := [some (.scr ns), some SG, some (.int (k : Nat)), some (sta st2), some (.int (a : Nat)), some (.int (b : Nat)), some (.int (c : Nat)), s7, some (.int (J a b : Nat)), s9, some (.str (wd l)), some (.str (wd ln)), s12, s13, s14, s15, s16, s17]) (by simp only [cSet_ap, cUser_ap, evR_v, evR_nil, cVar_ap, List.getElem?_cons_succ, List.getElem?_cons_zero, Option.getD_some, Option.map_some, Option.bind_some, slotsR_v, slotsR_nil, setOuts_nil, hc1, List.set_cons_succ, List.set_cons_zero])]
  have i1 := sum_eq l hl (by omega)
  have i2 := lsum_eq l hl (by omega)
  have i3 := wd_pre (l := ln) (k := l.length) (by omega) (by omega)
  rw [ltk] at i3
  have i4 := wd_ne hl hl
  have i5 := isch_eq ln al (by omega)
  rw [lS, decide_eq_true (show ln ≠ [] ∧ 0 = 0 from ⟨lne, rfl⟩)] at i5
  have i6 := sum_eq ln al (by omega)
  rw [lS] at i6
  have i7 : lenD [.str (wd l)] = some (.int (l.length : Nat)) := by rw [lenD_str (by rw [wd_len]; omega), wd_len]
  have i8 : lenD [.str (wd ln)] = some (.int (ln.length : Nat)) := by rw [lenD_str (by rw [wd_len]; omega), wd_len]
  have i9 : ((ln.length : Nat) : Int) = (l.length : Int) + 1 := by omega
  rw [seq_nx (ρ' := [some (.scr ns), some SG, some (.int (k : Nat)), some (sta st2), some (.int (a : Nat)), some (.int (b : Nat)), some (.int (c : Nat)), s7, some (.int (J a b : Nat)), s9, some (.str (wd l)), some (.str (wd ln)), s12, s13, s14, s15, s16, s17]) (if_nil (by
    simp only [cOr_ap, cTest_ap, cOp_ap, cUser_ap, evR_v, evR_nil, cVar_ap, cK_ap, cSl, cNoP, cPart, asInt, cCall_ap, evA_cons, evA_nil, List.getElem?_cons_succ, List.getElem?_cons_zero, Option.getD_some, Option.map_some, Option.bind_some, slotsR_v, slotsR_nil, setOuts_nil, i1, i2, i3, i4, i5, i6, i7, i8, i9, notB, addD_int, truthB_bl, Bool.false_eq_true, if_false, neD_int, ne_eq, not_true_eq_false, decide_false, decide_true, Bool.not_true]
    rfl))]
  have j1 : cComp (cIt (cVar 1)) (hName 12) (cTest (cUser f_is_checked [.v (cOp addD (cVar 10) (cVar 12))])) (cVar 12) [12] [some (.scr ns), some SG, some (.int (k : Nat)), some (sta st2), some (.int (a : Nat)), some (.int (b : Nat)), some (.int (c : Nat)), s7, some (.int (J a b : Nat)), s9, some (.str (wd l)), some (.str (wd ln)), s12, s13, s14, s15, s16, s17] = some (.lst [.str (wd [Ks l])], [some (.scr ns), some SG, some (.int (k : Nat)), some (sta st2), some (.int (a : Nat)), some (.int (b : Nat)), some (.int (c : Nat)), s7, some (.int (J a b : Nat)), s9, some (.str (wd l)), some (.str (wd ln)), s12, s13, s14, s15, s16, s17]) := by
    rw [comp_ixIf (G := fun i => .str (wd [i])) (F := fun i => .str (wd [i])) (c := fun i => decide (i = Ks l)) (is := List.range 46) (by show 12 < 18; decide) (by
      simp only [cIt_ap, cVar_ap, List.getElem?_cons_succ, List.getElem?_cons_zero, Option.getD_some, Option.map_some, Option.bind_some, wd_items]) (by simp) fun i hi => ⟨?_, fun _ => rfl⟩]
    · rw [filter_one (k := Ks l) Ks_lt fun i _ => by simp]
      rfl
    · have hi := List.mem_range.mp hi
      have q1 := wd_cat (l := l) (m := [i]) (by simp; omega)
      have q2 := isch_eq (l ++ [i]) (hl.app (Al.one hi)) (by simp; omega)
      have q3 : decide (l ++ [i] ≠ [] ∧ S (l ++ [i]) = 0) = decide (i = Ks l) := by
        rw [decide_eq_decide, S_K hi]; simp
      rw [q3] at q2
      simp only [cTest_ap, cOp_ap, cUser_ap, evR_v, evR_nil, cVar_ap, List.set_cons_succ, List.set_cons_zero, List.getElem?_cons_succ, List.getElem?_cons_zero, Option.getD_some, Option.map_some, Option.bind_some, q1, q2, slotsR_v, slotsR_nil, setOuts_nil, truthB_bl]
  rw [seq_nx (ρ' := [some (.scr ns), some SG, some (.int (k : Nat)), some (sta st2), some (.int (a : Nat)), some (.int (b : Nat)), some (.int (c : Nat)), s7, some (.int (J a b : Nat)), s9, some (.str (wd l)), some (.str (wd ln)), s12, s13, s14, s15, s16, s17]) (if_nil (by
    simp only [cTest_ap, cOp_ap, cCall_ap, evA_cons, evA_nil, cK_ap, j1, Option.map_some, Option.bind_some, lenD_lst, List.length_cons, List.length_nil, neD_int, truthB_bl]
    rfl))]
  have hat : st2 % ln.length < ln.length := Nat.mod_lt _ (by omega)
  have dd := digit_ap (F := f__law_digit) (s := 3) (m := ln.length) (st := st2) (g := cCall lenD (evA [(cVar 11)])) (ρ := [some (.scr ns), some SG, some (.int (k : Nat)), some (sta st2), some (.int (a : Nat)), some (.int (b : Nat)), some (.int (c : Nat)), s7, some (.int (J a b : Nat)), s9, some (.str (wd l)), some (.str (wd ln)), s12, s13, s14, s15, s16, s17]) dig rfl (by
    simp only [cCall_ap, evA_cons, evA_nil, cVar_ap, List.getElem?_cons_succ, List.getElem?_cons_zero, Option.getD_some, Option.map_some, Option.bind_some, i8]) (by omega) (by omega)
  rw [seq_nx (ρ' := [some (.scr ns), some SG, some (.int (k : Nat)), some (sta (st2 / ln.length)), some (.int (a : Nat)), some (.int (b : Nat)), some (.int (c : Nat)), s7, some (.int (J a b : Nat)), s9, some (.str (wd l)), some (.str (wd ln)), s12, some (.int (st2 % ln.length : Nat)), s14, s15, s16, s17]) (by rw [cSet_ap, dd]; rfl)]
  generalize st2 % ln.length = aq at hat ⊢
  generalize st2 / ln.length = st3
  have hot : st3 % 46 < 46 := Nat.mod_lt _ (by decide)
  rw [seq_nx (ρ' := [some (.scr ns), some SG, some (.int (k : Nat)), some (sta (st3 / 46)), some (.int (a : Nat)), some (.int (b : Nat)), some (.int (c : Nat)), s7, some (.int (J a b : Nat)), s9, some (.str (wd l)), some (.str (wd ln)), s12, some (.int (aq : Nat)), some (.str (wd [st3 % 46])), s15, s16, s17]) (by
    rw [cSet_ap, cOp_ap, cVar_ap]
    show ((cUser f__law_digit [.s 3, .v (cK (D.int 46))] [some (.scr ns), some SG, some (.int (k : Nat)), some (sta st3), some (.int (a : Nat)), some (.int (b : Nat)), some (.int (c : Nat)), s7, some (.int (J a b : Nat)), s9, some (.str (wd l)), some (.str (wd ln)), s12, some (.int (aq : Nat)), s14, s15, s16, s17]).bind fun q => (ixD SG q.1).map fun z => (z, q.2)).map _ = _
    rw [digit_ap (m := 46) dig (by rfl) rfl (by decide) (by decide), Option.bind_some, sgn_ix hot]
    rfl)]
  generalize st3 % 46 = ot at hot ⊢
  generalize st3 / 46 = st4
  have k1 := wd_pre (l := ln) (k := aq) (by omega) (by omega)
  have k2 := wd_suf (l := ln) (k := aq + 1) (by omega) (by omega)
  have k3 := wd_cat (l := ln.take aq) (m := [ot]) (by rw [List.length_take]; simp; omega)
  have k4 := wd_cat (l := ln.take aq ++ [ot]) (m := ln.drop (aq + 1)) (by rw [List.length_append, List.length_take, List.length_drop]; simp; omega)
  have k5 := isch_eq (ln.take aq ++ [ot] ++ ln.drop (aq + 1)) (((al.take aq).app (Al.one hot)).app (al.drop (aq + 1))) (by rw [List.length_append, List.length_append, List.length_take, List.length_drop]; simp; omega)
  rw [show decide _ = decide _ from decide_eq_decide.mpr (other_iff al hat hot lS)] at k5
  have k6 := wd_ix hat (by omega)
  have k7 := wd_eq (Al.one hot) (Al.one (al.get hat))
  rw [seq_nx (ρ' := [some (.scr ns), some SG, some (.int (k : Nat)), some (sta st4), some (.int (a : Nat)), some (.int (b : Nat)), some (.int (c : Nat)), s7, some (.int (J a b : Nat)), s9, some (.str (wd l)), some (.str (wd ln)), s12, some (.int (aq : Nat)), some (.str (wd [ot])), s15, s16, s17]) (if_nil (by
    simp only [cTest_ap, cOp_ap, cUser_ap, evR_v, evR_nil, cVar_ap, cK_ap, cSl, cNoP, cPart, asInt, cCall_ap, evA_cons, evA_nil, List.getElem?_cons_succ, List.getElem?_cons_zero, Option.getD_some, Option.map_some, Option.bind_some, slotsR_v, slotsR_nil, setOuts_nil, List.set_cons_succ, List.set_cons_zero, addD_int, c1, k1, k2, k3, k4, k5, k6, k7, bl_ne, truthB_bl]))]
  have step : ∃ (st5 : Nat) (z13 z15 : Option D), cIfS (cTest (cOp gtD (cCall lenD (evA [(cVar 11)])) (cK (D.int 1)))) (cSeq (cSet 13 (cUser f__law_digit [.s 3, .v (cOp subD (cCall lenD (evA [(cVar 11)])) (cK (D.int 1)))]))
    (cSeq (cSet 15 (cOp addD (cOp addD (cOp addD (cSl slD (cVar 11) cNoP (cPart (cVar 13))) (cOp ixD (cVar 11) (cOp addD (cVar 13) (cK (D.int 1))))) (cOp ixD (cVar 11) (cVar 13))) (cSl slD (cVar 11) (cPart (cOp addD (cVar 13) (cK (D.int 2)))) cNoP)))
    (cIfS (cTest (cOp neD (cUser f_is_checked [.v (cVar 15)]) (cOp eqD (cOp ixD (cVar 11) (cVar 13)) (cOp ixD (cVar 11) (cOp addD (cVar 13) (cK (D.int 1))))))) (cRet (cK (D.bl false))) cNil))) cNil [some (.scr ns), some SG, some (.int (k : Nat)), some (sta st4), some (.int (a : Nat)), some (.int (b : Nat)), some (.int (c : Nat)), s7, some (.int (J a b : Nat)), s9, some (.str (wd l)), some (.str (wd ln)), s12, some (.int (aq : Nat)), some (.str (wd [ot])), s15, s16, s17] = some (.nx [some (.scr ns), some SG, some (.int (k : Nat)), some (sta st5), some (.int (a : Nat)), some (.int (b : Nat)), some (.int (c : Nat)), s7, some (.int (J a b : Nat)), s9, some (.str (wd l)), some (.str (wd ln)), s12, z13, some (.str (wd [ot])), z15, s16, s17]) := by
    by_cases q : 1 < ln.length
    · have q1 : (1 : Int) < (ln.length : Int) := by omega
      rw [if_yes (ρ' := [some (.scr ns), some SG, some (.int (k : Nat)), some (sta st4), some (.int (a : Nat)), some (.int (b : Nat)), some (.int (c : Nat)), s7, some (.int (J a b : Nat)), s9, some (.str (wd l)), some (.str (wd ln)), s12, some (.int (aq : Nat)), some (.str (wd [ot])), s15, s16, s17]) (by simp only [cTest_ap, cOp_ap, cUser_ap, evR_v, evR_nil, cVar_ap, cK_ap, cSl, cNoP, cPart, asInt, cCall_ap, evA_cons, evA_nil, List.getElem?_cons_succ, List.getElem?_cons_zero, Option.getD_some, Option.map_some, Option.bind_some, slotsR_v, slotsR_nil, setOuts_nil, List.set_cons_succ, List.set_cons_zero, addD_int, i8, gtD_int, truthB_bl, q1, decide_true])]
      have dd := digit_ap (F := f__law_digit) (s := 3) (m := ln.length - 1) (st := st4) (g := (cOp subD (cCall lenD (evA [(cVar 11)])) (cK (D.int 1)))) (ρ := [some (.scr ns), some SG, some (.int (k : Nat)), some (sta st4), some (.int (a : Nat)), some (.int (b : Nat)), some (.int (c : Nat)), s7, some (.int (J a b : Nat)), s9, some (.str (wd l)), some (.str (wd ln)), s12, some (.int (aq : Nat)), some (.str (wd [ot])), s15, s16, s17]) dig rfl (by
        simp only [cTest_ap, cOp_ap, cUser_ap, evR_v, evR_nil, cVar_ap, cK_ap, cSl, cNoP, cPart, asInt, cCall_ap, evA_cons, evA_nil, List.getElem?_cons_succ, List.getElem?_cons_zero, Option.getD_some, Option.map_some, Option.bind_some, slotsR_v, slotsR_nil, setOuts_nil, List.set_cons_succ, List.set_cons_zero, addD_int, i8, subD_int]
        rw [show (ln.length : Int) - 1 = ((ln.length - 1 : Nat) : Int) by omega]) (by omega) (by omega)
      rw [seq_nx (ρ' := [some (.scr ns), some SG, some (.int (k : Nat)), some (sta (st4 / (ln.length - 1))), some (.int (a : Nat)), some (.int (b : Nat)), some (.int (c : Nat)), s7, some (.int (J a b : Nat)), s9, some (.str (wd l)), some (.str (wd ln)), s12, some (.int (st4 % (ln.length - 1) : Nat)), some (.str (wd [ot])), s15, s16, s17]) (by rw [cSet_ap, dd]; rfl)]
      have hbt : st4 % (ln.length - 1) + 1 < ln.length := by have := Nat.mod_lt st4 (show 0 < ln.length - 1 by omega); omega
      generalize st4 % (ln.length - 1) = bq at hbt ⊢
      generalize st4 / (ln.length - 1) = st5
      have k1 := wd_pre (l := ln) (k := bq) (by omega) (by omega)
      have k2 := wd_suf (l := ln) (k := bq + 2) (by omega) (by omega)
      have hx := al.get (show bq < ln.length by omega)
      have hy := al.get hbt
      have k3 := wd_cat (l := ln.take bq) (m := [ln[bq + 1]]) (by rw [List.length_take]; simp; omega)
      have k4 := wd_cat (l := ln.take bq ++ [ln[bq + 1]]) (m := [ln[bq]]) (by rw [List.length_append, List.length_take]; simp; omega)
      have k4' := wd_cat (l := ln.take bq ++ [ln[bq + 1]] ++ [ln[bq]]) (m := ln.drop (bq + 2)) (by rw [List.length_append, List.length_append, List.length_take, List.length_drop]; simp; omega)
      have k5 := isch_eq (ln.take bq ++ [ln[bq + 1]] ++ [ln[bq]] ++ ln.drop (bq + 2)) ((((al.take bq).app (Al.one hy)).app (Al.one hx)).app (al.drop (bq + 2))) (by rw [List.length_append, List.length_append, List.length_append, List.length_take, List.length_drop]; simp; omega)
      rw [show decide _ = decide _ from decide_eq_decide.mpr (swap_iff al hbt lS)] at k5
      have k6 := wd_ix (show bq < ln.length by omega) (by omega)
      have k6' := wd_ix hbt (by omega)
      have k7 := wd_eq (Al.one hx) (Al.one hy)
      rw [seq_nx (ρ' := [some (.scr ns), some SG, some (.int (k : Nat)), some (sta st5), some (.int (a : Nat)), some (.int (b : Nat)), some (.int (c : Nat)), s7, some (.int (J a b : Nat)), s9, some (.str (wd l)), some (.str (wd ln)), s12, some (.int (bq : Nat)), some (.str (wd [ot])), some (.str (wd (ln.take bq ++ [ln[bq + 1]] ++ [ln[bq]] ++ ln.drop (bq + 2)))), s16, s17]) (by
        simp only [cSet_ap, cTest_ap, cOp_ap, cUser_ap, evR_v, evR_nil, cVar_ap, cK_ap, cSl, cNoP, cPart, asInt, cCall_ap, evA_cons, evA_nil, List.getElem?_cons_succ, List.getElem?_cons_zero, Option.getD_some, Option.map_some, Option.bind_some, slotsR_v, slotsR_nil, setOuts_nil, List.set_cons_succ, List.set_cons_zero, addD_int, c1, c2, k1, k2, k3, k4, k4', k6, k6'])]
      exact ⟨st5, some (.int (bq : Nat)), some (.str (wd (ln.take bq ++ [ln[bq + 1]] ++ [ln[bq]] ++ ln.drop (bq + 2)))), if_nil (by
        simp only [cTest_ap, cOp_ap, cUser_ap, evR_v, evR_nil, cVar_ap, cK_ap, cSl, cNoP, cPart, asInt, cCall_ap, evA_cons, evA_nil, List.getElem?_cons_succ, List.getElem?_cons_zero, Option.getD_some, Option.map_some, Option.bind_some, slotsR_v, slotsR_nil, setOuts_nil, List.set_cons_succ, List.set_cons_zero, addD_int, c1, c2, k5, k6, k6', k7, bl_ne, truthB_bl])⟩
    · have q1 : ¬ (1 : Int) < (ln.length : Int) := by omega
      exact ⟨st4, some (.int (aq : Nat)), s15, if_no (ρ' := [some (.scr ns), some SG, some (.int (k : Nat)), some (sta st4), some (.int (a : Nat)), some (.int (b : Nat)), some (.int (c : Nat)), s7, some (.int (J a b : Nat)), s9, some (.str (wd l)), some (.str (wd ln)), s12, some (.int (aq : Nat)), some (.str (wd [ot])), s15, s16, s17]) (by simp only [cTest_ap, cOp_ap, cUser_ap, evR_v, evR_nil, cVar_ap, cK_ap, cSl, cNoP, cPart, asInt, cCall_ap, evA_cons, evA_nil, List.getElem?_cons_succ, List.getElem?_cons_zero, Option.getD_some, Option.map_some, Option.bind_some, slotsR_v, slotsR_nil, setOuts_nil, List.set_cons_succ, List.set_cons_zero, addD_int, i8, gtD_int, truthB_bl, decide_eq_false q1])⟩
  obtain ⟨st5, z13, z15, e5⟩ := step
  rw [seq_nx e5]
  obtain ⟨lb, st6, hlb, hlbn, he2⟩ := text_eq (ρ := [some (.scr ns), some SG, some (.int (k : Nat)), some (sta st5), some (.int (a : Nat)), some (.int (b : Nat)), some (.int (c : Nat)), s7, some (.int (J a b : Nat)), s9, some (.str (wd l)), some (.str (wd ln)), s12, z13, some (.str (wd [ot])), z15, s16, s17]) (st := st5) 9 (by decide) (by decide) rfl rfl rfl
  have he2 : cMtV joinD (cK (D.str "")) (evA [cComp (cItA rng1 (evA [cUser f__law_digit [.s 3, .v (cK (D.int 9))]])) (hName 7) cYes (cOp ixD (cVar 1) (cUser f__law_digit [.s 3, .v (cK (D.int 46))])) [7]]) [some (.scr ns), some SG, some (.int (k : Nat)), some (sta st5), some (.int (a : Nat)), some (.int (b : Nat)), some (.int (c : Nat)), s7, some (.int (J a b : Nat)), s9, some (.str (wd l)), some (.str (wd ln)), s12, z13, some (.str (wd [ot])), z15, s16, s17] = _ := he2
  rw [seq_nx (ρ' := [some (.scr ns), some SG, some (.int (k : Nat)), some (sta st6), some (.int (a : Nat)), some (.int (b : Nat)), some (.int (c : Nat)), s7, some (.int (J a b : Nat)), s9, some (.str (wd l)), some (.str (wd ln)), s12, z13, some (.str (wd [ot])), z15, some (.str (wd lb)), s17]) (by rw [cSet_ap, he2]; rfl)]
  have m1 := lmsum_eq lb l.length hlb (by omega) (by omega)
  rw [seq_nx (ρ' := [some (.scr ns), some SG, some (.int (k : Nat)), some (sta st6), some (.int (a : Nat)), some (.int (b : Nat)), some (.int (c : Nat)), s7, some (.int (J a b : Nat)), s9, some (.str (wd l)), some (.str (wd ln)), s12, z13, some (.str (wd [ot])), z15, some (.str (wd lb)), some (.int (S0 0 l.length lb : Nat))]) (by simp only [cSet_ap, cTest_ap, cOp_ap, cUser_ap, evR_v, evR_nil, cVar_ap, cK_ap, cSl, cNoP, cPart, asInt, cCall_ap, evA_cons, evA_nil, List.getElem?_cons_succ, List.getElem?_cons_zero, Option.getD_some, Option.map_some, Option.bind_some, slotsR_v, slotsR_nil, setOuts_nil, List.set_cons_succ, List.set_cons_zero, addD_int, i7, m1])]
  have m2 := wd_cat (l := l) (m := lb) (by omega)
  have m3 := sum_eq (l ++ lb) (hl.app hlb) (by rw [List.length_append]; omega)
  rw [S_app hlb] at m3
  have m4 := joined_eq (S l) (S0 0 l.length lb)
  rw [seq_nx (ρ' := [some (.scr ns), some SG, some (.int (k : Nat)), some (sta st6), some (.int (a : Nat)), some (.int (b : Nat)), some (.int (c : Nat)), s7, some (.int (J a b : Nat)), s9, some (.str (wd l)), some (.str (wd ln)), s12, z13, some (.str (wd [ot])), z15, some (.str (wd lb)), some (.int (S0 0 l.length lb : Nat))]) (if_nil (by
    simp only [cTest_ap, cOp_ap, cUser_ap, evR_v, evR_nil, cVar_ap, cK_ap, cSl, cNoP, cPart, asInt, cCall_ap, evA_cons, evA_nil, List.getElem?_cons_succ, List.getElem?_cons_zero, Option.getD_some, Option.map_some, Option.bind_some, slotsR_v, slotsR_nil, setOuts_nil, List.set_cons_succ, List.set_cons_zero, addD_int, i1, m2, m3, m4, neD_int, ne_eq, not_true_eq_false, decide_false, truthB_bl]))]
  have n1 := isch_eq [] Al.nil (by decide)
  rw [← em_wd, decide_eq_false (fun h => h.1 rfl)] at n1
  obtain ⟨n2, n3⟩ := bad_ch al (by omega) (c := 65) (z := Str.ofString "A") (by decide +kernel) (by decide +kernel) (by decide)
  obtain ⟨n4, n5⟩ := bad_ch al (by omega) (c := 10) (z := Str.ofString "\n") (by decide +kernel) (by decide +kernel) (by decide)
  have n6 := checked_eq [] Al.nil (by decide)
  rw [← em_wd, K_nil] at n6
  have n7 : neD (.str (Str.ofString "a")) (.str (Str.ofString "a")) = some (.bl false) := neD_self (by decide +kernel)
  refine ⟨_, if_nil (ρ' := [some (.scr ns), some SG, some (.int (k : Nat)), some (sta st6), some (.int (a : Nat)), some (.int (b : Nat)), some (.int (c : Nat)), s7, some (.int (J a b : Nat)), s9, some (.str (wd l)), some (.str (wd ln)), s12, z13, some (.str (wd [ot])), z15, some (.str (wd lb)), some (.int (S0 0 l.length lb : Nat))]) (by
    simp only [cOr_ap, cTest_ap, cOp_ap, cUser_ap, evR_v, evR_nil, cVar_ap, cK_ap, cSl, cNoP, cPart, asInt, cCall_ap, evA_cons, evA_nil, List.getElem?_cons_succ, List.getElem?_cons_zero, Option.getD_some, Option.map_some, Option.bind_some, slotsR_v, slotsR_nil, setOuts_nil, List.set_cons_succ, List.set_cons_zero, addD_int, n1, n2, n3, n4, n5, n6, n7, notB, truthB_bl, decide_true, Bool.not_true, Bool.false_eq_true, if_false]), _, rfl, rfl⟩
theorem plain (ns : List Int) (hn : ns.length ≤ 63) (hb : ∀ z ∈ ns, Builtin.Int.intBits z ≤ 1048576) : f_law [.scr ns] = some (.bl true, []) := by
  obtain ⟨ρ', e, r, rfl, hr⟩ := loopL_inv (b := fun x ρ => (hName 2 x ρ).bind b_law_L1) (I := fun ρ => ∃ r, ρ = some (.scr ns) :: some SG :: r ∧ r.length = 16) (xs := rangeD 0 4) (ρ := some (.scr ns) :: some SG :: List.replicate 16 none)
    (fun x hx ρ ⟨r, hr, hl⟩ => by
      subst hr
      obtain ⟨i, rfl, hi⟩ := rangeD_mem hx
      match r, hl with
      | [s2, s3, s4, s5, s6, s7, s8, s9, s10, s11, s12, s13, s14, s15, s16, s17], _ =>
        have h := turn_ok ns hn hb i (by omega) s3 s4 s5 s6 s7 s8 s9 s10 s11 s12 s13 s14 s15 s16 s17
        rw [hName_ap, Option.bind_some, Int.zero_add]
        exact h) ⟨_, rfl, rfl⟩
  refine runB_eq (ρ := some (.scr ns) :: some SG :: r) rfl ?_ rfl
  have w0 : D.str (Str.ofString "abcdefghijklmnopqrstuvwxyz0123456789ET,./*+-= ") = SG := by rw [sg_eq, sg_wd]
  unfold b_law
  rw [seq_nx (ρ' := some (.scr ns) :: some SG :: List.replicate 16 none) (by rw [cSet_ap, cK_ap, w0]; rfl), seq_nx (ρ' := some (.scr ns) :: some SG :: List.replicate 16 none) (if_nil ?_), seq_nx (ρ' := some (.scr ns) :: some SG :: r) ?_]
  · rfl
  · rw [cFor_ap, itR (n := 4) rfl]
    exact e
  · rw [cTest_ap, cOp_ap, cK_ap, c_wd, Option.bind_some]
    show ((neD SG SG).map _).bind _ = _
    rw [(wd_pl Al.rng 0).ne0]
    rfl
end T33
namespace T33
open PySem PySem.Spec PyProof.Rows L2 G
theorem all_mk {l : PySem.W.OpenLaw} {w : World} {K : PySem.W.Frag} {h : Heap} {mg : Str → Option Value} {fa : Addr} (X : K.In h) (G : h.Ns mainGlobals mg) (hfa : mg "law" = some (.ref fa))
    {w_joined_turns : Addr} {od_joined_turns an_joined_turns : Option Addr} {sl_joined_turns : Array (Option Value)} {oc_joined_turns kV_joined_turns dc_joined_turns pm_joined_turns cd_joined_turns ct_joined_turns : Value}
    (a_joined_turns : PySem.W.nsIn K mainGlobals "joined_turns" = some (some (.ref w_joined_turns))) (l_joined_turns : K.lookup w_joined_turns = some ⟨oc_joined_turns, od_joined_turns, .func (PySem.W.fnOf "joined_turns" "joined_turns" (defArgs s_joined_turns) (defBody s_joined_turns) (defScope s_joined_turns) .none kV_joined_turns dc_joined_turns pm_joined_turns an_joined_turns cd_joined_turns ct_joined_turns), sl_joined_turns⟩) (c_joined_turns : PySem.W.codeIn K cd_joined_turns "joined_turns" = true) (k_joined_turns : PySem.W.keepIn K (.ref w_joined_turns) = true)
    {w_moved : Addr} {od_moved an_moved : Option Addr} {sl_moved : Array (Option Value)} {oc_moved kV_moved dc_moved pm_moved cd_moved ct_moved : Value}
    (a_moved : PySem.W.nsIn K mainGlobals "moved" = some (some (.ref w_moved))) (l_moved : K.lookup w_moved = some ⟨oc_moved, od_moved, .func (PySem.W.fnOf "moved" "moved" (defArgs s_moved) (defBody s_moved) (defScope s_moved) .none kV_moved dc_moved pm_moved an_moved cd_moved ct_moved), sl_moved⟩) (c_moved : PySem.W.codeIn K cd_moved "moved" = true) (k_moved : PySem.W.keepIn K (.ref w_moved) = true)
    {w_moved_often : Addr} {od_moved_often an_moved_often : Option Addr} {sl_moved_often : Array (Option Value)} {oc_moved_often kV_moved_often dc_moved_often pm_moved_often cd_moved_often ct_moved_often : Value}
    (a_moved_often : PySem.W.nsIn K mainGlobals "moved_often" = some (some (.ref w_moved_often))) (l_moved_often : K.lookup w_moved_often = some ⟨oc_moved_often, od_moved_often, .func (PySem.W.fnOf "moved_often" "moved_often" (defArgs s_moved_often) (defBody s_moved_often) (defScope s_moved_often) .none kV_moved_often dc_moved_often pm_moved_often an_moved_often cd_moved_often ct_moved_often), sl_moved_often⟩) (c_moved_often : PySem.W.codeIn K cd_moved_often "moved_often" = true) (k_moved_often : PySem.W.keepIn K (.ref w_moved_often) = true)
    {w_sum_of_line : Addr} {od_sum_of_line an_sum_of_line : Option Addr} {sl_sum_of_line : Array (Option Value)} {oc_sum_of_line kV_sum_of_line dc_sum_of_line pm_sum_of_line cd_sum_of_line ct_sum_of_line : Value}
    (a_sum_of_line : PySem.W.nsIn K mainGlobals "sum_of_line" = some (some (.ref w_sum_of_line))) (l_sum_of_line : K.lookup w_sum_of_line = some ⟨oc_sum_of_line, od_sum_of_line, .func (PySem.W.fnOf "sum_of_line" "sum_of_line" (defArgs s_sum_of_line) (defBody s_sum_of_line) (defScope s_sum_of_line) .none kV_sum_of_line dc_sum_of_line pm_sum_of_line an_sum_of_line cd_sum_of_line ct_sum_of_line), sl_sum_of_line⟩) (c_sum_of_line : PySem.W.codeIn K cd_sum_of_line "sum_of_line" = true) (k_sum_of_line : PySem.W.keepIn K (.ref w_sum_of_line) = true)
    {w_checked : Addr} {od_checked an_checked : Option Addr} {sl_checked : Array (Option Value)} {oc_checked kV_checked dc_checked pm_checked cd_checked ct_checked : Value}
    (a_checked : PySem.W.nsIn K mainGlobals "checked" = some (some (.ref w_checked))) (l_checked : K.lookup w_checked = some ⟨oc_checked, od_checked, .func (PySem.W.fnOf "checked" "checked" (defArgs s_checked) (defBody s_checked) (defScope s_checked) .none kV_checked dc_checked pm_checked an_checked cd_checked ct_checked), sl_checked⟩) (c_checked : PySem.W.codeIn K cd_checked "checked" = true) (k_checked : PySem.W.keepIn K (.ref w_checked) = true)
    {w_is_checked : Addr} {od_is_checked an_is_checked : Option Addr} {sl_is_checked : Array (Option Value)} {oc_is_checked kV_is_checked dc_is_checked pm_is_checked cd_is_checked ct_is_checked : Value}
    (a_is_checked : PySem.W.nsIn K mainGlobals "is_checked" = some (some (.ref w_is_checked))) (l_is_checked : K.lookup w_is_checked = some ⟨oc_is_checked, od_is_checked, .func (PySem.W.fnOf "is_checked" "is_checked" (defArgs s_is_checked) (defBody s_is_checked) (defScope s_is_checked) .none kV_is_checked dc_is_checked pm_is_checked an_is_checked cd_is_checked ct_is_checked), sl_is_checked⟩) (c_is_checked : PySem.W.codeIn K cd_is_checked "is_checked" = true) (k_is_checked : PySem.W.keepIn K (.ref w_is_checked) = true)
    {w__law_start : Addr} {od__law_start an__law_start : Option Addr} {sl__law_start : Array (Option Value)} {oc__law_start kV__law_start dc__law_start pm__law_start cd__law_start ct__law_start : Value}
    (a__law_start : PySem.W.nsIn K mainGlobals "_law_start" = some (some (.ref w__law_start))) (l__law_start : K.lookup w__law_start = some ⟨oc__law_start, od__law_start, .func (PySem.W.fnOf "_law_start" "_law_start" (defArgs s__law_start) (defBody s__law_start) (defScope s__law_start) .none kV__law_start dc__law_start pm__law_start an__law_start cd__law_start ct__law_start), sl__law_start⟩) (c__law_start : PySem.W.codeIn K cd__law_start "_law_start" = true) (k__law_start : PySem.W.keepIn K (.ref w__law_start) = true)
    {w__law_digit : Addr} {od__law_digit an__law_digit : Option Addr} {sl__law_digit : Array (Option Value)} {oc__law_digit kV__law_digit dc__law_digit pm__law_digit cd__law_digit ct__law_digit : Value}
    (a__law_digit : PySem.W.nsIn K mainGlobals "_law_digit" = some (some (.ref w__law_digit))) (l__law_digit : K.lookup w__law_digit = some ⟨oc__law_digit, od__law_digit, .func (PySem.W.fnOf "_law_digit" "_law_digit" (defArgs s__law_digit) (defBody s__law_digit) (defScope s__law_digit) .none kV__law_digit dc__law_digit pm__law_digit an__law_digit cd__law_digit ct__law_digit), sl__law_digit⟩) (c__law_digit : PySem.W.codeIn K cd__law_digit "_law_digit" = true) (k__law_digit : PySem.W.keepIn K (.ref w__law_digit) = true)
    {w__law_map : Addr} {od__law_map an__law_map : Option Addr} {sl__law_map : Array (Option Value)} {oc__law_map kV__law_map dc__law_map pm__law_map cd__law_map ct__law_map : Value}
    (a__law_map : PySem.W.nsIn K mainGlobals "_law_map" = some (some (.ref w__law_map))) (l__law_map : K.lookup w__law_map = some ⟨oc__law_map, od__law_map, .func (PySem.W.fnOf "_law_map" "_law_map" (defArgs s__law_map) (defBody s__law_map) (defScope s__law_map) .none kV__law_map dc__law_map pm__law_map an__law_map cd__law_map ct__law_map), sl__law_map⟩) (c__law_map : PySem.W.codeIn K cd__law_map "_law_map" = true) (k__law_map : PySem.W.keepIn K (.ref w__law_map) = true)
    {w__law_number : Addr} {od__law_number an__law_number : Option Addr} {sl__law_number : Array (Option Value)} {oc__law_number kV__law_number dc__law_number pm__law_number cd__law_number ct__law_number : Value}
    (a__law_number : PySem.W.nsIn K mainGlobals "_law_number" = some (some (.ref w__law_number))) (l__law_number : K.lookup w__law_number = some ⟨oc__law_number, od__law_number, .func (PySem.W.fnOf "_law_number" "_law_number" (defArgs s__law_number) (defBody s__law_number) (defScope s__law_number) .none kV__law_number dc__law_number pm__law_number an__law_number cd__law_number ct__law_number), sl__law_number⟩) (c__law_number : PySem.W.codeIn K cd__law_number "_law_number" = true) (k__law_number : PySem.W.keepIn K (.ref w__law_number) = true)
    {w__law_moved : Addr} {od__law_moved an__law_moved : Option Addr} {sl__law_moved : Array (Option Value)} {oc__law_moved kV__law_moved dc__law_moved pm__law_moved cd__law_moved ct__law_moved : Value}
    (a__law_moved : PySem.W.nsIn K mainGlobals "_law_moved" = some (some (.ref w__law_moved))) (l__law_moved : K.lookup w__law_moved = some ⟨oc__law_moved, od__law_moved, .func (PySem.W.fnOf "_law_moved" "_law_moved" (defArgs s__law_moved) (defBody s__law_moved) (defScope s__law_moved) .none kV__law_moved dc__law_moved pm__law_moved an__law_moved cd__law_moved ct__law_moved), sl__law_moved⟩) (c__law_moved : PySem.W.codeIn K cd__law_moved "_law_moved" = true) (k__law_moved : PySem.W.keepIn K (.ref w__law_moved) = true)
    {w__law_sum : Addr} {od__law_sum an__law_sum : Option Addr} {sl__law_sum : Array (Option Value)} {oc__law_sum kV__law_sum dc__law_sum pm__law_sum cd__law_sum ct__law_sum : Value}
    (a__law_sum : PySem.W.nsIn K mainGlobals "_law_sum" = some (some (.ref w__law_sum))) (l__law_sum : K.lookup w__law_sum = some ⟨oc__law_sum, od__law_sum, .func (PySem.W.fnOf "_law_sum" "_law_sum" (defArgs s__law_sum) (defBody s__law_sum) (defScope s__law_sum) .none kV__law_sum dc__law_sum pm__law_sum an__law_sum cd__law_sum ct__law_sum), sl__law_sum⟩) (c__law_sum : PySem.W.codeIn K cd__law_sum "_law_sum" = true) (k__law_sum : PySem.W.keepIn K (.ref w__law_sum) = true)
    {w__law_moved_sum : Addr} {od__law_moved_sum an__law_moved_sum : Option Addr} {sl__law_moved_sum : Array (Option Value)} {oc__law_moved_sum kV__law_moved_sum dc__law_moved_sum pm__law_moved_sum cd__law_moved_sum ct__law_moved_sum : Value}
    (a__law_moved_sum : PySem.W.nsIn K mainGlobals "_law_moved_sum" = some (some (.ref w__law_moved_sum))) (l__law_moved_sum : K.lookup w__law_moved_sum = some ⟨oc__law_moved_sum, od__law_moved_sum, .func (PySem.W.fnOf "_law_moved_sum" "_law_moved_sum" (defArgs s__law_moved_sum) (defBody s__law_moved_sum) (defScope s__law_moved_sum) .none kV__law_moved_sum dc__law_moved_sum pm__law_moved_sum an__law_moved_sum cd__law_moved_sum ct__law_moved_sum), sl__law_moved_sum⟩) (c__law_moved_sum : PySem.W.codeIn K cd__law_moved_sum "_law_moved_sum" = true) (k__law_moved_sum : PySem.W.keepIn K (.ref w__law_moved_sum) = true)
    {w_law : Addr} {od_law an_law : Option Addr} {sl_law : Array (Option Value)} {oc_law kV_law dc_law pm_law cd_law ct_law : Value}
    (a_law : PySem.W.nsIn K mainGlobals "law" = some (some (.ref w_law))) (l_law : K.lookup w_law = some ⟨oc_law, od_law, .func (PySem.W.fnOf "law" "law" (defArgs s_law) (defBody s_law) (defScope s_law) .none kV_law dc_law pm_law an_law cd_law ct_law), sl_law⟩) (c_law : PySem.W.codeIn K cd_law "law" = true) (k_law : PySem.W.keepIn K (.ref w_law) = true)
    (z_abs : PySem.W.nsIn K mainGlobals "abs" = some none)
    (z_all : PySem.W.nsIn K mainGlobals "all" = some none)
    (z_enumerate : PySem.W.nsIn K mainGlobals "enumerate" = some none)
    (z_int : PySem.W.nsIn K mainGlobals "int" = some none)
    (z_len : PySem.W.nsIn K mainGlobals "len" = some none)
    (z_list : PySem.W.nsIn K mainGlobals "list" = some none)
    (z_range : PySem.W.nsIn K mainGlobals "range" = some none)
    {t_RING : Tok} (e_RING : PySem.W.nsIn K mainGlobals "RING" = some (some (.int 23 t_RING)))
    {t_SIGNS : Tok} (e_SIGNS : PySem.W.nsIn K mainGlobals "SIGNS" = some (some (.str "abcdefghijklmnopqrstuvwxyz0123456789ET,./*+-= " t_SIGNS)))
    : ∃ fd : FuncData, (∀ (s : Shared) (v : Value), BindsTo s fd ⟨[v], []⟩ [("script", v)]) ∧ ∀ base : Heap, K.In base → base.Ns mainGlobals mg → FnOk l.prog w K mg base CX0 4 fa fd ["script"] (spF K f_law [] false) := by
  have e := hfa.symm.trans (PySem.W.mg_of X G a_law)
  cases e
  have F_joined_turns := fun_mk (st := s_joined_turns) l_joined_turns c_joined_turns k_joined_turns
  have F_moved := fun_mk (st := s_moved) l_moved c_moved k_moved
  have F_moved_often := fun_mk (st := s_moved_often) l_moved_often c_moved_often k_moved_often
  have F_sum_of_line := fun_mk (st := s_sum_of_line) l_sum_of_line c_sum_of_line k_sum_of_line
  have F_checked := fun_mk (st := s_checked) l_checked c_checked k_checked
  have F_is_checked := fun_mk (st := s_is_checked) l_is_checked c_is_checked k_is_checked
  have F__law_start := fun_mk (st := s__law_start) l__law_start c__law_start k__law_start
  have F__law_digit := fun_mk (st := s__law_digit) l__law_digit c__law_digit k__law_digit
  have F__law_map := fun_mk (st := s__law_map) l__law_map c__law_map k__law_map
  have F__law_number := fun_mk (st := s__law_number) l__law_number c__law_number k__law_number
  have F__law_moved := fun_mk (st := s__law_moved) l__law_moved c__law_moved k__law_moved
  have F__law_sum := fun_mk (st := s__law_sum) l__law_sum c__law_sum k__law_sum
  have F__law_moved_sum := fun_mk (st := s__law_moved_sum) l__law_moved_sum c__law_moved_sum k__law_moved_sum
  have F_law := fun_mk (st := s_law) l_law c_law k_law
  have m_abs := PySem.W.mg_none_of X G z_abs
  have m_all := PySem.W.mg_none_of X G z_all
  have m_enumerate := PySem.W.mg_none_of X G z_enumerate
  have m_int := PySem.W.mg_none_of X G z_int
  have m_len := PySem.W.mg_none_of X G z_len
  have m_list := PySem.W.mg_none_of X G z_list
  have m_range := PySem.W.mg_none_of X G z_range
  have g_RING : Glb K mg "RING" c_RING := ⟨⟨_, _, PySem.W.mg_of X G e_RING, (show RelV (.int 23) _ from ⟨_, rfl⟩), fun H => rfl⟩⟩
  have g_SIGNS : Glb K mg "SIGNS" c_SIGNS := ⟨⟨_, _, PySem.W.mg_of X G e_SIGNS, (show RelV (.str "abcdefghijklmnopqrstuvwxyz0123456789ET,./*+-= ") _ from ⟨_, rfl⟩), fun H => rfl⟩⟩
  refine ⟨PySem.W.fnOf "law" "law" (defArgs s_law) (defBody s_law) (defScope s_law) .none kV_law dc_law pm_law an_law cd_law ct_law, fun s v => .of_eq rfl, fun base _ _ => ?_⟩
  have C_joined_turns : Cal l.prog w K mg base 1 "joined_turns" p_joined_turns f_joined_turns [] false := ⟨⟨_, _, ok_joined_turns F_joined_turns g_RING, PySem.W.mg_of X G a_joined_turns, k_joined_turns, F_joined_turns.binds (ps := p_joined_turns) fun _ _ _ _ _ _ us hl => match us, hl with | [_, _], _ => rfl⟩⟩
  have C_moved : Cal l.prog w K mg base 1 "moved" p_moved f_moved [] false := ⟨⟨_, _, ok_moved F_moved g_RING, PySem.W.mg_of X G a_moved, k_moved, F_moved.binds (ps := p_moved) fun _ _ _ _ _ _ us hl => match us, hl with | [_], _ => rfl⟩⟩
  have C_moved_often : Cal l.prog w K mg base 1 "moved_often" p_moved_often f_moved_often [] false := ⟨⟨_, _, ok_moved_often F_moved_often g_RING, PySem.W.mg_of X G a_moved_often, k_moved_often, F_moved_often.binds (ps := p_moved_often) fun _ _ _ _ _ _ us hl => match us, hl with | [_, _], _ => rfl⟩⟩
  have C_sum_of_line : Cal l.prog w K mg base 2 "sum_of_line" p_sum_of_line f_sum_of_line [] false := ⟨⟨_, _, ok_sum_of_line F_sum_of_line C_joined_turns C_moved_often g_SIGNS m_enumerate, PySem.W.mg_of X G a_sum_of_line, k_sum_of_line, F_sum_of_line.binds (ps := p_sum_of_line) fun _ _ _ _ _ _ us hl => match us, hl with | [_], _ => rfl⟩⟩
  have C_checked : Cal l.prog w K mg base 3 "checked" p_checked f_checked [] false := ⟨⟨_, _, ok_checked F_checked C_sum_of_line g_SIGNS, PySem.W.mg_of X G a_checked, k_checked, F_checked.binds (ps := p_checked) fun _ _ _ _ _ _ us hl => match us, hl with | [_], _ => rfl⟩⟩
  have C_is_checked : Cal l.prog w K mg base 3 "is_checked" p_is_checked f_is_checked [] false := ⟨⟨_, _, ok_is_checked F_is_checked C_sum_of_line g_SIGNS m_all, PySem.W.mg_of X G a_is_checked, k_is_checked, F_is_checked.binds (ps := p_is_checked) fun _ _ _ _ _ _ us hl => match us, hl with | [_], _ => rfl⟩⟩
  have C__law_start : Cal l.prog w K mg base 1 "_law_start" p__law_start f__law_start [] true := ⟨⟨_, _, ok__law_start F__law_start m_abs m_int m_len m_range, PySem.W.mg_of X G a__law_start, k__law_start, F__law_start.binds (ps := p__law_start) fun _ _ _ _ _ _ us hl => match us, hl with | [_, _], _ => rfl⟩⟩
  have C__law_digit : Cal l.prog w K mg base 1 "_law_digit" p__law_digit f__law_digit [0] false := ⟨⟨_, _, ok__law_digit F__law_digit m_int, PySem.W.mg_of X G a__law_digit, k__law_digit, F__law_digit.binds (ps := p__law_digit) fun _ _ _ _ _ _ us hl => match us, hl with | [_, _], _ => rfl⟩⟩
  have C__law_map : Cal l.prog w K mg base 1 "_law_map" p__law_map f__law_map [] false := ⟨⟨_, _, ok__law_map F__law_map m_int m_range, PySem.W.mg_of X G a__law_map, k__law_map, F__law_map.binds (ps := p__law_map) fun _ _ _ _ _ _ us hl => match us, hl with | [_], _ => rfl⟩⟩
  have C__law_number : Cal l.prog w K mg base 2 "_law_number" p__law_number f__law_number [] false := ⟨⟨_, _, ok__law_number F__law_number C__law_map m_range, PySem.W.mg_of X G a__law_number, k__law_number, F__law_number.binds (ps := p__law_number) fun _ _ _ _ _ _ us hl => match us, hl with | [_], _ => rfl⟩⟩
  have C__law_moved : Cal l.prog w K mg base 1 "_law_moved" p__law_moved f__law_moved [] false := ⟨⟨_, _, ok__law_moved F__law_moved m_int m_range, PySem.W.mg_of X G a__law_moved, k__law_moved, F__law_moved.binds (ps := p__law_moved) fun _ _ _ _ _ _ us hl => match us, hl with | [_, _], _ => rfl⟩⟩
  have C__law_sum : Cal l.prog w K mg base 3 "_law_sum" p__law_sum f__law_sum [] false := ⟨⟨_, _, ok__law_sum F__law_sum C__law_map C__law_number C__law_moved m_len m_list m_range, PySem.W.mg_of X G a__law_sum, k__law_sum, F__law_sum.binds (ps := p__law_sum) fun _ _ _ _ _ _ us hl => match us, hl with | [_], _ => rfl⟩⟩
  have C__law_moved_sum : Cal l.prog w K mg base 3 "_law_moved_sum" p__law_moved_sum f__law_moved_sum [] false := ⟨⟨_, _, ok__law_moved_sum F__law_moved_sum C__law_map C__law_number C__law_moved m_len m_list m_range, PySem.W.mg_of X G a__law_moved_sum, k__law_moved_sum, F__law_moved_sum.binds (ps := p__law_moved_sum) fun _ _ _ _ _ _ us hl => match us, hl with | [_, _], _ => rfl⟩⟩
  exact ok_law F_law C_joined_turns C_moved C_sum_of_line C_checked C_is_checked C__law_start C__law_digit C__law_map C__law_moved C__law_sum C__law_moved_sum g_SIGNS m_len m_range
end T33
open PySem PySem.W PyProof.Rows
set_option maxHeartbeats 0 in
theorem PySem.Challenge.cw_bellring_k33_whole_lines_and_their_slips_holds : PySem.Challenge.rw_bellring_k33_whole_lines_and_their_slips.Holds := by
  w_on; o_law; k_head; (case hw => w_witness2)
  k_fill
  refine L2.walk_ofB (l := PySem.Challenge.rw_bellring_k33_whole_lines_and_their_slips) (n := 63) (k := 4) (x := "script") (CX := fun _ => L2.CX0) (sp := fun w => G.spF _ T33.f_law [] false) rfl (by decide) rfl ⟨rfl, by decide, by decide⟩ (fun w h Y => PySem.W.kIn_of Y) ?F (fun _ _ a ns hl hb _ hS => G.law_sp hS (T33.plain ns hl hb)) (fun _ _ _ _ _ h => h)
  case F =>
    intro w mg fa h KX G hmg
    refine' T33.all_mk KX G hmg ?a_joined_turns ?l_joined_turns ?c_joined_turns ?k_joined_turns ?a_moved ?l_moved ?c_moved ?k_moved ?a_moved_often ?l_moved_often ?c_moved_often ?k_moved_often ?a_sum_of_line ?l_sum_of_line ?c_sum_of_line ?k_sum_of_line ?a_checked ?l_checked ?c_checked ?k_checked ?a_is_checked ?l_is_checked ?c_is_checked ?k_is_checked ?a__law_start ?l__law_start ?c__law_start ?k__law_start ?a__law_digit ?l__law_digit ?c__law_digit ?k__law_digit ?a__law_map ?l__law_map ?c__law_map ?k__law_map ?a__law_number ?l__law_number ?c__law_number ?k__law_number ?a__law_moved ?l__law_moved ?c__law_moved ?k__law_moved ?a__law_sum ?l__law_sum ?c__law_sum ?k__law_sum ?a__law_moved_sum ?l__law_moved_sum ?c__law_moved_sum ?k__law_moved_sum ?a_law ?l_law ?c_law ?k_law ?z_abs ?z_all ?z_enumerate ?z_int ?z_len ?z_list ?z_range ?e_RING ?e_SIGNS
    (case a_joined_turns => k_is); (case l_joined_turns => k_is); (case c_joined_turns => k_is); (case k_joined_turns => k_is); (case a_moved => k_is); (case l_moved => k_is); (case c_moved => k_is); (case k_moved => k_is); (case a_moved_often => k_is); (case l_moved_often => k_is); (case c_moved_often => k_is); (case k_moved_often => k_is); (case a_sum_of_line => k_is); (case l_sum_of_line => k_is); (case c_sum_of_line => k_is); (case k_sum_of_line => k_is); (case a_checked => k_is); (case l_checked => k_is); (case c_checked => k_is); (case k_checked => k_is); (case a_is_checked => k_is); (case l_is_checked => k_is); (case c_is_checked => k_is); (case k_is_checked => k_is); (case a__law_start => k_is); (case l__law_start => k_is); (case c__law_start => k_is); (case k__law_start => k_is); (case a__law_digit => k_is); (case l__law_digit => k_is); (case c__law_digit => k_is); (case k__law_digit => k_is); (case a__law_map => k_is); (case l__law_map => k_is); (case c__law_map => k_is); (case k__law_map => k_is); (case a__law_number => k_is); (case l__law_number => k_is); (case c__law_number => k_is); (case k__law_number => k_is); (case a__law_moved => k_is); (case l__law_moved => k_is); (case c__law_moved => k_is); (case k__law_moved => k_is); (case a__law_sum => k_is); (case l__law_sum => k_is); (case c__law_sum => k_is); (case k__law_sum => k_is); (case a__law_moved_sum => k_is); (case l__law_moved_sum => k_is); (case c__law_moved_sum => k_is); (case k__law_moved_sum => k_is); (case a_law => k_is); (case l_law => k_is); (case c_law => k_is); (case k_law => k_is); (case z_abs => k_is); (case z_all => k_is); (case z_enumerate => k_is); (case z_int => k_is); (case z_len => k_is); (case z_list => k_is); (case z_range => k_is); (case e_RING => k_is); (case e_SIGNS => k_is)
