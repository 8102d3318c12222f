import PyProof.Rows.All
import Wide.All
import OpenK.AllK
import Wide.FinOn
import HandS.ForMost
import HandS.Wide
import HandS.Gcd
import HandS.EndBits
import HandS.TupAny
import HandS.Deep
import HandS.NoneIn
import HandS.Rev
import HandS.Style
import HandS.Conv
import HandS.StrMore
import HandS.Zip
import KE.GoesEnum
import PySem.Challenge.RW_bellring_k14_whole_beats_moved
set_option Elab.async false
set_option linter.all false
set_option maxRecDepth 100000
set_option maxHeartbeats 4000000
namespace G
open PySem PySem.Spec PyProof.Rows L2

abbrev St := L2.St
abbrev V := L2.V
/-! ### data -/
inductive D where
  | non | bl (b : Bool) | int (i : Int) | str (x : Str) | tup (xs : List D) | lst (xs : List D) | scr (ns : List Int)

mutual
def Rep (K : PySem.W.Frag) (H : Hp) : D → V → Prop
  | .non, v => v = .non
  | .bl b, v => v = .bl b
  | .int i, v => v = .int i
  | .str x, v => v = .str x
  | .tup ds, v => ∃ a xs, v = .ref a ∧ SqT K H a xs ∧ RepL K H ds xs
  | .lst ds, v => ∃ a xs, v = .ref a ∧ H a = some (.lst xs) ∧ RepL K H ds xs
  | .scr ns, v => ∃ a, v = .ref a ∧ SqL K H a (ns.map V.int)
def RepL (K : PySem.W.Frag) (H : Hp) : List D → List V → Prop
  | [], xs => xs = []
  | d :: ds, xs => ∃ v vs, xs = v :: vs ∧ Rep K H d v ∧ RepL K H ds vs
end
section
variable {K : PySem.W.Frag} {H H' : Hp}
theorem sqT_mono {a : Addr} {xs : List V} (e : Same H H') (h : SqT K H a xs) : SqT K H' a xs := by
  rcases h with (h | ⟨o, h⟩) | h
  · exact .inl (.inl (e _ _ h))
  · exact .inl (.inr ⟨o, e _ _ h⟩)
  · exact .inr h
mutual
theorem Rep.mono (e : Same H H') : ∀ (d : D) (v : V), Rep K H d v → Rep K H' d v
  | .non, _, h => h
  | .bl _, _, h => h
  | .int _, _, h => h
  | .str _, _, h => h
  | .tup ds, v, h => by
    obtain ⟨a, xs, rfl, h1, h2⟩ := h
    exact ⟨a, xs, rfl, sqT_mono e h1, RepL.mono e ds xs h2⟩
  | .lst ds, v, h => by
    obtain ⟨a, xs, rfl, h1, h2⟩ := h
    exact ⟨a, xs, rfl, e _ _ h1, RepL.mono e ds xs h2⟩
  | .scr ns, v, h => by
    obtain ⟨a, rfl, h1⟩ := h
    exact ⟨a, rfl, e.seq h1⟩
theorem RepL.mono (e : Same H H') : ∀ (ds : List D) (xs : List V), RepL K H ds xs → RepL K H' ds xs
  | [], _, h => h
  | d :: ds, xs, h => by
    obtain ⟨v, vs, rfl, h1, h2⟩ := h
    exact ⟨v, vs, rfl, Rep.mono e d v h1, RepL.mono e ds vs h2⟩
end
theorem RepL.nil : RepL K H [] [] := rfl
theorem RepL.cons {d : D} {ds : List D} {v : V} {vs : List V} (h : Rep K H d v) (t : RepL K H ds vs) : RepL K H (d :: ds) (v :: vs) := ⟨v, vs, rfl, h, t⟩
theorem RepL.len : ∀ {ds : List D} {xs : List V}, RepL K H ds xs → xs.length = ds.length
  | [], _, h => by rw [show _ = [] from h]; rfl
  | _ :: _, _, ⟨_, _, e, _, t⟩ => by rw [e, List.length_cons, List.length_cons, RepL.len t]
theorem RepL.get : ∀ {ds : List D} {xs : List V} {i : Nat} {d : D}, RepL K H ds xs → ds[i]? = some d → ∃ v, xs[i]? = some v ∧ Rep K H d v
  | [], _, _, _, _, e => by simp at e
  | _ :: _, _, 0, _, ⟨v, vs, e1, h, _⟩, e => by
    cases e
    exact ⟨v, by rw [e1]; rfl, h⟩
  | _ :: _, _, i + 1, _, ⟨v, vs, e1, _, t⟩, e => by
    obtain ⟨w, hw, r⟩ := RepL.get (i := i) t (by simpa using e)
    exact ⟨w, by rw [e1]; simpa using hw, r⟩
theorem RepL.append : ∀ {ds es : List D} {xs ys : List V}, RepL K H ds xs → RepL K H es ys → RepL K H (ds ++ es) (xs ++ ys)
  | [], _, _, _, h, t => by rw [show _ = [] from h]; exact t
  | _ :: _, _, _, _, ⟨v, vs, e1, h, t⟩, t2 => by rw [e1]; exact ⟨v, _, rfl, h, RepL.append t t2⟩
theorem RepL.take : ∀ {ds : List D} {xs : List V} (n : Nat), RepL K H ds xs → RepL K H (ds.take n) (xs.take n)
  | _, _, 0, _ => rfl
  | [], _, _ + 1, h => by rw [show _ = [] from h]; rfl
  | _ :: _, _, n + 1, ⟨v, vs, e1, h, t⟩ => by rw [e1]; exact ⟨v, _, rfl, h, RepL.take n t⟩
theorem RepL.drop : ∀ {ds : List D} {xs : List V} (n : Nat), RepL K H ds xs → RepL K H (ds.drop n) (xs.drop n)
  | _, _, 0, h => h
  | [], _, _ + 1, h => by rw [show _ = [] from h]; rfl
  | _ :: _, _, n + 1, ⟨v, vs, e1, h, t⟩ => by rw [e1]; exact RepL.drop n t
theorem RepL.set : ∀ {ds : List D} {xs : List V} (n : Nat) {d : D} {v : V}, RepL K H ds xs → Rep K H d v → RepL K H (ds.set n d) (xs.set n v)
  | [], _, _, _, _, h, _ => by rw [show _ = [] from h]; rfl
  | _ :: _, _, 0, _, _, ⟨w, vs, e1, h, t⟩, r => by rw [e1]; exact ⟨_, _, rfl, r, t⟩
  | _ :: _, _, n + 1, _, _, ⟨w, vs, e1, h, t⟩, r => by rw [e1]; exact ⟨_, _, rfl, h, RepL.set n t r⟩
theorem RepL.eraseIdx : ∀ {ds : List D} {xs : List V} (n : Nat), RepL K H ds xs → RepL K H (ds.eraseIdx n) (xs.eraseIdx n)
  | [], _, _, h => by rw [show _ = [] from h]; rfl
  | _ :: _, _, 0, ⟨w, vs, e1, h, t⟩ => by rw [e1]; exact t
  | _ :: _, _, n + 1, ⟨w, vs, e1, h, t⟩ => by rw [e1]; exact ⟨_, _, rfl, h, RepL.eraseIdx n t⟩
theorem RepL.reverse {ds : List D} {xs : List V} (h : RepL K H ds xs) : RepL K H ds.reverse xs.reverse := by
  induction ds generalizing xs with
  | nil => rw [show xs = [] from h]; rfl
  | cons d ds ih =>
    obtain ⟨v, vs, rfl, h1, h2⟩ := h
    rw [List.reverse_cons, List.reverse_cons]
    exact (ih h2).append (RepL.cons h1 RepL.nil)
theorem RepL.ints : ∀ {ns : List Int} {xs : List V}, RepL K H (ns.map D.int) xs → xs = ns.map V.int
  | [], _, h => h
  | n :: ns, _, ⟨v, vs, e1, h, t⟩ => by rw [e1, show v = V.int n from h, RepL.ints t]; rfl
theorem RepL.ofInts : ∀ (ns : List Int), RepL K H (ns.map D.int) (ns.map V.int)
  | [] => rfl
  | n :: ns => ⟨_, _, rfl, rfl, RepL.ofInts ns⟩
end

/-! ### growth -/
structure Gr (Hf H Hf' H' : Hp) : Prop where
  s1 : Same Hf Hf'
  s2 : Same Hf' H'
  old : ∀ b, H b ≠ none → Hf' b = Hf b ∧ H' b = H b
section
variable {Hf H Hf1 H1 Hf2 H2 : Hp} {p : Addr} {o : HO}
theorem same_upd {H : Hp} {p : Addr} {o : HO} (h : H p = none) : Same H (upd H p o) := fun b x e => by
  rw [upd_ne (ne_of_none e h)]
  exact e
theorem Gr.refl (h : Same Hf H) : Gr Hf H Hf H := ⟨Same.refl _, h, fun _ _ => ⟨rfl, rfl⟩⟩
theorem Gr.trans (a : Gr Hf H Hf1 H1) (b : Gr Hf1 H1 Hf2 H2) : Gr Hf H Hf2 H2 :=
  ⟨a.s1.trans b.s1, b.s2, fun c hc => by
    obtain ⟨e1, e2⟩ := a.old c hc
    obtain ⟨e3, e4⟩ := b.old c (by rw [e2]; exact hc)
    exact ⟨e3.trans e1, e4.trans e2⟩⟩
theorem Same.none {H H' : Hp} (e : Same H H') {l : Addr} (h : H' l = Option.none) : H l = Option.none := e.free h
theorem Gr.new (h : Same Hf H) (n : H p = none) : Gr Hf H (upd Hf p o) (upd H p o) := by
  refine ⟨same_upd (h.free n), fun b x e => ?_, fun b hb => ?_⟩
  · by_cases q : b = p
    · subst q; rw [upd_same] at e; rw [upd_same]; exact e
    · rw [upd_ne q] at e; rw [upd_ne q]; exact h _ _ e
  · have q : b ≠ p := fun z => hb (by rw [z]; exact n)
    rw [upd_ne q, upd_ne q]
    exact ⟨rfl, rfl⟩
theorem Gr.newO (h : Same Hf H) (n : H p = none) : Gr Hf H Hf (upd H p o) := by
  refine ⟨Same.refl _, fun b x e => ?_, fun b hb => ?_⟩
  · rw [upd_ne (ne_of_none (h _ _ e) n)]; exact h _ _ e
  · have q : b ≠ p := fun z => hb (by rw [z]; exact n)
    rw [upd_ne q]
    exact ⟨rfl, rfl⟩
/-- a new object is frozen -/
theorem Gr.frz (g : Gr Hf H Hf1 H1) (n : H p = none) (n1 : Hf1 p = none) (e : H1 p = some o) : Gr Hf H (upd Hf1 p o) H1 := by
  refine ⟨g.s1.trans (same_upd n1), fun b x q => ?_, fun b hb => ?_⟩
  · by_cases z : b = p
    · subst z; rw [upd_same] at q; rw [e]; exact q
    · rw [upd_ne z] at q; exact g.s2 _ _ q
  · have z : b ≠ p := fun z => hb (by rw [z]; exact n)
    rw [upd_ne z]
    exact g.old b hb
end

/-! ### the relation -/
abbrev Env := List (Option D)
structure Bs where
  Hc : Hp
  Hz : Hp
  io : List (Nat × Addr)
/-- what stands at an owned address -/
def Own (K : PySem.W.Frag) (Hf : Hp) : D → HO → Prop
  | .lst ds, o => ∃ xs, o = .lst xs ∧ RepL K Hf ds xs
  | _, _ => False
theorem Own.mono {K : PySem.W.Frag} {H H' : Hp} (e : Same H H') {d : D} {o : HO} (h : Own K H d o) : Own K H' d o := by
  cases d with
  | lst ds =>
    obtain ⟨xs, h1, h2⟩ := h
    exact ⟨xs, h1, RepL.mono e _ _ h2⟩
  | _ => exact h
theorem Own.rep {K : PySem.W.Frag} {H H' : Hp} {d : D} {o : HO} {a : Addr} (e : Same H H') (h : Own K H d o) (ha : H' a = some o) : Rep K H' d (.ref a) := by
  cases d with
  | lst ds =>
    obtain ⟨xs, rfl, h2⟩ := h
    exact ⟨a, xs, rfl, ha, RepL.mono e _ _ h2⟩
  | _ => exact h.elim

structure Rl (K : PySem.W.Frag) (B : Bs) (P O : List Nat) (Hf : Hp) (σ : St) (H : Hp) (ρ : Env) : Prop where
  iop : B.io.map (·.1) = P
  ex : Same Hf H
  ln : σ.length = ρ.length
  fz : ∀ i d, i ∉ O → ρ[i]? = some (some d) → ∃ v, σ[i]? = some (some v) ∧ Rep K Hf d v
  ow : ∀ i d, i ∈ O → ρ[i]? = some (some d) → ∃ a o, σ[i]? = some (some (.ref a)) ∧ Hf a = none ∧ H a = some o ∧ Own K Hf d o ∧ (B.Hc a = none ∨ (i, a) ∈ B.io)
  sp : ∀ i j a d e, i ∈ O → j ∈ O → ρ[i]? = some (some d) → ρ[j]? = some (some e) → σ[i]? = some (some (.ref a)) → σ[j]? = some (some (.ref a)) → i = j
  fr : ∀ b o, B.Hc b = some o → (∀ p ∈ B.io, p.2 ≠ b) → H b = some o
  fq : ∀ b, B.Hc b ≠ none → Hf b = B.Hz b
  ios : ∀ p ∈ B.io, p.1 ∈ O ∧ σ[p.1]? = some (some (.ref p.2)) ∧ ∃ d, ρ[p.1]? = some (some d)
section
variable {K : PySem.W.Frag} {B : Bs} {P O : List Nat} {Hf H Hf' H' : Hp} {σ : St} {ρ ρ' : Env}
theorem Rl.hc (R : Rl K B P O Hf σ H ρ) {b : Addr} (h : B.Hc b ≠ none) : H b ≠ none := by
  by_cases q : ∃ p ∈ B.io, p.2 = b
  · obtain ⟨p, hp, rfl⟩ := q
    obtain ⟨h1, h2, d, h3⟩ := R.ios p hp
    obtain ⟨a, o, e1, _, e2, _⟩ := R.ow _ _ h1 h3
    rw [h2] at e1
    cases e1
    rw [e2]
    exact fun z => nomatch z
  · cases e : B.Hc b with
    | none => exact absurd e h
    | some o =>
      rw [R.fr b o e fun p hp z => q ⟨p, hp, z⟩]
      exact fun z => nomatch z
theorem Rl.gr (R : Rl K B P O Hf σ H ρ) (g : Gr Hf H Hf' H') : Rl K B P O Hf' σ H' ρ where
  iop := R.iop
  ex := g.s2
  ln := R.ln
  fz := fun i d hi e => by
    obtain ⟨v, h1, h2⟩ := R.fz i d hi e
    exact ⟨v, h1, Rep.mono g.s1 _ _ h2⟩
  ow := fun i d hi e => by
    obtain ⟨a, o, h1, h2, h3, h4, h5⟩ := R.ow i d hi e
    obtain ⟨q1, q2⟩ := g.old a (by rw [h3]; exact fun z => nomatch z)
    exact ⟨a, o, h1, q1.trans h2, q2.trans h3, h4.mono g.s1, h5⟩
  sp := R.sp
  fr := fun b o e n => by
    have h1 := R.fr b o e n
    rw [(g.old b (by rw [h1]; exact fun z => nomatch z)).2]
    exact h1
  fq := fun b h => by
    rw [(g.old b (R.hc h)).1]
    exact R.fq b h
  ios := R.ios
end

/-! ### readings by data -/
abbrev Gx := Env → Option (D × Env)
abbrev Gt := Env → Option (Bool × Env)
abbrev Ga := Env → Option (List D × Env)
section
variable (K : PySem.W.Frag) (P O : List Nat)
def tE (g : Gx) : TE := fun σ H Q => ∃ B Hf ρ d ρ', Rl K B P O Hf σ H ρ ∧ g ρ = some (d, ρ') ∧ ∀ Hf' v H', Same Hf Hf' → Rl K B P O Hf' σ H' ρ' → Rep K Hf' d v → Q v H'
/-- a new object of its own -/
def tO (g : Gx) : TE := fun σ H Q => ∃ B Hf ρ d ρ', Rl K B P O Hf σ H ρ ∧ g ρ = some (d, ρ') ∧ ∀ Hf' a o H', Same Hf Hf' → Rl K B P O Hf' σ H' ρ' → Hf' a = none → H' a = some o → Own K Hf' d o → B.Hc a = none →
  (∀ i e, i ∈ O → ρ'[i]? = some (some e) → σ[i]? ≠ some (some (.ref a))) → Q (.ref a) H'
def tT (g : Gt) : TT := fun σ H Q => ∃ B Hf ρ d ρ', Rl K B P O Hf σ H ρ ∧ g ρ = some (d, ρ') ∧ ∀ Hf' H', Same Hf Hf' → Rl K B P O Hf' σ H' ρ' → Q d H'
def tA (g : Ga) : TA := fun σ H Q => ∃ B Hf ρ d ρ', Rl K B P O Hf σ H ρ ∧ g ρ = some (d, ρ') ∧ ∀ Hf' vs H', Same Hf Hf' → Rl K B P O Hf' σ H' ρ' → RepL K Hf' d vs → Q vs H'
end
abbrev EJ (X : Cx) (P O : List Nat) (e : Expr) (g : Gx) : Prop := PE X e (tE X.K P O g)
abbrev EO (X : Cx) (P O : List Nat) (e : Expr) (g : Gx) : Prop := PE X e (tO X.K P O g)
abbrev TJ (X : Cx) (P O : List Nat) (e : Expr) (g : Gt) : Prop := PT X e (tT X.K P O g)
abbrev AJ (X : Cx) (P O : List Nat) (es : List Expr) (g : Ga) : Prop := PA X es (tA X.K P O g)
theorem _root_.L2.PE.imp {X : Cx} {e : Expr} {t t' : TE} (h : PE X e t) (i : ∀ σ H Q, t' σ H Q → t σ H Q) : PE X e t' := ⟨fun pins s σ H Q I q => h.run pins s σ H Q I (i _ _ _ q)⟩
theorem _root_.L2.PT.imp {X : Cx} {e : Expr} {t t' : TT} (h : PT X e t) (i : ∀ σ H Q, t' σ H Q → t σ H Q) : PT X e t' := ⟨fun pins s σ H Q I q => h.run pins s σ H Q I (i _ _ _ q)⟩
theorem _root_.L2.PA.imp {X : Cx} {e : List Expr} {t t' : TA} (h : PA X e t) (i : ∀ σ H Q, t' σ H Q → t σ H Q) : PA X e t' := ⟨fun p pins s σ H Q I q => h.run p pins s σ H Q I (i _ _ _ q)⟩
theorem _root_.L2.PS.imp {X : Cx} {e : Stmt} {t t' : TS} (h : PS X e t) (i : ∀ D σ H, t' D σ H → t D σ H) : PS X e t' := ⟨fun pins s σ H D I q => h.run pins s σ H D I (i _ _ _ q)⟩
theorem _root_.L2.PSs.imp {X : Cx} {e : List Stmt} {t t' : TS} (h : PSs X e t) (i : ∀ D σ H, t' D σ H → t D σ H) : PSs X e t' := ⟨fun pins s σ H D I q => h.run pins s σ H D I (i _ _ _ q)⟩
theorem _root_.L2.PI.imp {X : Cx} {tg e : Expr} {t t' : TI} (h : PI X tg e t) (i : ∀ σ H Q, t' σ H Q → t σ H Q) : PI X tg e t' := ⟨fun pins s σ H Q I q => h.run pins s σ H Q I (i _ _ _ q)⟩
theorem _root_.L2.PG.imp {X : Cx} {e : Expr} {t t' : TG} (h : PG X e t) (i : ∀ v σ H Q, t' v σ H Q → t v σ H Q) : PG X e t' := ⟨fun pins s σ H v u Q I r q => h.run pins s σ H v u Q I r (i _ _ _ _ q)⟩

section
variable {X : Cx} {P O : List Nat} {a b e : Expr} {es : List Expr} {ga gb g : Gx} {pos : Pos}
/-! ### names, constants -/
def cVar (i : Nat) : Gx := fun ρ => (ρ[i]?.getD none).map fun d => (d, ρ)
def cK (d : D) : Gx := fun ρ => some (d, ρ)
theorem getD_some {ρ : Env} {i : Nat} {d : D} (h : ρ[i]?.getD none = some d) : ρ[i]? = some (some d) := by
  cases q : ρ[i]? with
  | none => rw [q] at h; cases h
  | some z => rw [q] at h; exact congrArg some h
theorem ej_var (i : Nat) {x : Str} {pos : Pos} (hN : X.N[i]? = some x := by rfl) (hv : Vis X.env.scope x := by first | exact Or.inl rfl | exact Or.inr (Or.inl rfl) | exact Or.inr (Or.inr rfl))
    (hd : (x == ("__debug__" : Str)) = false := by decide) (hcd : (x == ("__classdict__" : Str)) = false := by decide) (hi : i ∉ O := by decide) : EJ X P O (.Name x pos) (cVar i) := by
  refine (pe_var hN hv hd hcd).imp fun σ H Q ⟨B, Hf, ρ, d, ρ', R, e, k⟩ => ?_
  obtain ⟨d', h1, h2⟩ := Option.map_eq_some_iff.mp e
  cases h2
  obtain ⟨v, h3, h4⟩ := R.fz i d hi (getD_some h1)
  exact ⟨v, h3, k Hf v H (Same.refl _) R h4⟩
theorem ej_c {t : TE} {d : D} {v : V} (h : PE X e (tC v)) (r : ∀ H, Rep X.K H d v) : EJ X P O e (cK d) := by
  refine h.imp fun σ H Q ⟨B, Hf, ρ, d', ρ', R, e, k⟩ => ?_
  cases e
  exact k Hf v H (Same.refl _) R (r _)
theorem ej_int {i : Int} {j : Nat} : EJ X P O (.Constant (.int i) j pos) (cK (.int i)) := ej_c (t := tC .non) pe_int fun _ => rfl
theorem ej_bl {i : Bool} {j : Nat} : EJ X P O (.Constant (.bool i) j pos) (cK (.bl i)) := ej_c (t := tC .non) pe_bl fun _ => rfl
theorem ej_non {j : Nat} : EJ X P O (.Constant .none j pos) (cK .non) := ej_c (t := tC .non) pe_non fun _ => rfl
theorem ej_str {x : Str} {j : Nat} : EJ X P O (.Constant (.str x) j pos) (cK (.str x)) := ej_c (t := tC .non) pe_str fun _ => rfl
/-- a constant of the module -/
theorem ej_glob {x : Str} {d : D} {v : V} {u : Value} (hg : Gl X x) (hm : X.mg x = some u) (r : RelV v u) (hr : ∀ H, Rep X.K H d v) (hd : (x == ("__debug__" : Str)) = false := by decide) : EJ X P O (.Name x pos) (cK d) :=
  ej_c (t := tC .non) (pe_glob hg hm r hd) hr

/-! ### from a new object -/
theorem tO_E {K : PySem.W.Frag} {g : Gx} {σ : St} {H : Hp} {Q : VK} (h : tE K P O g σ H Q) : tO K P O g σ H Q := by
  obtain ⟨B, Hf, ρ, d, ρ', R, e, k⟩ := h
  refine ⟨B, Hf, ρ, d, ρ', R, e, fun Hf' a o H' s R' n ha ow hc ne => ?_⟩
  have fresh : ∀ b x, upd Hf' a o b = some x → H' b = some x := fun b x q => by
    by_cases z : b = a
    · subst z; rw [upd_same] at q; rw [ha]; exact q
    · rw [upd_ne z] at q; exact R'.ex _ _ q
  refine k (upd Hf' a o) (.ref a) H' (s.trans (same_upd n)) ⟨R'.iop, fresh, R'.ln, fun i d hi e => ?_, fun i d hi e => ?_, R'.sp, R'.fr, fun b hb => ?_, R'.ios⟩ ((ow.rep (same_upd n) upd_same))
  · obtain ⟨v, h1, h2⟩ := R'.fz i d hi e
    exact ⟨v, h1, Rep.mono (same_upd n) _ _ h2⟩
  · obtain ⟨c, u, h1, h2, h3, h4, h5⟩ := R'.ow i d hi e
    have z : c ≠ a := fun z => ne i d hi e (by rw [h1, z])
    exact ⟨c, u, h1, by rw [upd_ne z]; exact h2, h3, h4.mono (same_upd n), h5⟩
  · have z : b ≠ a := fun z => hb (by rw [z]; exact hc)
    rw [upd_ne z]
    exact R'.fq b hb
theorem EO.j (h : EO X P O e g) : EJ X P O e g := h.imp fun _ _ _ => tO_E

/-! ### operations by values -/
/-- f is what r does -/
def OpD (K : PySem.W.Frag) (r : R2) (f : D → D → Option D) : Prop := ∀ Hf H d e z x y, Same Hf H → Rep K Hf d x → Rep K Hf e y → f d e = some z → ∀ Q : VK, (∀ Hf' v H', Gr Hf H Hf' H' → Rep K Hf' z v → Q v H') → r x y H Q
/-- .. and hands back a new object -/
def OpDO (K : PySem.W.Frag) (r : R2) (f : D → D → Option D) : Prop := ∀ Hf H d e z x y, Same Hf H → Rep K Hf d x → Rep K Hf e y → f d e = some z → ∀ Q : VK, (∀ Hf' a o H', Gr Hf H Hf' H' → H a = none → Hf' a = none → H' a = some o → Own K Hf' z o → Q (.ref a) H') → r x y H Q
theorem OpDO.d {K : PySem.W.Frag} {r : R2} {f : D → D → Option D} (h : OpDO K r f) : OpD K r f := fun Hf H d e z x y s rx ry hf Q k =>
  h Hf H d e z x y s rx ry hf Q fun Hf' a o H' g n n' ha ow => k (upd Hf' a o) (.ref a) H' (g.frz n n' ha) (ow.rep (same_upd n') upd_same)
def cOp (f : D → D → Option D) (ga gb : Gx) : Gx := fun ρ => (ga ρ).bind fun p => (gb p.2).bind fun q => (f p.1 q.1).map fun z => (z, q.2)
theorem cOp_some {f : D → D → Option D} {ga gb : Gx} {ρ ρ' : Env} {z : D} (h : cOp f ga gb ρ = some (z, ρ')) : ∃ d ρ1 e, ga ρ = some (d, ρ1) ∧ gb ρ1 = some (e, ρ') ∧ f d e = some z := by
  obtain ⟨⟨d, ρ1⟩, h1, h⟩ := Option.bind_eq_some_iff.mp h
  obtain ⟨⟨e, ρ2⟩, h2, h⟩ := Option.bind_eq_some_iff.mp h
  obtain ⟨z', h3, h⟩ := Option.map_eq_some_iff.mp h
  cases h
  exact ⟨d, ρ1, e, h1, h2, h3⟩
theorem tOp_d {K : PySem.W.Frag} {r : R2} {f : D → D → Option D} (h : OpD K r f) {σ : St} {H : Hp} {Q : VK} (q : tE K P O (cOp f ga gb) σ H Q) : tOp r (tE K P O ga) (tE K P O gb) σ H Q := by
  obtain ⟨B, Hf, ρ, z, ρ', R, e, k⟩ := q
  obtain ⟨d, ρ1, e', h1, h2, h3⟩ := cOp_some e
  refine ⟨B, Hf, ρ, d, ρ1, R, h1, fun Hf1 x H1 s1 R1 rx => ⟨B, Hf1, ρ1, e', ρ', R1, h2, fun Hf2 y H2 s2 R2 ry => ?_⟩⟩
  exact h Hf2 H2 d e' z x y R2.ex (Rep.mono s2 _ _ rx) ry h3 Q fun Hf3 v H3 g rv => k Hf3 v H3 ((s1.trans s2).trans g.s1) (R2.gr g) rv
theorem fresh_ne {K : PySem.W.Frag} {B : Bs} {Hf H : Hp} {σ : St} {ρ : Env} {a : Addr} (R : Rl K B P O Hf σ H ρ) (n : H a = none) : ∀ i e, i ∈ O → ρ[i]? = some (some e) → σ[i]? ≠ some (some (.ref a)) := fun i e hi he z => by
  obtain ⟨c, u, h1, h2, h3, _⟩ := R.ow i e hi he
  rw [z] at h1
  cases h1
  rw [n] at h3
  cases h3
theorem fresh_hc {K : PySem.W.Frag} {B : Bs} {Hf H : Hp} {σ : St} {ρ : Env} {a : Addr} (R : Rl K B P O Hf σ H ρ) (n : H a = none) : B.Hc a = none := Classical.byContradiction fun z => R.hc z n
theorem tOp_o {K : PySem.W.Frag} {r : R2} {f : D → D → Option D} (h : OpDO K r f) {σ : St} {H : Hp} {Q : VK} (q : tO K P O (cOp f ga gb) σ H Q) : tOp r (tE K P O ga) (tE K P O gb) σ H Q := by
  obtain ⟨B, Hf, ρ, z, ρ', R, e, k⟩ := q
  obtain ⟨d, ρ1, e', h1, h2, h3⟩ := cOp_some e
  refine ⟨B, Hf, ρ, d, ρ1, R, h1, fun Hf1 x H1 s1 R1 rx => ⟨B, Hf1, ρ1, e', ρ', R1, h2, fun Hf2 y H2 s2 R2 ry => ?_⟩⟩
  exact h Hf2 H2 d e' z x y R2.ex (Rep.mono s2 _ _ rx) ry h3 Q fun Hf3 c o H3 g n n' hc ow => k Hf3 c o H3 ((s1.trans s2).trans g.s1) (R2.gr g) n' hc ow (fresh_hc R2 n) (fresh_ne R2 n)
theorem ej_op {op : Operator} {r : R2} {f : D → D → Option D} (ho : OpR X (binaryOp op) r) (h : OpD X.K r f) (ha : EJ X P O a ga) (hb : EJ X P O b gb) : EJ X P O (.BinOp a op b pos) (cOp f ga gb) := (pe_op ho ha hb).imp fun _ _ _ => tOp_d h
theorem eo_op {op : Operator} {r : R2} {f : D → D → Option D} (ho : OpR X (binaryOp op) r) (h : OpDO X.K r f) (ha : EJ X P O a ga) (hb : EJ X P O b gb) : EO X P O (.BinOp a op b pos) (cOp f ga gb) := (pe_op ho ha hb).imp fun _ _ _ => tOp_o h
theorem ej_cmp {op : CmpOp} {r : R2} {f : D → D → Option D} (ho : OpR X (compareOp op) r) (h : OpD X.K r f) (ha : EJ X P O a ga) (hb : EJ X P O b gb) (hm : behindInMarks op b = false) : EJ X P O (.Compare a [op] [b] pos) (cOp f ga gb) :=
  (pe_cmpR ho ha hb hm).imp fun _ _ _ => tOp_d h
theorem OpR.or {f : Value → Value → Sem Value} {r r' : R2} (h : OpR X f r) (h' : OpR X f r') : OpR X f (fun x y H Q => r x y H Q ∨ r' x y H Q) := fun pins s σ H x y v u Q I rx ry q => q.elim (h pins s σ H x y v u Q I rx ry) (h' pins s σ H x y v u Q I rx ry)
theorem OpD.or {K : PySem.W.Frag} {r r' : R2} {f f' g : D → D → Option D} (h : OpD K r f) (h' : OpD K r' f') (hg : ∀ d e z, g d e = some z → f d e = some z ∨ f' d e = some z) : OpD K (fun x y H Q => r x y H Q ∨ r' x y H Q) g := fun Hf H d e z x y s rx ry q Q k =>
  (hg d e z q).elim (fun q => .inl (h Hf H d e z x y s rx ry q Q k)) fun q => .inr (h' Hf H d e z x y s rx ry q Q k)
theorem OpDO.or {K : PySem.W.Frag} {r r' : R2} {f f' g : D → D → Option D} (h : OpDO K r f) (h' : OpDO K r' f') (hg : ∀ d e z, g d e = some z → f d e = some z ∨ f' d e = some z) : OpDO K (fun x y H Q => r x y H Q ∨ r' x y H Q) g := fun Hf H d e z x y s rx ry q Q k =>
  (hg d e z q).elim (fun q => .inl (h Hf H d e z x y s rx ry q Q k)) fun q => .inr (h' Hf H d e z x y s rx ry q Q k)
/-! ### tests -/
def truthB : D → Option Bool
  | .bl b => some b
  | _ => none
def cTest (g : Gx) : Gt := fun ρ => (g ρ).bind fun p => (truthB p.1).map fun b => (b, p.2)
theorem tB_d {K : PySem.W.Frag} {t : TE} {σ : St} {H : Hp} {Q : Bool → Hp → Prop} (ht : ∀ σ H Q, tE K P O g σ H Q → t σ H Q) (q : tT K P O (cTest g) σ H Q) : tB t σ H Q := by
  obtain ⟨B, Hf, ρ, z, ρ', R, e, k⟩ := q
  obtain ⟨⟨d, ρ1⟩, h1, h⟩ := Option.bind_eq_some_iff.mp e
  obtain ⟨z', h3, h⟩ := Option.map_eq_some_iff.mp h
  cases h
  refine ht σ H _ ⟨B, Hf, ρ, d, _, R, h1, fun Hf1 x H1 s1 R1 rx => ?_⟩
  cases d with
  | bl c =>
    cases h3
    exact ⟨_, rx, k Hf1 H1 s1 R1⟩
  | _ => cases h3
/-- an expression whose value is a bool, as a test -/
theorem tj_val (h : EJ X P O e g) (he : ∀ whole, isTrue e X.env whole = (do let v ← whole; standAt e.pos; holding [v] (truthy v)) := by intro _; rfl) : TJ X P O e (cTest g) := (pt_val h he).imp fun _ _ _ => tB_d fun _ _ _ => id
theorem tj_cmp {op : CmpOp} {r : R2} {f : D → D → Option D} (ho : OpR X (compareOp op) r) (h : OpD X.K r f) (ha : EJ X P O a ga) (hb : EJ X P O b gb) (hm : behindInMarks op b = false) : TJ X P O (.Compare a [op] [b] pos) (cTest (cOp f ga gb)) :=
  (pt_cmpR ho ha hb hm).imp fun _ _ _ q => tB_d (fun _ _ _ => tOp_d h) q
variable {ta tb : Gt} {rest : List Expr}
def cAnd (ta tb : Gt) : Gt := fun ρ => (ta ρ).bind fun p => if p.1 = true then tb p.2 else some (false, p.2)
def cOr (ta tb : Gt) : Gt := fun ρ => (ta ρ).bind fun p => if p.1 = true then some (true, p.2) else tb p.2
def cNot (ta : Gt) : Gt := fun ρ => (ta ρ).map fun p => (!p.1, p.2)
abbrev WJ (X : Cx) (P O : List Nat) (e : Expr) (g : Gt) : Prop := PW X e (tT X.K P O g)
theorem _root_.L2.PW.imp {X : Cx} {e : Expr} {t t' : TT} (h : PW X e t) (i : ∀ σ H Q, t' σ H Q → t σ H Q) : PW X e t' := ⟨fun w pins s σ H Q I q => h.run w pins s σ H Q I (i _ _ _ q)⟩
theorem wj_and1 (h : TJ X P O a ta) : WJ X P O (.BoolOp .And [a] pos) ta := pw_and1 h
theorem wj_or1 (h : TJ X P O a ta) : WJ X P O (.BoolOp .Or [a] pos) ta := pw_or1 h
theorem wj_and (ha : TJ X P O a ta) (hb : WJ X P O (.BoolOp .And (b :: rest) pos) tb) : WJ X P O (.BoolOp .And (a :: b :: rest) pos) (cAnd ta tb) := by
  refine PW.imp (pw_and ha hb) fun σ H Q ⟨B, Hf, ρ, z, ρ', R, e, k⟩ => ?_
  obtain ⟨⟨c, ρ1⟩, h1, h⟩ := Option.bind_eq_some_iff.mp e
  refine ⟨B, Hf, ρ, c, ρ1, R, h1, fun Hf1 H1 s1 R1 => ?_⟩
  cases c with
  | true => exact iteT ⟨B, Hf1, ρ1, z, ρ', R1, h, fun Hf2 H2 s2 R2 => k Hf2 H2 (s1.trans s2) R2⟩
  | false =>
    cases h
    exact iteF (k Hf1 H1 s1 R1)
theorem wj_or (ha : TJ X P O a ta) (hb : WJ X P O (.BoolOp .Or (b :: rest) pos) tb) : WJ X P O (.BoolOp .Or (a :: b :: rest) pos) (cOr ta tb) := by
  refine PW.imp (pw_or ha hb) fun σ H Q ⟨B, Hf, ρ, z, ρ', R, e, k⟩ => ?_
  obtain ⟨⟨c, ρ1⟩, h1, h⟩ := Option.bind_eq_some_iff.mp e
  refine ⟨B, Hf, ρ, c, ρ1, R, h1, fun Hf1 H1 s1 R1 => ?_⟩
  cases c with
  | false => exact iteF ⟨B, Hf1, ρ1, z, ρ', R1, h, fun Hf2 H2 s2 R2 => k Hf2 H2 (s1.trans s2) R2⟩
  | true =>
    cases h
    exact iteT (k Hf1 H1 s1 R1)
theorem WJ.t (h : WJ X P O e ta) : TJ X P O e ta := PW.pt h
theorem tj_not (h : TJ X P O a ta) : TJ X P O (.UnaryOp .Not a pos) (cNot ta) := by
  refine (pt_not h).imp fun σ H Q ⟨B, Hf, ρ, z, ρ', R, e, k⟩ => ?_
  obtain ⟨⟨c, ρ1⟩, h1, h⟩ := Option.map_eq_some_iff.mp e
  cases h
  exact ⟨B, Hf, ρ, c, _, R, h1, fun Hf1 H1 s1 R1 => k Hf1 H1 s1 R1⟩
/-! as values -/
def cAndV (ga gb : Gx) : Gx := fun ρ => (ga ρ).bind fun p => (truthB p.1).bind fun c => if c = true then gb p.2 else some (.bl false, p.2)
def cOrV (ga gb : Gx) : Gx := fun ρ => (ga ρ).bind fun p => (truthB p.1).bind fun c => if c = true then some (.bl true, p.2) else gb p.2
def cNotV (ga : Gx) : Gx := fun ρ => (ga ρ).bind fun p => (truthB p.1).map fun c => (.bl !c, p.2)
theorem ej_one {op} (h : EJ X P O a ga) : EJ X P O (.BoolOp op [a] pos) ga := pe_one h
theorem truthB_rep {K : PySem.W.Frag} {H : Hp} {d : D} {c : Bool} {v : V} (h : truthB d = some c) (r : Rep K H d v) : v = .bl c := by
  cases d with
  | bl b =>
    cases h
    exact r
  | _ => cases h
theorem ej_and (ha : EJ X P O a ga) (hb : EJ X P O (.BoolOp .And (b :: rest) pos) gb) : EJ X P O (.BoolOp .And (a :: b :: rest) pos) (cAndV ga gb) := by
  refine (pe_and ha hb).imp fun σ H Q ⟨B, Hf, ρ, z, ρ', R, e, k⟩ => ?_
  obtain ⟨⟨d, ρ1⟩, h1, h⟩ := Option.bind_eq_some_iff.mp e
  obtain ⟨c, h2, h⟩ := Option.bind_eq_some_iff.mp h
  refine ⟨B, Hf, ρ, d, ρ1, R, h1, fun Hf1 x H1 s1 R1 rx => ⟨c, truthB_rep h2 rx, ?_⟩⟩
  cases c with
  | true => exact iteT ⟨B, Hf1, ρ1, z, ρ', R1, h, fun Hf2 v H2 s2 R2 => k Hf2 v H2 (s1.trans s2) R2⟩
  | false =>
    cases h
    exact iteF (k Hf1 _ H1 s1 R1 rfl)
theorem ej_or (ha : EJ X P O a ga) (hb : EJ X P O (.BoolOp .Or (b :: rest) pos) gb) : EJ X P O (.BoolOp .Or (a :: b :: rest) pos) (cOrV ga gb) := by
  refine (pe_or ha hb).imp fun σ H Q ⟨B, Hf, ρ, z, ρ', R, e, k⟩ => ?_
  obtain ⟨⟨d, ρ1⟩, h1, h⟩ := Option.bind_eq_some_iff.mp e
  obtain ⟨c, h2, h⟩ := Option.bind_eq_some_iff.mp h
  refine ⟨B, Hf, ρ, d, ρ1, R, h1, fun Hf1 x H1 s1 R1 rx => ⟨c, truthB_rep h2 rx, ?_⟩⟩
  cases c with
  | false => exact iteF ⟨B, Hf1, ρ1, z, ρ', R1, h, fun Hf2 v H2 s2 R2 => k Hf2 v H2 (s1.trans s2) R2⟩
  | true =>
    cases h
    exact iteT (k Hf1 _ H1 s1 R1 rfl)
theorem ej_not (ha : EJ X P O a ga) : EJ X P O (.UnaryOp .Not a pos) (cNotV ga) := by
  refine (pe_not ha).imp fun σ H Q ⟨B, Hf, ρ, z, ρ', R, e, k⟩ => ?_
  obtain ⟨⟨d, ρ1⟩, h1, h⟩ := Option.bind_eq_some_iff.mp e
  obtain ⟨c, h2, h⟩ := Option.map_eq_some_iff.mp h
  cases h
  exact ⟨B, Hf, ρ, d, _, R, h1, fun Hf1 x H1 s1 R1 rx => ⟨c, truthB_rep h2 rx, k Hf1 _ H1 s1 R1 rfl⟩⟩
/-- a if t else b -/
def cIf (t : Gt) (ga gb : Gx) : Gx := fun ρ => (t ρ).bind fun p => if p.1 = true then ga p.2 else gb p.2
theorem ej_if {c : Expr} (hc : TJ X P O c ta) (ha : EJ X P O a ga) (hb : EJ X P O b gb) : EJ X P O (.IfExp c a b pos) (cIf ta ga gb) := by
  refine (pe_ifExp hc ha hb).imp fun σ H Q ⟨B, Hf, ρ, z, ρ', R, e, k⟩ => ?_
  obtain ⟨⟨c, ρ1⟩, h1, h⟩ := Option.bind_eq_some_iff.mp e
  refine ⟨B, Hf, ρ, c, ρ1, R, h1, fun Hf1 H1 s1 R1 => ?_⟩
  cases c with
  | true => exact iteT ⟨B, Hf1, ρ1, z, ρ', R1, h, fun Hf2 v H2 s2 R2 => k Hf2 v H2 (s1.trans s2) R2⟩
  | false => exact iteF ⟨B, Hf1, ρ1, z, ρ', R1, h, fun Hf2 v H2 s2 R2 => k Hf2 v H2 (s1.trans s2) R2⟩
theorem eo_if {c : Expr} (hc : TJ X P O c ta) (ha : EO X P O a ga) (hb : EO X P O b gb) : EO X P O (.IfExp c a b pos) (cIf ta ga gb) := by
  refine (pe_ifExp hc ha hb).imp fun σ H Q ⟨B, Hf, ρ, z, ρ', R, e, k⟩ => ?_
  obtain ⟨⟨c, ρ1⟩, h1, h⟩ := Option.bind_eq_some_iff.mp e
  refine ⟨B, Hf, ρ, c, ρ1, R, h1, fun Hf1 H1 s1 R1 => ?_⟩
  cases c with
  | true => exact iteT ⟨B, Hf1, ρ1, z, ρ', R1, h, fun Hf2 v o H2 s2 R2 => k Hf2 v o H2 (s1.trans s2) R2⟩
  | false => exact iteF ⟨B, Hf1, ρ1, z, ρ', R1, h, fun Hf2 v o H2 s2 R2 => k Hf2 v o H2 (s1.trans s2) R2⟩
end
end G
namespace G
open PySem PySem.Spec PyProof.Rows L2
section
variable {X : Cx} {P O : List Nat} {a b e : Expr} {es : List Expr} {ga gb g : Gx} {pos : Pos}
/-! ### arguments, displays -/
def evA : List Gx → Ga
  | [], ρ => some ([], ρ)
  | g :: gs, ρ => (g ρ).bind fun p => (evA gs p.2).map fun q => (p.1 :: q.1, q.2)
theorem evA_len : ∀ {gs : List Gx} {ρ ρ' : Env} {ds : List D}, evA gs ρ = some (ds, ρ') → ds.length = gs.length
  | [], _, _, _, h => by cases h; rfl
  | g :: gs, ρ, ρ', ds, h => by
    obtain ⟨⟨d, ρ1⟩, h1, h⟩ := Option.bind_eq_some_iff.mp h
    obtain ⟨⟨es, ρ2⟩, h2, h⟩ := Option.map_eq_some_iff.mp h
    cases h
    rw [List.length_cons, List.length_cons, evA_len h2]
theorem aj_nil : AJ X P O [] (evA []) := pa_nil.imp fun σ H Q ⟨B, Hf, ρ, d, ρ', R, e, k⟩ => by
  cases e
  exact k Hf [] H (Same.refl _) R rfl
theorem aj_cons {gs : List Gx} (h : EJ X P O e g) (hs : AJ X P O es (evA gs)) (hst : starEach (e :: es) X.env = (false, eval e X.env) :: starEach es X.env := by rfl) : AJ X P O (e :: es) (evA (g :: gs)) := by
  refine (pa_cons h hs hst).imp fun σ H Q ⟨B, Hf, ρ, ds, ρ', R, e, k⟩ => ?_
  obtain ⟨⟨d, ρ1⟩, h1, h⟩ := Option.bind_eq_some_iff.mp e
  obtain ⟨⟨es, ρ2⟩, h2, h⟩ := Option.map_eq_some_iff.mp h
  cases h
  exact ⟨B, Hf, ρ, d, ρ1, R, h1, fun Hf1 v H1 s1 R1 rv => ⟨B, Hf1, ρ1, es, _, R1, h2, fun Hf2 vs H2 s2 R2 rvs => k Hf2 (v :: vs) H2 (s1.trans s2) R2 (RepL.cons (Rep.mono s2 _ _ rv) rvs)⟩⟩
def cTup (gs : List Gx) : Gx := fun ρ => (evA gs ρ).map fun p => (.tup p.1, p.2)
def cLst (gs : List Gx) : Gx := fun ρ => (evA gs ρ).map fun p => (.lst p.1, p.2)
theorem small_gs {n : Nat} (h : n ≤ 1000) : n ≤ sizeLine := Nat.le_trans h (by decide)
theorem ej_tup {gs : List Gx} {k : Nat} (h : AJ X P O es (evA gs)) (hn : gs.length ≤ 1000 := by decide) : EJ X P O (.Tuple es k pos) (cTup gs) := by
  refine (pe_tup h).imp fun σ H Q ⟨B, Hf, ρ, z, ρ', R, e, k⟩ => ?_
  obtain ⟨⟨ds, ρ1⟩, h1, h⟩ := Option.map_eq_some_iff.mp e
  cases h
  refine ⟨B, Hf, ρ, ds, _, R, h1, fun Hf1 vs H1 s1 R1 rv => ⟨by rw [rv.len, evA_len h1]; exact small_gs hn, fun p np => ?_⟩⟩
  have gr : Gr Hf1 H1 (upd Hf1 p (.tup vs)) (upd H1 p (.tup vs)) := Gr.new R1.ex np
  exact k _ _ _ (s1.trans gr.s1) (R1.gr gr) ⟨p, vs, rfl, SqT.of upd_same, RepL.mono gr.s1 _ _ rv⟩
theorem eo_lst {gs : List Gx} (h : AJ X P O es (evA gs)) (hn : gs.length ≤ 1000 := by decide) : EO X P O (.List es pos) (cLst gs) := by
  refine (pe_lst h).imp fun σ H Q ⟨B, Hf, ρ, z, ρ', R, e, k⟩ => ?_
  obtain ⟨⟨ds, ρ1⟩, h1, h⟩ := Option.map_eq_some_iff.mp e
  cases h
  refine ⟨B, Hf, ρ, ds, _, R, h1, fun Hf1 vs H1 s1 R1 rv => ⟨by rw [rv.len, evA_len h1]; exact small_gs hn, fun p np => ?_⟩⟩
  have gr : Gr Hf1 H1 Hf1 (upd H1 p (.lst vs)) := Gr.newO R1.ex np
  exact k Hf1 p _ _ (s1.trans gr.s1) (R1.gr gr) (R1.ex.free np) upd_same ⟨vs, rfl, rv⟩ (fresh_hc R1 np) (fresh_ne R1 np)

/-! ### calls of built-ins -/
def CallD (K : PySem.W.Frag) (r : List V → Hp → VK → Prop) (f : List D → Option D) : Prop := ∀ Hf H ds z xs, Same Hf H → RepL K Hf ds xs → f ds = some z → ∀ Q : VK, (∀ Hf' v H', Gr Hf H Hf' H' → Rep K Hf' z v → Q v H') → r xs H Q
def CallDO (K : PySem.W.Frag) (r : List V → Hp → VK → Prop) (f : List D → Option D) : Prop := ∀ Hf H ds z xs, Same Hf H → RepL K Hf ds xs → f ds = some z → ∀ Q : VK, (∀ Hf' a o H', Gr Hf H Hf' H' → H a = none → Hf' a = none → H' a = some o → Own K Hf' z o → Q (.ref a) H') → r xs H Q
theorem CallDO.d {K : PySem.W.Frag} {r : List V → Hp → VK → Prop} {f : List D → Option D} (h : CallDO K r f) : CallD K r f := fun Hf H ds z xs s rx hf Q k =>
  h Hf H ds z xs s rx hf Q fun Hf' a o H' g n n' ha ow => k (upd Hf' a o) (.ref a) H' (g.frz n n' ha) (ow.rep (same_upd n') upd_same)
def cCall (f : List D → Option D) (gs : Ga) : Gx := fun ρ => (gs ρ).bind fun p => (f p.1).map fun z => (z, p.2)
theorem tCB_d {K : PySem.W.Frag} {r : List V → Hp → VK → Prop} {f : List D → Option D} {gs : Ga} (h : CallD K r f) {σ : St} {H : Hp} {Q : VK} (q : tE K P O (cCall f gs) σ H Q) : tCB r (tA K P O gs) σ H Q := by
  obtain ⟨B, Hf, ρ, z, ρ', R, e, k⟩ := q
  obtain ⟨⟨ds, ρ1⟩, h1, h'⟩ := Option.bind_eq_some_iff.mp e
  obtain ⟨z', h2, h'⟩ := Option.map_eq_some_iff.mp h'
  cases h'
  exact ⟨B, Hf, ρ, ds, _, R, h1, fun Hf1 vs H1 s1 R1 rv => h Hf1 H1 ds _ vs R1.ex rv h2 Q fun Hf2 v H2 gr rv2 => k Hf2 v H2 (s1.trans gr.s1) (R1.gr gr) rv2⟩
theorem tCB_o {K : PySem.W.Frag} {r : List V → Hp → VK → Prop} {f : List D → Option D} {gs : Ga} (h : CallDO K r f) {σ : St} {H : Hp} {Q : VK} (q : tO K P O (cCall f gs) σ H Q) : tCB r (tA K P O gs) σ H Q := by
  obtain ⟨B, Hf, ρ, z, ρ', R, e, k⟩ := q
  obtain ⟨⟨ds, ρ1⟩, h1, h'⟩ := Option.bind_eq_some_iff.mp e
  obtain ⟨z', h2, h'⟩ := Option.map_eq_some_iff.mp h'
  cases h'
  exact ⟨B, Hf, ρ, ds, _, R, h1, fun Hf1 vs H1 s1 R1 rv => h Hf1 H1 ds _ vs R1.ex rv h2 Q fun Hf2 p o H2 gr n n' hp ow => k Hf2 p o H2 (s1.trans gr.s1) (R1.gr gr) n' hp ow (fresh_hc R1 n) (fresh_ne R1 n)⟩
section
variable {x : Str} {p : Pos} {gs : Ga} {id T : String} {r : List V → Hp → VK → Prop} {f : List D → Option D}
theorem ej_callB (hc : CallR X (.builtin id) r) (h : CallD X.K r f) (hg : Gl X x) (hm : X.mg x = none) (hv : bootBuiltins x = some (.builtin id)) (ha : AJ X P O (e :: es) gs) (hn : x ≠ "__name__" := by decide) (hdb : (x == ("__debug__" : Str)) = false := by decide)
    (he : starEach (e :: es) X.env = (false, eval e X.env) :: starEach es X.env := by rfl) (hpl : (backTo pos (starEach es X.env)).any (·.1) = false := by rfl) : EJ X P O (.Call (.Name x p) (e :: es) [] pos) (cCall f gs) :=
  (pe_callB hc hg hm hv ha hn hdb he hpl).imp fun _ _ _ => tCB_d h
theorem eo_callB (hc : CallR X (.builtin id) r) (h : CallDO X.K r f) (hg : Gl X x) (hm : X.mg x = none) (hv : bootBuiltins x = some (.builtin id)) (ha : AJ X P O (e :: es) gs) (hn : x ≠ "__name__" := by decide) (hdb : (x == ("__debug__" : Str)) = false := by decide)
    (he : starEach (e :: es) X.env = (false, eval e X.env) :: starEach es X.env := by rfl) (hpl : (backTo pos (starEach es X.env)).any (·.1) = false := by rfl) : EO X P O (.Call (.Name x p) (e :: es) [] pos) (cCall f gs) :=
  (pe_callB hc hg hm hv ha hn hdb he hpl).imp fun _ _ _ => tCB_o h
theorem ej_callTy (hc : CallR X (.type T) r) (h : CallD X.K r f) (hg : Gl X x) (hm : X.mg x = none) (hv : bootBuiltins x = some (.type T)) (ha : AJ X P O (e :: es) gs) (hn : x ≠ "__name__" := by decide) (hdb : (x == ("__debug__" : Str)) = false := by decide)
    (he : starEach (e :: es) X.env = (false, eval e X.env) :: starEach es X.env := by rfl) (hpl : (backTo pos (starEach es X.env)).any (·.1) = false := by rfl) : EJ X P O (.Call (.Name x p) (e :: es) [] pos) (cCall f gs) :=
  (pe_callTy hc hg hm hv ha hn hdb he hpl).imp fun _ _ _ => tCB_d h
theorem eo_callTy (hc : CallR X (.type T) r) (h : CallDO X.K r f) (hg : Gl X x) (hm : X.mg x = none) (hv : bootBuiltins x = some (.type T)) (ha : AJ X P O (e :: es) gs) (hn : x ≠ "__name__" := by decide) (hdb : (x == ("__debug__" : Str)) = false := by decide)
    (he : starEach (e :: es) X.env = (false, eval e X.env) :: starEach es X.env := by rfl) (hpl : (backTo pos (starEach es X.env)).any (·.1) = false := by rfl) : EO X P O (.Call (.Name x p) (e :: es) [] pos) (cCall f gs) :=
  (pe_callTy hc hg hm hv ha hn hdb he hpl).imp fun _ _ _ => tCB_o h
theorem ej_callFun (hc : CallR X (.builtin id) r) (h : CallD X.K r f) (hg : Gl X x) (hm : X.mg x = some (.builtin id)) (ha : AJ X P O (e :: es) gs) (hdb : (x == ("__debug__" : Str)) = false := by decide)
    (he : starEach (e :: es) X.env = (false, eval e X.env) :: starEach es X.env := by rfl) (hpl : (backTo pos (starEach es X.env)).any (·.1) = false := by rfl) : EJ X P O (.Call (.Name x p) (e :: es) [] pos) (cCall f gs) :=
  (pe_callBfun hc hg hm ha hdb he hpl).imp fun _ _ _ => tCB_d h
end
theorem CallD.or {K : PySem.W.Frag} {r r' : List V → Hp → VK → Prop} {f f' g : List D → Option D} (h : CallD K r f) (h' : CallD K r' f') (hg : ∀ d z, g d = some z → f d = some z ∨ f' d = some z) : CallD K (fun x H Q => r x H Q ∨ r' x H Q) g := fun Hf H d z x s rx q Q k =>
  (hg d z q).elim (fun q => .inl (h Hf H d z x s rx q Q k)) fun q => .inr (h' Hf H d z x s rx q Q k)

/-! the built-ins -/
theorem ite_some {α : Type} {c : Prop} [Decidable c] {a b : α} (h : (if c then some a else none) = some b) : c ∧ a = b := by
  by_cases hc : c
  · rw [if_pos hc] at h
    exact ⟨hc, Option.some.inj h⟩
  · rw [if_neg hc] at h
    cases h

theorem repL1 {K : PySem.W.Frag} {H : Hp} {d : D} {xs : List V} (h : RepL K H [d] xs) : ∃ v, xs = [v] ∧ Rep K H d v := by
  obtain ⟨v, vs, rfl, h1, h2⟩ := h
  cases h2
  exact ⟨v, rfl, h1⟩
theorem repL2 {K : PySem.W.Frag} {H : Hp} {d e : D} {xs : List V} (h : RepL K H [d, e] xs) : ∃ v u, xs = [v, u] ∧ Rep K H d v ∧ Rep K H e u := by
  obtain ⟨v, vs, rfl, h1, h2⟩ := h
  obtain ⟨u, rfl, h3⟩ := repL1 h2
  exact ⟨v, u, rfl, h1, h3⟩
def lenD : List D → Option D
  | [.lst ds] => some (.int ds.length)
  | [.tup ds] => some (.int ds.length)
  | [.scr ns] => some (.int ns.length)
  | [.str x] => if x.length ≤ 100000 then some (.int x.length) else none
  | _ => none
theorem call_lenA : CallR X (.builtin "len") (fun xs H Q => (∃ p ys, xs = [.ref p] ∧ (SqL X.K H p ys ∨ SqT X.K H p ys) ∧ Q (.int ys.length) H) ∨ (∃ z, xs = [.str z] ∧ z.length ≤ sizeLine ∧ Q (.int z.length) H)) := call_len_seq.or call_len_str
theorem len_d {K : PySem.W.Frag} : CallD K (fun xs H Q => (∃ p ys, xs = [.ref p] ∧ (SqL K H p ys ∨ SqT K H p ys) ∧ Q (.int ys.length) H) ∨ (∃ z, xs = [.str z] ∧ z.length ≤ sizeLine ∧ Q (.int z.length) H)) lenD := fun Hf H ds z xs s rx hf Q k => by
  match ds, hf with
  | [.lst es], hf =>
    cases hf
    obtain ⟨v, rfl, a, ys, rfl, h1, h2⟩ := repL1 rx
    refine .inl ⟨a, ys, rfl, .inl (SqL.of (s _ _ h1)), k Hf _ H (Gr.refl s) ?_⟩
    rw [h2.len]; rfl
  | [.tup es], hf =>
    cases hf
    obtain ⟨v, rfl, a, ys, rfl, h1, h2⟩ := repL1 rx
    refine .inl ⟨a, ys, rfl, .inr (sqT_mono s h1), k Hf _ H (Gr.refl s) ?_⟩
    rw [h2.len]; rfl
  | [.scr ns], hf =>
    cases hf
    obtain ⟨v, rfl, a, rfl, h1⟩ := repL1 rx
    refine .inl ⟨a, _, rfl, .inl (s.seq h1), k Hf _ H (Gr.refl s) ?_⟩
    rw [List.length_map]; rfl
  | [.str x], hf =>
    obtain ⟨hl, rfl⟩ := ite_some hf
    obtain ⟨v, rfl, rfl⟩ := repL1 rx
    exact .inr ⟨x, rfl, Nat.le_trans hl (by decide), k Hf _ H (Gr.refl s) rfl⟩
def absD : List D → Option D
  | [.int i] => some (.int (if i < 0 then -i else i))
  | _ => none
theorem abs_d {K : PySem.W.Frag} : CallD K (fun xs H Q => ∃ i, xs = [.int i] ∧ Q (.int (if i < 0 then -i else i)) H) absD := fun Hf H ds z xs s rx hf Q k => by
  match ds, hf with
  | [.int i], hf =>
    cases hf
    obtain ⟨v, rfl, rfl⟩ := repL1 rx
    exact ⟨i, rfl, k Hf _ H (Gr.refl s) rfl⟩
def intD : List D → Option D
  | [.int i] => some (.int i)
  | _ => none
theorem int_d {K : PySem.W.Frag} : CallD K (fun xs H Q => (∃ i, xs = [.int i] ∧ Q (.int i) H) ∨ ∃ k, xs = [.bl k] ∧ Q (.int (if k then 1 else 0)) H) intD := fun Hf H ds z xs s rx hf Q k => by
  match ds, hf with
  | [.int i], hf =>
    cases hf
    obtain ⟨v, rfl, rfl⟩ := repL1 rx
    exact .inl ⟨i, rfl, k Hf _ H (Gr.refl s) rfl⟩
def gcdD : List D → Option D
  | [.int i, .int j] => some (.int (Nat.gcd i.natAbs j.natAbs : Nat))
  | _ => none
theorem gcd_d {K : PySem.W.Frag} : CallD K rGcd gcdD := fun Hf H ds z xs s rx hf Q k => by
  match ds, hf with
  | [.int i, .int j], hf =>
    cases hf
    obtain ⟨v, u, rfl, rfl, rfl⟩ := repL2 rx
    exact ⟨i, j, rfl, k Hf _ H (Gr.refl s) rfl⟩

/-! ### arithmetic -/
def intOp (f : Int → Int → Int) : D → D → Option D
  | .int i, .int j => some (.int (f i j))
  | _, _ => none
def intOpC (c : Int → Int → Bool) (f : Int → Int → Int) : D → D → Option D
  | .int i, .int j => if c i j = true then some (.int (f i j)) else none
  | _, _ => none
def intCmp (f : Int → Int → Bool) : D → D → Option D
  | .int i, .int j => some (.bl (f i j))
  | _, _ => none
theorem intOp_d {K : PySem.W.Frag} {f : Int → Int → Int} : OpD K (rI0 fun i j => .int (f i j)) (intOp f) := fun Hf H d e z x y s rx ry hf Q k => by
  match d, e, hf with
  | .int i, .int j, hf =>
    cases hf
    exact ⟨i, j, rx, ry, k Hf _ H (Gr.refl s) rfl⟩
theorem intOpC_d {K : PySem.W.Frag} {C : Int → Int → Prop} {c : Int → Int → Bool} {f : Int → Int → Int} (hc : ∀ i j, c i j = true → C i j) : OpD K (rI C fun i j => .int (f i j)) (intOpC c f) := fun Hf H d e z x y s rx ry hf Q k => by
  match d, e, hf with
  | .int i, .int j, hf =>
    obtain ⟨h, rfl⟩ := ite_some hf
    exact ⟨i, j, rx, ry, hc i j h, k Hf _ H (Gr.refl s) rfl⟩
theorem intCmp_d {K : PySem.W.Frag} {f : Int → Int → Bool} : OpD K (rI0 fun i j => .bl (f i j)) (intCmp f) := fun Hf H d e z x y s rx ry hf Q k => by
  match d, e, hf with
  | .int i, .int j, hf =>
    cases hf
    exact ⟨i, j, rx, ry, k Hf _ H (Gr.refl s) rfl⟩
def CMulG (i j : Int) : Prop := i.natAbs.log2 + j.natAbs.log2 < 100000000
theorem bits_le (x : Int) : Builtin.Int.intBits x ≤ x.natAbs.log2 + 1 := by
  unfold Builtin.Int.intBits
  cases x == 0 <;> simp
theorem CMulG.ok {i j : Int} (h : CMulG i j) : IntMulOk i j := fun z => by
  have big : bitsLine ≤ Builtin.Int.intBits i + Builtin.Int.intBits j := by
    have z2 := (Bool.and_eq_true_iff.mp z).2
    unfold Builtin.Int.intTooBig at z2
    have := of_decide_eq_true z2
    omega
  have hi := bits_le i
  have hj := bits_le j
  have hl : 134217728 ≤ bitsLine := by decide
  have hs : i.natAbs.log2 + j.natAbs.log2 < 100000000 := h
  omega
theorem op_mulG : OpR X (binaryOp .Mult) (rI CMulG fun i j => .int (i * j)) := opI fun _ _ _ _ _ _ _ hc q => mul_int q hc.ok
theorem op_fdivG : OpR X (binaryOp .FloorDiv) (rI (fun _ j => j ≠ 0 ∧ j.natAbs.log2 < 9000) fun i j => .int (i.fdiv j)) := opI fun i j _ _ _ _ _ hc q => floordiv_int hc.1 q (.inl (PyProof.noPylong_of_log2 hc.2))
def mulC (i j : Int) : Bool := decide (i.natAbs.log2 + j.natAbs.log2 < 100000000)
def divC (_ j : Int) : Bool := decide (j ≠ 0) && decide (j.natAbs.log2 < 9000)
def modC (_ j : Int) : Bool := decide (j ≠ 0)
def powC (i j : Int) : Bool := decide (0 ≤ j) && decide (j ≤ 1000000) && decide (i.natAbs < 2 ^ 64)
theorem mul_d {K : PySem.W.Frag} : OpD K (rI CMulG fun i j => .int (i * j)) (intOpC mulC fun i j => i * j) := intOpC_d fun i j h => (by
  have h' : i.natAbs.log2 + j.natAbs.log2 < 100000000 := of_decide_eq_true h
  exact h')
theorem fdiv_d {K : PySem.W.Frag} : OpD K (rI (fun _ j => j ≠ 0 ∧ j.natAbs.log2 < 9000) fun i j => .int (i.fdiv j)) (intOpC divC Int.fdiv) := intOpC_d fun _ _ h => ⟨of_decide_eq_true (Bool.and_eq_true_iff.mp h).1, of_decide_eq_true (Bool.and_eq_true_iff.mp h).2⟩
theorem mod_d {K : PySem.W.Frag} : OpD K (rI (fun _ j => j ≠ 0) fun i j => .int (i.fmod j)) (intOpC modC Int.fmod) := intOpC_d fun _ _ h => of_decide_eq_true h
theorem pow_d {K : PySem.W.Frag} : OpD K (rI CPow fun i j => .int (i ^ j.toNat)) (intOpC powC fun i j => i ^ j.toNat) := intOpC_d fun _ _ h => by
  have h1 := Bool.and_eq_true_iff.mp h
  have h2 := Bool.and_eq_true_iff.mp h1.1
  exact ⟨of_decide_eq_true h2.1, of_decide_eq_true h2.2, of_decide_eq_true h1.2⟩
def negD : D → Option D
  | .int i => some (.int (-i))
  | _ => none
def UnD (K : PySem.W.Frag) (r : V → Hp → VK → Prop) (f : D → Option D) : Prop := ∀ Hf H d z x, Same Hf H → Rep K Hf d x → f d = some z → ∀ Q : VK, (∀ Hf' v H', Gr Hf H Hf' H' → Rep K Hf' z v → Q v H') → r x H Q
theorem neg_d {K : PySem.W.Frag} : UnD K (rU fun i => .int (-i)) negD := fun Hf H d z x s rx hf Q k => by
  match d, hf with
  | .int i, hf =>
    cases hf
    exact ⟨i, rx, k Hf _ H (Gr.refl s) rfl⟩
def cUn (f : D → Option D) (g : Gx) : Gx := fun ρ => (g ρ).bind fun p => (f p.1).map fun z => (z, p.2)
theorem ej_un {op : UnaryOp} {r : V → Hp → VK → Prop} {f : D → Option D} (ho : UnR X (unaryOp op) r) (h : UnD X.K r f) (ha : EJ X P O a ga) : EJ X P O (.UnaryOp op a pos) (cUn f ga) := by
  refine (pe_un ho ha).imp fun σ H Q ⟨B, Hf, ρ, z, ρ', R, e, k⟩ => ?_
  obtain ⟨⟨d, ρ1⟩, h1, h'⟩ := Option.bind_eq_some_iff.mp e
  obtain ⟨z', h2, h'⟩ := Option.map_eq_some_iff.mp h'
  cases h'
  exact ⟨B, Hf, ρ, d, _, R, h1, fun Hf1 v H1 s1 R1 rv => h Hf1 H1 d _ v R1.ex rv h2 Q fun Hf2 u H2 gr ru => k Hf2 u H2 (s1.trans gr.s1) (R1.gr gr) ru⟩

/-! ### + of ints, texts, tuples, lists -/
def catT : D → D → Option D
  | .tup xs, .tup ys => if xs.length + ys.length ≤ 100000 then some (.tup (xs ++ ys)) else none
  | _, _ => none
def catL : D → D → Option D
  | .lst xs, .lst ys => if xs.length + ys.length ≤ 100000 then some (.lst (xs ++ ys)) else none
  | _, _ => none
def catS : D → D → Option D
  | .str x, .str y => if x.length + y.length ≤ 100000 then some (.str (x ++ y)) else none
  | _, _ => none
def addD : D → D → Option D
  | .int i, .int j => some (.int (i + j))
  | .str x, .str y => catS (.str x) (.str y)
  | .lst xs, .lst ys => catL (.lst xs) (.lst ys)
  | .tup xs, .tup ys => catT (.tup xs) (.tup ys)
  | _, _ => none
theorem catL_o {K : PySem.W.Frag} : OpDO K rCat catL := fun Hf H d e z x y s rx ry hf Q k => by
  match d, e, hf with
  | .lst xs, .lst ys, hf =>
    obtain ⟨h, rfl⟩ := ite_some hf
    obtain ⟨a, us, rfl, h1, h2⟩ := rx
    obtain ⟨b, ws, rfl, h3, h4⟩ := ry
    refine ⟨a, b, us, ws, rfl, rfl, s _ _ h1, s _ _ h3, by rw [h2.len, h4.len]; exact Nat.le_trans h (by decide), fun p np => ?_⟩
    exact k Hf p _ _ (Gr.newO s np) np (s.free np) upd_same ⟨_, rfl, h2.append h4⟩
theorem catT_d {K : PySem.W.Frag} : OpD K (rCatA K) catT := fun Hf H d e z x y s rx ry hf Q k => by
  match d, e, hf with
  | .tup xs, .tup ys, hf =>
    obtain ⟨h, rfl⟩ := ite_some hf
    obtain ⟨a, us, rfl, h1, h2⟩ := rx
    obtain ⟨b, ws, rfl, h3, h4⟩ := ry
    have h5 := h2.append h4
    refine ⟨a, b, us, ws, rfl, rfl, sqT_mono s h1, sqT_mono s h3, by rw [h2.len, h4.len]; exact Nat.le_trans h (by decide), fun e => ?_, fun _ e => ?_, fun _ _ p np => ?_⟩
    · subst e
      exact k Hf _ H (Gr.refl s) ⟨b, ws, rfl, h3, h5⟩
    · subst e
      exact k Hf _ H (Gr.refl s) ⟨a, us, rfl, h1, by rw [List.append_nil] at h5; exact h5⟩
    · have g := Gr.new (o := .tup (us ++ ws)) s np
      exact k _ _ _ g ⟨p, _, rfl, SqT.of upd_same, RepL.mono g.s1 _ _ h5⟩
theorem catS_d {K : PySem.W.Frag} : OpD K (fun x y H Q => ∃ i j, x = .str i ∧ y = .str j ∧ i.length + j.length ≤ sizeLine ∧ Q (.str (i ++ j)) H) catS := fun Hf H d e z x y s rx ry hf Q k => by
  match d, e, hf with
  | .str i, .str j, hf =>
    obtain ⟨h, rfl⟩ := ite_some hf
    exact ⟨i, j, rx, ry, Nat.le_trans h (by decide), k Hf _ H (Gr.refl s) rfl⟩
theorem op_addA : OpR X (binaryOp .Add) (fun x y H Q => (rI0 fun i j => .int (i + j)) x y H Q ∨ (fun x y H Q => (∃ i j, x = .str i ∧ y = .str j ∧ i.length + j.length ≤ sizeLine ∧ Q (.str (i ++ j)) H) ∨ (fun x y H Q => rCat x y H Q ∨ rCatA X.K x y H Q) x y H Q) x y H Q) :=
  OpR.or op_add (OpR.or op_add_str (OpR.or op_cat op_catA))
def addLT : D → D → Option D
  | .lst xs, .lst ys => catL (.lst xs) (.lst ys)
  | .tup xs, .tup ys => catT (.tup xs) (.tup ys)
  | _, _ => none
def addSLT : D → D → Option D
  | .str x, .str y => catS (.str x) (.str y)
  | .lst xs, .lst ys => catL (.lst xs) (.lst ys)
  | .tup xs, .tup ys => catT (.tup xs) (.tup ys)
  | _, _ => none
theorem add_d {K : PySem.W.Frag} : OpD K (fun x y H Q => (rI0 fun i j => .int (i + j)) x y H Q ∨ (fun x y H Q => (∃ i j, x = .str i ∧ y = .str j ∧ i.length + j.length ≤ sizeLine ∧ Q (.str (i ++ j)) H) ∨ (fun x y H Q => rCat x y H Q ∨ rCatA K x y H Q) x y H Q) x y H Q) addD :=
  OpD.or (f' := addSLT) intOp_d (OpD.or (f' := addLT) catS_d (OpD.or catL_o.d catT_d (by
    intro d e z h
    cases d with
    | lst xs => cases e with
      | lst ys => exact .inl h
      | _ => cases h
    | tup xs => cases e with
      | tup ys => exact .inr h
      | _ => cases h
    | _ => cases h)) (by
    intro d e z h
    cases d with
    | lst xs => cases e with
      | lst ys => exact .inr h
      | _ => cases h
    | tup xs => cases e with
      | tup ys => exact .inr h
      | _ => cases h
    | str xs => cases e with
      | str ys => exact .inl h
      | _ => cases h
    | _ => cases h)) (by
    intro d e z h
    cases d with
    | lst xs => cases e with
      | lst ys => exact .inr h
      | _ => cases h
    | tup xs => cases e with
      | tup ys => exact .inr h
      | _ => cases h
    | str xs => cases e with
      | str ys => exact .inr h
      | _ => cases h
    | int xs => cases e with
      | int ys => exact .inl h
      | _ => cases h
    | _ => cases h)
def subD : D → D → Option D := intOp fun i j => i - j
def fdivD : D → D → Option D := intOpC divC Int.fdiv
def modD : D → D → Option D := intOpC modC Int.fmod
def powD : D → D → Option D := intOpC powC fun i j => i ^ j.toNat
def ltD : D → D → Option D := intCmp fun i j => decide (i < j)
def leD : D → D → Option D := intCmp fun i j => decide (i ≤ j)
def gtD : D → D → Option D := intCmp fun i j => decide (j < i)
def geD : D → D → Option D := intCmp fun i j => decide (j ≤ i)
theorem ej_add (ha : EJ X P O a ga) (hb : EJ X P O b gb) : EJ X P O (.BinOp a .Add b pos) (cOp addD ga gb) := ej_op op_addA add_d ha hb
/-- a new list -/
theorem eo_add (ha : EJ X P O a ga) (hb : EJ X P O b gb) : EO X P O (.BinOp a .Add b pos) (cOp catL ga gb) := eo_op op_cat catL_o ha hb
theorem ej_sub (ha : EJ X P O a ga) (hb : EJ X P O b gb) : EJ X P O (.BinOp a .Sub b pos) (cOp subD ga gb) := ej_op op_sub intOp_d ha hb
theorem ej_fdiv (ha : EJ X P O a ga) (hb : EJ X P O b gb) : EJ X P O (.BinOp a .FloorDiv b pos) (cOp fdivD ga gb) := ej_op op_fdivG fdiv_d ha hb
theorem ej_mod (ha : EJ X P O a ga) (hb : EJ X P O b gb) : EJ X P O (.BinOp a .Mod b pos) (cOp modD ga gb) := ej_op op_modN mod_d ha hb
theorem ej_pow (ha : EJ X P O a ga) (hb : EJ X P O b gb) : EJ X P O (.BinOp a .Pow b pos) (cOp powD ga gb) := ej_op op_pow pow_d ha hb
theorem ej_neg (ha : EJ X P O a ga) : EJ X P O (.UnaryOp .USub a pos) (cUn negD ga) := ej_un un_neg neg_d ha
def repLs : D → D → Option D
  | .lst xs, .int k => if -1000000 ≤ k ∧ k ≤ 1000000 ∧ xs.length * k.toNat ≤ 100000 then some (.lst (List.replicate k.toNat xs).flatten) else none
  | _, _ => none
theorem RepL.rep {K : PySem.W.Frag} {H : Hp} {ds : List D} {xs : List V} (h : RepL K H ds xs) : ∀ k : Nat, RepL K H (List.replicate k ds).flatten (List.replicate k xs).flatten
  | 0 => rfl
  | k + 1 => by
    rw [List.replicate_succ, List.replicate_succ, List.flatten_cons, List.flatten_cons]
    exact h.append (RepL.rep h k)
theorem rep_o {K : PySem.W.Frag} : OpDO K rRep repLs := fun Hf H d e z x y s rx ry hf Q k => by
  match d, e, hf with
  | .lst xs, .int m, hf =>
    obtain ⟨⟨h1, h2, h3⟩, rfl⟩ := ite_some hf
    obtain ⟨a, us, rfl, h4, h5⟩ := rx
    cases ry
    refine ⟨a, m, us, rfl, rfl, s _ _ h4, by omega, by omega, by rw [h5.len]; exact Nat.le_trans h3 (by decide), fun p np => ?_⟩
    exact k Hf p _ _ (Gr.newO s np) np (s.free np) upd_same ⟨_, rfl, h5.rep _⟩
def mulD : D → D → Option D
  | .int i, .int j => intOpC mulC (fun i j => i * j) (.int i) (.int j)
  | .lst xs, .int k => repLs (.lst xs) (.int k)
  | _, _ => none
theorem op_mulA : OpR X (binaryOp .Mult) (fun x y H Q => (rI CMulG fun i j => .int (i * j)) x y H Q ∨ rRep x y H Q) := OpR.or op_mulG op_rep
theorem mulA_d {K : PySem.W.Frag} : OpD K (fun x y H Q => (rI CMulG fun i j => .int (i * j)) x y H Q ∨ rRep x y H Q) mulD := OpD.or mul_d rep_o.d (by
  intro d e z h
  match d, e, h with
  | .int _, .int _, h => exact .inl h
  | .lst _, .int _, h => exact .inr h)
theorem ej_mul (ha : EJ X P O a ga) (hb : EJ X P O b gb) : EJ X P O (.BinOp a .Mult b pos) (cOp mulD ga gb) := ej_op op_mulA mulA_d ha hb
theorem eo_mul (ha : EJ X P O a ga) (hb : EJ X P O b gb) : EO X P O (.BinOp a .Mult b pos) (cOp repLs ga gb) := eo_op op_rep rep_o ha hb

/-! ### comparisons -/
section
variable (hm : True)
theorem ej_lt (ha : EJ X P O a ga) (hb : EJ X P O b gb) : EJ X P O (.Compare a [.Lt] [b] pos) (cOp ltD ga gb) := ej_cmp op_lt intCmp_d ha hb (nomark _)
theorem ej_le (ha : EJ X P O a ga) (hb : EJ X P O b gb) : EJ X P O (.Compare a [.LtE] [b] pos) (cOp leD ga gb) := ej_cmp op_le intCmp_d ha hb (nomark _)
theorem ej_gt (ha : EJ X P O a ga) (hb : EJ X P O b gb) : EJ X P O (.Compare a [.Gt] [b] pos) (cOp gtD ga gb) := ej_cmp op_gt intCmp_d ha hb (nomark _)
theorem ej_ge (ha : EJ X P O a ga) (hb : EJ X P O b gb) : EJ X P O (.Compare a [.GtE] [b] pos) (cOp geD ga gb) := ej_cmp op_ge intCmp_d ha hb (nomark _)
theorem tj_lt (ha : EJ X P O a ga) (hb : EJ X P O b gb) : TJ X P O (.Compare a [.Lt] [b] pos) (cTest (cOp ltD ga gb)) := tj_cmp op_lt intCmp_d ha hb (nomark _)
theorem tj_le (ha : EJ X P O a ga) (hb : EJ X P O b gb) : TJ X P O (.Compare a [.LtE] [b] pos) (cTest (cOp leD ga gb)) := tj_cmp op_le intCmp_d ha hb (nomark _)
theorem tj_gt (ha : EJ X P O a ga) (hb : EJ X P O b gb) : TJ X P O (.Compare a [.Gt] [b] pos) (cTest (cOp gtD ga gb)) := tj_cmp op_gt intCmp_d ha hb (nomark _)
theorem tj_ge (ha : EJ X P O a ga) (hb : EJ X P O b gb) : TJ X P O (.Compare a [.GtE] [b] pos) (cTest (cOp geD ga gb)) := tj_cmp op_ge intCmp_d ha hb (nomark _)
end
mutual
def D.py : D → PyData
  | .non => .none
  | .bl b => .bool b
  | .int i => .int i
  | .str x => .str x
  | .tup ds => .tuple (D.pys ds)
  | .lst ds => .list (D.pys ds)
  | .scr ns => .list (ns.map .int)
def D.pys : List D → List PyData
  | [] => []
  | d :: ds => D.py d :: D.pys ds
end
theorem dpAll_ints {K : PySem.W.Frag} {H : Hp} : ∀ ns : List Int, DpAll K H (ns.map V.int) (ns.map PyData.int)
  | [] => .nil
  | n :: ns => .cons (.int n) (dpAll_ints ns)
mutual
theorem Rep.dp {K : PySem.W.Frag} {H : Hp} : ∀ (d : D) (v : V), Rep K H d v → Dp K H v d.py
  | .non, _, h => by rw [show _ = _ from h]; exact .non
  | .bl b, _, h => by rw [show _ = _ from h]; exact .bl b
  | .int i, _, h => by rw [show _ = _ from h]; exact .int i
  | .str x, _, h => by rw [show _ = _ from h]; exact .str x
  | .tup ds, v, h => by
    obtain ⟨a, xs, rfl, h1, h2⟩ := h
    exact .tup h1 (RepL.dp ds xs h2)
  | .lst ds, v, h => by
    obtain ⟨a, xs, rfl, h1, h2⟩ := h
    exact .lst (SqL.of h1) (RepL.dp ds xs h2)
  | .scr ns, v, h => by
    obtain ⟨a, rfl, h1⟩ := h
    exact .lst h1 (dpAll_ints ns)
theorem RepL.dp {K : PySem.W.Frag} {H : Hp} : ∀ (ds : List D) (xs : List V), RepL K H ds xs → DpAll K H xs (D.pys ds)
  | [], _, h => by rw [show _ = _ from h]; exact .nil
  | d :: ds, xs, h => by
    obtain ⟨v, vs, rfl, h1, h2⟩ := h
    exact .cons (Rep.dp d v h1) (RepL.dp ds vs h2)
end
def D.eqv (d e : D) : Bool := PyData.eqv d.py e.py
def D.shp (d : D) : Bool := SeqAt.shaped d.py
def eqD (d e : D) : Option D := if D.shp d = true ∧ D.shp e = true then some (.bl (D.eqv d e)) else none
def neD (d e : D) : Option D := if D.shp d = true ∧ D.shp e = true then some (.bl (!D.eqv d e)) else none
theorem eq_d {K : PySem.W.Frag} : OpD K (rEqD K) eqD := fun Hf H d e z x y s rx ry hf Q k => by
  obtain ⟨⟨h1, h2⟩, rfl⟩ := ite_some hf
  exact ⟨d.py, e.py, Rep.dp _ _ (Rep.mono s _ _ rx), Rep.dp _ _ (Rep.mono s _ _ ry), h1, h2, k Hf _ H (Gr.refl s) rfl⟩
theorem ne_d {K : PySem.W.Frag} : OpD K (rNeD K) neD := fun Hf H d e z x y s rx ry hf Q k => by
  obtain ⟨⟨h1, h2⟩, rfl⟩ := ite_some hf
  exact ⟨d.py, e.py, Rep.dp _ _ (Rep.mono s _ _ rx), Rep.dp _ _ (Rep.mono s _ _ ry), h1, h2, k Hf _ H (Gr.refl s) rfl⟩
theorem ej_eq (hu : X.A.units + 64 < cLine) (ha : EJ X P O a ga) (hb : EJ X P O b gb) : EJ X P O (.Compare a [.Eq] [b] pos) (cOp eqD ga gb) := ej_cmp (op_eqD hu) eq_d ha hb (nomark _)
theorem ej_ne (hu : X.A.units + 64 < cLine) (ha : EJ X P O a ga) (hb : EJ X P O b gb) : EJ X P O (.Compare a [.NotEq] [b] pos) (cOp neD ga gb) := ej_cmp (op_neD hu) ne_d ha hb (nomark _)
theorem tj_eq (hu : X.A.units + 64 < cLine) (ha : EJ X P O a ga) (hb : EJ X P O b gb) : TJ X P O (.Compare a [.Eq] [b] pos) (cTest (cOp eqD ga gb)) := tj_cmp (op_eqD hu) eq_d ha hb (nomark _)
theorem tj_ne (hu : X.A.units + 64 < cLine) (ha : EJ X P O a ga) (hb : EJ X P O b gb) : TJ X P O (.Compare a [.NotEq] [b] pos) (cTest (cOp neD ga gb)) := tj_cmp (op_neD hu) ne_d ha hb (nomark _)
def isN : D → D → Option D
  | .non, .non => some (.bl true)
  | _, .non => some (.bl false)
  | _, _ => none
def notN : D → D → Option D
  | .non, .non => some (.bl false)
  | _, .non => some (.bl true)
  | _, _ => none
theorem rep_non {K : PySem.W.Frag} {H : Hp} {v : V} : ∀ {d : D}, Rep K H d v → decide (v = .non) = (match d with | .non => true | _ => false)
  | .non, h => by rw [show v = _ from h]; rfl
  | .bl b, h => by rw [show v = _ from h]; rfl
  | .int i, h => by rw [show v = _ from h]; rfl
  | .str x, h => by rw [show v = _ from h]; rfl
  | .tup ds, ⟨a, _, h, _⟩ => by rw [h]; rfl
  | .lst ds, ⟨a, _, h, _⟩ => by rw [h]; rfl
  | .scr ds, ⟨a, h, _⟩ => by rw [h]; rfl
theorem isN_d {K : PySem.W.Frag} : OpD K (fun x y H Q => y = .non ∧ Q (.bl (decide (x = .non))) H) isN := fun Hf H d e z x y s rx ry hf Q k => by
  match e, ry with
  | .non, ry =>
    refine ⟨ry, k Hf _ H (Gr.refl s) ?_⟩
    rw [rep_non rx]
    cases d <;> (cases hf; rfl)
  | .bl _, _ => cases d <;> cases hf
  | .int _, _ => cases d <;> cases hf
  | .str _, _ => cases d <;> cases hf
  | .tup _, _ => cases d <;> cases hf
  | .lst _, _ => cases d <;> cases hf
  | .scr _, _ => cases d <;> cases hf
theorem notN_d {K : PySem.W.Frag} : OpD K (fun x y H Q => y = .non ∧ Q (.bl (!decide (x = .non))) H) notN := fun Hf H d e z x y s rx ry hf Q k => by
  match e, ry with
  | .non, ry =>
    refine ⟨ry, k Hf _ H (Gr.refl s) ?_⟩
    rw [rep_non rx]
    cases d <;> (cases hf; rfl)
  | .bl _, _ => cases d <;> cases hf
  | .int _, _ => cases d <;> cases hf
  | .str _, _ => cases d <;> cases hf
  | .tup _, _ => cases d <;> cases hf
  | .lst _, _ => cases d <;> cases hf
  | .scr _, _ => cases d <;> cases hf
theorem ej_is (ha : EJ X P O a ga) (hb : EJ X P O b gb) : EJ X P O (.Compare a [.Is] [b] pos) (cOp isN ga gb) := ej_cmp op_isN isN_d ha hb (nomark _)
theorem ej_isnot (ha : EJ X P O a ga) (hb : EJ X P O b gb) : EJ X P O (.Compare a [.IsNot] [b] pos) (cOp notN ga gb) := ej_cmp op_notN notN_d ha hb (nomark _)

/-! ### items -/
def ixD : D → D → Option D
  | .lst ds, .int i => atI ds i
  | .tup ds, .int i => atI ds i
  | .scr ns, .int i => (atI ns i).map D.int
  | .str z, .int i => if z.length ≤ 100000 then (atI z.cps.toList i).map fun c => D.str ⟨#[c]⟩ else none
  | _, _ => none
theorem atI_rep {K : PySem.W.Frag} {H : Hp} {ds : List D} {xs : List V} {i : Int} {d : D} (h : RepL K H ds xs) (e : atI ds i = some d) : ∃ v, atI xs i = some v ∧ Rep K H d v := by
  unfold atI at e ⊢
  rw [h.len]
  obtain ⟨j, h1, h2⟩ := Option.bind_eq_some_iff.mp e
  obtain ⟨v, h3, h4⟩ := h.get h2
  exact ⟨v, by rw [h1]; exact h3, h4⟩
theorem atI_map {α β : Type} (f : α → β) (xs : List α) (i : Int) : atI (xs.map f) i = (atI xs i).map f := by
  unfold atI
  rw [List.length_map]
  cases ixN xs.length i with
  | none => rfl
  | some j => exact List.getElem?_map
theorem ix_d {K : PySem.W.Frag} : OpD K (rIx K) ixD := fun Hf H d e z x y s rx ry hf Q k => by
  match d, e, hf with
  | .lst ds, .int i, hf =>
    obtain ⟨a, us, rfl, h1, h2⟩ := rx
    obtain ⟨v, h3, h4⟩ := atI_rep h2 hf
    exact .inl ⟨a, us, i, v, rfl, ry, SqL.of (s _ _ h1), h3, k Hf v H (Gr.refl s) h4⟩
  | .tup ds, .int i, hf =>
    obtain ⟨a, us, rfl, h1, h2⟩ := rx
    obtain ⟨v, h3, h4⟩ := atI_rep h2 hf
    exact .inr (.inl ⟨a, us, i, v, rfl, ry, sqT_mono s h1, h3, k Hf v H (Gr.refl s) h4⟩)
  | .scr ns, .int i, hf =>
    obtain ⟨a, rfl, h1⟩ := rx
    obtain ⟨n, h2, h3⟩ := Option.map_eq_some_iff.mp hf
    subst h3
    exact .inl ⟨a, _, i, .int n, rfl, ry, s.seq h1, by rw [atI_map, h2]; rfl, k Hf _ H (Gr.refl s) rfl⟩
  | .str w, .int i, hf =>
    have hf : (if w.length ≤ 100000 then (atI w.cps.toList i).map fun c => D.str ⟨#[c]⟩ else none) = some z := hf
    by_cases hc : w.length ≤ 100000
    · rw [if_pos hc] at hf
      obtain ⟨c, h2, h3⟩ := Option.map_eq_some_iff.mp hf
      subst h3
      exact .inr (.inr ⟨w, i, c, rx, ry, Nat.le_trans hc (by decide), h2, k Hf _ H (Gr.refl s) rfl⟩)
    · rw [if_neg hc] at hf
      cases hf
theorem ej_ix (ha : EJ X P O a ga) (hb : EJ X P O b gb) (hs : PlainIx b := by exact fun _ _ => rfl) : EJ X P O (.Subscript a b pos) (cOp ixD ga gb) := (pe_ix ix_seq ha hb hs).imp fun _ _ _ => tOp_d ix_d
/-! ### slices -/
def cutD (ds : List D) (lo hi : Option Int) : List D := (ds.drop (HT.sIx ds.length 0 lo)).take (HT.sIx ds.length ds.length hi - HT.sIx ds.length 0 lo)
theorem cut_rep {K : PySem.W.Frag} {H : Hp} {ds : List D} {xs : List V} (h : RepL K H ds xs) (lo hi : Option Int) : RepL K H (cutD ds lo hi) (cutV xs lo hi) := by
  unfold cutD cutV
  rw [h.len]
  exact (h.drop _).take _
end
end G
namespace G
open PySem PySem.Spec PyProof.Rows L2
section
variable {X : Cx} {P O : List Nat} {a b e : Expr} {es : List Expr} {ga gb g : Gx} {pos : Pos}
/-! ### slices -/
abbrev Go := Env → Option (Option Int × Env)
def tP (K : PySem.W.Frag) (P O : List Nat) (g : Go) : TO := fun σ H Q => ∃ B Hf ρ d ρ', Rl K B P O Hf σ H ρ ∧ g ρ = some (d, ρ') ∧ ∀ Hf' H', Same Hf Hf' → Rl K B P O Hf' σ H' ρ' → Q d H'
def cNoP : Go := fun ρ => some (none, ρ)
def asInt : D → Option Int
  | .int i => some i
  | _ => none
def cPart (g : Gx) : Go := fun ρ => (g ρ).bind fun p => (asInt p.1).map fun i => (some i, p.2)
theorem _root_.L2.PO.imp {X : Cx} {e : Option Expr} {t t' : TO} (h : PO X e t) (i : ∀ σ H Q, t' σ H Q → t σ H Q) : PO X e t' := ⟨fun pins s σ H Q I q => h.run pins s σ H Q I (i _ _ _ q)⟩
abbrev OJ (X : Cx) (P O : List Nat) (e : Option Expr) (g : Go) : Prop := PO X e (tP X.K P O g)
theorem oj_none : OJ X P O none cNoP := po_none.imp fun σ H Q ⟨B, Hf, ρ, d, ρ', R, e, k⟩ => by
  cases e
  exact k Hf H (Same.refl _) R
theorem oj_some (h : EJ X P O e g) : OJ X P O (some e) (cPart g) := (po_some h).imp fun σ H Q ⟨B, Hf, ρ, d, ρ', R, e, k⟩ => by
  obtain ⟨⟨z, ρ1⟩, h1, h'⟩ := Option.bind_eq_some_iff.mp e
  obtain ⟨i, h2, h'⟩ := Option.map_eq_some_iff.mp h'
  cases h'
  refine ⟨B, Hf, ρ, z, _, R, h1, fun Hf1 v H1 s1 R1 rv => ⟨i, ?_, k Hf1 H1 s1 R1⟩⟩
  cases z with
  | int j => cases h2; exact rv
  | _ => cases h2
def slL : D → Option Int → Option Int → Option D
  | .lst ds, lo, hi => some (.lst (cutD ds lo hi))
  | .scr ns, lo, hi => some (.lst ((ns.drop (HT.sIx ns.length 0 lo)).take (HT.sIx ns.length ns.length hi - HT.sIx ns.length 0 lo) |>.map D.int))
  | _, _, _ => none
def slD : D → Option Int → Option Int → Option D
  | .tup ds, lo, hi => some (.tup (cutD ds lo hi))
  | .str z, lo, hi => if z.length ≤ 100000 then some (.str (cutS z lo hi)) else none
  | d, lo, hi => slL d lo hi
def cSl (f : D → Option Int → Option Int → Option D) (g : Gx) (lo hi : Go) : Gx := fun ρ => (g ρ).bind fun p => (lo p.2).bind fun q => (hi q.2).bind fun r => (f p.1 q.1 r.1).map fun z => (z, r.2)
def SlDt (K : PySem.W.Frag) (r : V → Option Int → Option Int → Hp → VK → Prop) (f : D → Option Int → Option Int → Option D) : Prop := ∀ Hf H d lo hi z x, Same Hf H → Rep K Hf d x → f d lo hi = some z → ∀ Q : VK, (∀ Hf' v H', Gr Hf H Hf' H' → Rep K Hf' z v → Q v H') → r x lo hi H Q
def SlDO (K : PySem.W.Frag) (r : V → Option Int → Option Int → Hp → VK → Prop) (f : D → Option Int → Option Int → Option D) : Prop := ∀ Hf H d lo hi z x, Same Hf H → Rep K Hf d x → f d lo hi = some z → ∀ Q : VK, (∀ Hf' a o H', Gr Hf H Hf' H' → H a = none → Hf' a = none → H' a = some o → Own K Hf' z o → Q (.ref a) H') → r x lo hi H Q
theorem SlDO.d {K : PySem.W.Frag} {r : V → Option Int → Option Int → Hp → VK → Prop} {f : D → Option Int → Option Int → Option D} (h : SlDO K r f) : SlDt K r f := fun Hf H d lo hi z x s rx hf Q k =>
  h Hf H d lo hi z x s rx hf Q fun Hf' a o H' g n n' ha ow => k (upd Hf' a o) (.ref a) H' (g.frz n n' ha) (ow.rep (same_upd n') upd_same)
theorem slL_o {K : PySem.W.Frag} : SlDO K (rSlL K) slL := fun Hf H d lo hi z x s rx hf Q k => by
  cases d with
  | lst ds =>
    cases hf
    obtain ⟨a, us, rfl, h1, h2⟩ := rx
    exact ⟨a, us, rfl, SqL.of (s _ _ h1), fun p np => k Hf p _ _ (Gr.newO s np) np (s.free np) upd_same ⟨_, rfl, cut_rep h2 lo hi⟩⟩
  | scr ns =>
    cases hf
    obtain ⟨a, rfl, h1⟩ := rx
    refine ⟨a, _, rfl, s.seq h1, fun p np => k Hf p _ _ (Gr.newO s np) np (s.free np) upd_same ⟨_, rfl, ?_⟩⟩
    have := cut_rep (RepL.ofInts (K := K) (H := Hf) ns) lo hi
    unfold cutD at this
    rw [List.length_map, ← List.map_drop, ← List.map_take] at this
    exact this
  | _ => cases hf
theorem slD_d {K : PySem.W.Frag} : SlDt K (fun x lo hi H Q => rSlL K x lo hi H Q ∨ (fun x lo hi H Q => rSlA K x lo hi H Q ∨ rSlS x lo hi H Q) x lo hi H Q) slD := fun Hf H d lo hi z x s rx hf Q k => by
  cases d with
  | lst ds => exact .inl (slL_o.d Hf H _ lo hi z x s rx hf Q k)
  | scr ds => exact .inl (slL_o.d Hf H _ lo hi z x s rx hf Q k)
  | tup ds =>
    cases hf
    obtain ⟨a, us, rfl, h1, h2⟩ := rx
    have h3 := cut_rep h2 lo hi
    refine .inr (.inl ⟨a, us, rfl, sqT_mono s h1, fun hw => ?_, fun hw p np => ?_⟩)
    · refine k Hf _ H (Gr.refl s) ⟨a, us, rfl, h1, ?_⟩
      unfold cutV at h3
      rw [hw.1, hw.2, List.drop_zero, Nat.sub_zero, List.take_length] at h3
      exact h3
    · have g := Gr.new (o := .tup (cutV us lo hi)) s np
      exact k _ _ _ g ⟨p, _, rfl, SqT.of upd_same, RepL.mono g.s1 _ _ h3⟩
  | str w =>
    obtain ⟨h, rfl⟩ := ite_some hf
    exact .inr (.inr ⟨w, rx, Nat.le_trans h (by decide), k Hf _ H (Gr.refl s) rfl⟩)
  | _ => cases hf
theorem sl_all : SlR X (fun x lo hi H Q => rSlL X.K x lo hi H Q ∨ (fun x lo hi H Q => rSlA X.K x lo hi H Q ∨ rSlS x lo hi H Q) x lo hi H Q) := SlR.or sl_list (SlR.or sl_tupA sl_str)
variable {lo hi : Option Expr} {gl gh : Go} {p2 : Pos}
theorem ej_sl (ha : EJ X P O a ga) (hl : OJ X P O lo gl) (hh : OJ X P O hi gh) : EJ X P O (.Subscript a (.Slice lo hi none p2) pos) (cSl slD ga gl gh) := by
  refine (pe_slice sl_all ha hl hh).imp fun σ H Q ⟨B, Hf, ρ, z, ρ', R, e, k⟩ => ?_
  obtain ⟨⟨d, ρ1⟩, h1, h⟩ := Option.bind_eq_some_iff.mp e
  obtain ⟨⟨l, ρ2⟩, h2, h⟩ := Option.bind_eq_some_iff.mp h
  obtain ⟨⟨u, ρ3⟩, h3, h⟩ := Option.bind_eq_some_iff.mp h
  obtain ⟨z', h4, h⟩ := Option.map_eq_some_iff.mp h
  cases h
  refine ⟨B, Hf, ρ, d, ρ1, R, h1, fun Hf1 x H1 s1 R1 rx => ⟨B, Hf1, ρ1, l, ρ2, R1, h2, fun Hf2 H2 s2 R2 => ⟨B, Hf2, ρ2, u, _, R2, h3, fun Hf3 H3 s3 R3 => ?_⟩⟩⟩
  exact slD_d Hf3 H3 d l u _ x R3.ex (Rep.mono (s2.trans s3) _ _ rx) h4 Q fun Hf4 v H4 gr rv => k Hf4 v H4 (((s1.trans s2).trans s3).trans gr.s1) (R3.gr gr) rv
theorem eo_sl (ha : EJ X P O a ga) (hl : OJ X P O lo gl) (hh : OJ X P O hi gh) : EO X P O (.Subscript a (.Slice lo hi none p2) pos) (cSl slL ga gl gh) := by
  refine (pe_slice sl_list ha hl hh).imp fun σ H Q ⟨B, Hf, ρ, z, ρ', R, e, k⟩ => ?_
  obtain ⟨⟨d, ρ1⟩, h1, h⟩ := Option.bind_eq_some_iff.mp e
  obtain ⟨⟨l, ρ2⟩, h2, h⟩ := Option.bind_eq_some_iff.mp h
  obtain ⟨⟨u, ρ3⟩, h3, h⟩ := Option.bind_eq_some_iff.mp h
  obtain ⟨z', h4, h⟩ := Option.map_eq_some_iff.mp h
  cases h
  refine ⟨B, Hf, ρ, d, ρ1, R, h1, fun Hf1 x H1 s1 R1 rx => ⟨B, Hf1, ρ1, l, ρ2, R1, h2, fun Hf2 H2 s2 R2 => ⟨B, Hf2, ρ2, u, _, R2, h3, fun Hf3 H3 s3 R3 => ?_⟩⟩⟩
  exact slL_o Hf3 H3 d l u _ x R3.ex (Rep.mono (s2.trans s3) _ _ rx) h4 Q fun Hf4 p o H4 gr n n' hp ow => k Hf4 p o H4 (((s1.trans s2).trans s3).trans gr.s1) (R3.gr gr) n' hp ow (fresh_hc R3 n) (fresh_ne R3 n)
/-- xs[::-1] of a list -/
def revL : D → Option D
  | .lst ds => some (.lst ds.reverse)
  | _ => none
theorem eo_revL {k : Nat} {p1 p2 p3 : Pos} (ha : EJ X P O a ga) : EO X P O (.Subscript a (.Slice none none (some (.UnaryOp .USub (.Constant (.int 1) k p1) p2)) p3) pos) (cUn revL ga) := by
  refine (pe_revL ha).imp fun σ H Q ⟨B, Hf, ρ, z, ρ', R, e, k⟩ => ?_
  obtain ⟨⟨d, ρ1⟩, h1, h'⟩ := Option.bind_eq_some_iff.mp e
  obtain ⟨z', h2, h'⟩ := Option.map_eq_some_iff.mp h'
  cases h'
  refine ⟨B, Hf, ρ, d, _, R, h1, fun Hf1 v H1 s1 R1 rv => ?_⟩
  cases d with
  | lst ds =>
    cases h2
    obtain ⟨a, us, rfl, h3, h4⟩ := rv
    refine ⟨a, us, rfl, SqL.of (R1.ex _ _ h3), fun p np => ?_⟩
    have gr := Gr.newO (o := .lst us.reverse) R1.ex np
    exact k Hf1 p _ _ s1 (R1.gr gr) (R1.ex.free np) upd_same ⟨_, rfl, h4.reverse⟩ (fresh_hc R1 np) (fresh_ne R1 np)
  | _ => cases h2

/-! ### all that is owned, read for a while -/
mutual
def noMut : D → Bool
  | .lst _ => false
  | .scr _ => false
  | .tup ds => noMuts ds
  | _ => true
def noMuts : List D → Bool
  | [] => true
  | d :: ds => noMut d && noMuts ds
end
/-- the owned addresses -/
def OwnAt (O : List Nat) (σ : St) (ρ : Env) (a : Addr) : Prop := ∃ i d, i ∈ O ∧ ρ[i]? = some (some d) ∧ σ[i]? = some (some (.ref a))
open Classical in
noncomputable def allF (O : List Nat) (σ : St) (ρ : Env) (Hf H : Hp) : Hp := fun b => if OwnAt O σ ρ b then H b else Hf b
section
variable {K : PySem.W.Frag} {B : Bs} {Hf H Hf' H' : Hp} {σ : St} {ρ ρ' : Env}
theorem allF_same (R : Rl K B P O Hf σ H ρ) : Same Hf (allF O σ ρ Hf H) := fun b o e => by
  unfold allF
  split
  · exact R.ex _ _ e
  · exact e
theorem Rl.all (R : Rl K B P O Hf σ H ρ) : Rl K ⟨H, allF O σ ρ Hf H, []⟩ [] [] (allF O σ ρ Hf H) σ H ρ where
  iop := rfl
  ex := fun b o e => by
    unfold allF at e
    split at e
    · exact e
    · exact R.ex _ _ e
  ln := R.ln
  fz := fun i d _ e => by
    by_cases hi : i ∈ O
    · obtain ⟨a, o, h1, h2, h3, h4, h5⟩ := R.ow i d hi e
      refine ⟨_, h1, h4.rep (allF_same R) ?_⟩
      unfold allF
      rw [if_pos ⟨i, d, hi, e, h1⟩]
      exact h3
    · obtain ⟨v, h1, h2⟩ := R.fz i d hi e
      exact ⟨v, h1, Rep.mono (allF_same R) _ _ h2⟩
  ow := fun _ _ h => absurd h (by simp)
  sp := fun _ _ _ _ _ h => absurd h (by simp)
  fr := fun _ _ e _ => e
  fq := fun _ _ => rfl
  ios := fun p hp => absurd hp (by simp)
theorem own_lst {d : D} {o : HO} (h : Own K Hf d o) : ∃ xs, o = .lst xs := by
  cases d with
  | lst ds => obtain ⟨xs, e, _⟩ := h; exact ⟨xs, e⟩
  | _ => exact h.elim
/-- behind: what was owned is owned again -/
noncomputable def backF (Hf H Hf' : Hp) : Hp := fun b => match H b with
  | some _ => Hf b
  | none => Hf' b
theorem backF_gr (R : Rl K B P O Hf σ H ρ) (R' : Rl K ⟨H, allF O σ ρ Hf H, []⟩ [] [] Hf' σ H' ρ') : Gr Hf H (backF Hf H Hf') H' := by
  refine ⟨fun b o e => ?_, fun b o e => ?_, fun b hb => ?_⟩
  · unfold backF
    rw [R.ex _ _ e]
    exact e
  · unfold backF at e
    cases q : H b with
    | some u =>
      rw [q] at e
      have e2 := R.ex _ _ e
      exact R'.fr b o e2 fun p hp => absurd hp (by simp)
    | none =>
      rw [q] at e
      exact R'.ex _ _ e
  · cases q : H b with
    | none => exact absurd q hb
    | some u =>
      refine ⟨?_, R'.fr b u q fun p hp => absurd hp (by simp)⟩
      unfold backF
      rw [q]
theorem back_at (R : Rl K B P O Hf σ H ρ) (R' : Rl K ⟨H, allF O σ ρ Hf H, []⟩ [] [] Hf' σ H' ρ') {b : Addr} {o : HO} (e : Hf' b = some o) (n : ∀ xs, o ≠ .lst xs) : backF Hf H Hf' b = some o := by
  unfold backF
  cases q : H b with
  | none => exact e
  | some u =>
    have h1 := R'.fq b (by show H b ≠ none; rw [q]; exact fun z => nomatch z)
    rw [e] at h1
    have h2 : allF O σ ρ Hf H b = some o := h1.symm
    unfold allF at h2
    split at h2
    · rename_i hw
      obtain ⟨i, d, hi, e1, e2⟩ := hw
      obtain ⟨a, o', h3, _, h5, h6, _⟩ := R.ow i d hi e1
      rw [e2] at h3
      cases h3
      rw [h5] at h2
      cases h2
      obtain ⟨xs, rfl⟩ := own_lst h6
      exact absurd rfl (n xs)
    · exact h2
theorem back_sqT (R : Rl K B P O Hf σ H ρ) (R' : Rl K ⟨H, allF O σ ρ Hf H, []⟩ [] [] Hf' σ H' ρ') {b : Addr} {xs : List V} (h : SqT K Hf' b xs) : SqT K (backF Hf H Hf') b xs := by
  rcases h with (h | ⟨o, h⟩) | h
  · exact .inl (.inl (back_at R R' h fun _ z => nomatch z))
  · exact .inl (.inr ⟨o, back_at R R' h fun _ z => nomatch z⟩)
  · exact .inr h
theorem back_sqS (R : Rl K B P O Hf σ H ρ) (R' : Rl K ⟨H, allF O σ ρ Hf H, []⟩ [] [] Hf' σ H' ρ') {b : Addr} {xs : List V} (h : ∃ o, Hf' b = some (.frz o (.lst xs))) : ∃ o, backF Hf H Hf' b = some (.frz o (.lst xs)) := by
  obtain ⟨o, h⟩ := h
  exact ⟨o, back_at R R' h fun _ z => nomatch z⟩
mutual
theorem back_rep (R : Rl K B P O Hf σ H ρ) (R' : Rl K ⟨H, allF O σ ρ Hf H, []⟩ [] [] Hf' σ H' ρ') : ∀ (d : D) (v : V), noMut d = true → Rep K Hf' d v → Rep K (backF Hf H Hf') d v
  | .non, _, _, h => h
  | .bl _, _, _, h => h
  | .int _, _, _, h => h
  | .str _, _, _, h => h
  | .tup ds, v, n, h => by
    obtain ⟨a, xs, rfl, h1, h2⟩ := h
    exact ⟨a, xs, rfl, back_sqT R R' h1, back_reps R R' ds xs n h2⟩
  | .lst ds, v, n, h => by cases n
  | .scr ns, v, n, h => by cases n
theorem back_reps (R : Rl K B P O Hf σ H ρ) (R' : Rl K ⟨H, allF O σ ρ Hf H, []⟩ [] [] Hf' σ H' ρ') : ∀ (ds : List D) (xs : List V), noMuts ds = true → RepL K Hf' ds xs → RepL K (backF Hf H Hf') ds xs
  | [], _, _, h => h
  | d :: ds, xs, n, h => by
    obtain ⟨v, vs, rfl, h1, h2⟩ := h
    have n' := Bool.and_eq_true_iff.mp n
    exact ⟨v, vs, rfl, back_rep R R' d v n'.1 h1, back_reps R R' ds vs n'.2 h2⟩
end
end
end
end G
namespace G
open PySem PySem.Spec PyProof.Rows L2
section
variable {X : Cx} {P O : List Nat} {a b e : Expr} {es : List Expr} {ga gb g : Gx} {pos : Pos}
/-- all that is owned read for a while; the value holds no list -/
def cPure (g : Gx) : Gx := fun ρ => (g ρ).bind fun p => if noMut p.1 = true then some (p.1, ρ) else none
theorem ej_pure (h : EJ X [] [] e g) : EJ X P O e (cPure g) := h.imp fun σ H Q ⟨B, Hf, ρ, z, ρ', R, e, k⟩ => by
  obtain ⟨⟨d, ρ1⟩, h1, h'⟩ := Option.bind_eq_some_iff.mp e
  obtain ⟨n, e2⟩ := ite_some h'
  cases e2
  refine ⟨_, _, ρ, d, ρ1, R.all, h1, fun Hf1 v H1 s1 R1 rv => ?_⟩
  have g := backF_gr R R1
  exact k _ v H1 g.s1 (R.gr g) (back_rep R R1 d v n rv)
def noMutO : D → Bool
  | .lst ds => noMuts ds
  | _ => false
def cPureO (g : Gx) : Gx := fun ρ => (g ρ).bind fun p => if noMutO p.1 = true then some (p.1, ρ) else none
theorem eo_pure (h : EO X [] [] e g) : EO X P O e (cPureO g) := h.imp fun σ H Q ⟨B, Hf, ρ, z, ρ', R, e, k⟩ => by
  obtain ⟨⟨d, ρ1⟩, h1, h'⟩ := Option.bind_eq_some_iff.mp e
  obtain ⟨n, e2⟩ := ite_some h'
  cases e2
  refine ⟨_, _, ρ, d, ρ1, R.all, h1, fun Hf1 p o H1 s1 R1 n1 hp ow hc _ => ?_⟩
  have g := backF_gr R R1
  have np : H p = none := hc
  refine k _ p o H1 g.s1 (R.gr g) ?_ hp ?_ (fresh_hc R np) (fresh_ne R np)
  · unfold backF
    rw [np]
    exact n1
  · cases d with
    | lst ds =>
      obtain ⟨xs, e, r⟩ := ow
      exact ⟨xs, e, back_reps R R1 ds xs n r⟩
    | _ => cases n
def cPureT (g : Gt) : Gt := fun ρ => (g ρ).map fun p => (p.1, ρ)
theorem tj_pure {g : Gt} (h : TJ X [] [] e g) : TJ X P O e (cPureT g) := h.imp fun σ H Q ⟨B, Hf, ρ, z, ρ', R, e, k⟩ => by
  obtain ⟨⟨d, ρ1⟩, h1, h'⟩ := Option.map_eq_some_iff.mp e
  cases h'
  refine ⟨_, _, ρ, d, ρ1, R.all, h1, fun Hf1 H1 s1 R1 => ?_⟩
  have g := backF_gr R R1
  exact k _ H1 g.s1 (R.gr g)

/-! ### what a def promises -/
abbrev Fn := List D → Option (D × List D)
/-- io: the parameters that the def changes, with their addresses -/
def spF (K : PySem.W.Frag) (F : Fn) (P : List Nat) (own : Bool) : Sp := fun vs H Q _ => ∃ (Hf : Hp) (ds : List D) (r : D) (outs : List D) (io : List (Nat × Addr)), io.map (·.1) = P ∧ Same Hf H ∧ vs.length = ds.length ∧
  (∀ j d, ds[j]? = some d → j ∉ P → ∃ v, vs[j]? = some v ∧ Rep K Hf d v) ∧
  (∀ p ∈ io, ∃ d o, ds[p.1]? = some d ∧ vs[p.1]? = some (.ref p.2) ∧ Hf p.2 = none ∧ H p.2 = some o ∧ Own K Hf d o) ∧
  (∀ p ∈ io, ∀ q ∈ io, p.2 = q.2 → p.1 = q.1) ∧
  F ds = some (r, outs) ∧ outs.length = io.length ∧
  ∀ Hf' H', Same Hf Hf' → Same Hf' H' → (∀ b, H b ≠ none → Hf' b = Hf b) → (∀ b o, H b = some o → (∀ p ∈ io, p.2 ≠ b) → H' b = some o) →
    (∀ (n : Nat) p d, io[n]? = some p → outs[n]? = some d → ∃ o, H' p.2 = some o ∧ Own K Hf' d o) →
    (own = false → ∀ v, Rep K Hf' r v → Q v H') ∧ (own = true → ∀ a o, H a = none → Hf' a = none → H' a = some o → Own K Hf' r o → Q (.ref a) H')

/-! ### a call -/
/-- the arguments: a value, or an owned slot that the callee changes -/
inductive Ar where
  | v (g : Gx)
  | s (i : Nat)
/-- what is handed over: the data, by value -/
def evR : List Ar → Ga
  | [], ρ => some ([], ρ)
  | .v g :: gs, ρ => (g ρ).bind fun p => (evR gs p.2).map fun q => (p.1 :: q.1, q.2)
  | .s i :: gs, ρ => (ρ[i]?.getD none).bind fun _ => (evR gs ρ).bind fun q => (q.2[i]?.getD none).map fun d => (d :: q.1, q.2)
/-- the slots handed over, with their places -/
def slotsR : List Ar → Nat → List (Nat × Nat)
  | [], _ => []
  | .v _ :: gs, n => slotsR gs (n + 1)
  | .s i :: gs, n => (n, i) :: slotsR gs (n + 1)
def setOuts : List (Nat × Nat) → List D → Env → Option Env
  | [], [], ρ => some ρ
  | (_, i) :: r, d :: ds, ρ => setOuts r ds (ρ.set i (some d))
  | _, _, _ => none
def cUser (F : Fn) (as : List Ar) : Gx := fun ρ => (evR as ρ).bind fun p => (F p.1).bind fun q => (setOuts (slotsR as 0) q.2 p.2).map fun ρ' => (q.1, ρ')
/-- values by slots -/
def RepR (K : PySem.W.Frag) (Hf : Hp) (σ : St) : List Ar → List D → List V → Prop
  | [], ds, vs => ds = [] ∧ vs = []
  | .v _ :: gs, ds, vs => ∃ d ds' v vs', ds = d :: ds' ∧ vs = v :: vs' ∧ Rep K Hf d v ∧ RepR K Hf σ gs ds' vs'
  | .s i :: gs, ds, vs => ∃ d ds' v vs', ds = d :: ds' ∧ vs = v :: vs' ∧ σ[i]? = some (some v) ∧ RepR K Hf σ gs ds' vs'
def tR (K : PySem.W.Frag) (P O : List Nat) (as : List Ar) : TA := fun σ H Q => ∃ B Hf ρ ds ρ', Rl K B P O Hf σ H ρ ∧ evR as ρ = some (ds, ρ') ∧ (∀ q ∈ slotsR as 0, q.2 ∈ O) ∧
  ∀ Hf' vs H', Same Hf Hf' → Rl K B P O Hf' σ H' ρ' → RepR K Hf' σ as ds vs → Q vs H'
abbrev RJ (X : Cx) (P O : List Nat) (es : List Expr) (as : List Ar) : Prop := PA X es (tR X.K P O as)
theorem rj_nil : RJ X P O [] [] := pa_nil.imp fun σ H Q ⟨B, Hf, ρ, d, ρ', R, e, _, k⟩ => by
  cases e
  exact k Hf [] H (Same.refl _) R ⟨rfl, rfl⟩
theorem RepR.mono {K : PySem.W.Frag} {Hf Hf' : Hp} {σ : St} (s : Same Hf Hf') : ∀ {as : List Ar} {ds : List D} {vs : List V}, RepR K Hf σ as ds vs → RepR K Hf' σ as ds vs
  | [], _, _, h => h
  | .v _ :: _, _, _, ⟨d, ds', v, vs', e1, e2, r, t⟩ => ⟨d, ds', v, vs', e1, e2, Rep.mono s _ _ r, RepR.mono s t⟩
  | .s _ :: _, _, _, ⟨d, ds', v, vs', e1, e2, r, t⟩ => ⟨d, ds', v, vs', e1, e2, r, RepR.mono s t⟩
theorem rj_cons {as : List Ar} (h : EJ X P O e g) (hs : RJ X P O es as) (hst : starEach (e :: es) X.env = (false, eval e X.env) :: starEach es X.env := by rfl) : RJ X P O (e :: es) (.v g :: as) := by
  refine (pa_cons h hs hst).imp fun σ H Q ⟨B, Hf, ρ, ds, ρ', R, e, hq, k⟩ => ?_
  obtain ⟨⟨d, ρ1⟩, h1, h⟩ := Option.bind_eq_some_iff.mp e
  obtain ⟨⟨es, ρ2⟩, h2, h⟩ := Option.map_eq_some_iff.mp h
  cases h
  refine ⟨B, Hf, ρ, d, ρ1, R, h1, fun Hf1 v H1 s1 R1 rv => ⟨B, Hf1, ρ1, es, _, R1, h2, fun q hm => ?_, fun Hf2 vs H2 s2 R2 rvs => k Hf2 (v :: vs) H2 (s1.trans s2) R2 ⟨d, es, v, vs, rfl, rfl, Rep.mono s2 _ _ rv, rvs⟩⟩⟩
  have hs : ∀ (as : List Ar) (n m : Nat) (q : Nat × Nat), q ∈ slotsR as n → ∃ j, (j, q.2) ∈ slotsR as m := by
    intro as
    induction as with
    | nil => intro n m q h; cases h
    | cons x as ih =>
      intro n m q h
      cases x with
      | v g => exact ih _ _ q h
      | s i =>
        rcases List.mem_cons.mp h with e | h
        · subst e
          exact ⟨m, List.mem_cons_self⟩
        · obtain ⟨j, hj⟩ := ih _ (m + 1) q h
          exact ⟨j, List.mem_cons_of_mem _ hj⟩
  obtain ⟨j, hj⟩ := hs as 0 1 q hm
  exact hq (j, q.2) hj
theorem slots_any : ∀ (as : List Ar) (n m : Nat) (q : Nat × Nat), q ∈ slotsR as n → ∃ j, (j, q.2) ∈ slotsR as m := by
  intro as
  induction as with
  | nil => intro n m q h; cases h
  | cons x as ih =>
    intro n m q h
    cases x with
    | v g => exact ih _ _ q h
    | s i =>
      rcases List.mem_cons.mp h with e | h
      · subst e
        exact ⟨m, List.mem_cons_self⟩
      · obtain ⟨j, hj⟩ := ih _ (m + 1) q h
        exact ⟨j, List.mem_cons_of_mem _ hj⟩
/-- an owned slot handed over: it has a value ahead and behind the others -/
theorem rj_slot {as : List Ar} (i : Nat) {x : Str} {px : Pos} (hs : RJ X P O es as) (hN : X.N[i]? = some x := by rfl) (hv : Vis X.env.scope x := by first | exact Or.inl rfl | exact Or.inr (Or.inl rfl) | exact Or.inr (Or.inr rfl))
    (hd : (x == ("__debug__" : Str)) = false := by decide) (hcd : (x == ("__classdict__" : Str)) = false := by decide) (hst : starEach (.Name x px :: es) X.env = (false, eval (.Name x px) X.env) :: starEach es X.env := by rfl) : RJ X P O (.Name x px :: es) (.s i :: as) := by
  refine (pa_cons (pe_var hN hv hd hcd) hs hst).imp fun σ H Q ⟨B, Hf, ρ, ds, ρ', R, e, hq, k⟩ => ?_
  obtain ⟨d0, hd0, h⟩ := Option.bind_eq_some_iff.mp e
  obtain ⟨⟨es, ρ2⟩, h2, h⟩ := Option.bind_eq_some_iff.mp h
  obtain ⟨d, h1, h⟩ := Option.map_eq_some_iff.mp h
  cases h
  have hi : i ∈ O := hq (0, i) List.mem_cons_self
  obtain ⟨a, o, h3, _⟩ := R.ow i d0 hi (getD_some hd0)
  refine ⟨.ref a, h3, B, Hf, ρ, es, _, R, h2, fun q hm => ?_, fun Hf2 vs H2 s2 R2 rvs => k Hf2 (.ref a :: vs) H2 s2 R2 ⟨d, es, _, vs, rfl, rfl, h3, rvs⟩⟩
  obtain ⟨j, hj⟩ := slots_any as 0 1 q hm
  exact hq (j, q.2) (List.mem_cons_of_mem _ hj)

theorem evR_at : ∀ (as : List Ar) (n : Nat) {ρ ρ' : Env} {ds : List D}, evR as ρ = some (ds, ρ') → ∀ q ∈ slotsR as n, ∃ d, n ≤ q.1 ∧ ds[q.1 - n]? = some d ∧ ρ'[q.2]?.getD none = some d
  | [], _, _, _, _, _, _, hq => by cases hq
  | .v g :: as, n, ρ, ρ', ds, h, q, hq => by
    obtain ⟨⟨d, ρ1⟩, h1, h⟩ := Option.bind_eq_some_iff.mp h
    obtain ⟨⟨es, ρ2⟩, h2, h⟩ := Option.map_eq_some_iff.mp h
    cases h
    obtain ⟨d', h3, h4, h5⟩ := evR_at as (n + 1) h2 q hq
    refine ⟨d', by omega, ?_, h5⟩
    rw [show q.1 - n = (q.1 - (n + 1)) + 1 by omega]
    exact h4
  | .s i :: as, n, ρ, ρ', ds, h, q, hq => by
    obtain ⟨_, _, h⟩ := Option.bind_eq_some_iff.mp h
    obtain ⟨⟨es, ρ2⟩, h2, h⟩ := Option.bind_eq_some_iff.mp h
    obtain ⟨d, h1, h⟩ := Option.map_eq_some_iff.mp h
    cases h
    rcases List.mem_cons.mp hq with e | hq
    · subst e
      exact ⟨d, Nat.le_refl _, by simp, h1⟩
    · obtain ⟨d', h3, h4, h5⟩ := evR_at as (n + 1) h2 q hq
      refine ⟨d', by omega, ?_, h5⟩
      rw [show q.1 - n = (q.1 - (n + 1)) + 1 by omega]
      exact h4
theorem RepR.at {K : PySem.W.Frag} {Hf : Hp} {σ : St} : ∀ (as : List Ar) (n : Nat) {ds : List D} {vs : List V}, RepR K Hf σ as ds vs → ∀ q ∈ slotsR as n, ∃ v, vs[q.1 - n]? = some v ∧ σ[q.2]? = some (some v) ∧ n ≤ q.1
  | [], _, _, _, _, _, hq => by cases hq
  | .v g :: as, n, _, _, ⟨d, ds', v, vs', rfl, rfl, r, t⟩, q, hq => by
    obtain ⟨u, h1, h2, h3⟩ := RepR.at as (n + 1) t q hq
    refine ⟨u, ?_, h2, by omega⟩
    rw [show q.1 - n = (q.1 - (n + 1)) + 1 by omega]
    exact h1
  | .s i :: as, n, _, _, ⟨d, ds', v, vs', rfl, rfl, r, t⟩, q, hq => by
    rcases List.mem_cons.mp hq with e | hq
    · subst e
      exact ⟨v, by simp, r, Nat.le_refl _⟩
    · obtain ⟨u, h1, h2, h3⟩ := RepR.at as (n + 1) t q hq
      refine ⟨u, ?_, h2, by omega⟩
      rw [show q.1 - n = (q.1 - (n + 1)) + 1 by omega]
      exact h1
theorem RepR.fr {K : PySem.W.Frag} {Hf : Hp} {σ : St} : ∀ (as : List Ar) (n : Nat) {ds : List D} {vs : List V}, RepR K Hf σ as ds vs → ∀ (j : Nat) d, ds[j]? = some d → (∀ q ∈ slotsR as n, q.1 ≠ j + n) → ∃ v, vs[j]? = some v ∧ Rep K Hf d v
  | [], _, _, _, ⟨e1, e2⟩, j, d, hd, _ => by rw [e1] at hd; simp at hd
  | .v g :: as, n, _, _, ⟨d, ds', v, vs', rfl, rfl, r, t⟩, 0, d', hd, hq => by
    cases hd
    exact ⟨v, rfl, r⟩
  | .v g :: as, n, _, _, ⟨d, ds', v, vs', rfl, rfl, r, t⟩, j + 1, d', hd, hq => by
    exact RepR.fr as (n + 1) t j d' hd fun q h => by have := hq q h; omega
  | .s i :: as, n, _, _, ⟨d, ds', v, vs', rfl, rfl, r, t⟩, 0, d', hd, hq => by
    exact absurd (by simp) (hq (n, i) List.mem_cons_self)
  | .s i :: as, n, _, _, ⟨d, ds', v, vs', rfl, rfl, r, t⟩, j + 1, d', hd, hq => by
    exact RepR.fr as (n + 1) t j d' hd fun q h => by have := hq q (List.mem_cons_of_mem _ h); omega
theorem RepR.len {K : PySem.W.Frag} {Hf : Hp} {σ : St} : ∀ {as : List Ar} {ds : List D} {vs : List V}, RepR K Hf σ as ds vs → vs.length = ds.length
  | [], _, _, ⟨e1, e2⟩ => by rw [e1, e2]; rfl
  | .v g :: as, _, _, ⟨d, ds', v, vs', rfl, rfl, r, t⟩ => by rw [List.length_cons, List.length_cons, RepR.len t]
  | .s i :: as, _, _, ⟨d, ds', v, vs', rfl, rfl, r, t⟩ => by rw [List.length_cons, List.length_cons, RepR.len t]
theorem setOuts_len : ∀ {sl : List (Nat × Nat)} {outs : List D} {ρ ρ' : Env}, setOuts sl outs ρ = some ρ' → outs.length = sl.length ∧ ρ'.length = ρ.length
  | [], [], _, _, h => by cases h; exact ⟨rfl, rfl⟩
  | [], _ :: _, _, _, h => by cases h
  | _ :: _, [], _, _, h => by cases h
  | (_, i) :: sl, d :: outs, ρ, ρ', h => by
    obtain ⟨h1, h2⟩ := setOuts_len (sl := sl) h
    exact ⟨by rw [List.length_cons, List.length_cons, h1], by rw [h2, List.length_set]⟩
theorem setOuts_out : ∀ {sl : List (Nat × Nat)} {outs : List D} {ρ ρ' : Env} {j : Nat}, setOuts sl outs ρ = some ρ' → (∀ q ∈ sl, q.2 ≠ j) → ρ'[j]? = ρ[j]?
  | [], [], _, _, _, h, _ => by cases h; rfl
  | [], _ :: _, _, _, _, h, _ => by cases h
  | _ :: _, [], _, _, _, h, _ => by cases h
  | (n, i) :: sl, d :: outs, ρ, ρ', j, h, hj => by
    rw [setOuts_out (sl := sl) h fun q hq => hj q (List.mem_cons_of_mem _ hq), List.getElem?_set_ne (hj (n, i) List.mem_cons_self)]
theorem setOuts_in : ∀ {sl : List (Nat × Nat)} {outs : List D} {ρ ρ' : Env} {n : Nat} {q : Nat × Nat}, (sl.map (·.2)).Nodup → setOuts sl outs ρ = some ρ' → sl[n]? = some q → q.2 < ρ.length → ∃ d, outs[n]? = some d ∧ ρ'[q.2]? = some (some d)
  | [], _, _, _, _, _, _, _, hn, _ => by simp at hn
  | _ :: _, [], _, _, _, _, _, h, _, _ => by cases h
  | (m, i) :: sl, d :: outs, ρ, ρ', 0, q, nd, h, hn, hl => by
    cases hn
    refine ⟨d, rfl, ?_⟩
    have nd' := List.nodup_cons.mp nd
    rw [setOuts_out (sl := sl) h fun q hq e => nd'.1 (List.mem_map.mpr ⟨q, hq, e⟩)]
    exact List.getElem?_set_self hl
  | (m, i) :: sl, d :: outs, ρ, ρ', n + 1, q, nd, h, hn, hl => by
    obtain ⟨d', h1, h2⟩ := setOuts_in (sl := sl) (List.nodup_cons.mp nd).2 h (by simpa using hn) (by rw [List.length_set]; exact hl)
    exact ⟨d', h1, h2⟩
theorem nodup_ixN {N : List Nat} (hN : N.Nodup) {i j : Nat} {x : Nat} (a : N[i]? = some x) (b : N[j]? = some x) : i = j := by
  obtain ⟨h1, e1⟩ := List.getElem?_eq_some_iff.mp a
  obtain ⟨h2, e2⟩ := List.getElem?_eq_some_iff.mp b
  exact (List.getElem_inj hN).mp (e1.trans e2.symm)
def adr (σ : St) (i : Nat) : Addr := match σ[i]? with
  | some (some (.ref a)) => a
  | _ => 0
theorem adr_eq {σ : St} {i : Nat} {a : Addr} (h : σ[i]? = some (some (.ref a))) : adr σ i = a := by unfold adr; rw [h]
/-- behind a call: the slots at sl have changed -/
theorem Rl.call {K : PySem.W.Frag} {B : Bs} {Hf H Hf' H' : Hp} {σ : St} {ρ ρ' : Env} {sl : List (Nat × Nat)} {outs : List D} (R : Rl K B P O Hf σ H ρ) (hO : ∀ q ∈ sl, q.2 ∈ O) (nd : (sl.map (·.2)).Nodup)
    (hd : ∀ q ∈ sl, ∃ d, ρ[q.2]? = some (some d)) (h : setOuts sl outs ρ = some ρ') (s1 : Same Hf Hf') (s2 : Same Hf' H') (of_ : ∀ b, H b ≠ none → Hf' b = Hf b)
    (fr : ∀ b o, H b = some o → (∀ q ∈ sl, adr σ q.2 ≠ b) → H' b = some o) (ow : ∀ (n : Nat) q d, sl[n]? = some q → outs[n]? = some d → ∃ o, H' (adr σ q.2) = some o ∧ Own K Hf' d o) : Rl K B P O Hf' σ H' ρ' := by
  have dom : ∀ j d, ρ'[j]? = some (some d) → ∃ e, ρ[j]? = some (some e) := fun j d e => by
    by_cases hj : ∃ q ∈ sl, q.2 = j
    · obtain ⟨q, hq, rfl⟩ := hj
      exact hd q hq
    · exact ⟨d, by rw [← setOuts_out h fun q hq z => hj ⟨q, hq, z⟩]; exact e⟩
  refine ⟨R.iop, s2, by rw [R.ln, (setOuts_len h).2], fun i d hi e => ?_, fun i d hi e => ?_, fun i j a d e hi hj h1 h2 h3 h4 => ?_, fun b o e n => ?_, fun b hb => ?_, fun p hp => ?_⟩
  · have e' : ρ[i]? = some (some d) := by rw [← setOuts_out h fun q hq z => hi (by rw [← z]; exact hO q hq)]; exact e
    obtain ⟨v, h1, h2⟩ := R.fz i d hi e'
    exact ⟨v, h1, Rep.mono s1 _ _ h2⟩
  · obtain ⟨d0, e0⟩ := dom i d e
    obtain ⟨a, o, h1, h2, h3, h4, h5⟩ := R.ow i d0 hi e0
    have hz : Hf' a = none := by rw [of_ a (by rw [h3]; exact fun z => nomatch z)]; exact h2
    by_cases hj : ∃ q ∈ sl, q.2 = i
    · obtain ⟨q, hq, rfl⟩ := hj
      obtain ⟨n, hn⟩ := List.mem_iff_getElem?.mp hq
      have hl : q.2 < ρ.length := (List.getElem?_eq_some_iff.mp e0).1
      obtain ⟨d', h6, h7⟩ := setOuts_in nd h hn hl
      rw [e] at h7
      cases h7
      obtain ⟨o', h8, h9⟩ := ow n q d hn h6
      rw [adr_eq h1] at h8
      exact ⟨a, o', h1, hz, h8, h9, h5⟩
    · have e' : ρ[i]? = some (some d) := by rw [← setOuts_out h fun q hq z => hj ⟨q, hq, z⟩]; exact e
      rw [e'] at e0
      cases e0
      refine ⟨a, o, h1, hz, fr a o h3 fun q hq z => ?_, h4.mono s1, h5⟩
      obtain ⟨d2, e2⟩ := hd q hq
      obtain ⟨a2, _, g1, _⟩ := R.ow q.2 d2 (hO q hq) e2
      rw [adr_eq g1] at z
      subst z
      exact hj ⟨q, hq, R.sp _ _ _ _ _ (hO q hq) hi e2 e' g1 h1⟩
  · obtain ⟨d0, e0⟩ := dom i d h1
    obtain ⟨d1, e1⟩ := dom j e h2
    exact R.sp i j a d0 d1 hi hj e0 e1 h3 h4
  · refine fr b o (R.fr b o e n) fun q hq z => ?_
    obtain ⟨d2, e2⟩ := hd q hq
    obtain ⟨a2, _, g1, _, _, _, g5⟩ := R.ow q.2 d2 (hO q hq) e2
    rw [adr_eq g1] at z
    subst z
    rcases g5 with g5 | g5
    · rw [e] at g5; cases g5
    · exact n _ g5 rfl
  · rw [of_ b (R.hc hb)]
    exact R.fq b hb
  · obtain ⟨h1, h2, d, h3⟩ := R.ios p hp
    refine ⟨h1, h2, ?_⟩
    by_cases hj : ∃ q ∈ sl, q.2 = p.1
    · obtain ⟨q, hq, hqe⟩ := hj
      obtain ⟨n, hn⟩ := List.mem_iff_getElem?.mp hq
      obtain ⟨d', h6, h7⟩ := setOuts_in nd h hn (by rw [hqe]; exact (List.getElem?_eq_some_iff.mp h3).1)
      exact ⟨d', by rw [← hqe]; exact h7⟩
    · exact ⟨d, by rw [setOuts_out h fun q hq z => hj ⟨q, hq, z⟩]; exact h3⟩
theorem tUser {F : Fn} {Pc : List Nat} {K : PySem.W.Frag} {own : Bool} {as : List Ar} {σ : St} {H : Hp} {Q : VK} (hP : (slotsR as 0).map (·.1) = Pc) (hO : ∀ q ∈ slotsR as 0, q.2 ∈ O) (hn : ((slotsR as 0).map (·.2)).Nodup)
    {B : Bs} {Hf : Hp} {ρ ρ' : Env} {z : D} (R : Rl K B P O Hf σ H ρ) (e : cUser F as ρ = some (z, ρ'))
    (k : ∀ Hf0 H0 Hf' H', Same Hf Hf0 → Rl K B P O Hf0 σ H0 ρ' ∨ True → Same Hf0 Hf' → (∀ b, H0 b ≠ none → Hf' b = Hf0 b) → Rl K B P O Hf' σ H' ρ' → (own = false → ∀ v, Rep K Hf' z v → Q v H') ∧ (own = true → ∀ a o, H0 a = none → Hf' a = none → H' a = some o → Own K Hf' z o → B.Hc a = none → (∀ i e, i ∈ O → ρ'[i]? = some (some e) → σ[i]? ≠ some (some (.ref a))) → Q (.ref a) H')) :
    tCall (spF K F Pc own) [] E0 (tR K P O as) σ H Q := by
  obtain ⟨⟨ds, ρ1⟩, h1, h⟩ := Option.bind_eq_some_iff.mp e
  obtain ⟨⟨r, outs⟩, h2, h⟩ := Option.bind_eq_some_iff.mp h
  obtain ⟨ρ2, h3, h⟩ := Option.map_eq_some_iff.mp h
  cases h
  refine ⟨B, Hf, ρ, ds, ρ1, R, h1, hO, fun Hf1 vs H1 s1 R1 rr => ?_⟩
  show spF K F Pc own (vs ++ []) H1 Q E0
  rw [List.append_nil]
  have hd : ∀ q ∈ slotsR as 0, ∃ d, ρ1[q.2]? = some (some d) := fun q hq => by
    obtain ⟨d, _, _, h⟩ := evR_at as 0 h1 q hq
    exact ⟨d, getD_some h⟩
  refine ⟨Hf1, ds, r, outs, (slotsR as 0).map fun q => (q.1, adr σ q.2), by rw [List.map_map]; exact hP, R1.ex, rr.len, fun j d hj hn => ?_, fun p hp => ?_, fun p hp q hq e => ?_, h2, by rw [List.length_map]; exact (setOuts_len h3).1, fun Hf' H' t1 t2 t3 t4 t5 => ?_⟩
  · exact rr.fr as 0 j d hj fun q hq z => hn (by rw [← hP]; exact List.mem_map.mpr ⟨q, hq, z⟩)
  · obtain ⟨q, hq, rfl⟩ := List.mem_map.mp hp
    obtain ⟨d, _, e1, e2⟩ := evR_at as 0 h1 q hq
    obtain ⟨v, e3, e4, _⟩ := rr.at as 0 q hq
    obtain ⟨a, o, g1, g2, g3, g4, _⟩ := R1.ow q.2 d (hO q hq) (getD_some e2)
    rw [g1] at e4
    cases e4
    refine ⟨d, o, e1, ?_, ?_, ?_, g4⟩
    · show vs[q.1]? = some (.ref (adr σ q.2)); rw [adr_eq g1]; exact e3
    · show Hf1 (adr σ q.2) = none; rw [adr_eq g1]; exact g2
    · show H1 (adr σ q.2) = some o; rw [adr_eq g1]; exact g3
  · obtain ⟨q1, hq1, rfl⟩ := List.mem_map.mp hp
    obtain ⟨q2, hq2, rfl⟩ := List.mem_map.mp hq
    obtain ⟨d1, e1⟩ := hd q1 hq1
    obtain ⟨d2, e2⟩ := hd q2 hq2
    obtain ⟨a1, _, g1, _⟩ := R1.ow q1.2 d1 (hO q1 hq1) e1
    obtain ⟨a2, _, g2, _⟩ := R1.ow q2.2 d2 (hO q2 hq2) e2
    have e' : adr σ q1.2 = adr σ q2.2 := e
    rw [adr_eq g1, adr_eq g2] at e'
    subst e'
    have es : q1.2 = q2.2 := R1.sp _ _ _ _ _ (hO q1 hq1) (hO q2 hq2) e1 e2 g1 g2
    obtain ⟨n1, hn1⟩ := List.mem_iff_getElem?.mp hq1
    obtain ⟨n2, hn2⟩ := List.mem_iff_getElem?.mp hq2
    have m1 : ((slotsR as 0).map (·.2))[n1]? = some q1.2 := by rw [List.getElem?_map, hn1]; rfl
    have m2 : ((slotsR as 0).map (·.2))[n2]? = some q1.2 := by rw [List.getElem?_map, hn2, es]; rfl
    have : n1 = n2 := nodup_ixN hn m1 m2
    subst this
    rw [hn1] at hn2
    cases hn2
    rfl
  · have R2 : Rl K B P O Hf' σ H' ρ' := by
      refine R1.call hO hn hd h3 t1 t2 t3 (fun b o e hb => t4 b o e fun p hp z => ?_) fun n q d e1 e2 => ?_
      · obtain ⟨q, hq, rfl⟩ := List.mem_map.mp hp
        exact hb q hq z
      · exact t5 n (q.1, adr σ q.2) d (by rw [List.getElem?_map, e1]; rfl) e2
    obtain ⟨k1, k2⟩ := k Hf1 H1 Hf' H' s1 (.inr trivial) t1 t3 R2
    exact ⟨k1, fun ho a o n1 n2 n3 n4 => k2 ho a o n1 n2 n3 n4 (fresh_hc R1 n1) (fun i e hi he => by
      by_cases hj : ∃ q ∈ slotsR as 0, q.2 = i
      · obtain ⟨q, hq, rfl⟩ := hj
        obtain ⟨d, e1⟩ := hd q hq
        exact fresh_ne R1 n1 _ d hi e1
      · exact fresh_ne R1 n1 i e hi (by rw [← setOuts_out h3 fun q hq z => hj ⟨q, hq, z⟩]; exact he))⟩
section
variable {F : Fn} {Pc : List Nat} {k : Nat} {f : Addr} {fd : FuncData} {ps : List Str} {x : Str} {p : Pos} {as : List Ar}
theorem ej_user (FO : FnOk X.prog X.w X.K X.mg X.base CX0 k f fd ps (spF X.K F Pc false)) (hr : Room k X.A) (hg : Gl X x) (hm : X.mg x = some (.ref f)) (hk : PySem.W.keepIn X.K (.ref f) = true) (hb : Binds X.K fd ps []) (ha : RJ X P O (e :: es) as)
    (hP : (slotsR as 0).map (·.1) = Pc := by rfl) (hO : ∀ q ∈ slotsR as 0, q.2 ∈ O := by decide) (hn : ((slotsR as 0).map (·.2)).Nodup := by decide) (hdb : (x == ("__debug__" : Str)) = false := by decide)
    (he : starEach (e :: es) X.env = (false, eval e X.env) :: starEach es X.env := by rfl) (hpl : (backTo pos (starEach es X.env)).any (·.1) = false := by rfl) : EJ X P O (.Call (.Name x p) (e :: es) [] pos) (cUser F as) :=
  (pe_call FO hr hg hm hk hb .nil pass0 ha hdb he hpl).imp fun σ H Q ⟨B, Hf, ρ, z, ρ', R, e, kk⟩ =>
    tUser hP hO hn R e fun Hf0 H0 Hf' H' s0 _ s1 s2 R2 => ⟨fun _ v rv => kk Hf' v H' (s0.trans s1) R2 rv, fun z => absurd z (by decide)⟩
theorem eo_user (FO : FnOk X.prog X.w X.K X.mg X.base CX0 k f fd ps (spF X.K F Pc true)) (hr : Room k X.A) (hg : Gl X x) (hm : X.mg x = some (.ref f)) (hk : PySem.W.keepIn X.K (.ref f) = true) (hb : Binds X.K fd ps []) (ha : RJ X P O (e :: es) as)
    (hP : (slotsR as 0).map (·.1) = Pc := by rfl) (hO : ∀ q ∈ slotsR as 0, q.2 ∈ O := by decide) (hn : ((slotsR as 0).map (·.2)).Nodup := by decide) (hdb : (x == ("__debug__" : Str)) = false := by decide)
    (he : starEach (e :: es) X.env = (false, eval e X.env) :: starEach es X.env := by rfl) (hpl : (backTo pos (starEach es X.env)).any (·.1) = false := by rfl) : EO X P O (.Call (.Name x p) (e :: es) [] pos) (cUser F as) :=
  (pe_call FO hr hg hm hk hb .nil pass0 ha hdb he hpl).imp fun σ H Q ⟨B, Hf, ρ, z, ρ', R, e, kk⟩ =>
    tUser hP hO hn R e fun Hf0 H0 Hf' H' s0 _ s1 s2 R2 => ⟨fun z => absurd z (by decide), fun _ a o n1 n2 n3 n4 n5 n6 => kk Hf' a o H' (s0.trans s1) R2 n2 n3 n4 n5 n6⟩
end
end
end G
namespace G
open PySem PySem.Spec PyProof.Rows L2
inductive Out where
  | nx (ρ : Env) | bk (ρ : Env) | ct (ρ : Env) | rt (d : D) (ρ : Env)
abbrev Gs := Env → Option Out
structure Fin (K : PySem.W.Frag) (B : Bs) (Hf H : Hp) (ρ : Env) : Prop where
  ex : Same Hf H
  fr : ∀ b o, B.Hc b = some o → (∀ p ∈ B.io, p.2 ≠ b) → H b = some o
  fq : ∀ b, B.Hc b ≠ none → Hf b = B.Hz b
  io : ∀ p ∈ B.io, ∃ d o, ρ[p.1]? = some (some d) ∧ H p.2 = some o ∧ Own K Hf d o
theorem Rl.fin {K : PySem.W.Frag} {B : Bs} {P O : List Nat} {Hf H : Hp} {σ : St} {ρ : Env} (R : Rl K B P O Hf σ H ρ) : Fin K B Hf H ρ :=
  ⟨R.ex, R.fr, R.fq, fun p hp => by
    obtain ⟨h1, h2, d, h3⟩ := R.ios p hp
    obtain ⟨a, o, e1, _, e2, e3, _⟩ := R.ow _ _ h1 h3
    rw [h2] at e1
    cases e1
    exact ⟨d, o, h3, e2, e3⟩⟩
def Post (K : PySem.W.Frag) (B : Bs) (P : List Nat) (own : Bool) (Ob O' : List Nat) (Hf : Hp) (D : Ends) : Out → Prop
  | .nx ρ' => ∀ Hf' σ' H', Same Hf Hf' → Rl K B P O' Hf' σ' H' ρ' → D.nx σ' H'
  | .bk ρ' => ∀ Hf' σ' H', Same Hf Hf' → Rl K B P Ob Hf' σ' H' ρ' → D.bk σ' H'
  | .ct ρ' => ∀ Hf' σ' H', Same Hf Hf' → Rl K B P Ob Hf' σ' H' ρ' → D.ct σ' H'
  | .rt d ρ' => (own = false → ∀ Hf' v H', Same Hf Hf' → Fin K B Hf' H' ρ' → Rep K Hf' d v → D.rt v H') ∧
      (own = true → ∀ Hf' a o H', Same Hf Hf' → Fin K B Hf' H' ρ' → Hf' a = none → B.Hc a = none → H' a = some o → Own K Hf' d o → D.rt (.ref a) H')
theorem Post.mono {K : PySem.W.Frag} {B : Bs} {P : List Nat} {own : Bool} {Ob O' : List Nat} {Hf Hf1 : Hp} {D : Ends} (s : Same Hf Hf1) : ∀ {r : Out}, Post K B P own Ob O' Hf D r → Post K B P own Ob O' Hf1 D r
  | .nx _, h => fun Hf' σ' H' t => h Hf' σ' H' (s.trans t)
  | .bk _, h => fun Hf' σ' H' t => h Hf' σ' H' (s.trans t)
  | .ct _, h => fun Hf' σ' H' t => h Hf' σ' H' (s.trans t)
  | .rt _ _, h => ⟨fun o Hf' v H' t => h.1 o Hf' v H' (s.trans t), fun o Hf' a u H' t => h.2 o Hf' a u H' (s.trans t)⟩
def tS (K : PySem.W.Frag) (P : List Nat) (own : Bool) (Ob O O' : List Nat) (f : Gs) : TS := fun D σ H => ∃ B Hf ρ r, Rl K B P O Hf σ H ρ ∧ f ρ = some r ∧ Post K B P own Ob O' Hf D r
abbrev SJ (X : Cx) (P : List Nat) (own : Bool) (Ob O O' : List Nat) (st : Stmt) (f : Gs) : Prop := PS X st (tS X.K P own Ob O O' f)
abbrev SSJ (X : Cx) (P : List Nat) (own : Bool) (Ob O O' : List Nat) (st : List Stmt) (f : Gs) : Prop := PSs X st (tS X.K P own Ob O O' f)
section
variable {X : Cx} {P O O1 O2 Ob : List Nat} {own : Bool} {a b e : Expr} {es : List Expr} {ga gb g : Gx} {pos : Pos} {st : Stmt} {sts : List Stmt} {f h : Gs}
/-! ### blocks -/
def cNil : Gs := fun ρ => some (.nx ρ)
def cSeq (f h : Gs) : Gs := fun ρ => (f ρ).bind fun r => match r with
  | .nx ρ' => h ρ'
  | .bk ρ' => some (.bk ρ')
  | .ct ρ' => some (.ct ρ')
  | .rt d ρ' => some (.rt d ρ')
theorem ss_nil : SSJ X P own Ob O O [] cNil := pss_nil.imp fun D σ H ⟨B, Hf, ρ, r, R, e, k⟩ => by
  cases e
  exact k Hf σ H (Same.refl _) R
theorem tSeq_d {K : PySem.W.Frag} {D : Ends} {σ : St} {H : Hp} (q : tS K P own Ob O O2 (cSeq f h) D σ H) : tSeq (tS K P own Ob O O1 f) (tS K P own Ob O1 O2 h) D σ H := by
  obtain ⟨B, Hf, ρ, r, R, e, k⟩ := q
  obtain ⟨r1, h1, e⟩ := Option.bind_eq_some_iff.mp e
  refine ⟨B, Hf, ρ, r1, R, h1, ?_⟩
  cases r1 with
  | nx ρ1 => exact fun Hf1 σ1 H1 s1 R1 => ⟨B, Hf1, ρ1, r, R1, e, k.mono s1⟩
  | bk ρ1 => cases e; exact k
  | ct ρ1 => cases e; exact k
  | rt d ρ1 => cases e; exact k
theorem ss_cons (h1 : SJ X P own Ob O O1 st f) (h2 : SSJ X P own Ob O1 O2 sts h) : SSJ X P own Ob O O2 (st :: sts) (cSeq f h) := (pss_cons h1 h2).imp fun _ _ _ => tSeq_d
theorem ss_one (h1 : SJ X P own Ob O O1 st f) : SSJ X P own Ob O O1 [st] f := pss_one h1
/-- a slot is owned no more -/
theorem Rl.frz {K : PySem.W.Frag} {B : Bs} {Hf H : Hp} {σ : St} {ρ : Env} {i : Nat} (R : Rl K B P O Hf σ H ρ) (hP : i ∉ P) : ∃ Hf', Same Hf Hf' ∧ Rl K B P (O.filter (· != i)) Hf' σ H ρ := by
  have mem : ∀ j, j ∈ O.filter (· != i) ↔ j ∈ O ∧ j ≠ i := fun j => by rw [List.mem_filter]; simp
  have hpi : ∀ p ∈ B.io, p.1 ≠ i := fun p hp z => hP (by rw [← R.iop, ← z]; exact List.mem_map.mpr ⟨p, hp, rfl⟩)
  have ios' : ∀ p ∈ B.io, p.1 ∈ O.filter (· != i) ∧ σ[p.1]? = some (some (.ref p.2)) ∧ ∃ d, ρ[p.1]? = some (some d) := fun p hp => by
    obtain ⟨h1, h2⟩ := R.ios p hp
    exact ⟨(mem _).mpr ⟨h1, hpi p hp⟩, h2⟩
  by_cases hd : i ∈ O ∧ ∃ d, ρ[i]? = some (some d)
  · obtain ⟨hi, d, e⟩ := hd
    obtain ⟨a, o, h1, h2, h3, h4, h5⟩ := R.ow i d hi e
    have hc : B.Hc a = none := h5.resolve_right fun z => hpi _ z rfl
    refine ⟨upd Hf a o, same_upd h2, R.iop, fun b x q => ?_, R.ln, fun j e' hj ej => ?_, fun j e' hj ej => ?_, fun j l c d1 d2 hj hl => R.sp j l c d1 d2 ((mem j).mp hj).1 ((mem l).mp hl).1, R.fr, fun b hb => ?_, ios'⟩
    · by_cases z : b = a
      · subst z; rw [upd_same] at q; rw [h3]; exact q
      · rw [upd_ne z] at q; exact R.ex _ _ q
    · by_cases hji : j = i
      · subst hji
        rw [e] at ej
        cases ej
        exact ⟨_, h1, h4.rep (same_upd h2) upd_same⟩
      · obtain ⟨v, q1, q2⟩ := R.fz j e' (fun z => hj ((mem j).mpr ⟨z, hji⟩)) ej
        exact ⟨v, q1, Rep.mono (same_upd h2) _ _ q2⟩
    · obtain ⟨hj1, hj2⟩ := (mem j).mp hj
      obtain ⟨c, u, q1, q2, q3, q4, q5⟩ := R.ow j e' hj1 ej
      have z : c ≠ a := fun z => hj2 (R.sp j i a e' d hj1 hi ej e (by rw [q1, z]) h1)
      exact ⟨c, u, q1, by rw [upd_ne z]; exact q2, q3, q4.mono (same_upd h2), q5⟩
    · have z : b ≠ a := fun z => hb (by rw [z]; exact hc)
      rw [upd_ne z]
      exact R.fq b hb
  · refine ⟨Hf, Same.refl _, R.iop, R.ex, R.ln, fun j e' hj ej => ?_, fun j e' hj ej => R.ow j e' ((mem j).mp hj).1 ej, fun j l c d1 d2 hj hl => R.sp j l c d1 d2 ((mem j).mp hj).1 ((mem l).mp hl).1, R.fr, R.fq, ios'⟩
    refine R.fz j e' (fun z => ?_) ej
    by_cases hji : j = i
    · subst hji
      exact hd ⟨z, e', ej⟩
    · exact hj ((mem j).mpr ⟨z, hji⟩)
/-- ahead of a block -/
theorem ss_frz (i : Nat) (hP : i ∉ P) (h1 : SSJ X P own Ob (O.filter (· != i)) O2 sts f) : SSJ X P own Ob O O2 sts f := PSs.imp h1 fun D σ H ⟨B, Hf, ρ, r, R, e, k⟩ => by
  obtain ⟨Hf', s, R'⟩ := R.frz hP
  exact ⟨B, Hf', ρ, r, R', e, k.mono s⟩
/-- ahead of a statement -/
theorem sj_frz (i : Nat) (hP : i ∉ P) (h1 : SJ X P own Ob (O.filter (· != i)) O2 st f) : SJ X P own Ob O O2 st f := PS.imp h1 fun D σ H ⟨B, Hf, ρ, r, R, e, k⟩ => by
  obtain ⟨Hf', s, R'⟩ := R.frz hP
  exact ⟨B, Hf', ρ, r, R', e, k.mono s⟩
/-- behind a block -/
theorem ss_end (i : Nat) (hP : i ∉ P) (h1 : SSJ X P own Ob O O2 sts f) : SSJ X P own Ob O (O2.filter (· != i)) sts f := PSs.imp h1 fun D σ H ⟨B, Hf, ρ, r, R, e, k⟩ => by
  refine ⟨B, Hf, ρ, r, R, e, ?_⟩
  cases r with
  | nx ρ' => exact fun Hf' σ' H' s R' => let ⟨Hf2, s2, R2⟩ := R'.frz hP; k Hf2 σ' H' (s.trans s2) R2
  | bk ρ' => exact k
  | ct ρ' => exact k
  | rt d ρ' => exact k

/-! ### targets -/
abbrev Gh := D → Env → Option Env
/-- S: the slots that are stored -/
def tG (K : PySem.W.Frag) (P O O' S : List Nat) (h : Gh) : TG := fun v σ H Q => ∃ B Hf ρ d ρ', Rl K B P O Hf σ H ρ ∧ Rep K Hf d v ∧ h d ρ = some ρ' ∧ ∀ Hf' σ' H', Same Hf Hf' → Rl K B P O' Hf' σ' H' ρ' → (σ'.length = σ.length ∧ ∀ i, i ∉ S → σ'[i]? = σ[i]?) → Q σ' H'
abbrev GJ (X : Cx) (P O O' S : List Nat) (e : Expr) (h : Gh) : Prop := PG X e (tG X.K P O O' S h)
def hName (i : Nat) : Gh := fun d ρ => some (ρ.set i (some d))
theorem set_get {α : Type} {l : List α} {i j : Nat} {x y : α} (h : (l.set i x)[j]? = some y) : (j = i ∧ y = x ∧ i < l.length) ∨ (j ≠ i ∧ l[j]? = some y) := by
  rw [List.getElem?_set] at h
  by_cases e : i = j
  · rw [if_pos e] at h
    by_cases hl : i < l.length
    · rw [if_pos hl] at h
      exact .inl ⟨e.symm, (Option.some.inj h).symm, hl⟩
    · rw [if_neg hl] at h
      cases h
  · rw [if_neg e] at h
    exact .inr ⟨fun z => e z.symm, h⟩
theorem Rl.setF {K : PySem.W.Frag} {B : Bs} {Hf H : Hp} {σ : St} {ρ : Env} {i : Nat} {d : D} {v : V} (R : Rl K B P O Hf σ H ρ) (hP : i ∉ P) (r : Rep K Hf d v) : Rl K B P (O.filter (· != i)) Hf (σ.set i (some v)) H (ρ.set i (some d)) := by
  have mem : ∀ j, j ∈ O.filter (· != i) ↔ j ∈ O ∧ j ≠ i := fun j => by rw [List.mem_filter]; simp
  have hpi : ∀ p ∈ B.io, p.1 ≠ i := fun p hp z => hP (by rw [← R.iop, ← z]; exact List.mem_map.mpr ⟨p, hp, rfl⟩)
  refine ⟨R.iop, R.ex, by rw [List.length_set, List.length_set]; exact R.ln, fun j e hj ej => ?_, fun j e hj ej => ?_, fun j l c d1 d2 hj hl e1 e2 e3 e4 => ?_, R.fr, R.fq, fun p hp => ?_⟩
  · rcases set_get ej with ⟨rfl, e1, hl⟩ | ⟨hne, e1⟩
    · cases e1
      exact ⟨v, List.getElem?_set_self (by rw [R.ln]; exact hl), r⟩
    · obtain ⟨u, q1, q2⟩ := R.fz j e (fun z => hj ((mem j).mpr ⟨z, hne⟩)) e1
      exact ⟨u, by rw [List.getElem?_set_ne (Ne.symm hne)]; exact q1, q2⟩
  · obtain ⟨hj1, hj2⟩ := (mem j).mp hj
    rw [List.getElem?_set_ne (Ne.symm hj2)] at ej ⊢
    exact R.ow j e hj1 ej
  · obtain ⟨hj1, hj2⟩ := (mem j).mp hj
    obtain ⟨hl1, hl2⟩ := (mem l).mp hl
    rw [List.getElem?_set_ne (Ne.symm hj2)] at e1 e3
    rw [List.getElem?_set_ne (Ne.symm hl2)] at e2 e4
    exact R.sp j l c d1 d2 hj1 hl1 e1 e2 e3 e4
  · obtain ⟨h1, h2, h3⟩ := R.ios p hp
    have hne := hpi p hp
    rw [List.getElem?_set_ne (Ne.symm hne), List.getElem?_set_ne (Ne.symm hne)]
    exact ⟨(mem _).mpr ⟨h1, hne⟩, h2, h3⟩
theorem Rl.setO {K : PySem.W.Frag} {B : Bs} {Hf H : Hp} {σ : St} {ρ : Env} {i : Nat} {d : D} {c : Addr} {o : HO} (R : Rl K B P O Hf σ H ρ) (hP : i ∉ P) (n : Hf c = none) (hc : H c = some o) (ow : Own K Hf d o) (hb : B.Hc c = none)
    (ne : ∀ i e, i ∈ O → ρ[i]? = some (some e) → σ[i]? ≠ some (some (.ref c))) : Rl K B P (i :: O.filter (· != i)) Hf (σ.set i (some (.ref c))) H (ρ.set i (some d)) := by
  have mem : ∀ j, j ∈ i :: O.filter (· != i) ↔ j = i ∨ (j ∈ O ∧ j ≠ i) := fun j => by rw [List.mem_cons, List.mem_filter]; simp
  have hpi : ∀ p ∈ B.io, p.1 ≠ i := fun p hp z => hP (by rw [← R.iop, ← z]; exact List.mem_map.mpr ⟨p, hp, rfl⟩)
  refine ⟨R.iop, R.ex, by rw [List.length_set, List.length_set]; exact R.ln, fun j e hj ej => ?_, fun j e hj ej => ?_, fun j l x d1 d2 hj hl e1 e2 e3 e4 => ?_, R.fr, R.fq, fun p hp => ?_⟩
  · have hne : j ≠ i := fun z => hj ((mem j).mpr (.inl z))
    rw [List.getElem?_set_ne (Ne.symm hne)] at ej ⊢
    exact R.fz j e (fun z => hj ((mem j).mpr (.inr ⟨z, hne⟩))) ej
  · rcases set_get ej with ⟨rfl, e1, hl⟩ | ⟨hne, e1⟩
    · cases e1
      exact ⟨c, o, List.getElem?_set_self (by rw [R.ln]; exact hl), n, hc, ow, .inl hb⟩
    · rw [List.getElem?_set_ne (Ne.symm hne)]
      exact R.ow j e (((mem j).mp hj).resolve_left hne).1 e1
  · by_cases hji : j = i
    · by_cases hli : l = i
      · rw [hji, hli]
      · subst hji
        have hl1 := (((mem l).mp hl).resolve_left hli).1
        rw [List.getElem?_set_ne (Ne.symm hli)] at e2 e4
        rcases set_get e3 with ⟨_, e5, _⟩ | ⟨z, _⟩
        · cases e5
          exact absurd e4 (ne l d2 hl1 e2)
        · exact absurd rfl z
    · have hj1 := (((mem j).mp hj).resolve_left hji).1
      rw [List.getElem?_set_ne (Ne.symm hji)] at e1 e3
      by_cases hli : l = i
      · subst hli
        rcases set_get e4 with ⟨_, e5, _⟩ | ⟨z, _⟩
        · cases e5
          exact absurd e3 (ne j d1 hj1 e1)
        · exact absurd rfl z
      · have hl1 := (((mem l).mp hl).resolve_left hli).1
        rw [List.getElem?_set_ne (Ne.symm hli)] at e2 e4
        exact R.sp j l x d1 d2 hj1 hl1 e1 e2 e3 e4
  · obtain ⟨h1, h2, h3⟩ := R.ios p hp
    have hne := hpi p hp
    rw [List.getElem?_set_ne (Ne.symm hne), List.getElem?_set_ne (Ne.symm hne)]
    exact ⟨(mem _).mpr (.inr ⟨h1, hne⟩), h2, h3⟩
/-- an owned object has changed -/
theorem Rl.mut {K : PySem.W.Frag} {B : Bs} {Hf H : Hp} {σ : St} {ρ : Env} {i : Nat} {d d' : D} {c : Addr} {o' : HO} (R : Rl K B P O Hf σ H ρ) (hi : i ∈ O) (e : ρ[i]? = some (some d)) (hc : σ[i]? = some (some (.ref c))) (ow : Own K Hf d' o') :
    Rl K B P O Hf σ (upd H c o') (ρ.set i (some d')) := by
  obtain ⟨a, o, h1, h2, h3, h4, h5⟩ := R.ow i d hi e
  rw [hc] at h1
  cases h1
  have hl : i < ρ.length := (List.getElem?_eq_some_iff.mp e).1
  refine ⟨R.iop, fun b x q => ?_, by rw [List.length_set]; exact R.ln, fun j y hj ej => ?_, fun j y hj ej => ?_, fun j l x d1 d2 hj hl' e1 e2 e3 e4 => ?_, fun b x q n => ?_, R.fq, fun p hp => ?_⟩
  · rw [upd_ne (fun z => by rw [z, h2] at q; cases q)]
    exact R.ex _ _ q
  · have hne : j ≠ i := fun z => hj (z ▸ hi)
    rw [List.getElem?_set_ne (Ne.symm hne)] at ej
    exact R.fz j y hj ej
  · rcases set_get ej with ⟨rfl, e1, _⟩ | ⟨hne, e1⟩
    · cases e1
      exact ⟨c, o', hc, h2, upd_same, ow, h5⟩
    · obtain ⟨c2, u, q1, q2, q3, q4, q5⟩ := R.ow j y hj e1
      have z : c2 ≠ c := fun z => hne (R.sp j i c y d hj hi e1 e (by rw [q1, z]) hc)
      exact ⟨c2, u, q1, q2, by rw [upd_ne z]; exact q3, q4, q5⟩
  · have dom : ∀ j y, (ρ.set i (some d'))[j]? = some (some y) → ∃ z, ρ[j]? = some (some z) := fun j y q => by
      rcases set_get q with ⟨rfl, _, _⟩ | ⟨_, q⟩
      · exact ⟨d, e⟩
      · exact ⟨y, q⟩
    obtain ⟨z1, y1⟩ := dom j d1 e1
    obtain ⟨z2, y2⟩ := dom l d2 e2
    exact R.sp j l x z1 z2 hj hl' y1 y2 e3 e4
  · have z : b ≠ c := fun z => by
      subst z
      rcases h5 with h5 | h5
      · rw [q] at h5; cases h5
      · exact n _ h5 rfl
    rw [upd_ne z]
    exact R.fr b x q n
  · obtain ⟨q1, q2, y, q3⟩ := R.ios p hp
    refine ⟨q1, q2, ?_⟩
    by_cases hne : p.1 = i
    · rw [hne]
      exact ⟨d', List.getElem?_set_self hl⟩
    · rw [List.getElem?_set_ne (Ne.symm hne)]
      exact ⟨y, q3⟩
theorem gj_name {i : Nat} {x : Str} (hP : i ∉ P) (hN : X.N.Nodup) (hi : X.N[i]? = some x := by rfl) (hx : Loc X.env.scope x := by first | exact Or.inl rfl | exact Or.inr rfl) (hf : X.fn x = true ∨ X.env.scope.names.lookup x = some .local := by first | exact .inl rfl | exact .inr rfl) :
    GJ X P O (O.filter (· != i)) [i] (.Name x pos) (hName i) := (pg_name hN hi hx hf).imp fun v σ H Q ⟨B, Hf, ρ, d, ρ', R, r, e, k⟩ => by
  cases e
  exact k Hf _ H (Same.refl _) (R.setF hP r) ⟨List.length_set, fun j hj => List.getElem?_set_ne (fun z => hj (by simp [z]))⟩

/-! ### assignment -/
def cSet (i : Nat) (g : Gx) : Gs := fun ρ => (g ρ).map fun p => .nx (p.2.set i (some p.1))
theorem sj_set {i : Nat} {x : Str} {pos' : Pos} (hP : i ∉ P) (hN : X.N.Nodup) (he : EJ X P O e g) (hi : X.N[i]? = some x := by rfl) (hx : Loc X.env.scope x := by first | exact Or.inl rfl | exact Or.inr rfl) (hs : swapsWith e (some (.Name x pos')) pos.line X.env = pure false := by rfl)
    (hf : X.fn x = true ∨ X.env.scope.names.lookup x = some .local := by first | exact .inl rfl | exact .inr rfl) : SJ X P own Ob O (O.filter (· != i)) (.Assign [.Name x pos'] e pos) (cSet i g) := (ps_set hN hi hx he hs hf).imp fun D σ H ⟨B, Hf, ρ, r, R, e, k⟩ => by
  obtain ⟨⟨d, ρ1⟩, h1, e⟩ := Option.map_eq_some_iff.mp e
  cases e
  exact ⟨B, Hf, ρ, d, ρ1, R, h1, fun Hf1 v H1 s1 R1 rv => k Hf1 _ H1 s1 (R1.setF hP rv)⟩
theorem sj_setO {i : Nat} {x : Str} {pos' : Pos} (hP : i ∉ P) (hN : X.N.Nodup) (he : EO X P O e g) (hi : X.N[i]? = some x := by rfl) (hx : Loc X.env.scope x := by first | exact Or.inl rfl | exact Or.inr rfl) (hs : swapsWith e (some (.Name x pos')) pos.line X.env = pure false := by rfl)
    (hf : X.fn x = true ∨ X.env.scope.names.lookup x = some .local := by first | exact .inl rfl | exact .inr rfl) : SJ X P own Ob O (i :: O.filter (· != i)) (.Assign [.Name x pos'] e pos) (cSet i g) := (ps_set hN hi hx he hs hf).imp fun D σ H ⟨B, Hf, ρ, r, R, e, k⟩ => by
  obtain ⟨⟨d, ρ1⟩, h1, e⟩ := Option.map_eq_some_iff.mp e
  cases e
  exact ⟨B, Hf, ρ, d, ρ1, R, h1, fun Hf1 c o H1 s1 R1 n hc ow hb ne => k Hf1 _ H1 s1 (R1.setO hP n hc ow hb ne)⟩
/-- x, y = e, e' with plain local names -/
def cPar (i j : Nat) (g : Ga) : Gs := fun ρ => (g ρ).bind fun p => match p.1 with
  | [v, w] => some (.nx ((p.2.set i (some v)).set j (some w)))
  | _ => none
theorem sj_par {i j : Nat} {x y : Str} {px py pt : Pos} {kt k2 pt2} {gs : Ga} (hPi : i ∉ P) (hPj : j ∉ P) (hc : X.calm = true) (hN : X.N.Nodup) (hij : i ≠ j) (ha : AJ X P O [a, b] gs) (hi : X.N[i]? = some x := by rfl) (hj : X.N[j]? = some y := by rfl)
    (hx : X.env.scope.names.lookup x = some .local := by rfl) (hy : X.env.scope.names.lookup y = some .local := by rfl)
    (hw : swappedStores [.Tuple [.Name x px, .Name y py] kt pt] (.Tuple [a, b] k2 pt2) X.env = pure (some [x, y]) := by rfl)
    (hs : swapsWithSole [.Tuple [.Name x px, .Name y py] kt pt] (.Tuple [a, b] k2 pt2) pos.line X.env = pure false := by rfl) :
    SJ X P own Ob O ((O.filter (· != i)).filter (· != j)) (.Assign [.Tuple [.Name x px, .Name y py] kt pt] (.Tuple [a, b] k2 pt2) pos) (cPar i j gs) := (ps_par hc hN hi hj hij hx hy ha hw hs).imp fun D σ H ⟨B, Hf, ρ, r, R, e, k⟩ => by
  obtain ⟨⟨ds, ρ1⟩, h1, e⟩ := Option.bind_eq_some_iff.mp e
  refine ⟨B, Hf, ρ, ds, ρ1, R, h1, fun Hf1 vs H1 s1 R1 rv => ?_⟩
  match ds, e, rv with
  | [d1, d2], e, rv =>
    cases e
    obtain ⟨v, u, rfl, r1, r2⟩ := repL2 rv
    exact ⟨v, u, rfl, k Hf1 _ H1 s1 ((R1.setF hPi r1).setF hPj r2)⟩

/-! ### if, return, .. -/
def cIfS (t : Gt) (f h : Gs) : Gs := fun ρ => (t ρ).bind fun p => if p.1 = true then f p.2 else h p.2
theorem sj_if {c : Expr} {t : Gt} {s1 s2 : List Stmt} (hc : TJ X P O c t) (h1 : SSJ X P own Ob O O1 s1 f) (h2 : SSJ X P own Ob O O1 s2 h) : SJ X P own Ob O O1 (.If c s1 s2 pos) (cIfS t f h) := (ps_if hc h1 h2).imp fun D σ H ⟨B, Hf, ρ, r, R, e, k⟩ => by
  obtain ⟨⟨c, ρ1⟩, h1, e⟩ := Option.bind_eq_some_iff.mp e
  refine ⟨B, Hf, ρ, c, ρ1, R, h1, fun Hf1 H1 s1 R1 => ?_⟩
  cases c with
  | true => exact iteT ⟨B, Hf1, ρ1, r, R1, e, k.mono s1⟩
  | false => exact iteF ⟨B, Hf1, ρ1, r, R1, e, k.mono s1⟩
def cRet (g : Gx) : Gs := fun ρ => (g ρ).map fun p => .rt p.1 p.2
theorem sj_ret (he : EJ X P O e g) : SJ X P false Ob O O1 (.Return (some e) pos) (cRet g) := (ps_ret he).imp fun D σ H ⟨B, Hf, ρ, r, R, e, k⟩ => by
  obtain ⟨⟨d, ρ1⟩, h1, e⟩ := Option.map_eq_some_iff.mp e
  cases e
  exact ⟨B, Hf, ρ, d, ρ1, R, h1, fun Hf1 v H1 s1 R1 rv => k.1 rfl Hf1 v H1 s1 R1.fin rv⟩
theorem sj_retO (he : EO X P O e g) : SJ X P true Ob O O1 (.Return (some e) pos) (cRet g) := (ps_ret he).imp fun D σ H ⟨B, Hf, ρ, r, R, e, k⟩ => by
  obtain ⟨⟨d, ρ1⟩, h1, e⟩ := Option.map_eq_some_iff.mp e
  cases e
  exact ⟨B, Hf, ρ, d, ρ1, R, h1, fun Hf1 c o H1 s1 R1 n hc ow hb _ => k.2 rfl Hf1 c o H1 s1 R1.fin n hb hc ow⟩
/-- an owned slot handed back -/
theorem sj_retV (i : Nat) {x : Str} {px : Pos} (hP : i ∉ P) (hi : i ∈ O) (hN : X.N[i]? = some x := by rfl) (hv : Vis X.env.scope x := by first | exact Or.inl rfl | exact Or.inr (Or.inl rfl) | exact Or.inr (Or.inr rfl))
    (hd : (x == ("__debug__" : Str)) = false := by decide) (hcd : (x == ("__classdict__" : Str)) = false := by decide) : SJ X P true Ob O O1 (.Return (some (.Name x px)) pos) (cRet (cVar i)) := (ps_ret (pe_var hN hv hd hcd)).imp fun D σ H ⟨B, Hf, ρ, r, R, e, k⟩ => by
  obtain ⟨⟨d, ρ1⟩, h1, e⟩ := Option.map_eq_some_iff.mp e
  cases e
  obtain ⟨d', h2, h3⟩ := Option.map_eq_some_iff.mp h1
  cases h3
  obtain ⟨c, o, g1, g2, g3, g4, g5⟩ := R.ow i d hi (getD_some h2)
  exact ⟨_, g1, k.2 rfl Hf c o H (Same.refl _) R.fin g2 (g5.resolve_right fun z => hP (by rw [← R.iop]; exact List.mem_map.mpr ⟨_, z, rfl⟩)) g3 g4⟩
def cBrk : Gs := fun ρ => some (.bk ρ)
def cCnt : Gs := fun ρ => some (.ct ρ)
theorem sj_break : SJ X P own O O O1 (.Break pos) cBrk := ps_break.imp fun D σ H ⟨B, Hf, ρ, r, R, e, k⟩ => by
  cases e
  exact k Hf σ H (Same.refl _) R
theorem sj_continue : SJ X P own O O O1 (.Continue pos) cCnt := ps_continue.imp fun D σ H ⟨B, Hf, ρ, r, R, e, k⟩ => by
  cases e
  exact k Hf σ H (Same.refl _) R
theorem sj_pass : SJ X P own Ob O O (.Pass pos) cNil := ps_pass.imp fun D σ H ⟨B, Hf, ρ, r, R, e, k⟩ => by
  cases e
  exact k Hf σ H (Same.refl _) R
def cDrop (g : Gx) : Gs := fun ρ => (g ρ).map fun p => .nx p.2
theorem sj_expr (he : EJ X P O e g) (hs : swapsWith e none pos.line X.env = pure false := by rfl) : SJ X P own Ob O O (.Expr e pos) (cDrop g) := (ps_expr he hs).imp fun D σ H ⟨B, Hf, ρ, r, R, e, k⟩ => by
  obtain ⟨⟨d, ρ1⟩, h1, e⟩ := Option.map_eq_some_iff.mp e
  cases e
  exact ⟨B, Hf, ρ, d, ρ1, R, h1, fun Hf1 v H1 s1 R1 rv => k Hf1 σ H1 s1 R1⟩
end
end G
namespace G
open PySem PySem.Spec PyProof.Rows L2
/-! ### what is walked -/
def Wk (K : PySem.W.Frag) (J : It) (xs : List D) (Hf0 : Hp) : Prop := ∀ Hf H, Same Hf0 Hf → Same Hf H → (∀ (i : Nat) d, xs[i]? = some d → J.go i H ∧ ∀ x H', J.yld i H x H' → ∃ Hf', Gr Hf H Hf' H' ∧ Rep K Hf' d x) ∧ J.stop xs.length H
def tI (K : PySem.W.Frag) (P O : List Nat) (g : Ga) : TI := fun σ H R => ∃ B Hf ρ ds ρ', Rl K B P O Hf σ H ρ ∧ g ρ = some (ds, ρ') ∧ ∀ Hf' J H', Same Hf Hf' → Rl K B P O Hf' σ H' ρ' → Wk K J ds Hf' → R J H'
abbrev IJ (X : Cx) (P O : List Nat) (tg e : Expr) (g : Ga) : Prop := PI X tg e (tI X.K P O g)
section
variable {X : Cx} {P O O1 O2 Ob : List Nat} {own : Bool} {a b e tg : Expr} {es : List Expr} {ga gb g : Gx} {pos : Pos} {st : Stmt} {sts : List Stmt} {f h : Gs}
def itemsD : D → Option (List D)
  | .lst ds => some ds
  | .tup ds => some ds
  | .scr ns => some (ns.map D.int)
  | .str x => some (x.cps.toList.map fun c => D.str ⟨#[c]⟩)
  | _ => none
def cIt (g : Gx) : Ga := fun ρ => (g ρ).bind fun p => (itemsD p.1).map fun ds => (ds, p.2)
theorem wk_list {K : PySem.W.Frag} {Hf : Hp} {a : Addr} {xs : List V} {ds : List D} (h : ∀ Hf', Same Hf Hf' → SqL K Hf' a xs) (r : RepL K Hf ds xs) : Wk K (Itl K a) ds Hf := fun Hf1 H s1 s2 => by
  have hq : SqL K H a xs := s2.seq (h Hf1 s1)
  refine ⟨fun i d hd => ?_, ⟨xs, hq, by rw [r.len]; exact Nat.le_refl _⟩⟩
  obtain ⟨v, h1, h2⟩ := r.get hd
  refine ⟨⟨xs, v, hq, h1⟩, fun x H' hy => ?_⟩
  obtain ⟨rfl, hx⟩ := hy
  have := hx xs hq
  rw [h1] at this
  cases this
  exact ⟨Hf1, Gr.refl s2, Rep.mono s1 _ _ h2⟩
theorem wk_tup {K : PySem.W.Frag} {Hf : Hp} {a : Addr} {xs : List V} {ds : List D} (h : SqT K Hf a xs) (r : RepL K Hf ds xs) : Wk K (Itt K a) ds Hf := fun Hf1 H s1 s2 => by
  have hq : SqT K H a xs := sqT_mono s2 (sqT_mono s1 h)
  refine ⟨fun i d hd => ?_, ⟨xs, hq, by rw [r.len]; exact Nat.le_refl _⟩⟩
  obtain ⟨v, h1, h2⟩ := r.get hd
  refine ⟨⟨xs, v, hq, h1⟩, fun x H' hy => ?_⟩
  obtain ⟨rfl, hx⟩ := hy
  have := hx xs hq
  rw [h1] at this
  cases this
  exact ⟨Hf1, Gr.refl s2, Rep.mono s1 _ _ h2⟩
theorem wk_str {K : PySem.W.Frag} {Hf : Hp} {z : Str} : Wk K (Its z) (z.cps.toList.map fun c => D.str ⟨#[c]⟩) Hf := fun Hf1 H s1 s2 => by
  refine ⟨fun i d hd => ?_, ?_⟩
  · rw [List.getElem?_map] at hd
    obtain ⟨c, h1, h2⟩ := Option.map_eq_some_iff.mp hd
    have hl := (List.getElem?_eq_some_iff.mp h1).1
    refine ⟨(by
      show i < z.cps.size
      simpa using hl), fun x H' hy => ?_⟩
    obtain ⟨rfl, c', h3, rfl⟩ := hy
    have : c' = c := by
      rw [← Array.getElem?_toList, h1] at h3
      exact (Option.some.inj h3).symm
    subst this
    subst h2
    exact ⟨Hf1, Gr.refl s2, rfl⟩
  · show z.cps.size ≤ _
    simp
theorem wk_range {K : PySem.W.Frag} {Hf : Hp} {lo : Int} {n : Nat} : Wk K (Itr lo n) ((List.range n).map fun (i : Nat) => D.int (lo + (i : Int))) Hf := fun Hf1 H s1 s2 => by
  refine ⟨fun i d hd => ?_, ?_⟩
  · rw [List.getElem?_map] at hd
    obtain ⟨c, h1, h2⟩ := Option.map_eq_some_iff.mp hd
    obtain ⟨hl, h3⟩ := List.getElem?_eq_some_iff.mp h1
    rw [List.getElem_range] at h3
    subst h3 h2
    refine ⟨(by
      show i < n
      simpa using hl), fun x H' hy => ?_⟩
    obtain ⟨rfl, rfl⟩ := hy
    exact ⟨Hf1, Gr.refl s2, rfl⟩
  · show n ≤ _
    simp
theorem ij_any (he : EJ X P O e g) : IJ X P O tg e (cIt g) := ⟨fun pins s σ H R I ⟨B, Hf, ρ, ds, ρ', Rr, q, k⟩ => by
  obtain ⟨⟨d, ρ1⟩, h1, q⟩ := Option.bind_eq_some_iff.mp q
  obtain ⟨ds', h2, q⟩ := Option.map_eq_some_iff.mp q
  cases q
  cases d with
  | lst xs =>
    cases h2
    refine (pi_list he).run pins s σ H R I ⟨B, Hf, ρ, .lst _, _, Rr, h1, fun Hf1 v H1 s1 R1 rv => ?_⟩
    obtain ⟨a, us, rfl, h3, h4⟩ := rv
    exact ⟨a, rfl, ⟨us, SqL.of (R1.ex _ _ h3)⟩, k Hf1 _ H1 s1 R1 (wk_list (fun Hf' s => SqL.of (s _ _ h3)) h4)⟩
  | tup xs =>
    cases h2
    refine (pi_tup he).run pins s σ H R I ⟨B, Hf, ρ, .tup _, _, Rr, h1, fun Hf1 v H1 s1 R1 rv => ?_⟩
    obtain ⟨a, us, rfl, h3, h4⟩ := rv
    exact ⟨a, rfl, ⟨us, sqT_mono R1.ex h3⟩, k Hf1 _ H1 s1 R1 (wk_tup h3 h4)⟩
  | scr ns =>
    cases h2
    refine (pi_list he).run pins s σ H R I ⟨B, Hf, ρ, .scr _, _, Rr, h1, fun Hf1 v H1 s1 R1 rv => ?_⟩
    obtain ⟨a, rfl, h3⟩ := rv
    exact ⟨a, rfl, ⟨_, R1.ex.seq h3⟩, k Hf1 _ H1 s1 R1 (wk_list (fun Hf' s => s.seq h3) (RepL.ofInts _))⟩
  | str z =>
    cases h2
    refine (pi_str he).run pins s σ H R I ⟨B, Hf, ρ, .str _, _, Rr, h1, fun Hf1 v H1 s1 R1 rv => ?_⟩
    exact ⟨_, rv, k Hf1 _ H1 s1 R1 wk_str⟩
  | _ => cases h2⟩
def rngB (j : Int) : Bool := decide (-1000000000000 ≤ j) && decide (j ≤ 1000000000000)
theorem rngB_ok {j : Int} (h : rngB j = true) : -(2 ^ 62) ≤ j ∧ j < 2 ^ 62 := by
  have h1 := Bool.and_eq_true_iff.mp h
  have h2 := of_decide_eq_true h1.1
  have h3 := of_decide_eq_true h1.2
  omega
def rangeD (lo hi : Int) : List D := (List.range (hi - lo).toNat).map fun (i : Nat) => D.int (lo + (i : Int))
def rng1 : List D → Option (List D)
  | [.int j] => if rngB j = true then some (rangeD 0 j) else none
  | _ => none
def rng2 : List D → Option (List D)
  | [.int i, .int j] => if rngB i = true ∧ rngB j = true then some (rangeD i j) else none
  | _ => none
def cItA (f : List D → Option (List D)) (gs : Ga) : Ga := fun ρ => (gs ρ).bind fun p => (f p.1).map fun ds => (ds, p.2)
theorem ij_range1 {p : Pos} {gs : Ga} (hg : Gl X "range") (hm : X.mg "range" = none) (ha : AJ X P O [a] gs) (hs : starEach [a] X.env = [(false, eval a X.env)] := by rfl) : IJ X P O tg (.Call (.Name "range" p) [a] [] pos) (cItA rng1 gs) :=
  (pi_range1 hg hm ha hs).imp fun σ H R ⟨B, Hf, ρ, ds, ρ', Rr, e, k⟩ => by
    obtain ⟨⟨as, ρ1⟩, h1, e⟩ := Option.bind_eq_some_iff.mp e
    obtain ⟨ds', h2, e⟩ := Option.map_eq_some_iff.mp e
    cases e
    refine ⟨B, Hf, ρ, as, _, Rr, h1, fun Hf1 vs H1 s1 R1 rv => ?_⟩
    match as, h2, rv with
    | [.int j], h2, rv =>
      obtain ⟨hb, rfl⟩ := ite_some h2
      obtain ⟨v, rfl, rfl⟩ := repL1 rv
      refine ⟨j, rfl, (rngB_ok hb).1, (rngB_ok hb).2, k Hf1 _ H1 s1 R1 ?_⟩
      have := wk_range (K := X.K) (Hf := Hf1) (lo := 0) (n := j.toNat)
      unfold rangeD
      rw [Int.sub_zero]
      exact this
theorem ij_range2 {p : Pos} {gs : Ga} (hg : Gl X "range") (hm : X.mg "range" = none) (ha : AJ X P O [a, b] gs) (hs : starEach [a, b] X.env = [(false, eval a X.env), (false, eval b X.env)] := by rfl) (hs2 : starEach [b] X.env = [(false, eval b X.env)] := by rfl) : IJ X P O tg (.Call (.Name "range" p) [a, b] [] pos) (cItA rng2 gs) :=
  (pi_range2 hg hm ha hs hs2).imp fun σ H R ⟨B, Hf, ρ, ds, ρ', Rr, e, k⟩ => by
    obtain ⟨⟨as, ρ1⟩, h1, e⟩ := Option.bind_eq_some_iff.mp e
    obtain ⟨ds', h2, e⟩ := Option.map_eq_some_iff.mp e
    cases e
    refine ⟨B, Hf, ρ, as, _, Rr, h1, fun Hf1 vs H1 s1 R1 rv => ?_⟩
    match as, h2, rv with
    | [.int i, .int j], h2, rv =>
      obtain ⟨⟨hb, hc⟩, rfl⟩ := ite_some h2
      obtain ⟨v, u, rfl, rfl, rfl⟩ := repL2 rv
      exact ⟨i, j, rfl, ⟨(rngB_ok hb).1, (rngB_ok hb).2, (rngB_ok hc).1, (rngB_ok hc).2⟩, k Hf1 _ H1 s1 R1 wk_range⟩

/-! ### for -/
def loopL (body : D → Env → Option Out) : List D → Env → Option Out
  | [], ρ => some (.nx ρ)
  | x :: xs, ρ => (body x ρ).bind fun r => match r with
    | .nx ρ' => loopL body xs ρ'
    | .ct ρ' => loopL body xs ρ'
    | .bk ρ' => some (.nx ρ')
    | .rt d ρ' => some (.rt d ρ')
def cFor (it : Ga) (h : Gh) (body : Gs) : Gs := fun ρ => (it ρ).bind fun p => loopL (fun x ρ => (h x ρ).bind body) p.1 p.2
theorem drop_get {α : Type} {l : List α} {i : Nat} {x : α} (h : l[i]? = some x) : l.drop i = x :: l.drop (i + 1) := by
  obtain ⟨hl, e⟩ := List.getElem?_eq_some_iff.mp h
  rw [← e]
  exact List.drop_eq_getElem_cons hl
theorem sj_for {it : Ga} {hh : Gh} {S : List Nat} (hc : X.calm = true) (hp : PassesOwn (model X.prog X.w) X.A X.env X.xe) (hi : IJ X P O tg e it) (hg : GJ X P O O1 S tg hh) (hb : SSJ X P own O O1 O sts f) (hs : ∀ x, foldedSetIterable e X.env x = pure x := by intro _; rfl) :
    SJ X P own Ob O O (.For tg e sts [] pos) (cFor it hh f) := (ps_for hp hc hi hg hb hs).imp fun D σ H ⟨B, Hf, ρ, r, R, e, k⟩ => by
  obtain ⟨⟨ds, ρ1⟩, h1, e⟩ := Option.bind_eq_some_iff.mp e
  refine ⟨B, Hf, ρ, ds, ρ1, R, h1, fun Hf1 J H1 s1 R1 wk => ?_⟩
  refine ⟨fun i m σ' H' => ∃ Hf' ρ', Same Hf1 Hf' ∧ Rl X.K B P O Hf' σ' H' ρ' ∧ i ≤ ds.length ∧ m = ds.length - i ∧ loopL (fun x ρ => (hh x ρ).bind f) (ds.drop i) ρ' = some r ∧ Post X.K B P own Ob O Hf' D r, ⟨ds.length, Hf1, ρ1, Same.refl _, R1, Nat.zero_le _, by omega, e, k.mono s1⟩, ?_⟩
  rintro i m σ' H' ⟨Hf', ρ', s2, R2, hi, rfl, el, kp⟩
  obtain ⟨w1, w2⟩ := wk Hf' H' s2 R2.ex
  cases hd : ds[i]? with
  | none =>
    have hl : ds.length ≤ i := List.getElem?_eq_none_iff.mp hd
    have : i = ds.length := by omega
    subst this
    rw [List.drop_length] at el
    cases el
    exact .inl ⟨w2, kp Hf' σ' H' (Same.refl _) R2⟩
  | some d =>
    have hl : i < ds.length := (List.getElem?_eq_some_iff.mp hd).1
    obtain ⟨g1, g2⟩ := w1 i d hd
    rw [drop_get hd] at el
    obtain ⟨rb, e1, el⟩ := Option.bind_eq_some_iff.mp el
    obtain ⟨ρ2, e2, e3⟩ := Option.bind_eq_some_iff.mp e1
    refine .inr ⟨g1, fun σ2 H2 => ∃ Hf2 ρ3, Same Hf1 Hf2 ∧ Rl X.K B P O Hf2 σ2 H2 ρ3 ∧ i + 1 ≤ ds.length ∧ loopL (fun x ρ => (hh x ρ).bind f) (ds.drop (i + 1)) ρ3 = some r ∧ Post X.K B P own Ob O Hf2 D r, fun σ2 H2 ⟨Hf2, ρ3, q1, q2, q3, q4, q5⟩ => ⟨ds.length - (i + 1), by omega, Hf2, ρ3, q1, q2, q3, rfl, q4, q5⟩, fun x H2 hy => ?_⟩
    obtain ⟨Hf2, gr, rx⟩ := g2 x H2 hy
    refine ⟨B, Hf2, ρ', d, ρ2, R2.gr gr, rx, e2, fun Hf3 σ3 H3 s3 R3 _ => ⟨B, Hf3, ρ2, rb, R3, e3, ?_⟩⟩
    have s4 : Same Hf' Hf3 := gr.s1.trans s3
    cases rb with
    | nx ρ3 => exact fun Hf4 σ4 H4 s5 R4 => ⟨Hf4, ρ3, (s2.trans s4).trans s5, R4, hl, el, kp.mono (s4.trans s5)⟩
    | ct ρ3 => exact fun Hf4 σ4 H4 s5 R4 => ⟨Hf4, ρ3, (s2.trans s4).trans s5, R4, hl, el, kp.mono (s4.trans s5)⟩
    | bk ρ3 =>
      cases el
      exact fun Hf4 σ4 H4 s5 R4 => kp Hf4 σ4 H4 (s4.trans s5) R4
    | rt z ρ3 =>
      cases el
      exact kp.mono s4
/-! ### while: at most n turns -/
def loopW (t : Gt) (body : Gs) : Nat → Env → Option Out
  | 0, _ => none
  | n + 1, ρ => (t ρ).bind fun p => if p.1 = true then (body p.2).bind fun r => match r with
    | .nx ρ' => loopW t body n ρ'
    | .ct ρ' => loopW t body n ρ'
    | .bk ρ' => some (.nx ρ')
    | .rt d ρ' => some (.rt d ρ')
    else some (.nx p.2)
def cWhile (n : Nat) (t : Gt) (body : Gs) : Gs := loopW t body n
theorem sj_while {t : Gt} (n : Nat) (hp : PassesOwn (model X.prog X.w) X.A X.env X.xe) (hc : TJ X P O e t) (hb : SSJ X P own O O O sts f) : SJ X P own Ob O O (.While e sts [] pos) (cWhile n t f) := (ps_while hp hc hb).imp fun D σ H ⟨B, Hf, ρ, r, R, e, k⟩ => by
  refine ⟨fun m σ' H' => ∃ Hf' ρ', Same Hf Hf' ∧ Rl X.K B P O Hf' σ' H' ρ' ∧ loopW t f m ρ' = some r ∧ Post X.K B P own Ob O Hf' D r, ⟨n, Hf, ρ, Same.refl _, R, e, k⟩, ?_⟩
  rintro m σ' H' ⟨Hf', ρ', s2, R2, el, kp⟩
  cases m with
  | zero => cases el
  | succ m =>
    obtain ⟨⟨c, ρ1⟩, h1, el⟩ := Option.bind_eq_some_iff.mp el
    refine ⟨B, Hf', ρ', c, ρ1, R2, h1, fun Hf1 H1 s1 R1 => ?_⟩
    cases c with
    | false =>
      cases el
      exact iteF (kp Hf1 σ' H1 s1 R1)
    | true =>
      obtain ⟨rb, e1, el⟩ := Option.bind_eq_some_iff.mp el
      refine iteT ⟨fun σ2 H2 => ∃ Hf2 ρ3, Same Hf Hf2 ∧ Rl X.K B P O Hf2 σ2 H2 ρ3 ∧ loopW t f m ρ3 = some r ∧ Post X.K B P own Ob O Hf2 D r, fun σ2 H2 q => ⟨m, Nat.lt_succ_self _, q⟩, B, Hf1, ρ1, rb, R1, e1, ?_⟩
      cases rb with
      | nx ρ3 => exact fun Hf4 σ4 H4 s5 R4 => ⟨Hf4, ρ3, (s2.trans s1).trans s5, R4, el, kp.mono (s1.trans s5)⟩
      | ct ρ3 => exact fun Hf4 σ4 H4 s5 R4 => ⟨Hf4, ρ3, (s2.trans s1).trans s5, R4, el, kp.mono (s1.trans s5)⟩
      | bk ρ3 =>
        cases el
        exact fun Hf4 σ4 H4 s5 R4 => kp Hf4 σ4 H4 (s1.trans s5) R4
      | rt z ρ3 =>
        cases el
        exact kp.mono s1
end
end G
namespace G
open PySem PySem.Spec PyProof.Rows L2
/-! ### the tightest base -/
def OwnN (B : Bs) (O : List Nat) (σ : St) (ρ : Env) (a : Addr) : Prop := ∃ i d, i ∈ O ∧ ρ[i]? = some (some d) ∧ σ[i]? = some (some (.ref a)) ∧ (i, a) ∉ B.io
open Classical in
noncomputable def tgt (O : List Nat) (σ : St) (ρ : Env) (B : Bs) (Hf H : Hp) : Bs := ⟨fun b => if OwnN B O σ ρ b then none else H b, Hf, B.io⟩
section
variable {K : PySem.W.Frag} {B : Bs} {P O : List Nat} {Hf H Hf' H' : Hp} {σ σ' : St} {ρ ρ' : Env}
open Classical in
theorem tgt_hc (n : ¬ OwnN B O σ ρ b) : (tgt O σ ρ B Hf H).Hc b = H b := by
  show (if OwnN B O σ ρ b then none else H b) = H b
  rw [if_neg n]
theorem Rl.ownN_hc (R : Rl K B P O Hf σ H ρ) {b : Addr} (n : OwnN B O σ ρ b) : B.Hc b = none := by
  obtain ⟨i, d, h1, h2, h3, h4⟩ := n
  obtain ⟨a, o, g1, _, _, _, g5⟩ := R.ow i d h1 h2
  rw [h3] at g1
  cases g1
  exact g5.resolve_right h4
open Classical in
theorem Rl.tight (R : Rl K B P O Hf σ H ρ) : Rl K (tgt O σ ρ B Hf H) P O Hf σ H ρ where
  iop := R.iop
  ex := R.ex
  ln := R.ln
  fz := R.fz
  ow := fun i d hi e => by
    obtain ⟨a, o, h1, h2, h3, h4, h5⟩ := R.ow i d hi e
    refine ⟨a, o, h1, h2, h3, h4, ?_⟩
    by_cases q : (i, a) ∈ B.io
    · exact .inr q
    · refine .inl ?_
      show (if OwnN B O σ ρ a then none else H a) = none
      rw [if_pos ⟨i, d, hi, e, h1, q⟩]
  sp := R.sp
  fr := fun b o e _ => by
    have e : (if OwnN B O σ ρ b then none else H b) = some o := e
    split at e
    · cases e
    · exact e
  fq := fun _ _ => rfl
  ios := R.ios
theorem Rl.back (R : Rl K B P O Hf σ H ρ) (R' : Rl K (tgt O σ ρ B Hf H) P O Hf' σ' H' ρ') : Rl K B P O Hf' σ' H' ρ' where
  iop := R.iop
  ex := R'.ex
  ln := R'.ln
  fz := R'.fz
  ow := fun i d hi e => by
    obtain ⟨a, o, h1, h2, h3, h4, h5⟩ := R'.ow i d hi e
    refine ⟨a, o, h1, h2, h3, h4, h5.imp (fun q => ?_) id⟩
    refine Classical.byContradiction fun n => ?_
    have h6 : ¬ OwnN B O σ ρ a := fun z => n (R.ownN_hc z)
    rw [tgt_hc h6] at q
    exact R.hc n q
  sp := R'.sp
  fr := fun b o e n => by
    have h6 : ¬ OwnN B O σ ρ b := fun z => by rw [R.ownN_hc z] at e; cases e
    exact R'.fr b o (by rw [tgt_hc h6]; exact R.fr b o e n) n
  fq := fun b hb => by
    have h6 : ¬ OwnN B O σ ρ b := fun z => hb (R.ownN_hc z)
    rw [R'.fq b (by rw [tgt_hc h6]; exact R.hc hb)]
    exact R.fq b hb
  ios := R'.ios
/-! ### slots forgotten, and known again -/
def wipeE (ρ : Env) : List Nat → Env
  | [] => ρ
  | v :: vs => (wipeE ρ vs).set v none
def restE (ρ0 ρ : Env) : List Nat → Env
  | [] => ρ
  | v :: vs => (restE ρ0 ρ vs).set v (ρ0[v]?.getD none)
theorem wipeE_len (ρ : Env) : ∀ vs, (wipeE ρ vs).length = ρ.length
  | [] => rfl
  | v :: vs => by unfold wipeE; rw [List.length_set, wipeE_len ρ vs]
theorem restE_len (ρ0 ρ : Env) : ∀ vs, (restE ρ0 ρ vs).length = ρ.length
  | [] => rfl
  | v :: vs => by unfold restE; rw [List.length_set, restE_len ρ0 ρ vs]
theorem wipeE_some {i : Nat} {d : D} : ∀ {vs : List Nat}, (wipeE ρ vs)[i]? = some (some d) → ρ[i]? = some (some d) ∧ i ∉ vs
  | [], h => ⟨h, by simp⟩
  | v :: vs, h => by
    rcases set_get (l := wipeE ρ vs) h with ⟨_, e, _⟩ | ⟨hne, e⟩
    · cases e
    · obtain ⟨h1, h2⟩ := wipeE_some e
      exact ⟨h1, by simp [hne, h2]⟩
theorem restE_out {ρ0 : Env} {i : Nat} : ∀ {vs : List Nat}, i ∉ vs → (restE ρ0 ρ vs)[i]? = ρ[i]?
  | [], _ => rfl
  | v :: vs, h => by
    have hv : i ≠ v := fun z => h (by simp [z])
    unfold restE
    rw [List.getElem?_set_ne (Ne.symm hv)]
    exact restE_out fun z => h (List.mem_cons_of_mem _ z)
theorem restE_in {ρ0 : Env} {i : Nat} {d : D} : ∀ {vs : List Nat}, i ∈ vs → (restE ρ0 ρ vs)[i]? = some (some d) → ρ0[i]? = some (some d)
  | [], h, _ => by cases h
  | v :: vs, h, e => by
    rcases set_get (l := restE ρ0 ρ vs) e with ⟨rfl, e, _⟩ | ⟨hne, e⟩
    · exact getD_some e.symm
    · exact restE_in ((List.mem_cons.mp h).resolve_left hne) e
theorem wipe_outV {i : Nat} : ∀ {vs : List Nat}, i ∉ vs → (wipe σ vs)[i]? = σ[i]?
  | [], _ => rfl
  | v :: vs, h => by
    have hv : i ≠ v := fun z => h (by simp [z])
    unfold wipe
    rw [List.getElem?_set_ne (Ne.symm hv)]
    exact wipe_outV fun z => h (List.mem_cons_of_mem _ z)
theorem wipe_inV {i : Nat} : ∀ {vs : List Nat}, i ∈ vs → i < σ.length → (wipe σ vs)[i]? = some none
  | [], h, _ => by cases h
  | v :: vs, h, hl => by
    unfold wipe
    by_cases e : v = i
    · subst e
      exact List.getElem?_set_self (by rw [wipe_length]; exact hl)
    · rw [List.getElem?_set_ne e]
      exact wipe_inV ((List.mem_cons.mp h).resolve_left (Ne.symm e)) hl
theorem wipe_ext {vs : List Nat} (hl : σ'.length = σ.length) (h : ∀ i, i ∉ vs → σ'[i]? = σ[i]?) : wipe σ' vs = wipe σ vs := by
  apply List.ext_getElem?
  intro i
  by_cases hi : i ∈ vs
  · by_cases hb : i < σ.length
    · rw [wipe_inV hi (by rw [hl]; exact hb), wipe_inV hi hb]
    · rw [List.getElem?_eq_none_iff.mpr (by rw [wipe_length]; omega), List.getElem?_eq_none_iff.mpr (by rw [wipe_length]; omega)]
  · rw [wipe_outV hi, wipe_outV hi, h i hi]
theorem Rl.wipe {vs : List Nat} (R : Rl K B P O Hf σ H ρ) (hv : ∀ i ∈ vs, i ∉ O) : Rl K B P O Hf (wipe σ vs) H (wipeE ρ vs) where
  iop := R.iop
  ex := R.ex
  ln := by rw [wipe_length, wipeE_len]; exact R.ln
  fz := fun i d hi e => by
    obtain ⟨h1, h2⟩ := wipeE_some e
    rw [wipe_outV h2]
    exact R.fz i d hi h1
  ow := fun i d hi e => by
    obtain ⟨h1, h2⟩ := wipeE_some e
    rw [wipe_outV h2]
    exact R.ow i d hi h1
  sp := fun i j a d e hi hj h1 h2 h3 h4 => by
    obtain ⟨h5, h6⟩ := wipeE_some h1
    obtain ⟨h7, h8⟩ := wipeE_some h2
    rw [wipe_outV h6] at h3
    rw [wipe_outV h8] at h4
    exact R.sp i j a d e hi hj h5 h7 h3 h4
  fr := R.fr
  fq := R.fq
  ios := fun p hp => by
    obtain ⟨h1, h2, d, h3⟩ := R.ios p hp
    have h4 : p.1 ∉ vs := fun z => hv _ z h1
    refine ⟨h1, by rw [wipe_outV h4]; exact h2, d, ?_⟩
    have : ∀ vs : List Nat, p.1 ∉ vs → (wipeE ρ vs)[p.1]? = ρ[p.1]? := by
      intro vs
      induction vs with
      | nil => intro _; rfl
      | cons v vs ih =>
        intro h
        have hv : p.1 ≠ v := fun z => h (by simp [z])
        unfold wipeE
        rw [List.getElem?_set_ne (Ne.symm hv)]
        exact ih fun z => h (List.mem_cons_of_mem _ z)
    rw [this vs h4]
    exact h3
/-- behind a block: R0 ahead of it -/
theorem Rl.rest {vs : List Nat} {Hf0 H0 : Hp} {ρ0 : Env} (R0 : Rl K B P O Hf0 σ H0 ρ0) (s : Same Hf0 Hf) (R : Rl K B P O Hf (L2.wipe σ vs) H ρ) (hv : ∀ i ∈ vs, i ∉ O) : Rl K B P O Hf σ H (restE ρ0 ρ vs) where
  iop := R.iop
  ex := R.ex
  ln := by rw [restE_len, ← R.ln, wipe_length]
  fz := fun i d hi e => by
    by_cases h : i ∈ vs
    · obtain ⟨v, h1, h2⟩ := R0.fz i d hi (restE_in h e)
      exact ⟨v, h1, Rep.mono s _ _ h2⟩
    · rw [restE_out h] at e
      obtain ⟨v, h1, h2⟩ := R.fz i d hi e
      rw [wipe_outV h] at h1
      exact ⟨v, h1, h2⟩
  ow := fun i d hi e => by
    have h : i ∉ vs := fun z => hv i z hi
    rw [restE_out h] at e
    have := R.ow i d hi e
    rw [wipe_outV h] at this
    exact this
  sp := fun i j a d e hi hj h1 h2 h3 h4 => by
    have hi' : i ∉ vs := fun z => hv i z hi
    have hj' : j ∉ vs := fun z => hv j z hj
    rw [restE_out hi'] at h1
    rw [restE_out hj'] at h2
    refine R.sp i j a d e hi hj h1 h2 ?_ ?_
    · rw [wipe_outV hi']; exact h3
    · rw [wipe_outV hj']; exact h4
  fr := R.fr
  fq := R.fq
  ios := fun p hp => by
    obtain ⟨h1, h2, d, h3⟩ := R.ios p hp
    have h4 : p.1 ∉ vs := fun z => hv _ z h1
    rw [wipe_outV h4] at h2
    exact ⟨h1, h2, d, by rw [restE_out h4]; exact h3⟩
end
/-! ### comprehensions -/
def cYes : Gt := fun ρ => some (true, ρ)
abbrev NJ (X : Cx) (P O : List Nat) (ifs : List Expr) (t : Gt) : Prop := PTs X ifs (tT X.K P O t)
theorem _root_.L2.PTs.imp {X : Cx} {e : List Expr} {t t' : TT} (h : PTs X e t) (i : ∀ σ H Q, t' σ H Q → t σ H Q) : PTs X e t' := ⟨fun pins s σ H Q I q => h.run pins s σ H Q I (i _ _ _ q)⟩
theorem nj_nil {X : Cx} {P O : List Nat} : NJ X P O [] cYes := pts_nil.imp fun σ H Q ⟨B, Hf, ρ, d, ρ', R, e, k⟩ => by
  cases e
  exact k Hf H (Same.refl _) R
theorem nj_one {X : Cx} {P O : List Nat} {c : Expr} {t : Gt} (h : TJ X P O c t) : NJ X P O [c] t := pts_one h
def loopC (h : Gh) (t : Gt) (g : Gx) (vs : List Nat) : List D → Env → Option (List D × Env)
  | [], ρ => some ([], ρ)
  | x :: xs, ρ => (h x ρ).bind fun ρ1 => (t ρ1).bind fun p => if p.1 = true then (g p.2).bind fun q => (loopC h t g vs xs (wipeE q.2 vs)).map fun r => (q.1 :: r.1, r.2)
    else loopC h t g vs xs (wipeE p.2 vs)
def cComp (it : Ga) (h : Gh) (t : Gt) (g : Gx) (vs : List Nat) : Gx := fun ρ => (it ρ).bind fun p => if p.1.length ≤ 100000 then (loopC h t g vs p.1 (wipeE p.2 vs)).map fun q => (.lst q.1, restE p.2 q.2 vs) else none
section
variable {X : Cx} {P O : List Nat} {it : Ga} {hh : Gh} {t : Gt} {g : Gx} {vs S : List Nat}
theorem tLc_o {K : PySem.W.Frag} {σ : St} {H : Hp} {Q : VK} (hv : ∀ i ∈ vs, i ∉ O) (hS : ∀ i ∈ S, i ∈ vs) (q : tO K P O (cComp it hh t g vs) σ H Q) : tLc (tI K P O it) (tG K P O O S hh) (tT K P O t) (tE K P O g) vs σ H Q := by
  obtain ⟨B, Hf, ρ, z, ρ', R, e, k⟩ := q
  obtain ⟨⟨ds, ρ1⟩, h1, e⟩ := Option.bind_eq_some_iff.mp e
  have e : (if ds.length ≤ 100000 then (loopC hh t g vs ds (wipeE ρ1 vs)).map fun q => (D.lst q.1, restE ρ1 q.2 vs) else none) = some (z, ρ') := e
  by_cases hz : ds.length ≤ 100000
  case neg => rw [if_neg hz] at e; cases e
  rw [if_pos hz] at e
  obtain ⟨⟨zs, ρz⟩, h2, e⟩ := Option.map_eq_some_iff.mp e
  cases e
  refine ⟨B, Hf, ρ, ds, ρ1, R, h1, fun Hf1 J H1 s1 R1 wk Dd nD => ?_⟩
  have ioD : ∀ p ∈ B.io, p.2 ≠ Dd := fun p hp z => by
    obtain ⟨h1, h2, d, h3⟩ := R1.ios p hp
    obtain ⟨a, o, e1, _, e2, _⟩ := R1.ow _ _ h1 h3
    rw [h2] at e1
    cases e1
    rw [z, nD] at e2
    cases e2
  refine ⟨fun i m H' => ∃ Hf' ρ' acc accV rest, Same Hf1 Hf' ∧ Rl K B P O Hf' (wipe σ vs) H' ρ' ∧ i ≤ ds.length ∧ m = ds.length - i ∧ loopC hh t g vs (ds.drop i) ρ' = some (rest, ρz) ∧ acc ++ rest = zs ∧ acc.length ≤ i ∧
    Hf' Dd = none ∧ H' Dd = some (.lst accV) ∧ RepL K Hf' acc accV ∧ (∀ j e, j ∈ O → ρ'[j]? = some (some e) → (wipe σ vs)[j]? ≠ some (some (.ref Dd))), ⟨ds.length, Hf1, wipeE ρ1 vs, [], [], zs, Same.refl _, ?_, Nat.zero_le _, by omega, h2, rfl, Nat.le_refl _, R1.ex.free nD, upd_same, rfl, fun j e hj he => ?_⟩, ?_⟩
  · exact (R1.gr (Gr.newO R1.ex nD)).wipe hv
  · obtain ⟨h3, h4⟩ := wipeE_some he
    rw [wipe_outV h4]
    exact fresh_ne R1 nD j e hj h3
  rintro i m H2 ⟨Hf2, ρ2, acc, accV, rest, s2, R2, hi, rfl, el, ea, hlen, n2, hD, ra, neD⟩
  obtain ⟨w1, w2⟩ := wk Hf2 H2 s2 R2.ex
  cases hd : ds[i]? with
  | none =>
    have hl : ds.length ≤ i := List.getElem?_eq_none_iff.mp hd
    have : i = ds.length := by omega
    subst this
    rw [List.drop_length] at el
    cases el
    rw [List.append_nil] at ea
    subst ea
    have R3 : Rl K B P O Hf2 σ H2 (restE ρ1 ρz vs) := R1.rest s2 R2 hv
    exact .inl ⟨w2, k Hf2 Dd _ H2 (s1.trans s2) R3 n2 hD ⟨accV, rfl, ra⟩ (fresh_hc R1 nD) fun j e hj he => by
      have hj' : j ∉ vs := fun z => hv j z hj
      rw [restE_out hj'] at he
      have := neD j e hj he
      rw [wipe_outV hj'] at this
      exact this⟩
  | some d =>
    have hl : i < ds.length := (List.getElem?_eq_some_iff.mp hd).1
    obtain ⟨g1, g2⟩ := w1 i d hd
    rw [drop_get hd] at el
    obtain ⟨ρ3, e3, el⟩ := Option.bind_eq_some_iff.mp el
    obtain ⟨⟨c, ρ4⟩, e4, el⟩ := Option.bind_eq_some_iff.mp el
    refine .inr ⟨g1, fun H' => ∃ Hf' ρ' acc accV rest, Same Hf1 Hf' ∧ Rl K B P O Hf' (wipe σ vs) H' ρ' ∧ i + 1 ≤ ds.length ∧ loopC hh t g vs (ds.drop (i + 1)) ρ' = some (rest, ρz) ∧ acc ++ rest = zs ∧ acc.length ≤ i + 1 ∧
      Hf' Dd = none ∧ H' Dd = some (.lst accV) ∧ RepL K Hf' acc accV ∧ (∀ j e, j ∈ O → ρ'[j]? = some (some e) → (wipe σ vs)[j]? ≠ some (some (.ref Dd))), fun H' ⟨Hf', ρ', acc, accV, rest, q1, q2, q3, q4, q5, q6, q7, q8, q9, q10⟩ => ⟨ds.length - (i + 1), by omega, Hf', ρ', acc, accV, rest, q1, q2, q3, rfl, q4, q5, q6, q7, q8, q9, q10⟩, fun x H3 hy => ?_⟩
    obtain ⟨Hf3, gr, rx⟩ := g2 x H3 hy
    have R3 := R2.gr gr
    have hD3 : H3 Dd = some (.lst accV) := by rw [(gr.old Dd (by rw [hD]; exact fun z => nomatch z)).2]; exact hD
    have n3 : Hf3 Dd = none := by rw [(gr.old Dd (by rw [hD]; exact fun z => nomatch z)).1]; exact n2
    have T3 := R3.tight
    have notD : ¬ OwnN B O (wipe σ vs) ρ2 Dd := fun ⟨j, e, h1, h2, h3, _⟩ => neD j e h1 h2 h3
    have hcD : (tgt O (wipe σ vs) ρ2 B Hf3 H3).Hc Dd = some (.lst accV) := by rw [tgt_hc notD]; exact hD3
    -- what a later relation says of the new list
    have atD : ∀ {Hf' H' : Hp} {σ' : St} {ρ' : Env}, Rl K (tgt O (wipe σ vs) ρ2 B Hf3 H3) P O Hf' σ' H' ρ' → H' Dd = some (.lst accV) ∧ Hf' Dd = none ∧ ∀ j e, j ∈ O → ρ'[j]? = some (some e) → σ'[j]? ≠ some (some (.ref Dd)) := fun {Hf' H' σ' ρ'} R' => by
      refine ⟨R'.fr Dd _ hcD fun p hp => ioD p hp, ?_, fun j e hj he z => ?_⟩
      · rw [R'.fq Dd (by rw [hcD]; exact fun z => nomatch z)]
        exact n3
      · obtain ⟨a, o, h1, _, _, _, h5⟩ := R'.ow j e hj he
        rw [z] at h1
        cases h1
        rcases h5 with h5 | h5
        · rw [hcD] at h5; cases h5
        · exact ioD _ h5 rfl
    refine ⟨_, Hf3, ρ2, d, ρ3, T3, rx, e3, fun Hf4 σ4 H4 s4 R4 hσ => ⟨?_, _, Hf4, ρ3, c, ρ4, R4, e4, fun Hf5 H5 s5 R5 => ?_⟩⟩
    · have h6 : wipe σ4 vs = wipe (wipe σ vs) vs := wipe_ext hσ.1 fun j hj => hσ.2 j fun z => hj (hS j z)
      rw [h6]
      exact wipe_ext (wipe_length _ _) fun j hj => wipe_outV hj
    · have hw : wipe σ4 vs = wipe σ vs := by
        have h6 : wipe σ4 vs = wipe (wipe σ vs) vs := wipe_ext hσ.1 fun j hj => hσ.2 j fun z => hj (hS j z)
        rw [h6]
        exact wipe_ext (wipe_length _ _) fun j hj => wipe_outV hj
      cases c with
      | false =>
        have el : loopC hh t g vs (ds.drop (i + 1)) (wipeE ρ4 vs) = some (rest, ρz) := el
        have R6 := (R3.back R5).wipe hv
        rw [hw] at R6
        obtain ⟨a1, a2, a3⟩ := atD R5
        refine iteF ⟨Hf5, wipeE ρ4 vs, acc, accV, rest, ((s2.trans gr.s1).trans s4).trans s5, R6, hl, el, ea, by omega, a2, a1, RepL.mono ((gr.s1.trans s4).trans s5) _ _ ra, fun j e hj he => ?_⟩
        obtain ⟨h7, h8⟩ := wipeE_some he
        rw [wipe_outV h8, ← wipe_outV (σ := σ) (vs := vs) h8, ← hw, wipe_outV h8]
        exact a3 j e hj h7
      | true =>
        have el : ((g ρ4).bind fun q => (loopC hh t g vs (ds.drop (i + 1)) (wipeE q.2 vs)).map fun r => (q.1 :: r.1, r.2)) = some (rest, ρz) := el
        obtain ⟨⟨y, ρ5⟩, e5, el⟩ := Option.bind_eq_some_iff.mp el
        obtain ⟨⟨rest', ρz'⟩, e6, el⟩ := Option.map_eq_some_iff.mp el
        cases el
        refine iteT ⟨_, Hf5, ρ4, y, ρ5, R5, e5, fun Hf6 yv H6 s6 R6 ry => ?_⟩
        obtain ⟨a1, a2, a3⟩ := atD R6
        have sA : Same Hf2 Hf6 := ((gr.s1.trans s4).trans s5).trans s6
        refine ⟨accV, a1, ?_, ?_⟩
        · rw [ra.len]
          exact Nat.lt_of_le_of_lt hlen (Nat.lt_of_lt_of_le hl (Nat.le_trans hz (by decide)))
        · have R7 := (R3.back R6).wipe hv
          rw [hw] at R7
          have ne7 : ∀ j e, j ∈ O → (wipeE ρ5 vs)[j]? = some (some e) → (wipe σ vs)[j]? ≠ some (some (.ref Dd)) := fun j e hj he => by
            obtain ⟨h7, h8⟩ := wipeE_some he
            rw [wipe_outV h8, ← wipe_outV (σ := σ) (vs := vs) h8, ← hw, wipe_outV h8]
            exact a3 j e hj h7
          have R8 : Rl K B P O Hf6 (wipe σ vs) (upd H6 Dd (.lst (accV ++ [yv]))) (wipeE ρ5 vs) := by
            refine ⟨R7.iop, fun b u q => ?_, R7.ln, R7.fz, fun j e hj he => ?_, R7.sp, fun b u q n => ?_, R7.fq, R7.ios⟩
            · rw [upd_ne (fun z => by rw [z, a2] at q; cases q)]
              exact R7.ex _ _ q
            · obtain ⟨c, u, h1, h2, h3, h4, h5⟩ := R7.ow j e hj he
              exact ⟨c, u, h1, h2, by rw [upd_ne (fun z => ne7 j e hj he (by rw [h1, z]))]; exact h3, h4, h5⟩
            · have z : b ≠ Dd := fun z => by
                have := fresh_hc R1 nD
                rw [z, this] at q
                cases q
              rw [upd_ne z]
              exact R7.fr b u q n
          exact ⟨Hf6, wipeE ρ5 vs, acc ++ [y], accV ++ [yv], rest', s2.trans sA, R8, hl, e6, by rw [List.append_assoc]; exact ea, by rw [List.length_append]; show acc.length + 1 ≤ i + 1; omega, a2, upd_same, (RepL.mono sA _ _ ra).append (RepL.cons ry RepL.nil), ne7⟩
end
end G
namespace G
open PySem PySem.Spec PyProof.Rows L2
section
variable {X : Cx} {P O O1 O2 Ob S vs : List Nat} {own : Bool} {a b e elt tg iter : Expr} {es ifs : List Expr} {ga gb g : Gx} {pos : Pos} {st : Stmt} {sts : List Stmt} {f h : Gs} {it : Ga} {hh : Gh} {t : Gt} {scope : Scope}
theorem eo_comp {ow : List (Str × Nat)} (hc : X.calm = true) (hN : X.N.Nodup) (hi : IJ X P O tg iter it) (ok : BlkOk X.N X.env.scope scope ow)
    (hg : ∀ (s : Shared) (H : Hp) (C : Addr) (cl : List (Str × Addr)) (fp : List Addr), GJ (X.blk s H scope (compEnvC scope cl C X.env) fp) P O O S tg hh)
    (ht : ∀ (s : Shared) (H : Hp) (C : Addr) (cl : List (Str × Addr)) (fp : List Addr), NJ (X.blk s H scope (compEnvC scope cl C X.env) fp) P O ifs t)
    (he : ∀ (s : Shared) (H : Hp) (C : Addr) (cl : List (Str × Addr)) (fp : List Addr), EJ (X.blk s H scope (compEnvC scope cl C X.env) fp) P O elt g)
    (hv : ∀ i ∈ ow.map (·.2), i ∉ O := by decide) (hS : ∀ i ∈ S, i ∈ ow.map (·.2) := by decide) (hs : ∀ x, foldedSetIterable iter X.env x = pure x := by intro _; rfl) : EO X P O (.ListComp elt [⟨tg, iter, ifs, 0⟩] scope pos) (cComp it hh t g (ow.map (·.2))) :=
  (pe_lc hc hN hi ok hg ht he hs).imp fun _ _ _ => tLc_o hv hS
theorem sj_setComp {ow : List (Str × Nat)} {i : Nat} {y : Str} {py spos : Pos} (hP : i ∉ P) (hc : X.calm = true) (hN : X.N.Nodup) (hsw : swapsWith (.ListComp elt [⟨tg, iter, ifs, 0⟩] scope pos) (some (.Name y py)) spos.line X.env = pure true)
    (hi : IJ X P O tg iter it) (ok : BlkOk X.N X.env.scope scope ow)
    (hg : ∀ (s : Shared) (H : Hp) (C : Addr) (cl : List (Str × Addr)) (fp : List Addr), GJ (X.blk s H scope (compEnvC scope cl C X.env) fp) P O O S tg hh)
    (ht : ∀ (s : Shared) (H : Hp) (C : Addr) (cl : List (Str × Addr)) (fp : List Addr), NJ (X.blk s H scope (compEnvC scope cl C X.env) fp) P O ifs t)
    (he : ∀ (s : Shared) (H : Hp) (C : Addr) (cl : List (Str × Addr)) (fp : List Addr), EJ (X.blk s H scope (compEnvC scope cl C X.env) fp) P O elt g)
    (hv : ∀ i ∈ ow.map (·.2), i ∉ O := by decide) (hS : ∀ i ∈ S, i ∈ ow.map (·.2) := by decide) (hy : X.N[i]? = some y := by rfl) (hyl : X.env.scope.names.lookup y = some .local := by rfl) (hs : ∀ x, foldedSetIterable iter X.env x = pure x := by intro _; rfl) :
    SJ X P own Ob O (O.filter (· != i)) (.Assign [.Name y py] (.ListComp elt [⟨tg, iter, ifs, 0⟩] scope pos) spos) (cSet i (cComp it hh t g (ow.map (·.2)))) :=
  (ps_setLc hc hN hy hyl hsw hi ok hg ht he hs).imp fun D σ H ⟨B, Hf, ρ, r, R, e, k⟩ => by
    obtain ⟨⟨d, ρ1⟩, h1, e⟩ := Option.map_eq_some_iff.mp e
    cases e
    refine tLc_o hv hS (tO_E ⟨B, Hf, ρ, d, ρ1, R, h1, fun Hf1 v H1 s1 R1 rv => ?_⟩)
    exact k Hf1 _ H1 s1 (R1.setF hP rv)
theorem sj_setCompO {ow : List (Str × Nat)} {i : Nat} {y : Str} {py spos : Pos} (hP : i ∉ P) (hc : X.calm = true) (hN : X.N.Nodup) (hsw : swapsWith (.ListComp elt [⟨tg, iter, ifs, 0⟩] scope pos) (some (.Name y py)) spos.line X.env = pure true)
    (hi : IJ X P O tg iter it) (ok : BlkOk X.N X.env.scope scope ow)
    (hg : ∀ (s : Shared) (H : Hp) (C : Addr) (cl : List (Str × Addr)) (fp : List Addr), GJ (X.blk s H scope (compEnvC scope cl C X.env) fp) P O O S tg hh)
    (ht : ∀ (s : Shared) (H : Hp) (C : Addr) (cl : List (Str × Addr)) (fp : List Addr), NJ (X.blk s H scope (compEnvC scope cl C X.env) fp) P O ifs t)
    (he : ∀ (s : Shared) (H : Hp) (C : Addr) (cl : List (Str × Addr)) (fp : List Addr), EJ (X.blk s H scope (compEnvC scope cl C X.env) fp) P O elt g)
    (hv : ∀ i ∈ ow.map (·.2), i ∉ O := by decide) (hS : ∀ i ∈ S, i ∈ ow.map (·.2) := by decide) (hy : X.N[i]? = some y := by rfl) (hyl : X.env.scope.names.lookup y = some .local := by rfl) (hs : ∀ x, foldedSetIterable iter X.env x = pure x := by intro _; rfl) :
    SJ X P own Ob O (i :: O.filter (· != i)) (.Assign [.Name y py] (.ListComp elt [⟨tg, iter, ifs, 0⟩] scope pos) spos) (cSet i (cComp it hh t g (ow.map (·.2)))) :=
  (ps_setLc hc hN hy hyl hsw hi ok hg ht he hs).imp fun D σ H ⟨B, Hf, ρ, r, R, e, k⟩ => by
    obtain ⟨⟨d, ρ1⟩, h1, e⟩ := Option.map_eq_some_iff.mp e
    cases e
    refine tLc_o hv hS ⟨B, Hf, ρ, d, ρ1, R, h1, fun Hf1 c o H1 s1 R1 n hc ow hb ne => ?_⟩
    exact k Hf1 _ H1 s1 (R1.setO hP n hc ow hb ne)

/-! ### a list that is owned, changed by its methods -/
def MtO (K : PySem.W.Frag) (r : V → List V → Hp → VK → Prop) (f : List D → List D → Option (D × List D)) : Prop := ∀ Hf H c ds xs as vs z ds', Same Hf H → H c = some (.lst xs) → RepL K Hf ds xs → RepL K Hf as vs → f ds as = some (z, ds') →
  ∀ Q : VK, (∀ v xs', Rep K Hf z v → RepL K Hf ds' xs' → Q v (upd H c (.lst xs'))) → r (.ref c) vs H Q
def cMt (f : List D → List D → Option (D × List D)) (i : Nat) (gs : Ga) : Gx := fun ρ => (ρ[i]?.getD none).bind fun _ => (gs ρ).bind fun p => (p.2[i]?.getD none).bind fun d => match d with
  | .lst ds => (f ds p.1).map fun q => (q.1, p.2.set i (some (.lst q.2)))
  | _ => none
theorem tMt {K : PySem.W.Frag} {r : V → List V → Hp → VK → Prop} {m : List D → List D → Option (D × List D)} (hm : MtO K r m) {i : Nat} {gs : Ga} (hi : i ∈ O) {σ : St} {H : Hp} {Q : VK} (q : tE K P O (cMt m i gs) σ H Q) :
    tBM K "list" r (tVar i) (tA K P O gs) σ H Q := by
  obtain ⟨B, Hf, ρ, z, ρ', R, e, k⟩ := q
  obtain ⟨d0, h0, e⟩ := Option.bind_eq_some_iff.mp e
  obtain ⟨⟨as, ρ1⟩, h1, e⟩ := Option.bind_eq_some_iff.mp e
  obtain ⟨d, h2, e⟩ := Option.bind_eq_some_iff.mp e
  obtain ⟨c, o, g1, g2, g3, g4, _⟩ := R.ow i d0 hi (getD_some h0)
  obtain ⟨xs0, rfl⟩ := own_lst g4
  refine ⟨.ref c, g1, .inl ⟨rfl, xs0, SqL.of g3⟩, B, Hf, ρ, as, ρ1, R, h1, fun Hf1 vs H1 s1 R1 rv => ?_⟩
  obtain ⟨c', o', q1, q2, q3, q4, _⟩ := R1.ow i d hi (getD_some h2)
  rw [g1] at q1
  cases q1
  cases d with
  | lst ds =>
    obtain ⟨⟨z', ds'⟩, h3, e⟩ := Option.map_eq_some_iff.mp e
    cases e
    obtain ⟨xs, rfl, rx⟩ := q4
    refine hm Hf1 H1 c ds xs as vs z' ds' R1.ex q3 rx rv h3 Q fun v xs' r1 r2 => ?_
    exact k Hf1 v _ s1 (R1.mut hi (getD_some h2) g1 ⟨xs', rfl, r2⟩) r1
  | _ => cases e
theorem tMt0 {K : PySem.W.Frag} {r : V → List V → Hp → VK → Prop} {m : List D → List D → Option (D × List D)} (hm : MtO K r m) {i : Nat} (hi : i ∈ O) {σ : St} {H : Hp} {Q : VK} (q : tE K P O (cMt m i (evA [])) σ H Q) :
    tBM0 K "list" r (tVar i) σ H Q := by
  obtain ⟨B, Hf, ρ, z, ρ', R, e, k⟩ := q
  obtain ⟨d0, h0, e⟩ := Option.bind_eq_some_iff.mp e
  obtain ⟨⟨as, ρ1⟩, h1, e⟩ := Option.bind_eq_some_iff.mp e
  cases h1
  obtain ⟨d, h2, e⟩ := Option.bind_eq_some_iff.mp e
  obtain ⟨c, o, g1, g2, g3, g4, _⟩ := R.ow i d hi (getD_some h2)
  cases d with
  | lst ds =>
    obtain ⟨⟨z', ds'⟩, h3, e⟩ := Option.map_eq_some_iff.mp e
    cases e
    obtain ⟨xs, rfl, rx⟩ := g4
    refine ⟨.ref c, g1, .inl ⟨rfl, xs, SqL.of g3⟩, hm Hf H c ds xs [] [] z' ds' R.ex g3 rx rfl h3 Q fun v xs' r1 r2 => ?_⟩
    exact k Hf v _ (Same.refl _) (R.mut hi (getD_some h2) g1 ⟨xs', rfl, r2⟩) r1
  | _ => cases e
def appD : List D → List D → Option (D × List D)
  | ds, [d] => if ds.length < 100000 then some (.non, ds ++ [d]) else none
  | _, _ => none
theorem app_o {K : PySem.W.Frag} : MtO K rAppend appD := fun Hf H c ds xs as vs z ds' s hc rx ra e Q k => by
  match as, e with
  | [d], e =>
    obtain ⟨h, e⟩ := ite_some e
    cases e
    obtain ⟨v, rfl, rv⟩ := repL1 ra
    exact ⟨c, xs, v, rfl, rfl, hc, by rw [rx.len]; exact Nat.lt_of_lt_of_le h (by decide), k .non _ rfl (rx.append (RepL.cons rv RepL.nil))⟩
def popD : List D → List D → Option (D × List D)
  | ds, [] => (ds[ds.length - 1]?).map fun d => (d, ds.dropLast)
  | _, _ => none
theorem RepL.dropLast {K : PySem.W.Frag} {H : Hp} {ds : List D} {xs : List V} (h : RepL K H ds xs) : RepL K H ds.dropLast xs.dropLast := by
  rw [List.dropLast_eq_take, List.dropLast_eq_take, h.len]
  exact h.take _
theorem pop_o {K : PySem.W.Frag} : MtO K rPop popD := fun Hf H c ds xs as vs z ds' s hc rx ra e Q k => by
  match as, e with
  | [], e =>
    obtain ⟨d, h, e⟩ := Option.map_eq_some_iff.mp e
    cases e
    cases ra
    obtain ⟨v, h1, h2⟩ := rx.get h
    exact ⟨c, xs, v, rfl, rfl, hc, by rw [rx.len]; exact h1, k v _ h2 rx.dropLast⟩
def popAtD : List D → List D → Option (D × List D)
  | ds, [.int i] => if -1000000000 ≤ i ∧ i ≤ 1000000000 then (seqIndex? i ds.length).bind fun k => (ds[k]?).map fun d => (d, ds.eraseIdx k) else none
  | _, _ => none
theorem popAt_o {K : PySem.W.Frag} : MtO K rPopAt popAtD := fun Hf H c ds xs as vs z ds' s hc rx ra e Q k => by
  match as, e with
  | [.int i], e =>
    have e : (if -1000000000 ≤ i ∧ i ≤ 1000000000 then (seqIndex? i ds.length).bind fun k => (ds[k]?).map fun d => (d, ds.eraseIdx k) else none) = some (z, ds') := e
    by_cases hi : -1000000000 ≤ i ∧ i ≤ 1000000000
    case neg => rw [if_neg hi] at e; cases e
    rw [if_pos hi] at e
    obtain ⟨j, h1, e⟩ := Option.bind_eq_some_iff.mp e
    obtain ⟨d, h2, e⟩ := Option.map_eq_some_iff.mp e
    cases e
    obtain ⟨v, rfl, rfl⟩ := repL1 ra
    obtain ⟨u, h3, h4⟩ := rx.get h2
    exact ⟨c, xs, i, j, u, rfl, rfl, hc, by omega, by omega, by rw [rx.len]; exact h1, h3, k u _ h4 (rx.eraseIdx j)⟩
section
variable {i : Nat} {x : Str} {px apos : Pos} {gs : Ga}
theorem ej_append (i : Nat) (hi : i ∈ O) (ha : AJ X P O [e] gs) (hN : X.N[i]? = some x := by rfl) (hv : Vis X.env.scope x := by first | exact Or.inl rfl | exact Or.inr (Or.inl rfl) | exact Or.inr (Or.inr rfl))
    (h : PE X (.Call (.Attribute (.Name x px) "append" apos) [e] [] pos) (tBM X.K "list" rAppend (tVar i) (tA X.K P O gs))) : EJ X P O (.Call (.Attribute (.Name x px) "append" apos) [e] [] pos) (cMt appD i gs) := h.imp fun _ _ _ => tMt app_o hi
theorem ej_mt {r : V → List V → Hp → VK → Prop} {m : List D → List D → Option (D × List D)} {nm : Str} (i : Nat) (hi : i ∈ O) (hm : MtO X.K r m)
    (h : PE X (.Call (.Attribute (.Name x px) nm apos) (e :: es) [] pos) (tBM X.K "list" r (tVar i) (tA X.K P O gs))) : EJ X P O (.Call (.Attribute (.Name x px) nm apos) (e :: es) [] pos) (cMt m i gs) := h.imp fun _ _ _ => tMt hm hi
theorem ej_mt0 {r : V → List V → Hp → VK → Prop} {m : List D → List D → Option (D × List D)} {nm : Str} (i : Nat) (hi : i ∈ O) (hm : MtO X.K r m)
    (h : PE X (.Call (.Attribute (.Name x px) nm apos) [] [] pos) (tBM0 X.K "list" r (tVar i))) : EJ X P O (.Call (.Attribute (.Name x px) nm apos) [] [] pos) (cMt m i (evA [])) := h.imp fun _ _ _ => tMt0 hm hi
end
/-! ### x[k] = e, x owned -/
def cSetIx (i : Nat) (g gk : Gx) : Gs := fun ρ => (g ρ).bind fun p => (p.2[i]?.getD none).bind fun _ => (gk p.2).bind fun q => (q.2[i]?.getD none).bind fun d => match d, q.1 with
  | .lst ds, .int k => (ixN ds.length k).map fun j => .nx (q.2.set i (some (.lst (ds.set j p.1))))
  | _, _ => none
theorem sj_setIx {i : Nat} {x : Str} {px spos : Pos} {k : Expr} {gk : Gx} (hi : i ∈ O) (he : EJ X P O e g) (hk : EJ X P O k gk)
    (h : PS X (.Assign [.Subscript (.Name x px) k pos] e spos) (tAsg (tE X.K P O g) (gSub (tVar i) (tE X.K P O gk) rSetL))) : SJ X P own Ob O O (.Assign [.Subscript (.Name x px) k pos] e spos) (cSetIx i g gk) := h.imp fun D σ H ⟨B, Hf, ρ, r, R, e, kk⟩ => by
  obtain ⟨⟨d, ρ1⟩, h1, e⟩ := Option.bind_eq_some_iff.mp e
  obtain ⟨d0, hd0, e⟩ := Option.bind_eq_some_iff.mp e
  obtain ⟨⟨z, ρ2⟩, h2, e⟩ := Option.bind_eq_some_iff.mp e
  obtain ⟨l, h3, e⟩ := Option.bind_eq_some_iff.mp e
  refine ⟨B, Hf, ρ, d, ρ1, R, h1, fun Hf1 v H1 s1 R1 rv => ?_⟩
  obtain ⟨c, o, g1, g2, g3, g4, _⟩ := R1.ow i d0 hi (getD_some hd0)
  refine ⟨.ref c, g1, B, Hf1, ρ1, z, ρ2, R1, h2, fun Hf2 zv H2 s2 R2 rz => ?_⟩
  obtain ⟨c', o', q1, q2, q3, q4, _⟩ := R2.ow i l hi (getD_some h3)
  rw [g1] at q1
  cases q1
  cases l with
  | lst ds =>
    cases z with
    | int kz =>
      obtain ⟨j, h5, e⟩ := Option.map_eq_some_iff.mp e
      cases e
      obtain ⟨xs, rfl, rx⟩ := q4
      refine ⟨c, xs, kz, j, rfl, rz, q3, by rw [rx.len]; exact h5, ?_⟩
      exact kk Hf2 σ _ (s1.trans s2) (R2.mut hi (getD_some h3) g1 ⟨_, rfl, rx.set j (Rep.mono s2 _ _ rv)⟩)
    | _ => cases e
  | _ => cases e

/-! ### tuples of targets -/
def tGs (K : PySem.W.Frag) (P O O' S : List Nat) (h : List D → Env → Option Env) : TGs := fun vs σ H Q => ∃ B Hf ρ ds ρ', Rl K B P O Hf σ H ρ ∧ RepL K Hf ds vs ∧ h ds ρ = some ρ' ∧ ∀ Hf' σ' H', Same Hf Hf' → Rl K B P O' Hf' σ' H' ρ' → (σ'.length = σ.length ∧ ∀ i, i ∉ S → σ'[i]? = σ[i]?) → Q σ' H'
abbrev GsJ (X : Cx) (P O O' S : List Nat) (es : List Expr) (h : List D → Env → Option Env) : Prop := PGs X es (tGs X.K P O O' S h)
theorem _root_.L2.PGs.imp {X : Cx} {e : List Expr} {t t' : TGs} (h : PGs X e t) (i : ∀ v σ H Q, t' v σ H Q → t v σ H Q) : PGs X e t' := ⟨fun pins s σ H v u Q I r q => h.run pins s σ H v u Q I r (i _ _ _ _ q)⟩
def hNil : List D → Env → Option Env
  | [], ρ => some ρ
  | _, _ => none
def hCons (h : Gh) (hs : List D → Env → Option Env) : List D → Env → Option Env
  | d :: ds, ρ => (h d ρ).bind fun ρ' => hs ds ρ'
  | _, _ => none
theorem gsj_nil : GsJ X P O O [] [] hNil := pgs_nil.imp fun vs σ H Q ⟨B, Hf, ρ, ds, ρ', R, r, e, k⟩ => by
  cases ds with
  | nil =>
    cases e
    have r : vs = [] := r
    exact ⟨r, k Hf σ H (Same.refl _) R ⟨rfl, fun _ _ => rfl⟩⟩
  | cons d ds => cases e
theorem gsj_cons {S1 S2 : List Nat} {hs : List D → Env → Option Env} (h1 : GJ X P O O1 S1 e hh) (h2 : GsJ X P O1 O2 S2 es hs) (hst : (assignEach (e :: es) X.env).map (·.2) = assign e X.env :: (assignEach es X.env).map (·.2) := by rfl) : GsJ X P O O2 (S1 ++ S2) (e :: es) (hCons hh hs) :=
  (pgs_cons h1 h2 hst).imp fun vs σ H Q ⟨B, Hf, ρ, ds, ρ', R, r, e, k⟩ => by
    cases ds with
    | nil => cases e
    | cons d ds =>
      obtain ⟨v, vs', rfl, r1, r2⟩ := r
      obtain ⟨ρ1, e1, e2⟩ := Option.bind_eq_some_iff.mp e
      refine ⟨v, vs', rfl, B, Hf, ρ, d, ρ1, R, r1, e1, fun Hf1 σ1 H1 s1 R1 q1 => ⟨B, Hf1, ρ1, ds, ρ', R1, RepL.mono s1 _ _ r2, e2, fun Hf2 σ2 H2 s2 R2 q2 => k Hf2 σ2 H2 (s1.trans s2) R2 ⟨q2.1.trans q1.1, fun i hi => ?_⟩⟩⟩
      rw [List.mem_append] at hi
      rw [q2.2 i fun z => hi (.inr z), q1.2 i fun z => hi (.inl z)]
/-- (a, b, ..) = a tuple or a list -/
def hTup (n : Nat) (hs : List D → Env → Option Env) : Gh := fun d ρ => match d with
  | .tup ds => if ds.length = n then hs ds ρ else none
  | .lst ds => if ds.length = n then hs ds ρ else none
  | _ => none
theorem pg_or {e : Expr} {t u : TG} (h1 : PG X e t) (h2 : PG X e u) : PG X e (fun v σ H Q => t v σ H Q ∨ u v σ H Q) := ⟨fun pins s σ H v u' Q I r q => q.elim (h1.run pins s σ H v u' Q I r) (h2.run pins s σ H v u' Q I r)⟩
theorem gj_tup {k : Nat} {n : Nat} {hs : List D → Env → Option Env} (hc : X.calm = true) (h : GsJ X P O O1 S es hs) (hn : (assignEach es X.env).length = n := by rfl) (hst : (assignEach es X.env).findIdx? (·.1) = none := by rfl) : GJ X P O O1 S (.Tuple es k pos) (hTup n hs) :=
  (pg_or (pg_tup hc h hn hst) (pg_unl hc h hn hst)).imp fun v σ H Q ⟨B, Hf, ρ, d, ρ', R, r, e, kk⟩ => by
    cases d with
    | tup ds =>
      have e : (if ds.length = n then hs ds ρ else none) = some ρ' := e
      by_cases hl : ds.length = n
      case neg => rw [if_neg hl] at e; cases e
      rw [if_pos hl] at e
      obtain ⟨c, xs, rfl, h1, h2⟩ := r
      exact .inl ⟨c, xs, rfl, sqT_mono R.ex h1, by rw [h2.len]; exact hl, B, Hf, ρ, ds, ρ', R, h2, e, kk⟩
    | lst ds =>
      have e : (if ds.length = n then hs ds ρ else none) = some ρ' := e
      by_cases hl : ds.length = n
      case neg => rw [if_neg hl] at e; cases e
      rw [if_pos hl] at e
      obtain ⟨c, xs, rfl, h1, h2⟩ := r
      exact .inr ⟨c, xs, rfl, SqL.of (R.ex _ _ h1), by rw [h2.len]; exact hl, B, Hf, ρ, ds, ρ', R, h2, e, kk⟩
    | _ => cases e
/-- target = value -/
def cAsg (h : Gh) (g : Gx) : Gs := fun ρ => (g ρ).bind fun p => (h p.1 p.2).map Out.nx
theorem sj_asg (he : EJ X P O e g) (hg : GJ X P O O1 S tg hh) (hs : swapsWithSole [tg] e pos.line X.env = pure false := by rfl) (hw : swappedStores [tg] e X.env = pure none := by rfl)
    (h1 : (assignEach [tg] X.env).map (·.2) = [assign tg X.env] := by rfl) : SJ X P own Ob O O1 (.Assign [tg] e pos) (cAsg hh g) := (ps_asg he hg hs hw h1).imp fun D σ H ⟨B, Hf, ρ, r, R, e, k⟩ => by
  obtain ⟨⟨d, ρ1⟩, h1, e⟩ := Option.bind_eq_some_iff.mp e
  obtain ⟨ρ2, h2, e⟩ := Option.map_eq_some_iff.mp e
  cases e
  exact ⟨B, Hf, ρ, d, ρ1, R, h1, fun Hf1 v H1 s1 R1 rv => ⟨B, Hf1, ρ1, d, ρ2, R1, rv, h2, fun Hf2 σ2 H2 s2 R2 _ => k Hf2 σ2 H2 (s1.trans s2) R2⟩⟩
end

/-! ### a def -/
def outsOf : List Nat → Env → Option (List D)
  | [], _ => some []
  | i :: is, ρ => (ρ[i]?.getD none).bind fun d => (outsOf is ρ).map fun ds => d :: ds
def runB (n m : Nat) (P : List Nat) (own : Bool) (b : Gs) : Fn := fun ds => if ds.length = m then (b (ds.map some ++ List.replicate (n - m) none)).bind fun r => match r with
    | .rt d ρ => (outsOf P ρ).map fun o => (d, o)
    | .nx ρ => if own then none else (outsOf P ρ).map fun o => (.non, o)
    | _ => none
  else none
theorem outsOf_len : ∀ {P : List Nat} {ρ : Env} {o : List D}, outsOf P ρ = some o → o.length = P.length
  | [], _, _, h => by cases h; rfl
  | i :: is, ρ, o, h => by
    obtain ⟨d, h1, h⟩ := Option.bind_eq_some_iff.mp h
    obtain ⟨ds, h2, h⟩ := Option.map_eq_some_iff.mp h
    cases h
    rw [List.length_cons, List.length_cons, outsOf_len h2]
theorem outsOf_get : ∀ {P : List Nat} {ρ : Env} {o : List D} {n i : Nat} {d : D}, outsOf P ρ = some o → P[n]? = some i → o[n]? = some d → ρ[i]? = some (some d)
  | [], _, _, _, _, _, _, h, _ => by simp at h
  | j :: is, ρ, o, 0, i, d, h, h1, h2 => by
    obtain ⟨d', h3, h⟩ := Option.bind_eq_some_iff.mp h
    obtain ⟨ds, h4, h⟩ := Option.map_eq_some_iff.mp h
    cases h
    cases h1
    cases h2
    exact getD_some h3
  | j :: is, ρ, o, n + 1, i, d, h, h1, h2 => by
    obtain ⟨d', h3, h⟩ := Option.bind_eq_some_iff.mp h
    obtain ⟨ds, h4, h⟩ := Option.map_eq_some_iff.mp h
    cases h
    exact outsOf_get (n := n) h4 (by simpa using h1) (by simpa using h2)
section
variable {Pg : Program} {w : World} {K : PySem.W.Frag} {mg : Str → Option Value} {base : Heap}
theorem start_get {N : List Str} {vs : List V} {i : Nat} {v : V} (h : vs[i]? = some v) : (L2.start N vs)[i]? = some (some v) := by
  unfold L2.start
  have hl := (List.getElem?_eq_some_iff.mp h).1
  rw [List.getElem?_append_left (by simpa using hl), List.getElem?_map, h]
  rfl
theorem env_get {n : Nat} {ds : List D} {i : Nat} {d : D} (h : (ds.map some ++ List.replicate n none)[i]? = some (some d)) : ds[i]? = some d := by
  by_cases hl : i < ds.length
  · rw [List.getElem?_append_left (by simpa using hl), List.getElem?_map] at h
    obtain ⟨d', h1, h2⟩ := Option.map_eq_some_iff.mp h
    cases h2
    exact h1
  · rw [List.getElem?_append_right (by simpa using hl), List.getElem?_replicate] at h
    split at h <;> cases h
theorem env_of {n : Nat} {ds : List D} {i : Nat} {d : D} (h : ds[i]? = some d) : (ds.map some ++ List.replicate n none)[i]? = some (some d) := by
  have hl := (List.getElem?_eq_some_iff.mp h).1
  rw [List.getElem?_append_left (by simpa using hl), List.getElem?_map, h]
  rfl
theorem fn_mk {x qual : Str} {st : Stmt} {f : Addr} {fd : FuncData} {N ps : List Str} {k : Nat} {P Oe : List Nat} {own : Bool} {b : Gs} (F : Fun K x qual st f fd) (S : FnScope N ps (defScope st))
    (hb : ∀ (cdv : Value) (A : Around) (outer : List PySem.Env) (s : Shared) (H : Hp) (E : XK), Room k (A.deeper (envOfC qual (defScope st) s.heap.objs.size f cdv)) →
      SSJ (cxOf CX0 Pg w K mg base N qual (defScope st) f cdv A outer s H E).nox P own [] P Oe (defBody st) b) : FnOk Pg w K mg base CX0 (k + 1) f fd ps (spF K (runB N.length ps.length P own b) P own) := by
  have hpl : ps.length ≤ N.length := by have := congrArg List.length S.pre; rw [List.length_take] at this; omega
  have lenD : ∀ {ds : List D} {r : D} {outs : List D}, runB N.length ps.length P own b ds = some (r, outs) → ds.length = ps.length := fun {ds r outs} h => by
    unfold runB at h
    by_cases hl : ds.length = ps.length
    · exact hl
    · rw [if_neg hl] at h; cases h
  refine F.ok S (fun vs H Q E ⟨Hf, ds, r, outs, io, _, _, hl, _, _, _, hF, _⟩ => hl.trans (lenD hF)) (fun cdv A outer s H vs Q E hr h => ⟨_, hb cdv A outer s H E hr, ?_⟩)
  obtain ⟨Hf, ds, r, outs, io, hP, hs, hl, hfz, hio, hsp, hF, hol, hQ⟩ := h
  have hds := lenD hF
  unfold runB at hF
  rw [if_pos hds] at hF
  obtain ⟨ro, h1, hF⟩ := Option.bind_eq_some_iff.mp hF
  have mem : ∀ i, i ∈ P → ∃ p ∈ io, p.1 = i := fun i hi => by
    rw [← hP] at hi
    obtain ⟨p, hp, e⟩ := List.mem_map.mp hi
    exact ⟨p, hp, e⟩
  have R : Rl K ⟨H, Hf, io⟩ P P Hf (L2.start N vs) H (ds.map some ++ List.replicate (N.length - ps.length) none) := by
    refine ⟨hP, hs, ?_, fun i d hi e => ?_, fun i d hi e => ?_, fun i j c d e hi hj e1 e2 e3 e4 => ?_, fun _ _ e _ => e, fun _ _ => rfl, fun p hp => ?_⟩
    · unfold L2.start
      rw [List.length_append, List.length_append, List.length_map, List.length_map, List.length_replicate, List.length_replicate]
      omega
    · obtain ⟨v, h2, h3⟩ := hfz i d (env_get e) hi
      exact ⟨v, start_get h2, h3⟩
    · obtain ⟨p, hp, rfl⟩ := mem i hi
      obtain ⟨d', o, h2, h3, h4, h5, h6⟩ := hio p hp
      rw [env_get e] at h2
      cases h2
      exact ⟨p.2, o, start_get h3, h4, h5, h6, .inr hp⟩
    · obtain ⟨p, hp, rfl⟩ := mem i hi
      obtain ⟨q, hq, rfl⟩ := mem j hj
      obtain ⟨_, _, _, h3, _⟩ := hio p hp
      obtain ⟨_, _, _, h4, _⟩ := hio q hq
      rw [start_get h3] at e3
      rw [start_get h4] at e4
      cases e3
      refine hsp p hp q hq ?_
      injection e4 with e4
      injection e4 with e4
      injection e4 with e4
      exact e4.symm
    · obtain ⟨d', o, h2, h3, h4, h5, h6⟩ := hio p hp
      exact ⟨by rw [← hP]; exact List.mem_map.mpr ⟨p, hp, rfl⟩, start_get h3, d', env_of h2⟩
  have fin : ∀ {Hf' H' : Hp} {ρ' : Env} {os : List D}, outsOf P ρ' = some os → outs = os → Same Hf Hf' → Fin K ⟨H, Hf, io⟩ Hf' H' ρ' → (own = false → ∀ v, Rep K Hf' r v → Q v H') ∧ (own = true → ∀ a o, H a = none → Hf' a = none → H' a = some o → Own K Hf' r o → Q (.ref a) H') := fun {Hf' H' ρ' os} ho he t1 fn => by
    subst he
    refine hQ Hf' H' t1 fn.ex fn.fq fn.fr fun n p d e1 e2 => ?_
    obtain ⟨d', o, h2, h3, h4⟩ := fn.io p (List.mem_of_getElem? e1)
    have : P[n]? = some p.1 := by rw [← hP, List.getElem?_map, e1]; rfl
    have h5 := outsOf_get ho this e2
    rw [h2] at h5
    cases h5
    exact ⟨o, h3, h4⟩
  refine ⟨⟨H, Hf, io⟩, Hf, _, ro, R, h1, ?_⟩
  cases ro with
  | nx ρ' =>
    have hF : (if own = true then none else (outsOf P ρ').map fun o => (D.non, o)) = some (r, outs) := hF
    cases own with
    | true => cases hF
    | false =>
      obtain ⟨os, h2, hF⟩ := Option.map_eq_some_iff.mp hF
      cases hF
      exact fun Hf' σ' H' s1 R1 => (fin h2 rfl s1 R1.fin).1 rfl .non rfl
  | bk ρ' => cases hF
  | ct ρ' => cases hF
  | rt d ρ' =>
    obtain ⟨os, h2, hF⟩ := Option.map_eq_some_iff.mp hF
    cases hF
    exact ⟨fun ho Hf' v H' s1 fn rv => (fin h2 rfl s1 fn).1 ho v rv, fun ho Hf' a o H' s1 fn n hc ha ow => (fin h2 rfl s1 fn).2 ho a o hc n ha ow⟩
end
end G
namespace G
open PySem PySem.Spec PyProof.Rows L2
/-! ### a def of the module, a constant of the module -/
structure Cal (Pg : Program) (w : World) (K : PySem.W.Frag) (mg : Str → Option Value) (base : Heap) (k : Nat) (x : Str) (ps : List Str) (F : Fn) (P : List Nat) (own : Bool) : Prop where
  ex : ∃ f fd, FnOk Pg w K mg base CX0 k f fd ps (spF K F P own) ∧ mg x = some (.ref f) ∧ PySem.W.keepIn K (.ref f) = true ∧ Binds K fd ps []
structure Glb (K : PySem.W.Frag) (mg : Str → Option Value) (x : Str) (d : D) : Prop where
  ex : ∃ v u, mg x = some u ∧ RelV v u ∧ ∀ H, Rep K H d v
section
variable {X : Cx} {P O O1 O2 Ob S vs : List Nat} {own : Bool} {a b e : Expr} {es : List Expr} {ga gb g : Gx} {pos : Pos} {st : Stmt} {sts : List Stmt} {f h : Gs} {gs : Ga}
theorem ej_gl {x : Str} {d : D} (h : Glb X.K X.mg x d) (hg : Gl X x := by rfl) (hd : (x == ("__debug__" : Str)) = false := by decide) : EJ X P O (.Name x pos) (cK d) := by
  obtain ⟨v, u, h1, h2, h3⟩ := h.ex
  exact ej_glob hg h1 h2 h3 hd
section
variable {F : Fn} {Pc : List Nat} {k kr : Nat} {ps : List Str} {x : Str} {p : Pos} {as : List Ar}
theorem ej_call (C : Cal X.prog X.w X.K X.mg X.base k x ps F Pc false) (hr : Room kr X.A) (ha : RJ X P O (e :: es) as) (hk : k ≤ kr := by decide) (hg : Gl X x := by rfl)
    (hP : (slotsR as 0).map (·.1) = Pc := by rfl) (hO : ∀ q ∈ slotsR as 0, q.2 ∈ O := by decide) (hn : ((slotsR as 0).map (·.2)).Nodup := by decide) (hdb : (x == ("__debug__" : Str)) = false := by decide)
    (he : starEach (e :: es) X.env = (false, eval e X.env) :: starEach es X.env := by rfl) (hpl : (backTo pos (starEach es X.env)).any (·.1) = false := by rfl) : EJ X P O (.Call (.Name x p) (e :: es) [] pos) (cUser F as) := by
  obtain ⟨f, fd, h1, h2, h3, h4⟩ := C.ex
  exact ej_user h1 (hr.mono hk) hg h2 h3 h4 ha hP hO hn hdb he hpl
theorem eo_call (C : Cal X.prog X.w X.K X.mg X.base k x ps F Pc true) (hr : Room kr X.A) (ha : RJ X P O (e :: es) as) (hk : k ≤ kr := by decide) (hg : Gl X x := by rfl)
    (hP : (slotsR as 0).map (·.1) = Pc := by rfl) (hO : ∀ q ∈ slotsR as 0, q.2 ∈ O := by decide) (hn : ((slotsR as 0).map (·.2)).Nodup := by decide) (hdb : (x == ("__debug__" : Str)) = false := by decide)
    (he : starEach (e :: es) X.env = (false, eval e X.env) :: starEach es X.env := by rfl) (hpl : (backTo pos (starEach es X.env)).any (·.1) = false := by rfl) : EO X P O (.Call (.Name x p) (e :: es) [] pos) (cUser F as) := by
  obtain ⟨f, fd, h1, h2, h3, h4⟩ := C.ex
  exact eo_user h1 (hr.mono hk) hg h2 h3 h4 ha hP hO hn hdb he hpl
end
/-! built-ins by name -/
section
variable {p : Pos}
theorem ej_len (hm : X.mg "len" = none) (ha : AJ X P O (e :: es) gs) (hg : Gl X "len" := by rfl) (he : starEach (e :: es) X.env = (false, eval e X.env) :: starEach es X.env := by rfl) (hpl : (backTo pos (starEach es X.env)).any (·.1) = false := by rfl) :
    EJ X P O (.Call (.Name "len" p) (e :: es) [] pos) (cCall lenD gs) := ej_callB call_lenA len_d hg hm PySem.boot_len ha (by decide) (by decide) he hpl
theorem ej_abs (hm : X.mg "abs" = none) (ha : AJ X P O (e :: es) gs) (hg : Gl X "abs" := by rfl) (he : starEach (e :: es) X.env = (false, eval e X.env) :: starEach es X.env := by rfl) (hpl : (backTo pos (starEach es X.env)).any (·.1) = false := by rfl) :
    EJ X P O (.Call (.Name "abs" p) (e :: es) [] pos) (cCall absD gs) := ej_callB call_abs abs_d hg hm (by decide +kernel) ha (by decide) (by decide) he hpl
theorem ej_intc (hm : X.mg "int" = none) (ha : AJ X P O (e :: es) gs) (hg : Gl X "int" := by rfl) (he : starEach (e :: es) X.env = (false, eval e X.env) :: starEach es X.env := by rfl) (hpl : (backTo pos (starEach es X.env)).any (·.1) = false := by rfl) :
    EJ X P O (.Call (.Name "int" p) (e :: es) [] pos) (cCall intD gs) := ej_callTy call_int1 int_d hg hm (by decide +kernel) ha (by decide) (by decide) he hpl
theorem ej_gcd (hm : X.mg "gcd" = some (.builtin "math.gcd")) (ha : AJ X P O (e :: es) gs) (hg : Gl X "gcd" := by rfl) (he : starEach (e :: es) X.env = (false, eval e X.env) :: starEach es X.env := by rfl) (hpl : (backTo pos (starEach es X.env)).any (·.1) = false := by rfl) :
    EJ X P O (.Call (.Name "gcd" p) (e :: es) [] pos) (cCall gcdD gs) := ej_callFun cr_gcd gcd_d hg hm ha (by decide) he hpl
end
/-! owned slots, at the end of a block -/
theorem Rl.to {K : PySem.W.Frag} {B : Bs} {Hf H : Hp} {σ : St} {ρ : Env} (R : Rl K B P O Hf σ H ρ) (h1 : ∀ i ∈ O, i ∈ O1) (h2 : ∀ i ∈ O1, i ∈ O) : Rl K B P O1 Hf σ H ρ :=
  ⟨R.iop, R.ex, R.ln, fun i d hi => R.fz i d fun z => hi (h1 i z), fun i d hi => R.ow i d (h2 i hi), fun i j a d e hi hj => R.sp i j a d e (h2 i hi) (h2 j hj), R.fr, R.fq, fun p hp => let ⟨q1, q2⟩ := R.ios p hp; ⟨h1 _ q1, q2⟩⟩
theorem ss_to (h : SSJ X P own Ob O O2 sts f) (h1 : ∀ i ∈ O2, i ∈ O1 := by decide) (h2 : ∀ i ∈ O1, i ∈ O2 := by decide) : SSJ X P own Ob O O1 sts f := PSs.imp h fun D σ H ⟨B, Hf, ρ, r, R, e, k⟩ => by
  refine ⟨B, Hf, ρ, r, R, e, ?_⟩
  cases r with
  | nx ρ' => exact fun Hf' σ' H' s R' => k Hf' σ' H' s (R'.to h1 h2)
  | bk ρ' => exact k
  | ct ρ' => exact k
  | rt d ρ' => exact k
end
/-! ### the law's end -/
theorem law_sp {K : PySem.W.Frag} {F : Fn} {H : Hp} {a : Addr} {ns : List Int} (hS : SqL K H a (ns.map V.int)) (hF : F [.scr ns] = some (.bl true, [])) : spF K F [] false [.ref a] H (fun v _ => v = .bl true) fun _ _ _ => False :=
  ⟨H, [.scr ns], .bl true, [], [], rfl, Same.refl _, rfl, fun j d hj _ => by
    cases j with
    | zero => cases hj; exact ⟨.ref a, rfl, a, rfl, hS⟩
    | succ j => simp at hj, fun p hp => absurd hp (by simp), fun p hp => absurd hp (by simp), hF, rfl, fun Hf' H' _ _ _ _ _ => ⟨fun _ v rv => rv, fun z => absurd z (by decide)⟩⟩
end G
namespace G
open PySem PySem.Spec PyProof.Rows L2
/-! ### enumerate of a tuple or a text -/
set_option maxHeartbeats 4000000 in
theorem enum_new1 {v : Value} {o : Obj} {Hh : Heap → Prop} (B : Begins v o Hh) :
    Meets (Builtin.«enumerate.__new__» ⟨[.type "enumerate", v], []⟩) (fun _ R s => Hh s.heap ∧
      R (.ok (.ret (.ref (s.heap.push o).objs.size))) { s with heap := (s.heap.push o).push { cls := .type "enumerate", data := .fields #[.none, .bool false, .ref s.heap.objs.size, rawInt 0, .none, .none] } }) :=
  .of_wp fun prog w A R s h => by
    obtain ⟨hp, g, d, tk, os⟩ := s
    obtain ⟨h1, h⟩ := h
    have hsub := sub_enumerate
    have hi : ∀ {A' : Around} {E : Value → Shared → Prop} {Q : Value → Shared → Prop}, Q (.ref hp.objs.size) ⟨hp.push o, g, d, tk, os⟩ → wpAny (model prog w) A' (pyIter v) Q E ⟨hp, g, d, tk, os⟩ :=
      fun q => B.iter prog w _ _ ⟨hp, g, d, tk, os⟩ _ h1 q
    wp_walk using hi
    refine wpAny_stack_any fun st => wpAny_pure ?_
    split
    · rename_i c _ _ _ _ _
      cases (c == Value.type "enumerate") <;> (wp_walk using hi; exact ⟨_, rfl, h⟩)
    · wp_walk using hi
      exact ⟨_, rfl, h⟩
theorem enum_call1 {prog : Program} {w : World} {A : Around} {E : Value → Shared → Prop} {s : Shared} {v : Value} {o : Obj} {Hh : Heap → Prop} {Q : Value → Shared → Prop} (B : Begins v o Hh) (h1 : Hh s.heap)
    (h : ∀ h', IsEnum h' (s.heap.objs.size + 1) s.heap.objs.size 0 .none → h'.get? s.heap.objs.size = some o → (∀ b o, s.heap.get? b = some o → h'.get? b = some o) → Q (.ref (s.heap.objs.size + 1)) { s with heap := h' }) :
    wpAny (model prog w) A (call (.type "enumerate") [v]) Q E s := by
  refine callType_new F.called_enumerate (by decide) (F.typeCall_enumerate_1 _) (F.newCall_enumerate_1 _) (fun obj => F.args_object_init_2 obj _) F.entry_enumerate_new (enum_new1 B) ⟨h1, ?_⟩
  have hz : (s.heap.push o).objs.size = s.heap.objs.size + 1 := Heap.size_push ..
  show _ ∧ _
  rw [hz]
  have he : IsEnum ((s.heap.push o).push { cls := .type "enumerate", data := .fields #[.none, .bool false, .ref s.heap.objs.size, rawInt 0, .none, .none] }) (s.heap.objs.size + 1) s.heap.objs.size 0 .none := by
    have q := Heap.get?_push_size (s.heap.push o) (o := { cls := .type "enumerate", data := .fields #[.none, .bool false, .ref s.heap.objs.size, rawInt 0, .none, .none] }) rfl
    rw [hz] at q
    exact q
  exact ⟨⟨_, he, rfl⟩, h _ he (Heap.get?_push_of_some _ (Heap.get?_push_size _ B.free)) fun b u x => Heap.get?_push_of_some _ (Heap.get?_push_of_some _ x)⟩
/-- what is walked, each item in a new pair with its number -/
def EnI (J : It) : It := ⟨J.go, fun i H v H' => ∃ T x, v = .ref T ∧ H T = none ∧ H' = upd H T (.tup [.int (i : Nat), x]) ∧ J.yld i H x H, J.stop⟩
/-- what an iterator at it draws of J -/
structure Dw (P : Program) (w : World) (K : PySem.W.Frag) (J : It) (e it : Addr) (tn : Nat → Heap → Prop) : Prop where
  obj : ∀ i h, tn i h → ∃ o, h.get? it = some o ∧ ∀ v, o.data ≠ .cell v
  keep : ∀ i h h', tn i h → (∀ o, h.get? it = some o → h'.get? it = some o) → tn i h'
  item : ∀ (X : Cx), X.prog = P → X.w = w → X.K = K → X.calm = true → ∀ (i : Nat) (pins : List (Addr × Obj)) (s : Shared) (σ : St) (H : Hp), Inv X pins σ H s → tn i s.heap → J.go i H → H e = none → H it = none →
    ∃ fp n Pv St, Draws P w X.A.in1 it fp n Pv St ∧ e ∉ fp ∧ St i s.heap ∧ i < n ∧ (∀ v, Pv i v → ∃ x, RelV x v ∧ J.yld i H x H) ∧ ∀ h, St (i + 1) h → tn (i + 1) h
  done : ∀ (X : Cx), X.prog = P → X.w = w → X.K = K → X.calm = true → ∀ (i : Nat) (pins : List (Addr × Obj)) (s : Shared) (σ : St) (H : Hp), Inv X pins σ H s → tn i s.heap → J.stop i H →
    ∃ fp n Pv St, Draws P w X.A.in1 it fp n Pv St ∧ St n s.heap
theorem turn_enumD {P : Program} {w : World} {K : PySem.W.Frag} {elts : List Expr} {kk : Nat} {tpos : Pos} {J : It} {e it : Addr} {tn : Nat → Heap → Prop} (W : Dw P w K J e it tn) (hne : e ≠ it) :
    Turn P w K (.Tuple elts kk tpos) (EnI J) [e, it] e (fun i h => (∃ old, IsEnum h e it ((i : Nat) : Int) old) ∧ tn i h) where
  mem := by simp
  obj := fun i h st b hb => by
    obtain ⟨⟨old, he⟩, ht⟩ := st
    have e' : b = e ∨ b = it := by simpa using hb
    rcases e' with z | z
    · rw [z]; exact ⟨_, he, fun v q => nomatch q⟩
    · rw [z]; exact W.obj i h ht
  keep := fun i h h' st k => let ⟨⟨old, he⟩, ht⟩ := st; ⟨⟨old, k e (by simp) _ he⟩, W.keep i h h' ht fun o q => k it (by simp) o q⟩
  item := by
    intro X hP hw hK hc i pins s σ H E I hf st hg
    obtain ⟨⟨old, he⟩, ht⟩ := st
    obtain ⟨fp, n, Pv, St, Dr, hef, hst, hlt, hpv, hnx⟩ := W.item X hP hw hK hc i pins s σ H I ht hg (hf e (by simp)).1 (hf it (by simp)).1
    subst hP hw hK
    have hel : e < s.heap.objs.size := Heap.lt_size he
    have hil : it < s.heap.objs.size := by obtain ⟨_, q⟩ := Dr.live _ _ hst; exact Heap.lt_size q
    refine wpAny_pyNext_enum_itemD Dr he hst hlt hne hef fun u h' tk hu ho hst' hT hsz hk => ?_
    obtain ⟨x, ru, hy⟩ := hpv u hu
    refine ⟨_, rfl, wpAny_letOwnedTupleGo_enum (s := { s with heap := h', toks := tk + 1 }) ho fun h'' he' sb => ?_⟩
    have hT2 : h''.get? s.heap.objs.size = some { cls := .type "tuple", data := .seq #[.int i tk, u] } := (sb.2 _ (Nat.ne_of_gt hel)).trans hT
    have new : ObjOk X.prog X.w (upd H s.heap.objs.size (.tup [.int (i : Nat), x])) h'' s.heap.objs.size (.tup [.int (i : Nat), x]) :=
      ⟨by show 2 ≤ sizeLine; decide, [.int i tk, u], .cons ⟨_, rfl⟩ (.cons ru .nil), ⟨_, hT2, rfl, _, rfl⟩⟩
    have I1 : Inv X pins σ (upd H s.heap.objs.size (.tup [.int (i : Nat), x])) { s with heap := h'', toks := tk + 1 } :=
      I.turnedNew (ch := [e, it]) (fun b ob hb q => (sb.2 b (fun z => hb (by simp [z]))).trans (hk b ob (fun z => hb (by simp [z])) (fun z => hb (by simp [z])) q)) hf (Nat.le_refl _) new
    refine ⟨.ref s.heap.objs.size, _, I1, rfl, ⟨_, x, rfl, I.hok.fresh (Nat.le_refl _), rfl, hy⟩, ⟨⟨u, ?_⟩, W.keep _ _ _ (hnx _ hst') fun o q => (sb.2 it (Ne.symm hne)).trans q⟩, fun b hb => ?_⟩
    · have e1 : ((i + 1 : Nat) : Int) = (i : Int) + 1 := by omega
      rw [e1]; exact he'
    · have hb' : b < s.heap.objs.size := by
        have e' : b = e ∨ b = it := by simpa using hb
        rcases e' with z | z
        · rw [z]; exact hel
        · rw [z]; exact hil
      rw [upd_ne (Nat.ne_of_lt hb')]
      exact (hf b hb).1
  done := by
    intro X hP hw hK hc i pins s σ H E I hf st hg
    obtain ⟨⟨old, he⟩, ht⟩ := st
    obtain ⟨fp, n, Pv, St, Dr, hst⟩ := W.done X hP hw hK hc i pins s σ H I ht hg
    subst hP hw hK
    obtain ⟨f0, f1, f2, f3, f4, f5⟩ := hf it (by simp)
    exact wpAny_pyNext_enum_endD Dr he hst fun h' eb => ⟨rfl, I.turned (t' := s.toks) (fun b o hb q => eb b o hb q) f0 f1 f3 f4 f5⟩
  self := fun A i s Q E st h => let ⟨⟨_, he⟩, _⟩ := st; wpAny_pyIter_enum he h
theorem dw_tup {P : Program} {w : World} {K : PySem.W.Frag} {a e it : Addr} (hea : e ≠ a) (hia : it ≠ a) (hei : e ≠ it) : Dw P w K (Itt K a) e it (fun i h => h.IsTupleIter it a i) where
  obj := fun i h ⟨o, ho, _, hd⟩ => ⟨o, ho, fun v z => by rw [hd] at z; cases z⟩
  keep := fun i h h' st k => st.at fun o q => k o q
  item := by
    intro X hP hw hK hc i pins s σ H I ht hg he hi
    subst hP hw hK
    obtain ⟨xs, x, hq, hx⟩ := hg
    obtain ⟨its, rv, p, hz⟩ := I.tuple hq
    obtain ⟨u, hu, ru⟩ := rv.get hx
    refine ⟨_, _, _, _, Draws.tuple (A := X.A.in1) (I.ok.hd hc) it a (Ne.symm hia) its.toArray, by simp [hea, hei], ⟨ht, p⟩, ?_, fun v hv => ⟨x, ?_, rfl, fun ys hy => by rw [I.tuple_inj hy hq]; exact hx⟩, fun h q => q.1⟩
    · have := (List.getElem?_eq_some_iff.mp hu).1
      simpa using this
    · have : v = u := by
        have hv' : its[i]? = some v := by simpa using hv
        rw [hu] at hv'
        exact (Option.some.inj hv').symm
      rw [this]; exact ru
  done := by
    intro X hP hw hK hc i pins s σ H I ht hg
    subst hP hw hK
    obtain ⟨xs, hq, hx⟩ := hg
    obtain ⟨its, rv, p, hz⟩ := I.tuple hq
    have hl := rv.length
    have hp : s.heap.IsTuple a its.toArray := p
    refine ⟨[it, a], i, fun _ _ => False, fun j h => j = i ∧ h.IsTupleIter it a i ∧ h.IsTuple a its.toArray, ⟨fun j h st => ?_, fun j h h' st hk => ?_, fun j s' Q E' hj st => ?_, fun s' Q E' st hE => ?_⟩, rfl, ht, p⟩
    · obtain ⟨_, ⟨o, ho, _⟩, _⟩ := st
      exact ⟨o, ho⟩
    · exact ⟨st.1, st.2.1.at fun o q => hk it (by simp) o q, st.2.2.at fun o q => hk a (by simp) o q⟩
    · exact absurd st.1 (Nat.ne_of_lt hj)
    · exact wpAny_nextOf_tuple_end (A := X.A.in1) (I.ok.hd hc) st.2.1 st.2.2 (by simp; omega) hE
theorem dw_str {P : Program} {w : World} {K : PySem.W.Frag} {e it : Addr} {x : Str} {t : Tok} (hei : e ≠ it) : Dw P w K (Its x) e it (fun i h => h.IsStrIter it (strIterType x) x t i ∧ i ≤ x.cps.size) where
  obj := fun i h ⟨⟨o, ho, _, hd⟩, _⟩ => ⟨o, ho, fun v z => by rw [hd] at z; cases z⟩
  keep := fun i h h' st k => let ⟨⟨o, ho, r⟩, q⟩ := st; ⟨⟨o, k o ho, r⟩, q⟩
  item := by
    intro X hP hw hK hc i pins s σ H I ht hg he hi
    subst hP hw hK
    have hg : i < x.cps.size := hg
    refine ⟨_, _, _, _, Draws.text (A := X.A.in1) (I.ok.hd hc) it x t, by simp [hei], ht.1, hg, fun v hv => ?_, fun h q => ⟨q, hg⟩⟩
    obtain ⟨c, u, h1, rfl⟩ := hv
    exact ⟨.str ⟨#[c]⟩, ⟨u, rfl⟩, rfl, c, h1, rfl⟩
  done := by
    intro X hP hw hK hc i pins s σ H I ht hg
    subst hP hw hK
    have hg : x.cps.size ≤ i := hg
    have : i = x.cps.size := Nat.le_antisymm ht.2 hg
    subst this
    exact ⟨_, _, _, _, Draws.text (A := X.A.in1) (I.ok.hd hc) it x t, ht.1⟩
def iEnumA (K : PySem.W.Frag) (te : TE) : TI := fun σ H R => te σ H fun v H1 => (∃ a xs, v = .ref a ∧ SqL K H1 a xs ∧ R (Ite K a) H1) ∨ (∃ a xs, v = .ref a ∧ SqT K H1 a xs ∧ R (EnI (Itt K a)) H1) ∨ ∃ x, v = .str x ∧ R (EnI (Its x)) H1
theorem pi_enumA {X : Cx} {e : Expr} {te : TE} {p pos tpos : Pos} {elts : List Expr} {kk : Nat} (hg : Gl X "enumerate") (hm : X.mg "enumerate" = none) (ha : PE X e te) (hs : starEach [e] X.env = (false, eval e X.env) :: starEach [] X.env := by rfl) :
    PI X (.Tuple elts kk tpos) (.Call (.Name "enumerate" p) [e] [] pos) (iEnumA X.K te) := by
  refine ⟨fun pins s σ H R I h => ?_⟩
  refine Call_ (ld_blt I hg hm boot_enumerate (PyProof.Rows.callWith_type1 (one_arg ha I h (fun v s1 x H1 I1 r1 q1 => ?_) hs) hs rfl))
  have fin : ∀ (s' : Shared) (J : It) (tn : Nat → Heap → Prop) (o : Obj) (Hb : Heap → Prop), Inv X pins σ H1 s' → Begins v o Hb → Hb s'.heap → Dw X.prog X.w X.K J (s'.heap.objs.size + 1) s'.heap.objs.size tn → (∀ h', h'.get? s'.heap.objs.size = some o → tn 0 h') → R (EnI J) H1 →
      wpAny (model X.prog X.w) X.A (call (.type "enumerate") [v]) (fun v' s1 => wpAny (model X.prog X.w) X.A (pyIter v') (PIE X pins σ (.Tuple elts kk tpos) R) X.xe s1) X.xe s' := fun s' J tn o Hb I' B hb W ht q => by
    refine enum_call1 B hb fun h' he hit hk => wpAny_pyIter_enum he ?_
    have I2 : Inv X pins σ H1 { s' with heap := h' } := I'.kept (t' := s'.toks) hk
    refine ⟨s'.heap.objs.size + 1, [s'.heap.objs.size + 1, s'.heap.objs.size], _, _, H1, rfl, I2, turn_enumD W (Nat.succ_ne_self _), ⟨⟨.none, he⟩, ht _ hit⟩, fun b hb => ?_, q⟩
    have e' : b = s'.heap.objs.size + 1 ∨ b = s'.heap.objs.size := by simpa using hb
    have hle : s'.heap.objs.size ≤ b := by
      rcases e' with z | z
      · rw [z]; exact Nat.le_add_right _ _
      · rw [z]; exact Nat.le_refl _
    exact I'.fpOk hle (I'.hok.fresh hle)
  rcases q1 with ⟨a, xs, rfl, hq, q⟩ | ⟨a, xs, rfl, hq, q⟩ | ⟨z, rfl, q⟩
  · obtain rfl : v = Value.ref a := r1
    obtain ⟨its, rv, p', hz⟩ := I1.list hq
    refine call_enumerate_list p'.isList fun h' he hit hsz hk => wpAny_pyIter_enum he ?_
    have I2 : Inv X pins σ H1 { s1 with heap := h' } := I1.kept (t' := s1.toks) hk
    refine ⟨s1.heap.objs.size + 1, [s1.heap.objs.size + 1, s1.heap.objs.size], _, _, H1, rfl, I2, turn_enum a (s1.heap.objs.size + 1) s1.heap.objs.size, ⟨⟨.none, he⟩, hit, Nat.succ_ne_self _⟩, fun b hb => ?_, q⟩
    have e' : b = s1.heap.objs.size + 1 ∨ b = s1.heap.objs.size := by simpa using hb
    have hle : s1.heap.objs.size ≤ b := by
      rcases e' with z | z
      · rw [z]; exact Nat.le_add_right _ _
      · rw [z]; exact Nat.le_refl _
    exact I1.fpOk hle (I1.hok.fresh hle)
  · obtain rfl : v = Value.ref a := r1
    obtain ⟨its, rv, p', hz⟩ := I1.tuple hq
    have hp : s1.heap.IsTuple a its.toArray := p'
    have hal : a < s1.heap.objs.size := by obtain ⟨o, ho, _⟩ := hp; exact Heap.lt_size ho
    exact fin s1 (Itt X.K a) _ _ _ I1 (begins_tuple a its.toArray) p' (dw_tup (Nat.ne_of_gt (Nat.lt_succ_of_lt hal)) (Nat.ne_of_gt hal) (Nat.succ_ne_self _)) (fun h' e => ⟨_, e, rfl, rfl⟩) q
  · obtain ⟨t, rfl⟩ : ∃ t, v = .str z t := r1
    exact fin s1 (Its z) _ _ _ I1 (begins_text z t) trivial (dw_str (t := t) (Nat.succ_ne_self _)) (fun h' e => ⟨⟨_, e, rfl, rfl⟩, Nat.zero_le _⟩) q
section
variable {X : Cx} {P O O1 O2 Ob S : List Nat} {own : Bool} {a b e : Expr} {es : List Expr} {ga gb g : Gx} {pos : Pos} {gs : Ga}
def enD (ds : List D) : List D := ds.mapIdx fun i d => .tup [.int (i : Nat), d]
def cEn (g : Gx) : Ga := fun ρ => (g ρ).bind fun p => (itemsD p.1).map fun ds => (enD ds, p.2)
theorem enD_get {ds : List D} {i : Nat} {d : D} (h : (enD ds)[i]? = some d) : ∃ d', ds[i]? = some d' ∧ d = .tup [.int (i : Nat), d'] := by
  unfold enD at h
  rw [List.getElem?_mapIdx] at h
  obtain ⟨d', h1, h2⟩ := Option.map_eq_some_iff.mp h
  exact ⟨d', h1, h2.symm⟩
theorem wk_pair {K : PySem.W.Frag} {Hf1 H H' : Hp} {i : Nat} {T : Addr} {u x : V} {d : D} (s2 : Same Hf1 H) (hT : H T = none) (hu : u = .ref T) (hH : H' = upd H T (.tup [.int (i : Nat), x])) (r : Rep K Hf1 d x) :
    ∃ Hf', Gr Hf1 H Hf' H' ∧ Rep K Hf' (.tup [.int (i : Nat), d]) u := by
  subst hu hH
  have gr : Gr Hf1 H (upd Hf1 T (.tup [.int (i : Nat), x])) (upd H T (.tup [.int (i : Nat), x])) := Gr.new s2 hT
  exact ⟨_, gr, T, _, rfl, SqT.of upd_same, RepL.mono gr.s1 _ _ (RepL.cons (show Rep K Hf1 (.int (i : Nat)) (.int (i : Nat)) from rfl) (RepL.cons r RepL.nil))⟩
theorem wk_enL {K : PySem.W.Frag} {Hf : Hp} {a : Addr} {xs : List V} {ds : List D} (h : ∀ Hf', Same Hf Hf' → SqL K Hf' a xs) (r : RepL K Hf ds xs) : Wk K (Ite K a) (enD ds) Hf := fun Hf1 H s1 s2 => by
  have hq : SqL K H a xs := s2.seq (h Hf1 s1)
  refine ⟨fun i d hd => ?_, ⟨xs, hq, by rw [r.len]; unfold enD; rw [List.length_mapIdx]; exact Nat.le_refl _⟩⟩
  obtain ⟨d', hd', rfl⟩ := enD_get hd
  obtain ⟨v, h1, h2⟩ := r.get hd'
  refine ⟨⟨xs, v, hq, h1⟩, fun u H' hy => ?_⟩
  obtain ⟨T, x, hu, hT, hH, hx⟩ := hy
  have := hx xs hq
  rw [h1] at this
  cases this
  exact wk_pair s2 hT hu hH (Rep.mono s1 _ _ h2)
theorem wk_en {K : PySem.W.Frag} {Hf : Hp} {J : It} {ds : List D} (w : Wk K J ds Hf) (hs : ∀ i H x H', J.yld i H x H' → H' = H) : Wk K (EnI J) (enD ds) Hf := fun Hf1 H s1 s2 => by
  obtain ⟨w1, w2⟩ := w Hf1 H s1 s2
  refine ⟨fun i d hd => ?_, by unfold enD; rw [List.length_mapIdx]; exact w2⟩
  obtain ⟨d', hd', rfl⟩ := enD_get hd
  obtain ⟨g1, g2⟩ := w1 i d' hd'
  refine ⟨g1, fun u H' hy => ?_⟩
  obtain ⟨T, x, hu, hT, hH, hx⟩ := hy
  obtain ⟨Hf2, gr, rx⟩ := g2 x H hx
  subst hu hH
  have gr2 : Gr Hf2 H (upd Hf2 T (.tup [.int (i : Nat), x])) (upd H T (.tup [.int (i : Nat), x])) := Gr.new gr.s2 hT
  exact ⟨_, gr.trans gr2, T, _, rfl, SqT.of upd_same, RepL.mono gr2.s1 _ _ (RepL.cons (show Rep K Hf2 (.int (i : Nat)) (.int (i : Nat)) from rfl) (RepL.cons rx RepL.nil))⟩
theorem ij_enum {p tpos : Pos} {elts : List Expr} {kk : Nat} (hm : X.mg "enumerate" = none) (he : EJ X P O e g) (hg : Gl X "enumerate" := by rfl) (hs : starEach [e] X.env = (false, eval e X.env) :: starEach [] X.env := by rfl) :
    IJ X P O (.Tuple elts kk tpos) (.Call (.Name "enumerate" p) [e] [] pos) (cEn g) :=
  (pi_enumA hg hm he hs).imp fun σ H R ⟨B, Hf, ρ, ds, ρ', Rr, q, k⟩ => by
    obtain ⟨⟨d, ρ1⟩, h1, q⟩ := Option.bind_eq_some_iff.mp q
    obtain ⟨ds', h2, q⟩ := Option.map_eq_some_iff.mp q
    cases q
    refine ⟨B, Hf, ρ, d, _, Rr, h1, fun Hf1 v H1 s1 R1 rv => ?_⟩
    cases d with
    | lst xs =>
      cases h2
      obtain ⟨a, us, rfl, h3, h4⟩ := rv
      exact .inl ⟨a, us, rfl, SqL.of (R1.ex _ _ h3), k Hf1 _ H1 s1 R1 (wk_enL (fun Hf' s => SqL.of (s _ _ h3)) h4)⟩
    | tup xs =>
      cases h2
      obtain ⟨a, us, rfl, h3, h4⟩ := rv
      exact .inr (.inl ⟨a, us, rfl, sqT_mono R1.ex h3, k Hf1 _ H1 s1 R1 (wk_en (wk_tup h3 h4) fun _ _ _ _ q => q.1)⟩)
    | scr ns =>
      cases h2
      obtain ⟨a, rfl, h3⟩ := rv
      exact .inl ⟨a, _, rfl, R1.ex.seq h3, k Hf1 _ H1 s1 R1 (wk_enL (fun Hf' s => s.seq h3) (RepL.ofInts _))⟩
    | str z =>
      cases h2
      exact .inr (.inr ⟨z, rv, k Hf1 _ H1 s1 R1 (wk_en wk_str fun _ _ _ _ q => q.1)⟩)
    | _ => cases h2
end
end G
namespace G
open PySem PySem.Spec PyProof.Rows L2
section
variable {X : Cx} {P O O1 O2 Ob S : List Nat} {own : Bool} {a b e : Expr} {es : List Expr} {ga gb g : Gx} {pos : Pos} {gs : Ga}
theorem _root_.L2.Room.units65 {k : Nat} {A : Around} (r : Room k A) : A.units + 65 < cLine := by have := r.un; omega
/-! ### is True, is not True -/
def isB : D → D → Option D
  | .bl a, .bl b => some (.bl (decide (a = b)))
  | _, _ => none
def notB : D → D → Option D
  | .bl a, .bl b => some (.bl (!decide (a = b)))
  | _, _ => none
theorem isB_d {K : PySem.W.Frag} : OpD K rIsB isB := fun Hf H d e z x y s rx ry hf Q k => by
  match d, e, hf with
  | .bl a, .bl b, hf =>
    cases hf
    exact ⟨a, b, rx, ry, k Hf _ H (Gr.refl s) rfl⟩
theorem notB_d {K : PySem.W.Frag} : OpD K rNotB notB := fun Hf H d e z x y s rx ry hf Q k => by
  match d, e, hf with
  | .bl a, .bl b, hf =>
    cases hf
    exact ⟨a, b, rx, ry, k Hf _ H (Gr.refl s) rfl⟩
theorem ej_isB (ha : EJ X P O a ga) (hb : EJ X P O b gb) : EJ X P O (.Compare a [.Is] [b] pos) (cOp isB ga gb) := ej_cmp op_isBl isB_d ha hb (nomark _)
theorem ej_isnotB (ha : EJ X P O a ga) (hb : EJ X P O b gb) : EJ X P O (.Compare a [.IsNot] [b] pos) (cOp notB ga gb) := ej_cmp op_notBl notB_d ha hb (nomark _)
theorem tj_isB (ha : EJ X P O a ga) (hb : EJ X P O b gb) : TJ X P O (.Compare a [.Is] [b] pos) (cTest (cOp isB ga gb)) := tj_cmp op_isBl isB_d ha hb (nomark _)
theorem tj_isnotB (ha : EJ X P O a ga) (hb : EJ X P O b gb) : TJ X P O (.Compare a [.IsNot] [b] pos) (cTest (cOp notB ga gb)) := tj_cmp op_notBl notB_d ha hb (nomark _)
theorem tj_is (ha : EJ X P O a ga) (hb : EJ X P O b gb) : TJ X P O (.Compare a [.Is] [b] pos) (cTest (cOp isN ga gb)) := tj_cmp op_isN isN_d ha hb (nomark _)
theorem tj_isnot (ha : EJ X P O a ga) (hb : EJ X P O b gb) : TJ X P O (.Compare a [.IsNot] [b] pos) (cTest (cOp notN ga gb)) := tj_cmp op_notN notN_d ha hb (nomark _)
/-! ### in, not in -/
def inL (d : D) (ds : List D) : Bool := ds.any fun z => D.eqv z d
def flatD : D → Bool
  | .non | .bl _ | .int _ | .str _ => true
  | _ => false
def inB : D → D → Option Bool
  | .str x, .str z => match x.cps.toList with
    | [c] => some (decide (c ∈ z.cps.toList))
    | _ => none
  | d, .lst ds => if D.shp d = true ∧ D.shp (.lst ds) = true then some (inL d ds) else none
  | d, .tup ds => if flatD d = true ∧ ds.all flatD = true then some (inL d ds) else none
  | _, _ => none
def inD (d e : D) : Option D := (inB d e).map D.bl
def notInD (d e : D) : Option D := (inB d e).map fun b => .bl !b
theorem flat_v {K : PySem.W.Frag} {H : Hp} {d : D} {v : V} (h : flatD d = true) (r : Rep K H d v) : flatV v = true := by
  cases d <;> first | (cases (show v = _ from r); rfl) | exact absurd h Bool.false_ne_true
theorem flat_vs {K : PySem.W.Frag} {H : Hp} : ∀ {ds : List D} {xs : List V}, ds.all flatD = true → RepL K H ds xs → xs.all flatV = true
  | [], _, _, r => by rw [show _ = _ from r]; rfl
  | d :: ds, _, h, ⟨v, vs, e, r1, r2⟩ => by
    rw [List.all_cons, Bool.and_eq_true] at h
    rw [e, List.all_cons, flat_v h.1 r1, flat_vs h.2 r2]
    rfl
theorem eqV_py {K : PySem.W.Frag} {H : Hp} {d e : D} {v u : V} (h : flatD d = true) (h' : flatD e = true) (r : Rep K H d v) (r' : Rep K H e u) : eqV v u = D.eqv d e := by
  cases d <;> (first | exact absurd h Bool.false_ne_true | skip) <;> cases (show v = _ from r) <;> cases e <;> (first | exact absurd h' Bool.false_ne_true | skip) <;> cases (show u = _ from r') <;> (first | rfl | (unfold D.eqv; rw [D.py, D.py]; simp only [PyData.eqv]; rfl) | (unfold D.eqv; rw [D.py]; simp only [PyData.eqv]; rfl))
theorem inV_py {K : PySem.W.Frag} {H : Hp} {d : D} {v : V} (h : flatD d = true) (r : Rep K H d v) : ∀ {ds : List D} {xs : List V}, ds.all flatD = true → RepL K H ds xs → inV v xs = inL d ds
  | [], _, _, q => by rw [show _ = _ from q]; rfl
  | e :: ds, _, h', ⟨u, us, q, r1, r2⟩ => by
    rw [List.all_cons, Bool.and_eq_true] at h'
    subst q
    show (eqV u v || inV v us) = (D.eqv e d || inL d ds)
    rw [inV_py h r h'.2 r2, eqV_py h'.1 h r1 r]
def rInG (K : PySem.W.Frag) : R2 := fun x y H Q => (∃ (c : Nat) (z : Str), x = .str ⟨#[c]⟩ ∧ y = .str z ∧ Q (.bl (decide (c ∈ z.cps.toList))) H) ∨ rInD K x y H Q ∨ rIn K false x y H Q
def rNotInG (K : PySem.W.Frag) : R2 := fun x y H Q => (∃ (c : Nat) (z : Str), x = .str ⟨#[c]⟩ ∧ y = .str z ∧ Q (.bl (!decide (c ∈ z.cps.toList))) H) ∨ rNotInD K x y H Q ∨ rIn K true x y H Q
theorem one_cp {x : Str} {c : Nat} (h : x.cps.toList = [c]) : x = ⟨#[c]⟩ := by
  obtain ⟨cps⟩ := x
  obtain ⟨l⟩ := cps
  simp only at h
  subst h
  rfl
theorem any_pys (p : PyData → Bool) : ∀ ds : List D, (D.pys ds).any p = ds.any fun z => p z.py
  | [] => rfl
  | d :: ds => by rw [D.pys, List.any_cons, List.any_cons, any_pys p ds]
theorem in_g {K : PySem.W.Frag} : OpD K (rInG K) inD := fun Hf H d e z x y s rx ry hf Q k => by
  obtain ⟨c, h1, rfl⟩ := Option.map_eq_some_iff.mp hf
  clear hf
  cases e with
  | str w =>
    cases d with
    | str u =>
      simp only [inB] at h1
      cases q : u.cps.toList with
      | nil => rw [q] at h1; cases h1
      | cons c l =>
        cases l with
        | nil =>
          rw [q] at h1
          cases h1
          have := one_cp q
          subst this
          exact .inl ⟨c, w, rx, ry, k Hf _ H (Gr.refl s) rfl⟩
        | cons _ _ => rw [q] at h1; cases h1
    | _ => cases h1
  | lst ds =>
    have h1 : (if D.shp d = true ∧ D.shp (.lst ds) = true then some (inL d ds) else none) = some c := by cases d <;> exact h1
    obtain ⟨⟨h2, h3⟩, rfl⟩ := ite_some h1
    refine .inr (.inl ⟨d.py, D.pys ds, Rep.dp _ _ (Rep.mono s _ _ rx), Rep.dp _ _ (Rep.mono s _ _ ry), h2, h3, ?_⟩)
    rw [any_pys]
    exact k Hf _ H (Gr.refl s) rfl
  | tup ds =>
    have h1 : (if flatD d = true ∧ ds.all flatD = true then some (inL d ds) else none) = some c := by cases d <;> exact h1
    obtain ⟨⟨h2, h3⟩, rfl⟩ := ite_some h1
    obtain ⟨a, xs, rfl, h4, h5⟩ := ry
    refine .inr (.inr ⟨a, xs, rfl, .inr (sqT_mono s h4), flat_v h2 rx, flat_vs h3 h5, ?_⟩)
    rw [if_neg Bool.false_ne_true, inV_py h2 rx h3 h5]
    exact k Hf _ H (Gr.refl s) rfl
  | _ => cases d <;> cases h1
theorem notin_g {K : PySem.W.Frag} : OpD K (rNotInG K) notInD := fun Hf H d e z x y s rx ry hf Q k => by
  obtain ⟨c, h1, rfl⟩ := Option.map_eq_some_iff.mp hf
  clear hf
  cases e with
  | str w =>
    cases d with
    | str u =>
      simp only [inB] at h1
      cases q : u.cps.toList with
      | nil => rw [q] at h1; cases h1
      | cons c l =>
        cases l with
        | nil =>
          rw [q] at h1
          cases h1
          have := one_cp q
          subst this
          exact .inl ⟨c, w, rx, ry, k Hf _ H (Gr.refl s) rfl⟩
        | cons _ _ => rw [q] at h1; cases h1
    | _ => cases h1
  | lst ds =>
    have h1 : (if D.shp d = true ∧ D.shp (.lst ds) = true then some (inL d ds) else none) = some c := by cases d <;> exact h1
    obtain ⟨⟨h2, h3⟩, rfl⟩ := ite_some h1
    refine .inr (.inl ⟨d.py, D.pys ds, Rep.dp _ _ (Rep.mono s _ _ rx), Rep.dp _ _ (Rep.mono s _ _ ry), h2, h3, ?_⟩)
    rw [any_pys]
    exact k Hf _ H (Gr.refl s) rfl
  | tup ds =>
    have h1 : (if flatD d = true ∧ ds.all flatD = true then some (inL d ds) else none) = some c := by cases d <;> exact h1
    obtain ⟨⟨h2, h3⟩, rfl⟩ := ite_some h1
    obtain ⟨a, xs, rfl, h4, h5⟩ := ry
    refine .inr (.inr ⟨a, xs, rfl, .inr (sqT_mono s h4), flat_v h2 rx, flat_vs h3 h5, ?_⟩)
    rw [if_pos rfl, inV_py h2 rx h3 h5]
    exact k Hf _ H (Gr.refl s) rfl
  | _ => cases d <;> cases h1
theorem op_inG (hu : X.A.units + 65 < cLine) : OpR X (compareOp .In) (rInG X.K) := OpR.or op_in_sign (OpR.or (op_inD hu) op_in_seq)
theorem op_notinG (hu : X.A.units + 65 < cLine) : OpR X (compareOp .NotIn) (rNotInG X.K) := OpR.or op_notIn_sign (OpR.or (op_notInD hu) op_notIn_seq)
theorem ej_in {kr : Nat} (hr : Room kr X.A) (ha : EJ X P O a ga) (hb : EJ X P O b gb) (hm : behindInMarks .In b = false := by rfl) : EJ X P O (.Compare a [.In] [b] pos) (cOp inD ga gb) := ej_cmp (op_inG hr.units65) in_g ha hb hm
theorem ej_notin {kr : Nat} (hr : Room kr X.A) (ha : EJ X P O a ga) (hb : EJ X P O b gb) (hm : behindInMarks .NotIn b = false := by rfl) : EJ X P O (.Compare a [.NotIn] [b] pos) (cOp notInD ga gb) := ej_cmp (op_notinG hr.units65) notin_g ha hb hm
theorem tj_in {kr : Nat} (hr : Room kr X.A) (ha : EJ X P O a ga) (hb : EJ X P O b gb) (hm : behindInMarks .In b = false := by rfl) : TJ X P O (.Compare a [.In] [b] pos) (cTest (cOp inD ga gb)) := tj_cmp (op_inG hr.units65) in_g ha hb hm
theorem tj_notin {kr : Nat} (hr : Room kr X.A) (ha : EJ X P O a ga) (hb : EJ X P O b gb) (hm : behindInMarks .NotIn b = false := by rfl) : TJ X P O (.Compare a [.NotIn] [b] pos) (cTest (cOp notInD ga gb)) := tj_cmp (op_notinG hr.units65) notin_g ha hb hm
/-! ### lists of bools, of ints, of texts -/
def blsD : List D → Option (List Bool)
  | [] => some []
  | .bl b :: ds => (blsD ds).map (b :: ·)
  | _ :: _ => none
def intsD : List D → Option (List Int)
  | [] => some []
  | .int b :: ds => (intsD ds).map (b :: ·)
  | _ :: _ => none
def strsD : List D → Option (List Str)
  | [] => some []
  | .str b :: ds => (strsD ds).map (b :: ·)
  | _ :: _ => none
theorem bls_rep {K : PySem.W.Frag} {H : Hp} : ∀ {ds : List D} {bs : List Bool} {xs : List V}, blsD ds = some bs → RepL K H ds xs → xs = bs.map V.bl
  | [], _, _, h, r => by cases h; exact r
  | .bl b :: ds, _, _, h, ⟨v, vs, e, r1, r2⟩ => by
    obtain ⟨cs, h1, rfl⟩ := Option.map_eq_some_iff.mp h
    rw [e, show v = _ from r1, bls_rep h1 r2]; rfl
  | .non :: _, _, _, h, _ => by cases h
  | .int _ :: _, _, _, h, _ => by cases h
  | .str _ :: _, _, _, h, _ => by cases h
  | .tup _ :: _, _, _, h, _ => by cases h
  | .lst _ :: _, _, _, h, _ => by cases h
  | .scr _ :: _, _, _, h, _ => by cases h
theorem ints_rep {K : PySem.W.Frag} {H : Hp} : ∀ {ds : List D} {bs : List Int} {xs : List V}, intsD ds = some bs → RepL K H ds xs → xs = bs.map V.int
  | [], _, _, h, r => by cases h; exact r
  | .int b :: ds, _, _, h, ⟨v, vs, e, r1, r2⟩ => by
    obtain ⟨cs, h1, rfl⟩ := Option.map_eq_some_iff.mp h
    rw [e, show v = _ from r1, ints_rep h1 r2]; rfl
  | .non :: _, _, _, h, _ => by cases h
  | .bl _ :: _, _, _, h, _ => by cases h
  | .str _ :: _, _, _, h, _ => by cases h
  | .tup _ :: _, _, _, h, _ => by cases h
  | .lst _ :: _, _, _, h, _ => by cases h
  | .scr _ :: _, _, _, h, _ => by cases h
theorem strs_rep {K : PySem.W.Frag} {H : Hp} : ∀ {ds : List D} {bs : List Str} {xs : List V}, strsD ds = some bs → RepL K H ds xs → xs = bs.map V.str
  | [], _, _, h, r => by cases h; exact r
  | .str b :: ds, _, _, h, ⟨v, vs, e, r1, r2⟩ => by
    obtain ⟨cs, h1, rfl⟩ := Option.map_eq_some_iff.mp h
    rw [e, show v = _ from r1, strs_rep h1 r2]; rfl
  | .non :: _, _, _, h, _ => by cases h
  | .int _ :: _, _, _, h, _ => by cases h
  | .bl _ :: _, _, _, h, _ => by cases h
  | .tup _ :: _, _, _, h, _ => by cases h
  | .lst _ :: _, _, _, h, _ => by cases h
  | .scr _ :: _, _, _, h, _ => by cases h
def allD : List D → Option D
  | [.lst ds] => (blsD ds).map fun bs => .bl (bs.all id)
  | _ => none
def anyD : List D → Option D
  | [.lst ds] => (blsD ds).map fun bs => .bl (bs.any id)
  | _ => none
def sumD : List D → Option D
  | [.lst ds] => (intsD ds).map fun bs => .int bs.sum
  | _ => none
theorem all_d {K : PySem.W.Frag} : CallD K (rAll K) allD := fun Hf H ds z xs s rx hf Q k => by
  match ds, hf with
  | [.lst es], hf =>
    obtain ⟨bs, h1, rfl⟩ := Option.map_eq_some_iff.mp hf
    obtain ⟨v, rfl, a, ys, rfl, h3, h2⟩ := repL1 rx
    have := bls_rep h1 h2
    subst this
    exact ⟨a, bs, rfl, SqL.of (s _ _ h3), k Hf _ H (Gr.refl s) rfl⟩
theorem any_d {K : PySem.W.Frag} : CallD K (rAny K) anyD := fun Hf H ds z xs s rx hf Q k => by
  match ds, hf with
  | [.lst es], hf =>
    obtain ⟨bs, h1, rfl⟩ := Option.map_eq_some_iff.mp hf
    obtain ⟨v, rfl, a, ys, rfl, h3, h2⟩ := repL1 rx
    have := bls_rep h1 h2
    subst this
    exact ⟨a, bs, rfl, SqL.of (s _ _ h3), k Hf _ H (Gr.refl s) rfl⟩
theorem sum_d {K : PySem.W.Frag} : CallD K (rSum K) sumD := fun Hf H ds z xs s rx hf Q k => by
  match ds, hf with
  | [.lst es], hf =>
    obtain ⟨bs, h1, rfl⟩ := Option.map_eq_some_iff.mp hf
    obtain ⟨v, rfl, a, ys, rfl, h3, h2⟩ := repL1 rx
    have := ints_rep h1 h2
    subst this
    exact ⟨a, bs, rfl, SqL.of (s _ _ h3), k Hf _ H (Gr.refl s) rfl⟩
/-! ### list(x), tuple(x) -/
def listD : List D → Option D
  | [.lst ds] => some (.lst ds)
  | [.tup ds] => some (.lst ds)
  | [.scr ns] => some (.lst (ns.map D.int))
  | _ => none
def tupleD : List D → Option D
  | [.lst ds] => some (.tup ds)
  | [.tup ds] => some (.tup ds)
  | _ => none
theorem list_o {K : PySem.W.Frag} : CallDO K (fun xs H Q => ∃ p ys, xs = [.ref p] ∧ (SqL K H p ys ∨ SqT K H p ys) ∧ ∀ l, H l = none → Q (.ref l) (upd H l (.lst ys))) listD := fun Hf H ds z xs s rx hf Q k => by
  match ds, hf with
  | [.lst es], hf =>
    cases hf
    obtain ⟨v, rfl, a, ys, rfl, h3, h2⟩ := repL1 rx
    exact ⟨a, ys, rfl, .inl (SqL.of (s _ _ h3)), fun l hl => k Hf l _ _ (Gr.newO s hl) hl (s.free hl) upd_same ⟨ys, rfl, h2⟩⟩
  | [.tup es], hf =>
    cases hf
    obtain ⟨v, rfl, a, ys, rfl, h3, h2⟩ := repL1 rx
    exact ⟨a, ys, rfl, .inr (sqT_mono s h3), fun l hl => k Hf l _ _ (Gr.newO s hl) hl (s.free hl) upd_same ⟨ys, rfl, h2⟩⟩
  | [.scr ns], hf =>
    cases hf
    obtain ⟨v, rfl, a, rfl, h3⟩ := repL1 rx
    exact ⟨a, _, rfl, .inl (s.seq h3), fun l hl => k Hf l _ _ (Gr.newO s hl) hl (s.free hl) upd_same ⟨_, rfl, RepL.ofInts _⟩⟩
theorem tuple_d {K : PySem.W.Frag} : CallD K (fun xs H Q => ∃ p ys, xs = [.ref p] ∧ ((SqL K H p ys ∧ ∀ l, H l = none → Q (.ref l) (upd H l (.tup ys))) ∨ (SqT K H p ys ∧ Q (.ref p) H))) tupleD := fun Hf H ds z xs s rx hf Q k => by
  match ds, hf with
  | [.lst es], hf =>
    cases hf
    obtain ⟨v, rfl, a, ys, rfl, h3, h2⟩ := repL1 rx
    refine ⟨a, ys, rfl, .inl ⟨SqL.of (s _ _ h3), fun l hl => ?_⟩⟩
    have gr : Gr Hf H (upd Hf l (.tup ys)) (upd H l (.tup ys)) := Gr.new s hl
    exact k _ _ _ gr ⟨l, ys, rfl, SqT.of upd_same, RepL.mono gr.s1 _ _ h2⟩
  | [.tup es], hf =>
    cases hf
    obtain ⟨v, rfl, a, ys, rfl, h3, h2⟩ := repL1 rx
    exact ⟨a, ys, rfl, .inr ⟨sqT_mono s h3, k Hf _ H (Gr.refl s) ⟨a, ys, rfl, h3, h2⟩⟩⟩
section
variable {p : Pos}
theorem ej_all (hc : X.calm = true) (hm : X.mg "all" = none) (ha : AJ X P O (e :: es) gs) (hg : Gl X "all" := by rfl) (he : starEach (e :: es) X.env = (false, eval e X.env) :: starEach es X.env := by rfl) (hpl : (backTo pos (starEach es X.env)).any (·.1) = false := by rfl) :
    EJ X P O (.Call (.Name "all" p) (e :: es) [] pos) (cCall allD gs) := ej_callB (cr_all hc) all_d hg hm (by decide +kernel) ha (by decide) (by decide) he hpl
theorem ej_any (hc : X.calm = true) (hm : X.mg "any" = none) (ha : AJ X P O (e :: es) gs) (hg : Gl X "any" := by rfl) (he : starEach (e :: es) X.env = (false, eval e X.env) :: starEach es X.env := by rfl) (hpl : (backTo pos (starEach es X.env)).any (·.1) = false := by rfl) :
    EJ X P O (.Call (.Name "any" p) (e :: es) [] pos) (cCall anyD gs) := ej_callB (cr_any hc) any_d hg hm (by decide +kernel) ha (by decide) (by decide) he hpl
theorem ej_sum (hc : X.calm = true) (hm : X.mg "sum" = none) (ha : AJ X P O (e :: es) gs) (hg : Gl X "sum" := by rfl) (he : starEach (e :: es) X.env = (false, eval e X.env) :: starEach es X.env := by rfl) (hpl : (backTo pos (starEach es X.env)).any (·.1) = false := by rfl) :
    EJ X P O (.Call (.Name "sum" p) (e :: es) [] pos) (cCall sumD gs) := ej_callB (cr_sum hc) sum_d hg hm (by decide +kernel) ha (by decide) (by decide) he hpl
theorem eo_list (hm : X.mg "list" = none) (ha : AJ X P O (e :: es) gs) (hg : Gl X "list" := by rfl) (he : starEach (e :: es) X.env = (false, eval e X.env) :: starEach es X.env := by rfl) (hpl : (backTo pos (starEach es X.env)).any (·.1) = false := by rfl) :
    EO X P O (.Call (.Name "list" p) (e :: es) [] pos) (cCall listD gs) := eo_callTy call_list_of list_o hg hm (by decide +kernel) ha (by decide) (by decide) he hpl
theorem ej_tuple (hm : X.mg "tuple" = none) (ha : AJ X P O (e :: es) gs) (hg : Gl X "tuple" := by rfl) (he : starEach (e :: es) X.env = (false, eval e X.env) :: starEach es X.env := by rfl) (hpl : (backTo pos (starEach es X.env)).any (·.1) = false := by rfl) :
    EJ X P O (.Call (.Name "tuple" p) (e :: es) [] pos) (cCall tupleD gs) := ej_callTy call_tuple_of tuple_d hg hm (by decide +kernel) ha (by decide) (by decide) he hpl
end
/-! ### list(range(..)), tuple(range(..)) -/
def cLR (it : Ga) : Gx := fun ρ => (it ρ).bind fun p => if p.1.length ≤ 100000 then some (.lst p.1, p.2) else none
def cTR (it : Ga) : Gx := fun ρ => (it ρ).bind fun p => if p.1.length ≤ 100000 then some (.tup p.1, p.2) else none
theorem rg_rep {K : PySem.W.Frag} {H : Hp} (i j : Int) : RepL K H (rangeD i j) (rgV i j) := by
  unfold rangeD rgV
  generalize List.range (j - i).toNat = l
  induction l with
  | nil => rfl
  | cons n l ih => exact ⟨_, _, rfl, rfl, ih⟩
theorem rangeD_length (i j : Int) : (rangeD i j).length = (j - i).toNat := by unfold rangeD; rw [List.length_map, List.length_range]
theorem rgOk_of {i j : Int} (hb : rngB i = true) (hc : rngB j = true) (hl : (rangeD i j).length ≤ 100000) : RgOk i j := by
  have h1 := rngB_ok hb
  have h2 := rngB_ok hc
  rw [rangeD_length] at hl
  exact ⟨h1.1, h1.2, h2.1, h2.2, by omega⟩
/-- what range(..) as an argument gives -/
def RgT (K : PySem.W.Frag) (P O : List Nat) (te : St → Hp → (Int → Int → Hp → Prop) → Prop) (it : Ga) : Prop := ∀ σ H (Q : Int → Int → Hp → Prop) B Hf ρ ds ρ', Rl K B P O Hf σ H ρ → it ρ = some (ds, ρ') → (∀ i j Hf' H', ds = rangeD i j → rngB i = true → rngB j = true → Same Hf Hf' → Rl K B P O Hf' σ H' ρ' → Q i j H') → te σ H Q
theorem rgT1 {K : PySem.W.Frag} : RgT K P O (tRg1 (tE K P O ga)) (cItA rng1 (evA [ga])) := fun σ H Q B Hf ρ ds ρ' R e k => by
  obtain ⟨⟨as, ρ1⟩, h1, e⟩ := Option.bind_eq_some_iff.mp e
  obtain ⟨ds', h2, e⟩ := Option.map_eq_some_iff.mp e
  cases e
  obtain ⟨⟨d, ρ2⟩, h3, h1⟩ := Option.bind_eq_some_iff.mp h1
  obtain ⟨⟨es, ρ3⟩, h4, h1⟩ := Option.map_eq_some_iff.mp h1
  cases h4
  cases h1
  cases d with
  | int j =>
    obtain ⟨hb, rfl⟩ := ite_some h2
    exact ⟨B, Hf, ρ, _, _, R, h3, fun Hf' v H' s R' rv => ⟨j, rv, k 0 j Hf' H' rfl (by decide) hb s R'⟩⟩
  | _ => cases h2
theorem rgT2 {K : PySem.W.Frag} : RgT K P O (tRg2 (tE K P O ga) (tE K P O gb)) (cItA rng2 (evA [ga, gb])) := fun σ H Q B Hf ρ ds ρ' R e k => by
  obtain ⟨⟨as, ρ1⟩, h1, e⟩ := Option.bind_eq_some_iff.mp e
  obtain ⟨ds', h2, e⟩ := Option.map_eq_some_iff.mp e
  cases e
  obtain ⟨⟨d, ρ2⟩, h3, h1⟩ := Option.bind_eq_some_iff.mp h1
  obtain ⟨⟨es, ρ3⟩, h4, h1⟩ := Option.map_eq_some_iff.mp h1
  cases h1
  obtain ⟨⟨d2, ρ4⟩, h5, h4⟩ := Option.bind_eq_some_iff.mp h4
  obtain ⟨⟨es2, ρ5⟩, h6, h4⟩ := Option.map_eq_some_iff.mp h4
  cases h6
  cases h4
  cases d with
  | int i =>
    cases d2 with
    | int j =>
      obtain ⟨⟨hb, hc⟩, rfl⟩ := ite_some h2
      exact ⟨B, Hf, ρ, _, _, R, h3, fun Hf' v H' s R' rv => ⟨B, Hf', _, _, _, R', h5, fun Hf2 u H2 s2 R2 ru => ⟨i, j, rv, ru, k i j Hf2 H2 rfl hb hc (s.trans s2) R2⟩⟩⟩
    | _ => cases h2
  | _ => cases h2
theorem eo_listRg {te : St → Hp → (Int → Int → Hp → Prop) → Prop} {it : Ga} {p : Pos} (hc : X.calm = true) (hm : X.mg "list" = none) (he : PRg X e te) (ht : RgT X.K P O te it) (hg : Gl X "list" := by rfl) (na : starEach [e] X.env = (false, eval e X.env) :: starEach [] X.env := by rfl) :
    EO X P O (.Call (.Name "list" p) [e] [] pos) (cLR it) := (pe_listRg hc hg hm he na).imp fun σ H Q ⟨B, Hf, ρ, z, ρ', R, q, k⟩ => by
  obtain ⟨⟨ds, ρ1⟩, h1, q⟩ := Option.bind_eq_some_iff.mp q
  obtain ⟨hl, q⟩ := ite_some q
  cases q
  refine ht σ H _ B Hf ρ ds _ R h1 fun i j Hf' H' ed hb hc s R' => ?_
  subst ed
  exact ⟨rgOk_of hb hc hl, fun q hq => k Hf' q _ _ s (R'.gr (Gr.newO R'.ex hq)) (R'.ex.free hq) upd_same ⟨_, rfl, rg_rep i j⟩ (fresh_hc R' hq) (fresh_ne R' hq)⟩
theorem ej_tupRg {te : St → Hp → (Int → Int → Hp → Prop) → Prop} {it : Ga} {p : Pos} (hc : X.calm = true) (hm : X.mg "tuple" = none) (he : PRg X e te) (ht : RgT X.K P O te it) (hg : Gl X "tuple" := by rfl) (na : starEach [e] X.env = (false, eval e X.env) :: starEach [] X.env := by rfl) :
    EJ X P O (.Call (.Name "tuple" p) [e] [] pos) (cTR it) := (pe_tupRg hc hg hm he na).imp fun σ H Q ⟨B, Hf, ρ, z, ρ', R, q, k⟩ => by
  obtain ⟨⟨ds, ρ1⟩, h1, q⟩ := Option.bind_eq_some_iff.mp q
  obtain ⟨hl, q⟩ := ite_some q
  cases q
  refine ht σ H _ B Hf ρ ds _ R h1 fun i j Hf' H' ed hb hc s R' => ?_
  subst ed
  refine ⟨rgOk_of hb hc hl, fun q hq => ?_⟩
  have gr : Gr Hf' H' (upd Hf' q (.tup (rgV i j))) (upd H' q (.tup (rgV i j))) := Gr.new R'.ex hq
  exact k _ _ _ (s.trans gr.s1) (R'.gr gr) ⟨q, _, rfl, SqT.of upd_same, RepL.mono gr.s1 _ _ (rg_rep i j)⟩
/-! ### methods of texts -/
def cMtV (f : D → List D → Option D) (g : Gx) (gs : Ga) : Gx := fun ρ => (g ρ).bind fun p => (gs p.2).bind fun q => (f p.1 q.1).map fun z => (z, q.2)
def MtD (K : PySem.W.Frag) (r : V → List V → Hp → VK → Prop) (f : D → List D → Option D) : Prop := ∀ Hf H d ds z x xs, Same Hf H → Rep K Hf d x → RepL K Hf ds xs → f d ds = some z → ∀ Q : VK, (∀ Hf' v H', Gr Hf H Hf' H' → Rep K Hf' z v → Q v H') → r x xs H Q
def tyOf : D → Option String
  | .str _ => some "str"
  | .int _ => some "int"
  | .lst _ => some "list"
  | .scr _ => some "list"
  | _ => none
theorem tyOf_V {K : PySem.W.Frag} {Hf H : Hp} {d : D} {x : V} {T : String} (h : tyOf d = some T) (s : Same Hf H) (r : Rep K Hf d x) : tyV K T x H := by
  cases d with
  | str z => cases h; cases (show x = _ from r); rfl
  | int z => cases h; cases (show x = _ from r); rfl
  | lst ds => cases h; obtain ⟨a, xs, rfl, h1, h2⟩ := r; exact .inl ⟨rfl, xs, SqL.of (s _ _ h1)⟩
  | scr ns => cases h; obtain ⟨a, rfl, h1⟩ := r; exact .inl ⟨rfl, _, s.seq h1⟩
  | _ => cases h
section
variable {T id : String} {name : Str} {apos cpos : Pos} {r : V → List V → Hp → VK → Prop} {f : D → List D → Option D} {o : Expr} {go : Gx}
theorem ej_bm (pa : PlainAttrs T) (slot : Slot T name id) (hty : typeOf (.builtin id) = pure (.type "method_descriptor")) (hm : MtR X id r) (h : MtD X.K r f) (ty : ∀ d ds z, f d ds = some z → tyOf d = some T) (ho : EJ X P O o go) (ha : AJ X P O (e :: es) gs)
    (hbase : attributeBase o name X.env (eval o X.env) = eval o X.env := by rfl)
    (hfew : ((backTo cpos (starEach (e :: es) X.env)).all (fun x => !x.1) && (backToKw cpos (keywordEach [] X.env)).all (fun x => x.1.isSome)
      && decide ((e :: es).length + ([] : List Keyword).length + (if ([] : List Keyword).isEmpty then 0 else 1) < 30)) = true := by rfl)
    (hline : (apos.endLine == cpos.line) = true := by rfl) (hs : starEach (e :: es) X.env = (false, eval e X.env) :: starEach es X.env := by rfl) (hplain : (backTo cpos (starEach es X.env)).any (·.1) = false := by rfl) :
    EJ X P O (.Call (.Attribute o name apos) (e :: es) [] cpos) (cMtV f go gs) :=
  (pe_bm pa slot hty hm ho ha hbase hfew hline hs hplain).imp fun σ H Q ⟨B, Hf, ρ, z, ρ', R, q, k⟩ => by
    obtain ⟨⟨d, ρ1⟩, h1, q⟩ := Option.bind_eq_some_iff.mp q
    obtain ⟨⟨ds, ρ2⟩, h2, q⟩ := Option.bind_eq_some_iff.mp q
    obtain ⟨z', h3, q⟩ := Option.map_eq_some_iff.mp q
    cases q
    refine ⟨B, Hf, ρ, d, _, R, h1, fun Hf1 x H1 s1 R1 rx => ⟨tyOf_V (ty _ _ _ h3) R1.ex rx, B, Hf1, ρ1, ds, _, R1, h2, fun Hf2 xs H2 s2 R2 rxs => ?_⟩⟩
    exact h Hf2 H2 d ds _ x xs R2.ex (Rep.mono s2 _ _ rx) rxs h3 Q fun Hf3 v H3 gr rv => k Hf3 v H3 ((s1.trans s2).trans gr.s1) (R2.gr gr) rv
end
def joinD : D → List D → Option D
  | .str a, [.lst ds] => (strsD ds).bind fun ys => if (ys.map (·.length)).sum + ys.length * a.length ≤ 16777216 then some (.str (Txt.join a ys)) else none
  | .str a, [.tup ds] => (strsD ds).bind fun ys => if (ys.map (·.length)).sum + ys.length * a.length ≤ 16777216 then some (.str (Txt.join a ys)) else none
  | _, _ => none
theorem join_d {K : PySem.W.Frag} : MtD K (fun x xs H Q => ∃ a p, ∃ ys : List Str, x = .str a ∧ xs = [.ref p] ∧ (SqL K H p (ys.map V.str) ∨ SqT K H p (ys.map V.str)) ∧
    (ys.map (·.length)).sum + ys.length * a.length ≤ 16777216 ∧ Q (.str (Txt.join a ys)) H) joinD := fun Hf H d ds z x xs s rx rxs hf Q k => by
  match d, ds, hf with
  | .str a, [.lst es], hf =>
    obtain ⟨ys, h1, hf⟩ := Option.bind_eq_some_iff.mp hf
    obtain ⟨hl, rfl⟩ := ite_some hf
    obtain ⟨v, rfl, p, us, rfl, h3, h2⟩ := repL1 rxs
    have := strs_rep h1 h2
    subst this
    exact ⟨a, p, ys, rx, rfl, .inl (SqL.of (s _ _ h3)), hl, k Hf _ H (Gr.refl s) rfl⟩
  | .str a, [.tup es], hf =>
    obtain ⟨ys, h1, hf⟩ := Option.bind_eq_some_iff.mp hf
    obtain ⟨hl, rfl⟩ := ite_some hf
    obtain ⟨v, rfl, p, us, rfl, h3, h2⟩ := repL1 rxs
    have := strs_rep h1 h2
    subst this
    exact ⟨a, p, ys, rx, rfl, .inr (sqT_mono s h3), hl, k Hf _ H (Gr.refl s) rfl⟩
def indexS : D → List D → Option D
  | .str a, [.str b] => (Txt.index0 a b).map fun k => .int (k : Nat)
  | _, _ => none
def rIxS : V → List V → Hp → VK → Prop := fun x xs H Q => ∃ (a b : Str) (k : Nat), x = .str a ∧ xs = [.str b] ∧ Txt.index0 a b = some k ∧ Q (.int (k : Nat)) H
theorem mt_ixS : MtR X "str.index" rIxS := by
  intro pins s σ H x xs v us Q I rx rs h
  obtain ⟨a, b, k, rfl, rfl, hk, q⟩ := h
  obtain ⟨t, rfl⟩ := rx
  cases rs with
  | cons r1 rs =>
    cases rs
    obtain ⟨u, rfl⟩ := r1
    unfold Txt.index0 at hk
    cases ho : Builtin.Str.occurrences a b 0 a.length 1 with
    | nil => rw [ho] at hk; cases hk
    | cons i rest =>
      rw [ho] at hk
      cases hk
      exact PySem.SC.index ho ⟨.int (k : Nat), H, I.tok _, ⟨_, rfl⟩, q⟩
theorem ixS_d {K : PySem.W.Frag} : MtD K rIxS indexS := fun Hf H d ds z x xs s rx rxs hf Q k => by
  match d, ds, hf with
  | .str a, [.str b], hf =>
    obtain ⟨i, h1, rfl⟩ := Option.map_eq_some_iff.mp hf
    obtain ⟨v, rfl, rfl⟩ := repL1 rxs
    exact ⟨a, b, i, rx, rfl, h1, k Hf _ H (Gr.refl s) rfl⟩
/-! list.index -/
def indexL : D → List D → Option D
  | .lst ds, [d] => if D.shp d = true ∧ D.shp (.lst ds) = true then (ds.findIdx? fun z => D.eqv z d).map fun k => .int (k : Nat) else none
  | _, _ => none
theorem pys_get : ∀ (ds : List D) (j : Nat), (D.pys ds)[j]? = ds[j]?.map D.py
  | [], _ => by rw [D.pys]; rfl
  | d :: ds, 0 => by rw [D.pys]; rfl
  | d :: ds, j + 1 => by rw [D.pys, List.getElem?_cons_succ, List.getElem?_cons_succ, pys_get ds j]
theorem ixL_d {K : PySem.W.Frag} : MtD K (rIndexD K) indexL := fun Hf H d ds z x xs s rx rxs hf Q k => by
  match d, ds, hf with
  | .lst es, [e], hf =>
    have hf : (if D.shp e = true ∧ D.shp (.lst es) = true then (es.findIdx? fun z => D.eqv z e).map fun k => D.int (k : Nat) else none) = some z := hf
    by_cases hc : D.shp e = true ∧ D.shp (.lst es) = true
    · rw [if_pos hc] at hf
      obtain ⟨i, h1, rfl⟩ := Option.map_eq_some_iff.mp hf
      obtain ⟨hlt, h2, h3⟩ := List.findIdx?_eq_some_iff_getElem.mp h1
      obtain ⟨v, rfl, rv⟩ := repL1 rxs
      have rx' := rx
      obtain ⟨a, us, rfl, h4, h5⟩ := rx'
      refine ⟨a, v, e.py, D.pys es, i, es[i].py, rfl, rfl, Rep.dp _ _ (Rep.mono s _ _ rx), Rep.dp _ _ (Rep.mono s _ _ rv), hc.2, hc.1, by rw [pys_get, List.getElem?_eq_getElem hlt]; rfl, h2, fun m z' hm hz => ?_, k Hf _ H (Gr.refl s) rfl⟩
      rw [pys_get, List.getElem?_eq_getElem (Nat.lt_trans hm hlt)] at hz
      cases hz
      have := h3 m hm
      cases q : D.eqv es[m] e with
      | false => exact q
      | true => exact absurd q this
    · rw [if_neg hc] at hf
      cases hf
end
end G
namespace G
open PySem PySem.Spec PyProof.Rows L2
section
variable {X : Cx} {P O O1 O2 Ob S : List Nat} {own : Bool} {a b e tg : Expr} {es : List Expr} {ga gb g : Gx} {pos : Pos} {gs : Ga}
/-! ### a op b op c .. -/
structure CmpJ (X : Cx) (op : CmpOp) (f : D → D → Option D) : Prop where
  ex : ∃ r, OpR X (compareOp op) r ∧ OpD X.K r f
theorem cj_lt : CmpJ X .Lt ltD := ⟨_, op_lt, intCmp_d⟩
theorem cj_le : CmpJ X .LtE leD := ⟨_, op_le, intCmp_d⟩
theorem cj_gt : CmpJ X .Gt gtD := ⟨_, op_gt, intCmp_d⟩
theorem cj_ge : CmpJ X .GtE geD := ⟨_, op_ge, intCmp_d⟩
theorem cj_eq (hu : X.A.units + 64 < cLine) : CmpJ X .Eq eqD := ⟨_, op_eqD hu, eq_d⟩
theorem cj_ne (hu : X.A.units + 64 < cLine) : CmpJ X .NotEq neD := ⟨_, op_neD hu, ne_d⟩
def chainS : D → List ((D → D → Option D) × Gx) → Gx
  | _, [], _ => none
  | d, [(o, g)], ρ => (g ρ).bind fun q => (o d q.1).map fun z => (z, q.2)
  | d, (o, g) :: q :: l, ρ => (g ρ).bind fun p => (o d p.1).bind fun z => (truthB z).bind fun c => if c = true then chainS p.1 (q :: l) p.2 else some (.bl false, p.2)
def cChain (g : Gx) (l : List ((D → D → Option D) × Gx)) : Gx := fun ρ => (g ρ).bind fun p => chainS p.1 l p.2
def ChJ (X : Cx) (P O : List Nat) (ops : List CmpOp) (cs : List Expr) (l : List ((D → D → Option D) × Gx)) : Prop :=
  ∀ (pos : Pos) (pins : List (Addr × Obj)) (s : Shared) (σ : St) (H : Hp) (v : Value) (x : V) (d z : D) (Q : VK) (B : Bs) (Hf : Hp) (ρ ρ' : Env), Inv X pins σ H s → Rl X.K B P O Hf σ H ρ → RelV x v → Rep X.K Hf d x → chainS d l ρ = some (z, ρ') →
    (∀ Hf' u H', Same Hf Hf' → Rl X.K B P O Hf' σ H' ρ' → Rep X.K Hf' z u → Q u H') → wpAny (model X.prog X.w) X.A (compareChain pos v ops (evalEach cs X.env)) (EP X pins σ Q) X.xe s
def ChT (X : Cx) (P O : List Nat) (ops : List CmpOp) (cs : List Expr) (l : List ((D → D → Option D) × Gx)) : Prop :=
  ∀ (pos : Pos) (pins : List (Addr × Obj)) (s : Shared) (σ : St) (H : Hp) (v : Value) (x : V) (d : D) (c : Bool) (Q : Bool → Hp → Prop) (B : Bs) (Hf : Hp) (ρ ρ' : Env), Inv X pins σ H s → Rl X.K B P O Hf σ H ρ → RelV x v → Rep X.K Hf d x → chainS d l ρ = some (.bl c, ρ') →
    (∀ Hf' H', Same Hf Hf' → Rl X.K B P O Hf' σ H' ρ' → Q c H') → wpAny (model X.prog X.w) X.A (testChain pos v ops (evalEach cs X.env)) (TP X pins σ Q) X.xe s
section
variable {op op2 : CmpOp} {ops : List CmpOp} {c2 : Expr} {cs : List Expr} {o : D → D → Option D} {q : (D → D → Option D) × Gx} {l : List ((D → D → Option D) × Gx)}
theorem chj_one (ho : CmpJ X op o) (hg : EJ X P O e g) : ChJ X P O [op] [e] [(o, g)] := fun pos pins s σ H v x d z Q B Hf ρ ρ' I R rx rd ec k => by
  obtain ⟨r, h1, h2⟩ := ho.ex
  obtain ⟨⟨d2, ρ1⟩, e1, ec⟩ := Option.bind_eq_some_iff.mp ec
  obtain ⟨z', e2, ec⟩ := Option.map_eq_some_iff.mp ec
  cases ec
  exact chain_last (thn (hg.run pins s σ H _ I ⟨B, Hf, ρ, d2, _, R, e1, fun Hf1 y H1 s1 R1 ry =>
    (show r x y H1 Q from h2 Hf1 H1 d d2 _ x y R1.ex (Rep.mono s1 _ _ rd) ry e2 Q fun Hf2 u H2 gr ru => k Hf2 u H2 (s1.trans gr.s1) (R1.gr gr) ru)⟩) fun u s1 ⟨y, H1, I1, r1, q1⟩ => h1 pins s1 σ H1 x y v u Q I1 rx r1 q1)
theorem chj_cons (ho : CmpJ X op o) (hg : EJ X P O e g) (hr : ChJ X P O (op2 :: ops) (c2 :: cs) (q :: l)) : ChJ X P O (op :: op2 :: ops) (e :: c2 :: cs) ((o, g) :: q :: l) := fun pos pins s σ H v x d z Q B Hf ρ ρ' I R rx rd ec k => by
  obtain ⟨r, h1, h2⟩ := ho.ex
  obtain ⟨⟨d2, ρ1⟩, e1, ec⟩ := Option.bind_eq_some_iff.mp ec
  obtain ⟨z', e2, ec⟩ := Option.bind_eq_some_iff.mp ec
  obtain ⟨c, e3, ec⟩ := Option.bind_eq_some_iff.mp ec
  refine chain_link (thn (hg.run pins s σ H (fun y H1 => ∃ Hf1, Same Hf Hf1 ∧ Rl X.K B P O Hf1 σ H1 ρ1 ∧ Rep X.K Hf1 d2 y) I ⟨B, Hf, ρ, d2, _, R, e1, fun Hf1 y H1 s1 R1 ry => ⟨Hf1, s1, R1, ry⟩⟩) fun u s1 ⟨y, H1, I1, r1, Hf1, t1, R1, ry⟩ => ?_)
  refine thn (h1 pins s1 σ H1 x y v u (fun w H2 => ∃ Hf2, Same Hf1 Hf2 ∧ Rl X.K B P O Hf2 σ H2 ρ1 ∧ w = .bl c) I1 rx r1 (h2 Hf1 H1 d d2 z' x y R1.ex (Rep.mono t1 _ _ rd) ry e2 _ fun Hf2 w H2 gr rw => ⟨Hf2, gr.s1, R1.gr gr, truthB_rep e3 rw⟩)) fun w s2 ⟨w', H2, I2, r2, Hf2, t2, R2, ew⟩ => ?_
  subst ew
  cases r2
  refine wpAny_truthy_bool ?_
  cases c with
  | false =>
    cases ec
    exact ite_ff ⟨.bl false, H2, I2, rfl, k Hf2 _ H2 (t1.trans t2) R2 rfl⟩
  | true =>
    exact ite_tt (hr pos pins s2 σ H2 u y d2 z Q B Hf2 ρ1 ρ' I2 R2 r1 (Rep.mono t2 _ _ ry) ec fun Hf3 u3 H3 t3 R3 ru => k Hf3 u3 H3 ((t1.trans t2).trans t3) R3 ru)
theorem cht_one (ho : CmpJ X op o) (hg : EJ X P O e g) : ChT X P O [op] [e] [(o, g)] := fun pos pins s σ H v x d c Q B Hf ρ ρ' I R rx rd ec k => by
  obtain ⟨r, h1, h2⟩ := ho.ex
  obtain ⟨⟨d2, ρ1⟩, e1, ec⟩ := Option.bind_eq_some_iff.mp ec
  obtain ⟨z', e2, ec⟩ := Option.map_eq_some_iff.mp ec
  cases ec
  refine test_last (thn (hg.run pins s σ H (fun y H1 => ∃ Hf1, Same Hf Hf1 ∧ Rl X.K B P O Hf1 σ H1 ρ1 ∧ Rep X.K Hf1 d2 y) I ⟨B, Hf, ρ, d2, _, R, e1, fun Hf1 y H1 s1 R1 ry => ⟨Hf1, s1, R1, ry⟩⟩) fun u s1 ⟨y, H1, I1, r1, Hf1, t1, R1, ry⟩ => ?_)
  refine thn (h1 pins s1 σ H1 x y v u (fun w H2 => ∃ Hf2, Same Hf1 Hf2 ∧ Rl X.K B P O Hf2 σ H2 ρ1 ∧ w = .bl c) I1 rx r1 (h2 Hf1 H1 d d2 _ x y R1.ex (Rep.mono t1 _ _ rd) ry e2 _ fun Hf2 w H2 gr rw => ⟨Hf2, gr.s1, R1.gr gr, rw⟩)) fun w s2 ⟨w', H2, I2, r2, Hf2, t2, R2, ew⟩ => ?_
  subst ew
  cases r2
  exact wpAny_truthy_bool ⟨H2, I2, k Hf2 H2 (t1.trans t2) R2⟩
theorem cht_cons (ho : CmpJ X op o) (hg : EJ X P O e g) (hr : ChT X P O (op2 :: ops) (c2 :: cs) (q :: l)) : ChT X P O (op :: op2 :: ops) (e :: c2 :: cs) ((o, g) :: q :: l) := fun pos pins s σ H v x d z Q B Hf ρ ρ' I R rx rd ec k => by
  obtain ⟨r, h1, h2⟩ := ho.ex
  obtain ⟨⟨d2, ρ1⟩, e1, ec⟩ := Option.bind_eq_some_iff.mp ec
  obtain ⟨z', e2, ec⟩ := Option.bind_eq_some_iff.mp ec
  obtain ⟨c, e3, ec⟩ := Option.bind_eq_some_iff.mp ec
  refine test_link (thn (hg.run pins s σ H (fun y H1 => ∃ Hf1, Same Hf Hf1 ∧ Rl X.K B P O Hf1 σ H1 ρ1 ∧ Rep X.K Hf1 d2 y) I ⟨B, Hf, ρ, d2, _, R, e1, fun Hf1 y H1 s1 R1 ry => ⟨Hf1, s1, R1, ry⟩⟩) fun u s1 ⟨y, H1, I1, r1, Hf1, t1, R1, ry⟩ => ?_)
  refine thn (h1 pins s1 σ H1 x y v u (fun w H2 => ∃ Hf2, Same Hf1 Hf2 ∧ Rl X.K B P O Hf2 σ H2 ρ1 ∧ w = .bl c) I1 rx r1 (h2 Hf1 H1 d d2 z' x y R1.ex (Rep.mono t1 _ _ rd) ry e2 _ fun Hf2 w H2 gr rw => ⟨Hf2, gr.s1, R1.gr gr, truthB_rep e3 rw⟩)) fun w s2 ⟨w', H2, I2, r2, Hf2, t2, R2, ew⟩ => ?_
  subst ew
  cases r2
  refine wpAny_truthy_bool ?_
  cases c with
  | false =>
    cases ec
    exact ite_ff ⟨H2, I2, k Hf2 H2 (t1.trans t2) R2⟩
  | true =>
    exact ite_tt (hr pos pins s2 σ H2 u y d2 z Q B Hf2 ρ1 ρ' I2 R2 r1 (Rep.mono t2 _ _ ry) ec fun Hf3 H3 t3 R3 => k Hf3 H3 ((t1.trans t2).trans t3) R3)
theorem ej_chain (ha : EJ X P O a ga) (h : ChJ X P O (op :: op2 :: ops) (b :: c2 :: cs) l) (hm : lastMarks (op :: op2 :: ops) (b :: c2 :: cs) = false := by with_unfolding_all rfl) : EJ X P O (.Compare a (op :: op2 :: ops) (b :: c2 :: cs) pos) (cChain ga l) := ⟨fun pins s σ H Q I ⟨B, Hf, ρ, z, ρ', R, ec, k⟩ => by
  obtain ⟨⟨d, ρ1⟩, e1, ec⟩ := Option.bind_eq_some_iff.mp ec
  refine Compare_chain (thn (ha.run pins s σ H (fun y H1 => ∃ Hf1, Same Hf Hf1 ∧ Rl X.K B P O Hf1 σ H1 ρ1 ∧ Rep X.K Hf1 d y) I ⟨B, Hf, ρ, d, _, R, e1, fun Hf1 y H1 s1 R1 ry => ⟨Hf1, s1, R1, ry⟩⟩) fun u s1 ⟨y, H1, I1, r1, Hf1, t1, R1, ry⟩ => ?_) hm
  exact h pos pins s1 σ H1 u y d z Q B Hf1 ρ1 ρ' I1 R1 r1 ry ec fun Hf2 w H2 t2 R2 rw => k Hf2 w H2 (t1.trans t2) R2 rw⟩
theorem tj_chain (ha : EJ X P O a ga) (h : ChT X P O (op :: op2 :: ops) (b :: c2 :: cs) l) (hm : lastMarks (op :: op2 :: ops) (b :: c2 :: cs) = false := by with_unfolding_all rfl) : TJ X P O (.Compare a (op :: op2 :: ops) (b :: c2 :: cs) pos) (cTest (cChain ga l)) := ⟨fun pins s σ H Q I ⟨B, Hf, ρ, z, ρ', R, ec, k⟩ => by
  obtain ⟨⟨zz, ρ2⟩, ed, e0⟩ := Option.bind_eq_some_iff.mp ec
  obtain ⟨z', e3, e0⟩ := Option.map_eq_some_iff.mp e0
  cases e0
  have ez : zz = .bl z := by
    cases zz with
    | bl b => cases e3; rfl
    | _ => cases e3
  subst ez
  obtain ⟨⟨d, ρ1⟩, e1, ee⟩ := Option.bind_eq_some_iff.mp ed
  refine isTrue_chain (thn (ha.run pins s σ H (fun y H1 => ∃ Hf1, Same Hf Hf1 ∧ Rl X.K B P O Hf1 σ H1 ρ1 ∧ Rep X.K Hf1 d y) I ⟨B, Hf, ρ, d, _, R, e1, fun Hf1 y H1 s1 R1 ry => ⟨Hf1, s1, R1, ry⟩⟩) fun u s1 ⟨y, H1, I1, r1, Hf1, t1, R1, ry⟩ => ?_) hm
  exact h pos pins s1 σ H1 u y d _ Q B Hf1 ρ1 _ I1 R1 r1 ry ee fun Hf2 H2 t2 R2 => k Hf2 H2 (t1.trans t2) R2⟩
end
/-! ### truth of any value -/
def truD : D → Option Bool
  | .non => some false
  | .bl b => some b
  | .int i => some (i != 0)
  | .str y => if y.length ≤ 100000 then some ((y.length : Int) != 0) else none
  | .lst ds => some (!ds.isEmpty)
  | .tup ds => some (!ds.isEmpty)
  | .scr ns => some (!ns.isEmpty)
theorem isEmpty_rep {K : PySem.W.Frag} {H : Hp} {ds : List D} {xs : List V} (r : RepL K H ds xs) : (!ds.isEmpty) = !xs.isEmpty := by
  cases ds with
  | nil => rw [show xs = [] from r]; rfl
  | cons d ds => obtain ⟨v, vs, rfl, _⟩ := r; rfl
theorem tru_rep {K : PySem.W.Frag} {Hf H : Hp} {d : D} {x : V} {c : Bool} (s : Same Hf H) (r : Rep K Hf d x) (h : truD d = some c) : TruV K x H c := by
  cases d with
  | non => cases h; cases (show x = _ from r); rfl
  | bl b => cases h; cases (show x = _ from r); rfl
  | int i => cases h; cases (show x = _ from r); rfl
  | str y =>
    cases (show x = _ from r)
    obtain ⟨hl, rfl⟩ := ite_some h
    exact ⟨Nat.le_trans hl (by decide), rfl⟩
  | lst ds => cases h; obtain ⟨a, xs, rfl, h1, h2⟩ := r; exact .inl ⟨xs, SqL.of (s _ _ h1), isEmpty_rep h2⟩
  | tup ds => cases h; obtain ⟨a, xs, rfl, h1, h2⟩ := r; exact .inr (.inl ⟨xs, sqT_mono s h1, isEmpty_rep h2⟩)
  | scr ns => cases h; obtain ⟨a, rfl, h1⟩ := r; exact .inl ⟨_, s.seq h1, by cases ns <;> rfl⟩
def cTru (g : Gx) : Gt := fun ρ => (g ρ).bind fun p => (truD p.1).map fun b => (b, p.2)
theorem tj_tru (h : EJ X P O e g) (he : ∀ whole, isTrue e X.env whole = (do let v ← whole; standAt e.pos; holding [v] (truthy v)) := by intro _; rfl) : TJ X P O e (cTru g) :=
  (pt_truth h he).imp fun σ H Q ⟨B, Hf, ρ, z, ρ', R, ec, k⟩ => by
    obtain ⟨⟨d, ρ1⟩, h1, ec⟩ := Option.bind_eq_some_iff.mp ec
    obtain ⟨z', h3, ec⟩ := Option.map_eq_some_iff.mp ec
    cases ec
    exact ⟨B, Hf, ρ, d, _, R, h1, fun Hf1 x H1 s1 R1 rx => ⟨_, tru_rep R1.ex rx h3, k Hf1 H1 s1 R1⟩⟩
/-! ### reversed -/
def cRv (g : Gx) : Ga := fun ρ => (g ρ).bind fun p => match p.1 with
  | .lst ds => some (ds.reverse, p.2)
  | .tup ds => some (ds.reverse, p.2)
  | .scr ns => some ((ns.map D.int).reverse, p.2)
  | _ => none
theorem rev_get {ds : List D} {i : Nat} {d : D} (h : ds.reverse[i]? = some d) : i < ds.length ∧ ds[ds.length - 1 - i]? = some d := by
  have hl : i < ds.length := by
    have := (List.getElem?_eq_some_iff.mp h).1
    simpa using this
  exact ⟨hl, by rw [← h, List.getElem?_reverse hl]⟩
theorem wk_revL {K : PySem.W.Frag} {Hf : Hp} {a : Addr} {xs : List V} {ds : List D} (h : ∀ Hf', Same Hf Hf' → SqL K Hf' a xs) (r : RepL K Hf ds xs) : Wk K (Itv K a xs.length) ds.reverse Hf := fun Hf1 H s1 s2 => by
  have hq : SqL K H a xs := s2.seq (h Hf1 s1)
  refine ⟨fun i d hd => ?_, by show xs.length ≤ _; rw [List.length_reverse, r.len]; exact Nat.le_refl _⟩
  obtain ⟨hl, hd'⟩ := rev_get hd
  rw [← r.len] at hl hd'
  obtain ⟨v, h1, h2⟩ := r.get hd'
  refine ⟨⟨hl, xs, v, hq, h1⟩, fun x H' hy => ?_⟩
  obtain ⟨rfl, hx⟩ := hy
  have := hx xs hq
  rw [h1] at this
  cases this
  exact ⟨Hf1, Gr.refl s2, Rep.mono s1 _ _ h2⟩
theorem wk_revT {K : PySem.W.Frag} {Hf : Hp} {a : Addr} {xs : List V} {ds : List D} (h : SqT K Hf a xs) (r : RepL K Hf ds xs) : Wk K (RT.ItvT K a xs.length) ds.reverse Hf := fun Hf1 H s1 s2 => by
  have hq : SqT K H a xs := sqT_mono s2 (sqT_mono s1 h)
  refine ⟨fun i d hd => ?_, by show xs.length ≤ _; rw [List.length_reverse, r.len]; exact Nat.le_refl _⟩
  obtain ⟨hl, hd'⟩ := rev_get hd
  rw [← r.len] at hl hd'
  obtain ⟨v, h1, h2⟩ := r.get hd'
  refine ⟨⟨hl, xs, v, hq, h1⟩, fun x H' hy => ?_⟩
  obtain ⟨rfl, hx⟩ := hy
  have := hx xs hq
  rw [h1] at this
  cases this
  exact ⟨Hf1, Gr.refl s2, Rep.mono s1 _ _ h2⟩
theorem ij_rev {p : Pos} (hm : X.mg "reversed" = none) (he : EJ X P O e g) (hg : Gl X "reversed" := by rfl) (hs : starEach [e] X.env = (false, eval e X.env) :: starEach [] X.env := by rfl) : IJ X P O tg (.Call (.Name "reversed" p) [e] [] pos) (cRv g) :=
  (RT.pi_revA hg hm he hs).imp fun σ H R ⟨B, Hf, ρ, ds, ρ', Rr, q, k⟩ => by
    obtain ⟨⟨d, ρ1⟩, h1, q⟩ := Option.bind_eq_some_iff.mp q
    refine ⟨B, Hf, ρ, d, ρ1, Rr, h1, fun Hf1 v H1 s1 R1 rv => ?_⟩
    cases d with
    | lst xs =>
      cases q
      obtain ⟨a, us, rfl, h3, h4⟩ := rv
      exact ⟨a, us, rfl, .inl ⟨SqL.of (R1.ex _ _ h3), k Hf1 _ H1 s1 R1 (wk_revL (fun Hf' s => SqL.of (s _ _ h3)) h4)⟩⟩
    | tup xs =>
      cases q
      obtain ⟨a, us, rfl, h3, h4⟩ := rv
      exact ⟨a, us, rfl, .inr ⟨sqT_mono R1.ex h3, k Hf1 _ H1 s1 R1 (wk_revT h3 h4)⟩⟩
    | scr ns =>
      cases q
      obtain ⟨a, rfl, h3⟩ := rv
      exact ⟨a, _, rfl, .inl ⟨R1.ex.seq h3, k Hf1 _ H1 s1 R1 (wk_revL (fun Hf' s => s.seq h3) (RepL.ofInts _))⟩⟩
    | _ => cases q
/-! ### sum(range(..)) -/
theorem preSum_le {val : Nat → Int} {c : Nat} : ∀ {n : Nat}, (∀ i, i < n → (val i).natAbs ≤ c) → (preSum val n).natAbs ≤ n * c
  | 0, _ => by simp [preSum]
  | n + 1, h => by
    have h1 := preSum_le (n := n) fun i hi => h i (by omega)
    have h2 := h n (by omega)
    rw [preSum, Nat.succ_mul]
    omega
theorem preSum_list {f : Nat → Int} : ∀ n : Nat, preSum f n = ((List.range n).map f).sum
  | 0 => rfl
  | n + 1 => by rw [preSum, List.range_succ, List.map_append, List.sum_append, preSum_list n]; simp
def cSumR (it : Ga) : Gx := fun ρ => (it ρ).bind fun p => (intsD p.1).bind fun ns => if ns.length ≤ 100000 ∧ ns.all (fun n => decide (n.natAbs ≤ 1000000)) = true then some (.int ns.sum, p.2) else none
theorem intsD_range (i j : Int) : intsD (rangeD i j) = some ((List.range (j - i).toNat).map fun (k : Nat) => i + (k : Int)) := by
  unfold rangeD
  generalize List.range (j - i).toNat = l
  induction l with
  | nil => rfl
  | cons n l ih => rw [List.map_cons, intsD, ih]; rfl
theorem ej_sumRg {te : St → Hp → (Int → Int → Hp → Prop) → Prop} {it : Ga} {p : Pos} (hc : X.calm = true) (hm : X.mg "sum" = none) (he : PRg X e te) (ht : RgT X.K P O te it) (hg : Gl X "sum" := by rfl) (na : starEach [e] X.env = (false, eval e X.env) :: starEach [] X.env := by rfl) :
    EJ X P O (.Call (.Name "sum" p) [e] [] pos) (cSumR it) := ⟨fun pins s σ H Q I ⟨B, Hf, ρ, z, ρ', R, q, k⟩ => by
  obtain ⟨⟨ds, ρ1⟩, h1, q⟩ := Option.bind_eq_some_iff.mp q
  obtain ⟨ns, h2, q⟩ := Option.bind_eq_some_iff.mp q
  obtain ⟨⟨hl, ha⟩, q⟩ := ite_some q
  cases q
  refine wpAny_Call_Name_kw (ld_blt I hg hm boot_sum (PyProof.Rows.callWith_builtin1 (args_cons (thn (he pins s σ H (fun i j H' => ds = rangeD i j ∧ rngB i = true ∧ rngB j = true ∧ ∃ Hf', Same Hf Hf' ∧ Rl X.K B P O Hf' σ H' ρ1) I (ht σ H _ B Hf ρ ds ρ1 R h1 fun i j Hf' H' ed hb hc' s' R' => ⟨ed, hb, hc', Hf', s', R'⟩)) fun x s1 ⟨r, i, j, t, u, v, H1, ex, hr, I1, ed, hb, hc', Hf1, t1, R1⟩ => args_nil ?_) na) na rfl))
  subst ex ed
  rw [intsD_range] at h2
  cases h2
  have b1 := rngB_ok hb
  have b2 := rngB_ok hc'
  rw [List.length_map, List.length_range] at hl
  have hval : ∀ m, m < (j - i).toNat → (i + (m : Int) * 1).natAbs ≤ 1000000 := fun m hm => by
    have := List.all_eq_true.mp ha (i + (m : Int)) (List.mem_map.mpr ⟨m, List.mem_range.mpr hm, rfl⟩)
    rw [Int.mul_one]
    exact of_decide_eq_true this
  refine call_sum_walk (wpAny_pyIter_range hr (small_one b1.1 b1.2 b2.1 b2.2) ?_)
  rw [rangeSize_nat]
  refine ⟨s1.heap.objs.size, [s1.heap.objs.size], [s1.heap.objs.size], (j - i).toNat, _, _, fun m => i + (m : Int) * 1, rfl, Walks.range (A := X.A.in1) (I1.ok.hd hc) _ i 1 (j - i).toNat, ?_, ?_, fun m v hv => hv, fun m hm => ⟨?_, ?_⟩, fun h' tk t' hk => ?_⟩
  · show IsRangeIter _ _ _ _ _
    have := Heap.get?_push_size s1.heap (o := { cls := .type "range_iterator", data := .fields #[rawInt i, rawInt ((j - i).toNat : Nat), rawInt 1] }) rfl
    simpa [IsRangeIter] using this
  · intro b hb
    rw [List.mem_singleton.mp hb, Heap.size_push]
    exact Nat.lt_succ_self _
  · have := hval m hm
    show -(2 ^ 63) ≤ i + (m : Int) * 1 ∧ i + (m : Int) * 1 < 2 ^ 63
    omega
  · have h3 := preSum_le (val := fun m => i + (m : Int) * 1) (c := 1000000) (n := m + 1) fun n hn => hval n (by omega)
    have h4 : (m + 1) * 1000000 ≤ 100000 * 1000000 := Nat.mul_le_mul_right _ (by omega)
    show -(2 ^ 63) ≤ _ ∧ _ < 2 ^ 63
    omega
  · have I2 : Inv X pins σ H1 { s1 with heap := h', toks := tk } := I1.kept fun b o e => hk b o (fun z => by
      rw [List.mem_singleton.mp z] at e
      exact Nat.lt_irrefl _ (Heap.lt_size e)) (Heap.get?_push_of_some _ e)
    refine ⟨.int _, H1, I2, ⟨t', rfl⟩, ?_⟩
    rw [preSum_list, show (fun m : Nat => i + (m : Int) * 1) = fun m : Nat => i + (m : Int) from funext fun m => by rw [Int.mul_one]]
    exact k Hf1 _ H1 t1 R1 rfl⟩
end
end G
namespace G
open PySem L2
section
variable {ρ ρ' : Env} {f h : Gs} {g ga gb gk : Gx} {t ta tb : Gt} {gs : List Gx} {d e z : D} {i j k n : Nat}
@[simp] theorem cSeq_ap : cSeq f h ρ = (f ρ).bind fun r => match r with
  | .nx ρ' => h ρ'
  | .bk ρ' => some (.bk ρ')
  | .ct ρ' => some (.ct ρ')
  | .rt d ρ' => some (.rt d ρ') := rfl
@[simp] theorem cNil_ap : cNil ρ = some (.nx ρ) := rfl
@[simp] theorem cSet_ap : cSet i g ρ = (g ρ).map fun p => .nx (p.2.set i (some p.1)) := rfl
@[simp] theorem cVar_ap : cVar i ρ = (ρ[i]?.getD none).map fun d => (d, ρ) := rfl
@[simp] theorem cK_ap : cK d ρ = some (d, ρ) := rfl
@[simp] theorem cOp_ap {o : D → D → Option D} : cOp o ga gb ρ = (ga ρ).bind fun p => (gb p.2).bind fun q => (o p.1 q.1).map fun z => (z, q.2) := rfl
@[simp] theorem cUn_ap {o : D → Option D} : cUn o g ρ = (g ρ).bind fun p => (o p.1).map fun z => (z, p.2) := rfl
@[simp] theorem cCall_ap {o : List D → Option D} {as : Ga} : cCall o as ρ = (as ρ).bind fun p => (o p.1).map fun z => (z, p.2) := rfl
@[simp] theorem evA_nil : evA [] ρ = some ([], ρ) := rfl
@[simp] theorem evA_cons : evA (g :: gs) ρ = (g ρ).bind fun p => (evA gs p.2).map fun q => (p.1 :: q.1, q.2) := rfl
@[simp] theorem cTup_ap : cTup gs ρ = (evA gs ρ).map fun p => (.tup p.1, p.2) := rfl
@[simp] theorem cLst_ap : cLst gs ρ = (evA gs ρ).map fun p => (.lst p.1, p.2) := rfl
@[simp] theorem evR_nil : evR [] ρ = some ([], ρ) := rfl
@[simp] theorem evR_v {as : List Ar} : evR (.v g :: as) ρ = (g ρ).bind fun p => (evR as p.2).map fun q => (p.1 :: q.1, q.2) := rfl
@[simp] theorem evR_s {as : List Ar} : evR (.s i :: as) ρ = (ρ[i]?.getD none).bind fun _ => (evR as ρ).bind fun q => (q.2[i]?.getD none).map fun d => (d :: q.1, q.2) := rfl
@[simp] theorem slotsR_nil : slotsR [] n = [] := rfl
@[simp] theorem slotsR_v {as : List Ar} : slotsR (.v g :: as) n = slotsR as (n + 1) := rfl
@[simp] theorem slotsR_s {as : List Ar} : slotsR (.s i :: as) n = (n, i) :: slotsR as (n + 1) := rfl
@[simp] theorem setOuts_nil : setOuts [] [] ρ = some ρ := rfl
@[simp] theorem setOuts_cons {r : List (Nat × Nat)} {ds : List D} : setOuts ((n, i) :: r) (d :: ds) ρ = setOuts r ds (ρ.set i (some d)) := rfl
@[simp] theorem cUser_ap {F : Fn} {as : List Ar} : cUser F as ρ = (evR as ρ).bind fun p => (F p.1).bind fun q => (setOuts (slotsR as 0) q.2 p.2).map fun ρ' => (q.1, ρ') := rfl
@[simp] theorem cTest_ap : cTest g ρ = (g ρ).bind fun p => (truthB p.1).map fun b => (b, p.2) := rfl
@[simp] theorem truthB_bl {b : Bool} : truthB (.bl b) = some b := rfl
@[simp] theorem cAnd_ap : cAnd ta tb ρ = (ta ρ).bind fun p => if p.1 = true then tb p.2 else some (false, p.2) := rfl
@[simp] theorem cOr_ap : cOr ta tb ρ = (ta ρ).bind fun p => if p.1 = true then some (true, p.2) else tb p.2 := rfl
@[simp] theorem cNot_ap : cNot ta ρ = (ta ρ).map fun p => (!p.1, p.2) := rfl
@[simp] theorem cAndV_ap : cAndV ga gb ρ = (ga ρ).bind fun p => (truthB p.1).bind fun c => if c = true then gb p.2 else some (.bl false, p.2) := rfl
@[simp] theorem cOrV_ap : cOrV ga gb ρ = (ga ρ).bind fun p => (truthB p.1).bind fun c => if c = true then some (.bl true, p.2) else gb p.2 := rfl
@[simp] theorem cNotV_ap : cNotV ga ρ = (ga ρ).bind fun p => (truthB p.1).map fun c => (.bl !c, p.2) := rfl
@[simp] theorem cIf_ap : cIf t ga gb ρ = (t ρ).bind fun p => if p.1 = true then ga p.2 else gb p.2 := rfl
@[simp] theorem cIfS_ap : cIfS t f h ρ = (t ρ).bind fun p => if p.1 = true then f p.2 else h p.2 := rfl
@[simp] theorem cRet_ap : cRet g ρ = (g ρ).map fun p => .rt p.1 p.2 := rfl
@[simp] theorem cBrk_ap : cBrk ρ = some (.bk ρ) := rfl
@[simp] theorem cCnt_ap : cCnt ρ = some (.ct ρ) := rfl
@[simp] theorem cDrop_ap : cDrop g ρ = (g ρ).map fun p => .nx p.2 := rfl
@[simp] theorem cPar_ap {as : Ga} : cPar i j as ρ = (as ρ).bind fun p => match p.1 with
  | [v, w] => some (.nx ((p.2.set i (some v)).set j (some w)))
  | _ => none := rfl
@[simp] theorem cPure_ap : cPure g ρ = (g ρ).bind fun p => if noMut p.1 = true then some (p.1, ρ) else none := rfl
@[simp] theorem cPureO_ap : cPureO g ρ = (g ρ).bind fun p => if noMutO p.1 = true then some (p.1, ρ) else none := rfl
@[simp] theorem cPureT_ap : cPureT t ρ = (t ρ).map fun p => (p.1, ρ) := rfl
@[simp] theorem noMut_int {i : Int} : noMut (.int i) = true := rfl
@[simp] theorem noMut_bl {b : Bool} : noMut (.bl b) = true := rfl
@[simp] theorem noMut_str {b : Str} : noMut (.str b) = true := rfl
@[simp] theorem noMut_non : noMut .non = true := rfl
@[simp] theorem noMut_tup {ds : List D} : noMut (.tup ds) = noMuts ds := rfl
@[simp] theorem noMuts_nil : noMuts [] = true := rfl
@[simp] theorem noMuts_cons {ds : List D} : noMuts (d :: ds) = (noMut d && noMuts ds) := rfl
@[simp] theorem noMutO_lst {ds : List D} : noMutO (.lst ds) = noMuts ds := rfl
theorem noMuts_all : ∀ {ds : List D}, (∀ d ∈ ds, noMut d = true) → noMuts ds = true
  | [], _ => rfl
  | d :: ds, h => by rw [noMuts_cons, h d List.mem_cons_self, noMuts_all fun e he => h e (List.mem_cons_of_mem _ he)]; rfl
@[simp] theorem noMuts_ints {ns : List Int} : noMuts (ns.map D.int) = true := noMuts_all fun d hd => by obtain ⟨n, _, rfl⟩ := List.mem_map.mp hd; rfl
@[simp] theorem cMt_ap {m : List D → List D → Option (D × List D)} {as : Ga} : cMt m i as ρ = (ρ[i]?.getD none).bind fun _ => (as ρ).bind fun p => (p.2[i]?.getD none).bind fun d => match d with
  | .lst ds => (m ds p.1).map fun q => (q.1, p.2.set i (some (.lst q.2)))
  | _ => none := rfl
@[simp] theorem cSetIx_ap : cSetIx i g gk ρ = (g ρ).bind fun p => (p.2[i]?.getD none).bind fun _ => (gk p.2).bind fun q => (q.2[i]?.getD none).bind fun d => match d, q.1 with
  | .lst ds, .int k => (ixN ds.length k).map fun j => .nx (q.2.set i (some (.lst (ds.set j p.1))))
  | _, _ => none := rfl
@[simp] theorem cIt_ap : cIt g ρ = (g ρ).bind fun p => (itemsD p.1).map fun ds => (ds, p.2) := rfl
@[simp] theorem itemsD_lst {ds : List D} : itemsD (.lst ds) = some ds := rfl
@[simp] theorem itemsD_tup {ds : List D} : itemsD (.tup ds) = some ds := rfl
@[simp] theorem cItA_ap {o : List D → Option (List D)} {as : Ga} : cItA o as ρ = (as ρ).bind fun p => (o p.1).map fun ds => (ds, p.2) := rfl
theorem rng1_ap {j : Int} (h : -1000000000000 ≤ j ∧ j ≤ 1000000000000) : rng1 [.int j] = some (rangeD 0 j) := by
  show (if rngB j = true then some (rangeD 0 j) else none) = _
  rw [if_pos]
  unfold rngB
  rw [decide_eq_true h.1, decide_eq_true h.2]
  rfl
theorem rng2_ap {i j : Int} (h : -1000000000000 ≤ j ∧ j ≤ 1000000000000) (h' : -1000000000000 ≤ i ∧ i ≤ 1000000000000) : rng2 [.int i, .int j] = some (rangeD i j) := by
  show (if rngB i = true ∧ rngB j = true then some (rangeD i j) else none) = _
  rw [if_pos]
  unfold rngB
  rw [decide_eq_true h.1, decide_eq_true h.2, decide_eq_true h'.1, decide_eq_true h'.2]
  exact ⟨rfl, rfl⟩
@[simp] theorem hName_ap : hName i d ρ = some (ρ.set i (some d)) := rfl
@[simp] theorem hNil_ap : hNil [] ρ = some ρ := rfl
@[simp] theorem hCons_ap {hh : Gh} {hs : List D → Env → Option Env} {ds : List D} : hCons hh hs (d :: ds) ρ = (hh d ρ).bind fun ρ' => hs ds ρ' := rfl
@[simp] theorem hTup_tup {hs : List D → Env → Option Env} {ds : List D} : hTup n hs (.tup ds) ρ = if ds.length = n then hs ds ρ else none := rfl
@[simp] theorem hTup_lst {hs : List D → Env → Option Env} {ds : List D} : hTup n hs (.lst ds) ρ = if ds.length = n then hs ds ρ else none := rfl
@[simp] theorem cAsg_ap {hh : Gh} : cAsg hh g ρ = (g ρ).bind fun p => (hh p.1 p.2).map Out.nx := rfl
@[simp] theorem cYes_ap : cYes ρ = some (true, ρ) := rfl
@[simp] theorem wipeE_nil : wipeE ρ [] = ρ := rfl
@[simp] theorem wipeE_cons {v : Nat} {vs : List Nat} : wipeE ρ (v :: vs) = (wipeE ρ vs).set v none := rfl
@[simp] theorem restE_nil {ρ0 : Env} : restE ρ0 ρ [] = ρ := rfl
@[simp] theorem restE_cons {ρ0 : Env} {v : Nat} {vs : List Nat} : restE ρ0 ρ (v :: vs) = (restE ρ0 ρ vs).set v (ρ0[v]?.getD none) := rfl
theorem cComp_ap {it : Ga} {hh : Gh} {vs : List Nat} : cComp it hh t g vs ρ = (it ρ).bind fun p => if p.1.length ≤ 100000 then (loopC hh t g vs p.1 (wipeE p.2 vs)).map fun q => (.lst q.1, restE p.2 q.2 vs) else none := rfl
theorem loopC_nil {hh : Gh} {vs : List Nat} : loopC hh t g vs [] ρ = some ([], ρ) := rfl
theorem loopC_cons {hh : Gh} {vs : List Nat} {x : D} {xs : List D} : loopC hh t g vs (x :: xs) ρ = (hh x ρ).bind fun ρ1 => (t ρ1).bind fun p => if p.1 = true then (g p.2).bind fun q => (loopC hh t g vs xs (wipeE q.2 vs)).map fun r => (q.1 :: r.1, r.2)
    else loopC hh t g vs xs (wipeE p.2 vs) := rfl
theorem cFor_ap {it : Ga} {hh : Gh} : cFor it hh f ρ = (it ρ).bind fun p => loopL (fun x ρ => (hh x ρ).bind f) p.1 p.2 := rfl
theorem loopL_nil {b : D → Env → Option Out} : loopL b [] ρ = some (.nx ρ) := rfl
theorem loopL_cons {b : D → Env → Option Out} {x : D} {xs : List D} : loopL b (x :: xs) ρ = (b x ρ).bind fun r => match r with
    | .nx ρ' => loopL b xs ρ'
    | .ct ρ' => loopL b xs ρ'
    | .bk ρ' => some (.nx ρ')
    | .rt d ρ' => some (.rt d ρ') := rfl
/-! ### operations -/
@[simp] theorem addD_int {i j : Int} : addD (.int i) (.int j) = some (.int (i + j)) := rfl
@[simp] theorem subD_int {i j : Int} : subD (.int i) (.int j) = some (.int (i - j)) := rfl
@[simp] theorem ltD_int {i j : Int} : ltD (.int i) (.int j) = some (.bl (decide (i < j))) := rfl
@[simp] theorem leD_int {i j : Int} : leD (.int i) (.int j) = some (.bl (decide (i ≤ j))) := rfl
@[simp] theorem gtD_int {i j : Int} : gtD (.int i) (.int j) = some (.bl (decide (j < i))) := rfl
@[simp] theorem geD_int {i j : Int} : geD (.int i) (.int j) = some (.bl (decide (j ≤ i))) := rfl
@[simp] theorem negD_int {i : Int} : negD (.int i) = some (.int (-i)) := rfl
@[simp] theorem intD_int {i : Int} : intD [.int i] = some (.int i) := rfl
@[simp] theorem absD_int {i : Int} : absD [.int i] = some (.int (if i < 0 then -i else i)) := rfl
@[simp] theorem gcdD_int {i j : Int} : gcdD [.int i, .int j] = some (.int (Nat.gcd i.natAbs j.natAbs : Nat)) := rfl
@[simp] theorem lenD_lst {ds : List D} : lenD [.lst ds] = some (.int ds.length) := rfl
@[simp] theorem lenD_tup {ds : List D} : lenD [.tup ds] = some (.int ds.length) := rfl
@[simp] theorem lenD_scr {ns : List Int} : lenD [.scr ns] = some (.int ns.length) := rfl
theorem log2_lt {i : Int} {a : Nat} (h : i.natAbs < 2 ^ a) (h0 : 0 < a) : i.natAbs.log2 < a := PySem.Flt.log2_lt_of h0 h
theorem mulD_int {i j : Int} (h : i.natAbs.log2 + j.natAbs.log2 < 100000000) : mulD (.int i) (.int j) = some (.int (i * j)) := by
  show intOpC mulC (fun i j => i * j) (.int i) (.int j) = _
  unfold intOpC
  exact if_pos (decide_eq_true h)
theorem mulD_lt {i j : Int} (a b : Nat) (hi : i.natAbs < 2 ^ a) (hj : j.natAbs < 2 ^ b) (h0 : 0 < a := by decide) (h1 : 0 < b := by decide) (h : a + b ≤ 100000000 := by decide) : mulD (.int i) (.int j) = some (.int (i * j)) :=
  mulD_int (by have := log2_lt hi h0; have := log2_lt hj h1; omega)
theorem fdivD_int {i j : Int} (h : 0 < j) (h2 : j.natAbs.log2 < 9000) : fdivD (.int i) (.int j) = some (.int (i / j)) := by
  show (if divC i j = true then some (D.int (i.fdiv j)) else none) = _
  rw [Int.fdiv_eq_ediv_of_nonneg i (by omega)]
  refine if_pos ?_
  unfold divC
  rw [decide_eq_true (show j ≠ 0 by omega), decide_eq_true h2]
  rfl
theorem fdivD_neg {i j : Int} (h : j ≠ 0) (h2 : j.natAbs.log2 < 9000) : fdivD (.int i) (.int j) = some (.int (i.fdiv j)) := by
  show intOpC divC Int.fdiv (.int i) (.int j) = _
  unfold intOpC
  refine if_pos ?_
  unfold divC
  rw [decide_eq_true h, decide_eq_true h2]
  rfl
theorem modD_int {i j : Int} (h : 0 < j) : modD (.int i) (.int j) = some (.int (i % j)) := by
  show (if modC i j = true then some (D.int (i.fmod j)) else none) = _
  rw [Int.fmod_eq_emod_of_nonneg i (by omega)]
  exact if_pos (decide_eq_true (show j ≠ 0 by omega))
theorem ixN_nat {n k : Nat} (h : k < n) : ixN n (k : Int) = some k := by
  unfold ixN
  rw [if_pos (by omega), if_pos (by omega)]
  rfl
theorem ixN_zero {n : Nat} (h : 0 < n) : ixN n 0 = some 0 := ixN_nat (k := 0) h
@[simp] theorem ixD_lst {ds : List D} {i : Int} : ixD (.lst ds) (.int i) = atI ds i := rfl
@[simp] theorem ixD_tup {ds : List D} {i : Int} : ixD (.tup ds) (.int i) = atI ds i := rfl
@[simp] theorem ixD_scr {ns : List Int} {i : Int} : ixD (.scr ns) (.int i) = (atI ns i).map D.int := rfl
theorem atI_lt {α : Type} {xs : List α} {i : Int} {k : Nat} (h : i = (k : Int)) (hk : k < xs.length) : atI xs i = xs[k]? := by
  subst h
  unfold atI
  rw [ixN_nat hk]
  rfl
@[simp] theorem atI_0 {α : Type} {x : α} {xs : List α} : atI (x :: xs) 0 = some x := atI_nat (j := 0) rfl
@[simp] theorem atI_1 {α : Type} {x y : α} {xs : List α} : atI (x :: y :: xs) 1 = some y := atI_nat (j := 1) rfl
@[simp] theorem atI_2 {α : Type} {x y z : α} {xs : List α} : atI (x :: y :: z :: xs) 2 = some z := atI_nat (j := 2) rfl
end
/-! ### loops -/
theorem loopL_inv {b : D → Env → Option Out} {I : Env → Prop} : ∀ {xs : List D} {ρ : Env}, (∀ x ∈ xs, ∀ ρ, I ρ → ∃ ρ', b x ρ = some (.nx ρ') ∧ I ρ') → I ρ → ∃ ρ', loopL b xs ρ = some (.nx ρ') ∧ I ρ'
  | [], ρ, _, h => ⟨ρ, rfl, h⟩
  | x :: xs, ρ, hs, h => by
    obtain ⟨ρ1, e1, i1⟩ := hs x List.mem_cons_self ρ h
    obtain ⟨ρ2, e2, i2⟩ := loopL_inv (xs := xs) (fun y hy => hs y (List.mem_cons_of_mem _ hy)) i1
    exact ⟨ρ2, by rw [loopL_cons, e1]; exact e2, i2⟩
/-- a loop by a state: turn i leads from S i to S (i + 1) -/
theorem loopL_at {b : D → Env → Option Out} {I : Nat → Env → Prop} : ∀ {xs : List D} {ρ : Env} {n : Nat}, (∀ (i : Nat) x, xs[i]? = some x → ∀ ρ, I (n + i) ρ → ∃ ρ', b x ρ = some (.nx ρ') ∧ I (n + i + 1) ρ') → I n ρ → ∃ ρ', loopL b xs ρ = some (.nx ρ') ∧ I (n + xs.length) ρ'
  | [], ρ, n, _, h => ⟨ρ, rfl, h⟩
  | x :: xs, ρ, n, hs, h => by
    obtain ⟨ρ1, e1, i1⟩ := hs 0 x rfl ρ h
    obtain ⟨ρ2, e2, i2⟩ := loopL_at (xs := xs) (n := n + 1) (fun i y hy ρ hi => by
      have := hs (i + 1) y (by simpa using hy) ρ (by rw [show n + (i + 1) = n + 1 + i by omega]; exact hi)
      rw [show n + (i + 1) + 1 = n + 1 + i + 1 by omega] at this
      exact this) i1
    exact ⟨ρ2, by rw [loopL_cons, e1]; exact e2, by rw [List.length_cons, show n + (xs.length + 1) = n + 1 + xs.length by omega]; exact i2⟩
theorem loopC_inv {hh : Gh} {t : Gt} {g : Gx} {vs : List Nat} {I : Env → Prop} {Pd : D → Prop} : ∀ {xs : List D} {ρ : Env}, (∀ x ∈ xs, ∀ ρ, I ρ → ∃ ρ1 ρ2 z ρ3, hh x ρ = some ρ1 ∧ t ρ1 = some (true, ρ2) ∧ g ρ2 = some (z, ρ3) ∧ Pd z ∧ I (wipeE ρ3 vs)) → I ρ →
    ∃ zs ρ', loopC hh t g vs xs ρ = some (zs, ρ') ∧ zs.length = xs.length ∧ (∀ z ∈ zs, Pd z) ∧ I ρ'
  | [], ρ, _, h => ⟨[], ρ, rfl, rfl, fun _ hz => absurd hz (by simp), h⟩
  | x :: xs, ρ, hs, h => by
    obtain ⟨ρ1, ρ2, z, ρ3, e1, e2, e3, p, i⟩ := hs x List.mem_cons_self ρ h
    obtain ⟨zs, ρ4, e4, l4, p4, i4⟩ := loopC_inv (xs := xs) (fun y hy => hs y (List.mem_cons_of_mem _ hy)) i
    refine ⟨z :: zs, ρ4, ?_, by rw [List.length_cons, List.length_cons, l4], fun y hy => (List.mem_cons.mp hy).elim (fun e => e ▸ p) (p4 y), i4⟩
    rw [loopC_cons, e1, Option.bind_some, e2, Option.bind_some]
    show ((g ρ2).bind fun q => (loopC hh t g vs xs (wipeE q.2 vs)).map fun r => (q.1 :: r.1, r.2)) = _
    rw [e3, Option.bind_some, e4]
    rfl
theorem seq_nx {f h : Gs} {ρ ρ' : Env} (e : f ρ = some (.nx ρ')) : cSeq f h ρ = h ρ' := by rw [cSeq_ap, e]; rfl
theorem if_no {t : Gt} {f h : Gs} {ρ ρ' : Env} (e : t ρ = some (false, ρ')) : cIfS t f h ρ = h ρ' := by rw [cIfS_ap, e]; rfl
theorem if_yes {t : Gt} {f h : Gs} {ρ ρ' : Env} (e : t ρ = some (true, ρ')) : cIfS t f h ρ = f ρ' := by rw [cIfS_ap, e]; rfl
theorem if_nil {t : Gt} {f : Gs} {ρ ρ' : Env} (e : t ρ = some (false, ρ')) : cIfS t f cNil ρ = some (.nx ρ') := if_no e
theorem runB_eq {n m : Nat} {P : List Nat} {own : Bool} {b : Gs} {ds : List D} {d : D} {ρ : Env} {os : List D} (hl : ds.length = m) (e : b (ds.map some ++ List.replicate (n - m) none) = some (.rt d ρ)) (ho : outsOf P ρ = some os) : runB n m P own b ds = some (d, os) := by
  unfold runB
  rw [if_pos hl, e, Option.bind_some]
  show (outsOf P ρ).map _ = _
  rw [ho]
  rfl
/-! ### the law's own helpers -/
def bDigit : Gs := (cSeq (cSet 2 (cOp modD (cCall intD (evA [(cPure (cOp ixD (cVar 0) (cK (D.int 0))))])) (cVar 1)))
    (cSeq (cSetIx 0 (cOp fdivD (cPure (cOp ixD (cVar 0) (cK (D.int 0)))) (cVar 1)) (cK (D.int 0)))
    (cRet (cVar 2))))
theorem digit_eq (n m : Nat) (h : 0 < m) (hm : m < 2 ^ 60) : runB 3 2 [0] false bDigit [.lst [.int n], .int m] = some (.int (n % m : Nat), [.lst [.int (n / m : Nat)]]) := by
  have hlog : ((m : Int)).natAbs.log2 < 9000 := Nat.lt_trans (log2_lt (i := (m : Int)) (a := 60) (by simpa using hm) (by decide)) (by decide)
  have e1 : modD (.int (n : Int)) (.int (m : Int)) = some (.int ((n % m : Nat) : Int)) := by rw [modD_int (by omega)]; rfl
  have e2 : fdivD (.int (n : Int)) (.int (m : Int)) = some (.int ((n / m : Nat) : Int)) := by rw [fdivD_int (by omega) hlog]; rfl
  refine runB_eq (ρ := [some (.lst [.int (n / m : Nat)]), some (.int m), some (.int (n % m : Nat))]) rfl ?_ rfl
  simp [bDigit, e1, e2, ixN_zero]

def bStart : Gs := (cSeq (cSet 2 (cK (D.int 0)))
    (cSeq (cIfS (cTest (cOp gtD (cCall lenD (evA [(cVar 0)])) (cK (D.int 0)))) (cSet 2 (cCall intD (evA [(cOp ixD (cVar 0) (cOp modD (cCall intD (evA [(cVar 1)])) (cCall lenD (evA [(cVar 0)]))))]))) cNil)
    (cSeq (cIfS (cAnd (cTest (cOp ltD (cVar 1) (cCall lenD (evA [(cVar 0)])))) (cTest (cOp geD (cCall absD (evA [(cVar 2)])) (cOp powD (cK (D.int 10)) (cK (D.int 18)))))) (cRet (cLst [(cCall absD (evA [(cVar 2)]))])) cNil)
    (cSeq (cSet 3 (cK (D.int 618970019642690137449562111)))
    (cSeq (cSet 4 (cOp modD (cCall intD (evA [(cOp addD (cOp addD (cOp mulD (cVar 2) (cK (D.int 2654435761))) (cOp mulD (cOp addD (cVar 1) (cK (D.int 1))) (cK (D.int 6700417)))) (cK (D.int 11)))])) (cVar 3)))
    (cSeq (cSet 5 (cK (D.int 0)))
    (cSeq (cFor (cItA rng1 (evA [(cK (D.int 6))])) (hName 6) (cSeq (cSet 4 (cOp modD (cCall intD (evA [(cOp addD (cOp addD (cOp addD (cOp addD (cOp mulD (cVar 4) (cVar 4)) (cOp mulD (cK (D.int 7)) (cVar 4))) (cOp mulD (cK (D.int 131)) (cVar 1))) (cVar 6)) (cK (D.int 3)))])) (cVar 3)))
    (cSet 5 (cOp addD (cOp mulD (cVar 5) (cVar 3)) (cVar 4)))))
    (cRet (cLst [(cVar 5)])))))))))
def prm : Int := 618970019642690137449562111
theorem rangeD_get {lo hi : Int} {i : Nat} {x : D} (h : (rangeD lo hi)[i]? = some x) : x = .int (lo + (i : Int)) ∧ (i : Int) < hi - lo := by
  unfold rangeD at h
  rw [List.getElem?_map] at h
  obtain ⟨c, h1, h2⟩ := Option.map_eq_some_iff.mp h
  obtain ⟨hl, h3⟩ := List.getElem?_eq_some_iff.mp h1
  rw [List.getElem_range] at h3
  rw [List.length_range] at hl
  subst h3
  exact ⟨h2.symm, by omega⟩
theorem rangeD_len {lo hi : Int} : (rangeD lo hi).length = (hi - lo).toNat := by
  unfold rangeD
  simp
theorem rangeD_mem {lo hi : Int} {x : D} (h : x ∈ rangeD lo hi) : ∃ i : Nat, x = .int (lo + (i : Int)) ∧ (i : Int) < hi - lo := by
  obtain ⟨i, hi⟩ := List.mem_iff_getElem?.mp h
  exact ⟨i, rangeD_get hi⟩
theorem bits_log {z : Int} (h : Builtin.Int.intBits z ≤ 1048576) : z.natAbs.log2 ≤ 1048576 := by
  unfold Builtin.Int.intBits at h
  split at h
  · rename_i e
    rw [eq_of_beq e]
    decide
  · omega
theorem start_ex (ns : List Int) (k : Nat) (hk : k < 1000) (hn : ns.length ≤ 63) (hb : ∀ z ∈ ns, Builtin.Int.intBits z ≤ 1048576) : ∃ st : Nat, runB 7 2 [] true bStart [.scr ns, .int k] = some (.lst [.int st], []) := by
  -- the cell
  obtain ⟨cell, e0, hc⟩ : ∃ cell : Int, cIfS (cTest (cOp gtD (cCall lenD (evA [(cVar 0)])) (cK (D.int 0)))) (cSet 2 (cCall intD (evA [(cOp ixD (cVar 0) (cOp modD (cCall intD (evA [(cVar 1)])) (cCall lenD (evA [(cVar 0)]))))]))) cNil [some (.scr ns), some (.int k), some (.int 0), none, none, none, none] =
      some (.nx [some (.scr ns), some (.int k), some (.int cell), none, none, none, none]) ∧ cell.natAbs.log2 ≤ 1048576 := by
    by_cases hl : 0 < ns.length
    · have e1 : modD (.int (k : Int)) (.int (ns.length : Int)) = some (.int ((k % ns.length : Nat) : Int)) := by rw [modD_int (by omega)]; rfl
      have hlt : k % ns.length < ns.length := Nat.mod_lt _ hl
      obtain ⟨z, hz⟩ : ∃ z, ns[k % ns.length]? = some z := ⟨_, List.getElem?_eq_getElem hlt⟩
      refine ⟨z, ?_, bits_log (hb z (List.mem_of_getElem? hz))⟩
      have e2 : atI ns ((k % ns.length : Nat) : Int) = some z := atI_nat hz
      rw [if_yes (ρ' := [some (.scr ns), some (.int k), some (.int 0), none, none, none, none]) (by simp; exact hl)]
      simp [e1, e2, -Int.natCast_emod]
    · refine ⟨0, ?_, by decide⟩
      rw [if_no (ρ' := [some (.scr ns), some (.int k), some (.int 0), none, none, none, none]) (by simp; exact List.length_eq_zero_iff.mp (by omega))]
      rfl
  have e10 : powD (.int 10) (.int 18) = some (.int (10 ^ 18)) := rfl
  by_cases big : (k : Int) < ns.length ∧ (10 ^ 18 : Int) ≤ (if cell < 0 then -cell else cell)
  · refine ⟨cell.natAbs, runB_eq (ρ := [some (.scr ns), some (.int k), some (.int cell), none, none, none, none]) rfl ?_ rfl⟩
    have ea : (if cell < 0 then -cell else cell) = (cell.natAbs : Int) := by split <;> omega
    unfold bStart
    rw [seq_nx (ρ' := [some (.scr ns), some (.int k), some (.int 0), none, none, none, none]) (by simp), seq_nx e0, cSeq_ap, if_yes (ρ' := [some (.scr ns), some (.int k), some (.int cell), none, none, none, none]) ?_]
    · simp [ea]
    · have h1 := big.1
      have h2 := big.2
      rw [ea] at h2
      simp only [cAnd_ap, cTest_ap, cOp_ap, cVar_ap, cCall_ap, evA_cons, evA_nil, cK_ap, List.getElem?_cons_zero, List.getElem?_cons_succ, Option.getD_some, Option.map_some, Option.bind_some, lenD_scr, ltD_int, truthB_bl, decide_eq_true h1, if_pos, absD_int, e10, geD_int, ea, decide_eq_true h2]
  · -- the drawn number
    have stop : cIfS (cAnd (cTest (cOp ltD (cVar 1) (cCall lenD (evA [(cVar 0)])))) (cTest (cOp geD (cCall absD (evA [(cVar 2)])) (cOp powD (cK (D.int 10)) (cK (D.int 18)))))) (cRet (cLst [(cCall absD (evA [(cVar 2)]))])) cNil [some (.scr ns), some (.int k), some (.int cell), none, none, none, none] = some (.nx [some (.scr ns), some (.int k), some (.int cell), none, none, none, none]) := by
      refine if_nil ?_
      by_cases h1 : (k : Int) < ns.length
      · have h2 : ¬ (10 ^ 18 : Int) ≤ (if cell < 0 then -cell else cell) := fun z => big ⟨h1, z⟩
        simp only [cAnd_ap, cTest_ap, cOp_ap, cVar_ap, cCall_ap, evA_cons, evA_nil, cK_ap, List.getElem?_cons_zero, List.getElem?_cons_succ, Option.getD_some, Option.map_some, Option.bind_some, lenD_scr, ltD_int, truthB_bl, decide_eq_true h1, if_pos, absD_int, e10, geD_int, decide_eq_false h2]
      · simp only [cAnd_ap, cTest_ap, cOp_ap, cVar_ap, cCall_ap, evA_cons, evA_nil, cK_ap, List.getElem?_cons_zero, List.getElem?_cons_succ, Option.getD_some, Option.map_some, Option.bind_some, lenD_scr, ltD_int, truthB_bl, decide_eq_false h1]
        rfl
    have m1 : mulD (.int cell) (.int 2654435761) = some (.int (cell * 2654435761)) := mulD_int (by
      have : (2654435761 : Int).natAbs.log2 = 31 := by decide
      omega)
    have m2 : mulD (.int ((k : Int) + 1)) (.int 6700417) = some (.int (((k : Int) + 1) * 6700417)) := mulD_lt 10 23 (by omega) (by decide)
    have pp : (0 : Int) < prm := by decide
    have hp : ∀ z : Int, 0 ≤ z % prm ∧ z % prm < prm := fun z => ⟨Int.emod_nonneg _ (by decide), Int.emod_lt_of_pos _ pp⟩
    have m3 : modD (.int (cell * 2654435761 + ((k : Int) + 1) * 6700417 + 11)) (.int 618970019642690137449562111) = some (.int ((cell * 2654435761 + ((k : Int) + 1) * 6700417 + 11) % prm)) := modD_int pp
    -- the six turns
    obtain ⟨ρ2, e2, m, nm, hρ2, hm, hnm⟩ : ∃ ρ2, loopL (fun x ρ => (hName 6 x ρ).bind (cSeq (cSet 4 (cOp modD (cCall intD (evA [(cOp addD (cOp addD (cOp addD (cOp addD (cOp mulD (cVar 4) (cVar 4)) (cOp mulD (cK (D.int 7)) (cVar 4))) (cOp mulD (cK (D.int 131)) (cVar 1))) (cVar 6)) (cK (D.int 3)))])) (cVar 3)))
        (cSet 5 (cOp addD (cOp mulD (cVar 5) (cVar 3)) (cVar 4))))) (rangeD 0 6) [some (.scr ns), some (.int k), some (.int cell), some (.int prm), some (.int ((cell * 2654435761 + ((k : Int) + 1) * 6700417 + 11) % prm)), some (.int 0), none] = some (.nx ρ2) ∧
        ∃ (m : Int) (nm : Nat), (∃ s, ρ2 = [some (.scr ns), some (.int k), some (.int cell), some (.int prm), some (.int m), some (.int nm), s]) ∧ (0 ≤ m ∧ m < prm) ∧ nm < 2 ^ (100 * 6) := by
      have := loopL_at (b := fun x ρ => (hName 6 x ρ).bind (cSeq (cSet 4 (cOp modD (cCall intD (evA [(cOp addD (cOp addD (cOp addD (cOp addD (cOp mulD (cVar 4) (cVar 4)) (cOp mulD (cK (D.int 7)) (cVar 4))) (cOp mulD (cK (D.int 131)) (cVar 1))) (cVar 6)) (cK (D.int 3)))])) (cVar 3)))
        (cSet 5 (cOp addD (cOp mulD (cVar 5) (cVar 3)) (cVar 4))))) (I := fun i ρ => i ≤ 6 → ∃ (m : Int) (nm : Nat), (∃ s, ρ = [some (.scr ns), some (.int k), some (.int cell), some (.int prm), some (.int m), some (.int nm), s]) ∧ (0 ≤ m ∧ m < prm) ∧ nm < 2 ^ (100 * i)) (xs := rangeD 0 6) (n := 0)
        (ρ := [some (.scr ns), some (.int k), some (.int cell), some (.int prm), some (.int ((cell * 2654435761 + ((k : Int) + 1) * 6700417 + 11) % prm)), some (.int 0), none]) (fun i x hx ρ hI => ?_) (fun _ => ⟨_, 0, ⟨none, rfl⟩, hp _, by decide⟩)
      · obtain ⟨ρ2, e, h⟩ := this
        exact ⟨ρ2, e, h (by rw [rangeD_len]; decide)⟩
      · obtain ⟨rfl, hi⟩ := rangeD_get hx
        have hi6 : i < 6 := by omega
        obtain ⟨m, nm, ⟨s, rfl⟩, hm, hnm⟩ := hI (by omega)
        have b1 : m.natAbs < 2 ^ 90 := by
          have : prm < 2 ^ 90 := by decide
          have e : (2 : Int) ^ 90 = ((2 ^ 90 : Nat) : Int) := by decide
          omega
        have b2 : ((nm : Int)).natAbs < 2 ^ 600 := by
          rw [Int.natAbs_natCast]
          exact Nat.lt_of_lt_of_le hnm (Nat.pow_le_pow_right (by decide) (by omega))
        have q1 : mulD (.int m) (.int m) = some (.int (m * m)) := mulD_lt 90 90 b1 b1
        have q2 : mulD (.int 7) (.int m) = some (.int (7 * m)) := mulD_lt 3 90 (by decide) b1
        have q3 : mulD (.int 131) (.int (k : Int)) = some (.int (131 * (k : Int))) := mulD_lt 8 10 (by decide) (by omega)
        have q4 : ∀ z : Int, modD (.int z) (.int prm) = some (.int (z % prm)) := fun z => modD_int pp
        have q5 : mulD (.int (nm : Int)) (.int prm) = some (.int ((nm : Int) * prm)) := mulD_lt 600 90 b2 (by decide)
        have hz := hp (m * m + 7 * m + 131 * (k : Int) + (0 + (i : Int)) + 3)
        generalize hzz : (m * m + 7 * m + 131 * (k : Int) + (0 + (i : Int)) + 3) % prm = z at hz
        have ez : z = ((z.toNat : Nat) : Int) := by omega
        have hzn : z.toNat < 618970019642690137449562111 := by
          have : prm = 618970019642690137449562111 := rfl
          omega
        refine ⟨[some (.scr ns), some (.int k), some (.int cell), some (.int prm), some (.int z), some (.int ((nm * 618970019642690137449562111 + z.toNat : Nat) : Int)), some (.int (0 + (i : Int)))], ?_, fun _ => ⟨z, nm * 618970019642690137449562111 + z.toNat, ⟨_, rfl⟩, hz, ?_⟩⟩
        · have ee : ((nm * 618970019642690137449562111 + z.toNat : Nat) : Int) = (nm : Int) * prm + z := by
            have : prm = 618970019642690137449562111 := rfl
            rw [this, Int.natCast_add, Int.natCast_mul, ← ez]
            rfl
          rw [ee]
          simp only [hName_ap, List.set_cons_succ, List.set_cons_zero, Option.bind_some, cSeq_ap, cSet_ap, cOp_ap, cCall_ap, evA_cons, evA_nil, cVar_ap, cK_ap, List.getElem?_cons_zero, List.getElem?_cons_succ, Option.getD_some, Option.map_some, q1, q2, q3, q4, q5, addD_int, intD_int, hzz]
        · have e100 : 2 ^ (100 * (0 + i + 1)) = 2 ^ (100 * i) * 2 ^ 100 := by rw [← Nat.pow_add]; congr 1; omega
          rw [e100]
          rw [Nat.zero_add] at hnm
          have h100 : (618970019642690137449562111 : Nat) + 1 ≤ 2 ^ 100 := by decide
          calc nm * 618970019642690137449562111 + z.toNat < nm * 618970019642690137449562111 + 618970019642690137449562111 := by omega
            _ = (nm + 1) * 618970019642690137449562111 := by omega
            _ ≤ 2 ^ (100 * i) * 618970019642690137449562111 := Nat.mul_le_mul_right _ hnm
            _ ≤ 2 ^ (100 * i) * 2 ^ 100 := Nat.mul_le_mul_left _ (by omega)
    obtain ⟨s, rfl⟩ := hρ2
    refine ⟨nm, runB_eq (ρ := [some (.scr ns), some (.int k), some (.int cell), some (.int prm), some (.int m), some (.int nm), s]) rfl ?_ rfl⟩
    unfold bStart
    rw [seq_nx (ρ' := [some (.scr ns), some (.int k), some (.int 0), none, none, none, none]) (by simp), seq_nx e0, seq_nx stop,
      seq_nx (ρ' := [some (.scr ns), some (.int k), some (.int cell), some (.int prm), none, none, none]) (by simp [prm]),
      seq_nx (ρ' := [some (.scr ns), some (.int k), some (.int cell), some (.int prm), some (.int ((cell * 2654435761 + ((k : Int) + 1) * 6700417 + 11) % prm)), none, none]) ?_,
      seq_nx (ρ' := [some (.scr ns), some (.int k), some (.int cell), some (.int prm), some (.int ((cell * 2654435761 + ((k : Int) + 1) * 6700417 + 11) % prm)), some (.int 0), none]) (by simp), seq_nx (ρ' := [some (.scr ns), some (.int k), some (.int cell), some (.int prm), some (.int m), some (.int nm), s]) ?_]
    · simp
    · rw [cFor_ap, cItA_ap, evA_cons, cK_ap, Option.bind_some, evA_nil, Option.map_some, Option.bind_some, rng1_ap (by decide), Option.map_some, Option.bind_some]
      exact e2
    · simp only [cSet_ap, cOp_ap, cCall_ap, evA_cons, evA_nil, cVar_ap, cK_ap, List.getElem?_cons_zero, List.getElem?_cons_succ, Option.getD_some, Option.map_some, Option.bind_some, m1, m2, addD_int, intD_int]
      show ((modD (.int (cell * 2654435761 + ((k : Int) + 1) * 6700417 + 11)) (.int 618970019642690137449562111)).map _).map _ = _
      rw [m3]
      rfl
end G
namespace G
open PySem L2
/-! ### equality of data -/
@[simp] theorem neD_int {i j : Int} : neD (.int i) (.int j) = some (.bl (decide (i ≠ j))) := by
  unfold neD
  rw [if_pos ⟨rfl, rfl⟩]
  show some (D.bl (!(i == j))) = _
  by_cases h : i = j <;> simp [h]
@[simp] theorem eqD_int {i j : Int} : eqD (.int i) (.int j) = some (.bl (decide (i = j))) := by
  unfold eqD
  rw [if_pos ⟨rfl, rfl⟩]
  show some (D.bl (i == j)) = _
  by_cases h : i = j <;> simp [h]
@[simp] theorem neD_bl {i j : Bool} : neD (.bl i) (.bl j) = some (.bl (decide (i ≠ j))) := by
  unfold neD
  rw [if_pos ⟨rfl, rfl⟩]
  show some (D.bl (!(i == j))) = _
  cases i <;> cases j <;> rfl
@[simp] theorem eqD_bl {i j : Bool} : eqD (.bl i) (.bl j) = some (.bl (decide (i = j))) := by
  unfold eqD
  rw [if_pos ⟨rfl, rfl⟩]
  show some (D.bl (i == j)) = _
  cases i <;> cases j <;> rfl
mutual
/-- data without bools -/
def nb : D → Bool
  | .bl _ => false
  | .scr _ => false
  | .tup ds => nbs ds
  | .lst ds => nbs ds
  | _ => true
def nbs : List D → Bool
  | [] => true
  | d :: ds => nb d && nbs ds
end
mutual
theorem eqv_iff : ∀ d e : D, nb d = true → nb e = true → (PyData.eqv d.py e.py = true ↔ d = e)
  | .non, e, _, h => by cases e <;> simp_all [D.py, PyData.eqv, nb]
  | .bl _, _, h, _ => by simp [nb] at h
  | .scr _, _, h, _ => by simp [nb] at h
  | .int i, e, _, h => by cases e <;> simp_all [D.py, PyData.eqv, nb]
  | .str i, e, _, h => by cases e <;> simp_all [D.py, PyData.eqv, nb]
  | .tup ds, e, h, h' => by
    cases e with
    | tup es =>
      rw [nb] at h h'
      rw [D.py, D.py, PyData.eqv, eqvs_iff ds es h h', D.tup.injEq]
    | _ => simp_all [D.py, PyData.eqv, nb]
  | .lst ds, e, h, h' => by
    cases e with
    | lst es =>
      rw [nb] at h h'
      rw [D.py, D.py, PyData.eqv, eqvs_iff ds es h h', D.lst.injEq]
    | _ => simp_all [D.py, PyData.eqv, nb]
theorem eqvs_iff : ∀ ds es : List D, nbs ds = true → nbs es = true → (PyData.eqvAll (D.pys ds) (D.pys es) = true ↔ ds = es)
  | [], [], _, _ => by simp [D.pys, PyData.eqvAll]
  | [], _ :: _, _, _ => by simp [D.pys, PyData.eqvAll]
  | _ :: _, [], _, _ => by simp [D.pys, PyData.eqvAll]
  | d :: ds, e :: es, h, h' => by
    rw [nbs, Bool.and_eq_true] at h h'
    rw [D.pys, D.pys, PyData.eqvAll, Bool.and_eq_true, eqv_iff d e h.1 h'.1, eqvs_iff ds es h.2 h'.2, List.cons.injEq]
end
mutual
theorem eqv_self : ∀ d : D, PyData.eqv d.py d.py = true
  | .non => by simp [D.py, PyData.eqv]
  | .bl b => by simp [D.py, PyData.eqv]
  | .int b => by simp [D.py, PyData.eqv]
  | .str b => by simp [D.py, PyData.eqv]
  | .tup ds => by rw [D.py, PyData.eqv]; exact eqvs_self ds
  | .lst ds => by rw [D.py, PyData.eqv]; exact eqvs_self ds
  | .scr ns => by
    rw [D.py, PyData.eqv]
    induction ns with
    | nil => simp [PyData.eqvAll]
    | cons n ns ih => rw [List.map_cons, PyData.eqvAll, ih]; simp [PyData.eqv]
theorem eqvs_self : ∀ ds : List D, PyData.eqvAll (D.pys ds) (D.pys ds) = true
  | [] => by simp [D.pys, PyData.eqvAll]
  | d :: ds => by rw [D.pys, PyData.eqvAll, eqv_self d, eqvs_self ds]; rfl
end
theorem neD_self {d : D} (h : d.shp = true) : neD d d = some (.bl false) := by
  unfold neD
  rw [if_pos ⟨h, h⟩, show D.eqv d d = true from eqv_self d]
  rfl
theorem eqD_self {d : D} (h : d.shp = true) : eqD d d = some (.bl true) := by
  unfold eqD
  rw [if_pos ⟨h, h⟩, show D.eqv d d = true from eqv_self d]
theorem eqv_ne {d e : D} (h : nb d = true) (h' : nb e = true) (n : d ≠ e) : D.eqv d e = false := by
  cases q : D.eqv d e with
  | false => rfl
  | true => exact absurd ((eqv_iff d e h h').mp q) n
theorem eqD_nb {d e : D} (s : d.shp = true) (s' : e.shp = true) (h : nb d = true) (h' : nb e = true) [Decidable (d = e)] : eqD d e = some (.bl (decide (d = e))) := by
  by_cases q : d = e
  · subst q; rw [eqD_self s]; simp
  · unfold eqD; rw [if_pos ⟨s, s'⟩, eqv_ne h h' q]; simp [q]
theorem neD_nb {d e : D} (s : d.shp = true) (s' : e.shp = true) (h : nb d = true) (h' : nb e = true) [Decidable (d = e)] : neD d e = some (.bl (decide (d ≠ e))) := by
  by_cases q : d = e
  · subst q; rw [neD_self s]; simp
  · unfold neD; rw [if_pos ⟨s, s'⟩, eqv_ne h h' q]; simp [q]
/-! ### shapes -/
mutual
def D.dep : D → Nat
  | .tup ds => D.deps ds + 1
  | .lst ds => D.deps ds + 1
  | .scr _ => 1
  | _ => 0
def D.deps : List D → Nat
  | [] => 0
  | d :: ds => max d.dep (D.deps ds)
end
mutual
def D.okS : D → Bool
  | .str x => PyData.strOk x
  | .tup ds => D.okSs ds
  | .lst ds => D.okSs ds
  | _ => true
def D.okSs : List D → Bool
  | [] => true
  | d :: ds => d.okS && D.okSs ds
end
mutual
theorem py_can : ∀ d : D, PyData.canLay0 d.py = d.okS
  | .non => rfl
  | .bl _ => rfl
  | .int _ => rfl
  | .str _ => rfl
  | .tup ds => by rw [D.py, PyData.canLay0, D.okS]; exact pys_can ds
  | .lst ds => by rw [D.py, PyData.canLay0, D.okS]; exact pys_can ds
  | .scr ns => by
    rw [D.py, PyData.canLay0, show D.okS (.scr ns) = true by simp [D.okS]]
    induction ns with
    | nil => rfl
    | cons n ns ih => rw [List.map_cons, PyData.canLayAll0, ih]; rfl
theorem pys_can : ∀ ds : List D, PyData.canLayAll0 (D.pys ds) = D.okSs ds
  | [] => rfl
  | d :: ds => by rw [D.pys, PyData.canLayAll0, D.okSs, py_can d, pys_can ds]
end
mutual
theorem py_dep : ∀ d : D, PyData.depth d.py = d.dep
  | .non => rfl
  | .bl _ => rfl
  | .int _ => rfl
  | .str _ => rfl
  | .tup ds => by rw [D.py, PyData.depth, D.dep, pys_dep ds]
  | .lst ds => by rw [D.py, PyData.depth, D.dep, pys_dep ds]
  | .scr ns => by
    rw [D.py, PyData.depth, D.dep]
    suffices h : PyData.depthAll (ns.map PyData.int) = 0 by rw [h]
    induction ns with
    | nil => rfl
    | cons n ns ih => rw [List.map_cons, PyData.depthAll, ih]; rfl
theorem pys_dep : ∀ ds : List D, PyData.depthAll (D.pys ds) = D.deps ds
  | [] => rfl
  | d :: ds => by rw [D.pys, PyData.depthAll, D.deps, py_dep d, pys_dep ds]
end
theorem shp_eq (d : D) : d.shp = (d.okS && decide (d.dep ≤ 64)) := by
  unfold D.shp SeqAt.shaped
  rw [py_can, py_dep]
theorem shp_of {d : D} (h : d.okS = true) (h2 : d.dep ≤ 64) : d.shp = true := by
  rw [shp_eq, h, decide_eq_true h2]; rfl
theorem okSs_all : ∀ {ds : List D}, (∀ d ∈ ds, d.okS = true) → D.okSs ds = true
  | [], _ => rfl
  | d :: ds, h => by rw [D.okSs, h d List.mem_cons_self, okSs_all fun x hx => h x (List.mem_cons_of_mem _ hx)]; rfl
theorem deps_le : ∀ {ds : List D} {n : Nat}, (∀ d ∈ ds, d.dep ≤ n) → D.deps ds ≤ n
  | [], _, _ => Nat.zero_le _
  | d :: ds, n, h => by
    rw [D.deps]
    exact Nat.max_le.mpr ⟨h d List.mem_cons_self, deps_le fun x hx => h x (List.mem_cons_of_mem _ hx)⟩
theorem nbs_all : ∀ {ds : List D}, (∀ d ∈ ds, nb d = true) → nbs ds = true
  | [], _ => rfl
  | d :: ds, h => by rw [nbs, h d List.mem_cons_self, nbs_all fun x hx => h x (List.mem_cons_of_mem _ hx)]; rfl
/-- plain data: equality is == -/
structure Pl (d : D) (n : Nat) : Prop where
  ok : d.okS = true
  dp : d.dep ≤ n
  nb : nb d = true
theorem Pl.int (i : Int) (n : Nat) : Pl (.int i) n := ⟨rfl, Nat.zero_le _, rfl⟩
theorem Pl.non (n : Nat) : Pl .non n := ⟨rfl, Nat.zero_le _, rfl⟩
theorem Pl.str {x : Str} (h : PyData.strOk x = true) (n : Nat) : Pl (.str x) n := ⟨h, Nat.zero_le _, rfl⟩
theorem Pl.lst {ds : List D} {n : Nat} (h : ∀ d ∈ ds, Pl d n) : Pl (.lst ds) (n + 1) := ⟨okSs_all fun d hd => (h d hd).ok, Nat.succ_le_succ (deps_le fun d hd => (h d hd).dp), nbs_all fun d hd => (h d hd).nb⟩
theorem Pl.tup {ds : List D} {n : Nat} (h : ∀ d ∈ ds, Pl d n) : Pl (.tup ds) (n + 1) := ⟨okSs_all fun d hd => (h d hd).ok, Nat.succ_le_succ (deps_le fun d hd => (h d hd).dp), nbs_all fun d hd => (h d hd).nb⟩
theorem Pl.ints (ns : List Int) : Pl (.lst (ns.map D.int)) 1 := Pl.lst fun d hd => by obtain ⟨i, _, rfl⟩ := List.mem_map.mp hd; exact Pl.int i 0
theorem Pl.intT (ns : List Int) : Pl (.tup (ns.map D.int)) 1 := Pl.tup fun d hd => by obtain ⟨i, _, rfl⟩ := List.mem_map.mp hd; exact Pl.int i 0
theorem Pl.shp {d : D} {n : Nat} (h : Pl d n) (hn : n ≤ 64 := by decide) : d.shp = true := shp_of h.ok (Nat.le_trans h.dp hn)
theorem Pl.ne {d e : D} {n m : Nat} (h : Pl d n) (h' : Pl e m) [Decidable (d = e)] (hn : n ≤ 64 := by decide) (hm : m ≤ 64 := by decide) : neD d e = some (.bl (decide (d ≠ e))) := neD_nb (h.shp hn) (h'.shp hm) h.nb h'.nb
theorem Pl.eq {d e : D} {n m : Nat} (h : Pl d n) (h' : Pl e m) [Decidable (d = e)] (hn : n ≤ 64 := by decide) (hm : m ≤ 64 := by decide) : eqD d e = some (.bl (decide (d = e))) := eqD_nb (h.shp hn) (h'.shp hm) h.nb h'.nb
theorem Pl.ne0 {d : D} {n : Nat} (h : Pl d n) (hn : n ≤ 64 := by decide) : neD d d = some (.bl false) := neD_self (h.shp hn)
theorem map_int_inj {a b : List Int} : a.map D.int = b.map D.int ↔ a = b := by
  constructor
  · intro h
    have := congrArg (List.map fun d => match d with | D.int i => i | _ => 0) h
    simpa [List.map_map, Function.comp_def] using this
  · rintro rfl; rfl
/-! ### comprehensions -/
section
variable {ρ : Env} {it : Ga} {v : Nat} {t : Gt} {g : Gx} {ds : List D}
theorem set_rest (ρ : Env) (v : Nat) (z : Option D) (hv : v < ρ.length) : (ρ.set v z).set v (ρ[v]?.getD none) = ρ := by
  rw [List.set_set, List.getElem?_eq_getElem hv, Option.getD_some, List.set_getElem_self]
theorem loopC_1 {F : D → D} {c : D → Bool} : ∀ {ds : List D} {z : Option D}, (∀ x ∈ ds, t (ρ.set v (some x)) = some (c x, ρ.set v (some x)) ∧ (c x = true → g (ρ.set v (some x)) = some (F x, ρ.set v (some x)))) →
    ∃ z', loopC (hName v) t g [v] ds (ρ.set v z) = some ((ds.filter c).map F, ρ.set v z')
  | [], z, _ => ⟨z, rfl⟩
  | x :: xs, z, h => by
    obtain ⟨h1, h2⟩ := h x List.mem_cons_self
    rw [loopC_cons, hName_ap, List.set_set, Option.bind_some, h1, Option.bind_some]
    cases hc : c x with
    | true =>
      rw [if_pos rfl, h2 hc, Option.bind_some, wipeE_cons, wipeE_nil, List.set_set]
      obtain ⟨z', e⟩ := loopC_1 (ds := xs) (z := none) fun y hy => h y (List.mem_cons_of_mem _ hy)
      exact ⟨z', by rw [e, List.filter_cons_of_pos hc]; rfl⟩
    | false =>
      rw [if_neg Bool.false_ne_true, wipeE_cons, wipeE_nil, List.set_set]
      obtain ⟨z', e⟩ := loopC_1 (ds := xs) (z := none) fun y hy => h y (List.mem_cons_of_mem _ hy)
      exact ⟨z', by rw [e, List.filter_cons_of_neg (by rw [hc]; exact Bool.false_ne_true)]⟩
/-- [g for v in it if t], that changes nothing -/
theorem comp_if {F : D → D} {c : D → Bool} (hv : v < ρ.length) (hi : it ρ = some (ds, ρ)) (hl : ds.length ≤ 100000) (h : ∀ x ∈ ds, t (ρ.set v (some x)) = some (c x, ρ.set v (some x)) ∧ (c x = true → g (ρ.set v (some x)) = some (F x, ρ.set v (some x)))) :
    cComp it (hName v) t g [v] ρ = some (.lst ((ds.filter c).map F), ρ) := by
  obtain ⟨z', e⟩ := loopC_1 (z := none) h
  rw [cComp_ap, hi, Option.bind_some, if_pos hl, wipeE_cons, wipeE_nil, e, Option.map_some, restE_cons, restE_nil]
  show some (D.lst ((ds.filter c).map F), (ρ.set v z').set v (ρ[v]?.getD none)) = _
  rw [set_rest ρ v z' hv]
/-- [g for v in it], that changes nothing -/
theorem comp_map {F : D → D} (hv : v < ρ.length) (hi : it ρ = some (ds, ρ)) (hl : ds.length ≤ 100000) (h : ∀ x ∈ ds, g (ρ.set v (some x)) = some (F x, ρ.set v (some x))) :
    cComp it (hName v) cYes g [v] ρ = some (.lst (ds.map F), ρ) := by
  rw [comp_if (F := F) (c := fun _ => true) hv hi hl fun x hx => ⟨rfl, fun _ => h x hx⟩, List.filter_eq_self.mpr fun _ _ => rfl]
end
theorem rangeD_map {β : Type} (lo hi : Int) (F : D → β) : (rangeD lo hi).map F = (List.range (hi - lo).toNat).map fun i => F (.int (lo + (i : Nat))) := by unfold rangeD; rw [List.map_map]; rfl
theorem range0_map {β : Type} (n : Nat) (F : D → β) : (rangeD 0 (n : Int)).map F = (List.range n).map fun i => F (.int (i : Nat)) := by
  rw [rangeD_map]
  simp
theorem rngN {n : Nat} (h : n ≤ 1000000 := by omega) : rng1 [.int (n : Int)] = some (rangeD 0 n) := rng1_ap ⟨by omega, by omega⟩
theorem mem_range0 {n : Nat} {x : D} (h : x ∈ rangeD 0 (n : Int)) : ∃ i : Nat, x = .int (i : Int) ∧ i < n := by
  obtain ⟨i, e, h⟩ := rangeD_mem h
  exact ⟨i, by rw [e]; simp, by omega⟩
theorem range0_len (n : Nat) : (rangeD 0 (n : Int)).length = n := by rw [rangeD_len]; simp
theorem range0_get {n i : Nat} {x : D} (h : (rangeD 0 (n : Int))[i]? = some x) : x = .int (i : Int) ∧ i < n := by
  obtain ⟨e, h⟩ := rangeD_get h
  exact ⟨by rw [e]; simp, by omega⟩
/-! ### comprehensions by index -/
section
variable {α : Type} {ρ : Env} {it : Ga} {v : Nat} {t : Gt} {g : Gx}
theorem loopC_ix {G F : α → D} {c : α → Bool} : ∀ {is : List α} {z : Option D}, (∀ i ∈ is, t (ρ.set v (some (G i))) = some (c i, ρ.set v (some (G i))) ∧ (c i = true → g (ρ.set v (some (G i))) = some (F i, ρ.set v (some (G i))))) →
    ∃ z', loopC (hName v) t g [v] (is.map G) (ρ.set v z) = some ((is.filter c).map F, ρ.set v z')
  | [], z, _ => ⟨z, rfl⟩
  | x :: xs, z, h => by
    obtain ⟨h1, h2⟩ := h x List.mem_cons_self
    rw [List.map_cons, loopC_cons, hName_ap, List.set_set, Option.bind_some, h1, Option.bind_some]
    cases hc : c x with
    | true =>
      rw [if_pos rfl, h2 hc, Option.bind_some, wipeE_cons, wipeE_nil, List.set_set]
      obtain ⟨z', e⟩ := loopC_ix (is := xs) (z := none) fun y hy => h y (List.mem_cons_of_mem _ hy)
      exact ⟨z', by rw [e, List.filter_cons_of_pos hc]; rfl⟩
    | false =>
      rw [if_neg Bool.false_ne_true, wipeE_cons, wipeE_nil, List.set_set]
      obtain ⟨z', e⟩ := loopC_ix (is := xs) (z := none) fun y hy => h y (List.mem_cons_of_mem _ hy)
      exact ⟨z', by rw [e, List.filter_cons_of_neg (by rw [hc]; exact Bool.false_ne_true)]⟩
theorem comp_ixIf {G F : α → D} {c : α → Bool} {is : List α} (hv : v < ρ.length) (hi : it ρ = some (is.map G, ρ)) (hl : is.length ≤ 100000)
    (h : ∀ i ∈ is, t (ρ.set v (some (G i))) = some (c i, ρ.set v (some (G i))) ∧ (c i = true → g (ρ.set v (some (G i))) = some (F i, ρ.set v (some (G i))))) :
    cComp it (hName v) t g [v] ρ = some (.lst ((is.filter c).map F), ρ) := by
  obtain ⟨z', e⟩ := loopC_ix (z := none) h
  rw [cComp_ap, hi, Option.bind_some, if_pos (by rw [List.length_map]; exact hl), wipeE_cons, wipeE_nil, e, Option.map_some, restE_cons, restE_nil]
  show some (D.lst ((is.filter c).map F), (ρ.set v z').set v (ρ[v]?.getD none)) = _
  rw [set_rest ρ v z' hv]
theorem comp_ix {G F : α → D} {is : List α} (hv : v < ρ.length) (hi : it ρ = some (is.map G, ρ)) (hl : is.length ≤ 100000) (h : ∀ i ∈ is, g (ρ.set v (some (G i))) = some (F i, ρ.set v (some (G i)))) :
    cComp it (hName v) cYes g [v] ρ = some (.lst (is.map F), ρ) := by
  rw [comp_ixIf (F := F) (c := fun _ => true) hv hi hl fun x hx => ⟨rfl, fun _ => h x hx⟩, List.filter_eq_self.mpr fun _ _ => rfl]
end
theorem rangeD_nat (n : Nat) : rangeD 0 (n : Int) = (List.range n).map fun (i : Nat) => D.int (i : Int) := by
  unfold rangeD
  simp
theorem filter_one {n k : Nat} {p : Nat → Bool} (hk : k < n) (h : ∀ i, i < n → (p i = true ↔ i = k)) : (List.range n).filter p = [k] := by
  induction n with
  | zero => omega
  | succ n ih =>
    rw [List.range_succ, List.filter_append]
    by_cases hn : n = k
    · subst hn
      rw [List.filter_eq_nil_iff.mpr fun i hi => by
        have hi := List.mem_range.mp hi
        rw [h i (by omega)]; omega, List.filter_cons_of_pos ((h n (by omega)).mpr rfl)]
      rfl
    · rw [ih (by omega) fun i hi => h i (by omega), List.filter_cons_of_neg (by rw [h n (by omega)]; exact hn)]
      rfl
theorem itR {g : Gx} {ρ ρ' : Env} {n : Nat} (h : g ρ = some (.int (n : Nat), ρ')) (hn : n ≤ 1000000 := by omega) : cItA rng1 (evA [g]) ρ = some (rangeD 0 (n : Nat), ρ') := by
  rw [cItA_ap, evA_cons, h, Option.bind_some, evA_nil, Option.map_some, Option.bind_some]
  show ((rng1 [.int (n : Nat)]).map fun ds => (ds, ρ')) = _
  rw [rngN hn]
  rfl
theorem itRm {g : Gx} {ρ ρ' : Env} {n : Nat} (h : g ρ = some (.int (n : Nat), ρ')) (hn : n ≤ 1000000 := by omega) : cItA rng1 (evA [g]) ρ = some ((List.range n).map fun (i : Nat) => D.int (i : Int), ρ') := by
  rw [itR h hn, rangeD_nat]
theorem lenD_str {x : Str} (h : x.length ≤ 100000) : lenD [.str x] = some (.int x.length) := if_pos h
/-! ### draws -/
abbrev sta (n : Nat) : D := .lst [.int n]
def DigF (F : Fn) : Prop := ∀ n m : Nat, 0 < m → m < 2 ^ 60 → F [sta n, .int m] = some (.int (n % m : Nat), [sta (n / m)])
theorem digit_ap {F : Fn} (hF : DigF F) {s m st : Nat} {g : Gx} {ρ : Env} (hs : ρ[s]? = some (some (sta st))) (hg : g ρ = some (.int (m : Nat), ρ)) (h0 : 0 < m) (h1 : m < 2 ^ 60) :
    cUser F [.s s, .v g] ρ = some (.int (st % m : Nat), ρ.set s (some (sta (st / m)))) := by
  rw [cUser_ap, evR_s, hs, Option.getD_some, Option.bind_some, evR_v, hg]
  simp only [Option.bind_some, evR_nil, Option.map_some, hs, Option.getD_some, hF st m h0 h1, slotsR_s, slotsR_v, slotsR_nil, setOuts_cons, setOuts_nil]
section
variable {α : Type} {G : α → D} {Pd : α → Prop} {v s : Nat} {g : Gx} {ρ : Env}
theorem loopC_draw (hvs : v ≠ s) : ∀ {ds : List D} {st : Nat} {z : Option D}, (∀ x ∈ ds, ∀ st : Nat, ∃ a, ∃ st' : Nat, Pd a ∧ g ((ρ.set s (some (sta st))).set v (some x)) = some (G a, (ρ.set s (some (sta st'))).set v (some x))) →
    ∃ (l : List α) (st' : Nat) (z' : Option D), l.length = ds.length ∧ (∀ a ∈ l, Pd a) ∧ loopC (hName v) cYes g [v] ds ((ρ.set s (some (sta st))).set v z) = some (l.map G, (ρ.set s (some (sta st'))).set v z')
  | [], st, z, _ => ⟨[], st, z, rfl, by simp, rfl⟩
  | x :: xs, st, z, h => by
    obtain ⟨a, st1, p, e⟩ := h x List.mem_cons_self st
    obtain ⟨l, st2, z', h1, h2, h3⟩ := loopC_draw hvs (ds := xs) (st := st1) (z := none) fun y hy => h y (List.mem_cons_of_mem _ hy)
    refine ⟨a :: l, st2, z', by rw [List.length_cons, List.length_cons, h1], fun b hb => (List.mem_cons.mp hb).elim (fun e => e ▸ p) (h2 b), ?_⟩
    rw [loopC_cons, hName_ap, List.set_set, Option.bind_some, cYes_ap, Option.bind_some, if_pos rfl]
    show (g ((ρ.set s (some (sta st))).set v (some x))).bind _ = _
    rw [e, Option.bind_some, wipeE_cons, wipeE_nil, List.set_set, h3]
    rfl
theorem comp_draw {it : Ga} {ρ0 : Env} {ds : List D} {st : Nat} (hvs : v ≠ s) (hit : it ρ0 = some (ds, ρ)) (hs : ρ[s]? = some (some (sta st))) (hv : v < ρ.length) (hl : ds.length ≤ 100000)
    (h : ∀ x ∈ ds, ∀ st : Nat, ∃ a, ∃ st' : Nat, Pd a ∧ g ((ρ.set s (some (sta st))).set v (some x)) = some (G a, (ρ.set s (some (sta st'))).set v (some x))) :
    ∃ (l : List α) (st' : Nat), l.length = ds.length ∧ (∀ a ∈ l, Pd a) ∧ cComp it (hName v) cYes g [v] ρ0 = some (.lst (l.map G), ρ.set s (some (sta st'))) := by
  obtain ⟨l, st', z', h1, h2, h3⟩ := loopC_draw hvs (st := st) (z := none) h
  refine ⟨l, st', h1, h2, ?_⟩
  have e : ρ.set s (some (sta st)) = ρ := by
    obtain ⟨hl, e⟩ := List.getElem?_eq_some_iff.mp hs
    rw [← e, List.set_getElem_self]
  rw [e] at h3
  rw [cComp_ap, hit, Option.bind_some, if_pos hl, wipeE_cons, wipeE_nil, h3, Option.map_some, restE_cons, restE_nil]
  show some (D.lst (l.map G), ((ρ.set s (some (sta st'))).set v z').set v (ρ[v]?.getD none)) = _
  have := set_rest (ρ.set s (some (sta st'))) v z' (by rw [List.length_set]; exact hv)
  rw [List.getElem?_set_ne (Ne.symm hvs)] at this
  rw [this]
end
theorem blsD_map {α : Type} (f : α → Bool) : ∀ l : List α, blsD (l.map fun i => D.bl (f i)) = some (l.map f)
  | [] => rfl
  | a :: l => by
    rw [List.map_cons, blsD, blsD_map f l]
    rfl
theorem strsD_map {α : Type} (f : α → Str) : ∀ l : List α, strsD (l.map fun i => D.str (f i)) = some (l.map f)
  | [] => rfl
  | a :: l => by
    rw [List.map_cons, strsD, strsD_map f l]
    rfl
theorem intsD_map {α : Type} (f : α → Int) : ∀ l : List α, intsD (l.map fun i => D.int (f i)) = some (l.map f)
  | [] => rfl
  | a :: l => by
    rw [List.map_cons, intsD, intsD_map f l]
    rfl
theorem allD_map {α : Type} (f : α → Bool) (l : List α) : allD [.lst (l.map fun i => D.bl (f i))] = some (.bl (l.all f)) := by
  show (blsD _).map _ = _
  rw [blsD_map, Option.map_some, List.all_map]
  rfl
end G
namespace G
open PySem L2
@[simp] theorem cTru_ap {g : Gx} {ρ : Env} : cTru g ρ = (g ρ).bind fun p => (truD p.1).map fun b => (b, p.2) := rfl
@[simp] theorem truD_bl {b : Bool} : truD (.bl b) = some b := rfl
@[simp] theorem truD_non : truD .non = some false := rfl
@[simp] theorem truD_lst {ds : List D} : truD (.lst ds) = some (!ds.isEmpty) := rfl
@[simp] theorem truD_int {i : Int} : truD (.int i) = some (i != 0) := rfl
@[simp] theorem cChain_ap {g : Gx} {l : List ((D → D → Option D) × Gx)} {ρ : Env} : cChain g l ρ = (g ρ).bind fun p => chainS p.1 l p.2 := rfl
@[simp] theorem chainS_one {d : D} {o : D → D → Option D} {g : Gx} {ρ : Env} : chainS d [(o, g)] ρ = (g ρ).bind fun q => (o d q.1).map fun z => (z, q.2) := rfl
@[simp] theorem chainS_cons {d : D} {o : D → D → Option D} {g : Gx} {q : (D → D → Option D) × Gx} {l : List ((D → D → Option D) × Gx)} {ρ : Env} : chainS d ((o, g) :: q :: l) ρ = (g ρ).bind fun p => (o d p.1).bind fun z => (truthB z).bind fun c => if c = true then chainS p.1 (q :: l) p.2 else some (.bl false, p.2) := rfl
theorem itR2 {g h : Gx} {ρ ρ1 ρ2 : Env} {i j : Int} (h1 : g ρ = some (.int i, ρ1)) (h2 : h ρ1 = some (.int j, ρ2)) (a : -1000000 ≤ i ∧ i ≤ 1000000 := by omega) (b : -1000000 ≤ j ∧ j ≤ 1000000 := by omega) : cItA rng2 (evA [g, h]) ρ = some (rangeD i j, ρ2) := by
  rw [cItA_ap, evA_cons, h1, Option.bind_some, evA_cons, h2, Option.bind_some, evA_nil, Option.map_some, Option.map_some, Option.bind_some]
  show ((rng2 [.int i, .int j]).map fun ds => (ds, ρ2)) = _
  rw [rng2_ap ⟨by omega, by omega⟩ ⟨by omega, by omega⟩]
  rfl
theorem isN_non : isN .non .non = some (.bl true) := rfl
theorem notN_non : notN .non .non = some (.bl false) := rfl
theorem isN_tup {ds : List D} : isN (.tup ds) .non = some (.bl false) := rfl
theorem notN_tup {ds : List D} : notN (.tup ds) .non = some (.bl true) := rfl
/-! ### [g for a, b in enumerate(x)] -/
section
variable {α : Type} {ρ : Env} {a b : Nat} {g g0 : Gx}
theorem loopC_pair {G : α → D} {F : Nat → α → D} (hab : a ≠ b) (ha : a < ρ.length) (hb : b < ρ.length) : ∀ {is : List α} {n : Nat} {za zb : Option D},
    (∀ (i : Nat) x, is[i]? = some x → g ((ρ.set b (some (G x))).set a (some (.int ((n + i : Nat) : Int)))) = some (F (n + i) x, (ρ.set b (some (G x))).set a (some (.int ((n + i : Nat) : Int))))) →
    ∃ za' zb', loopC (hTup 2 (hCons (hName a) (hCons (hName b) hNil))) cYes g [a, b] ((is.mapIdx fun i x => (n + i, x)).map fun p => D.tup [.int ((p.1 : Nat) : Int), G p.2]) ((ρ.set b zb).set a za) = some ((is.mapIdx fun i x => (n + i, x)).map fun p => F p.1 p.2, (ρ.set b zb').set a za')
  | [], n, za, zb, _ => ⟨za, zb, rfl⟩
  | x :: xs, n, za, zb, h => by
    have h0 := h 0 x rfl
    rw [Nat.add_zero] at h0
    obtain ⟨za', zb', e⟩ := loopC_pair hab ha hb (is := xs) (n := n + 1) (za := none) (zb := none) (fun i y hy => by
      have := h (i + 1) y (by simpa using hy)
      rw [show n + (i + 1) = n + 1 + i by omega] at this
      exact this)
    refine ⟨za', zb', ?_⟩
    have e1 : ((x :: xs).mapIdx fun i y => (n + i, y)) = (n, x) :: (xs.mapIdx fun i y => (n + 1 + i, y)) := by
      rw [List.mapIdx_cons, Nat.add_zero]
      congr 1
      apply List.mapIdx_eq_mapIdx_iff.mpr
      intro i hi
      rw [show n + (i + 1) = n + 1 + i by omega]
    rw [e1, List.map_cons, List.map_cons, loopC_cons]
    have e2 : (((ρ.set b zb).set a za).set a (some (D.int ((n : Nat) : Int)))).set b (some (G x)) = (ρ.set b (some (G x))).set a (some (.int ((n : Nat) : Int))) := by
      rw [List.set_set, List.set_comm _ _ hab, List.set_set]
    show (((some ((((ρ.set b zb).set a za).set a (some (D.int ((n : Nat) : Int)))).set b (some (G x)))).bind fun ρ1 => (cYes ρ1).bind fun p => if p.1 = true then (g p.2).bind fun q => (loopC _ _ _ _ _ (wipeE q.2 [a, b])).map fun r => (q.1 :: r.1, r.2) else _)) = _
    rw [e2, Option.bind_some, cYes_ap, Option.bind_some, if_pos rfl, h0, Option.bind_some, wipeE_cons, wipeE_cons, wipeE_nil, List.set_comm _ _ hab, List.set_set, List.set_set, e]
    rfl
theorem comp_pair {G : α → D} {F : Nat → α → D} {is : List α} {d : D} (hab : a ≠ b) (ha : a < ρ.length) (hb : b < ρ.length) (h0 : g0 ρ = some (d, ρ)) (hd : itemsD d = some (is.map G)) (hl : is.length ≤ 100000)
    (h : ∀ (i : Nat) x, is[i]? = some x → g ((ρ.set b (some (G x))).set a (some (.int ((i : Nat) : Int)))) = some (F i x, (ρ.set b (some (G x))).set a (some (.int ((i : Nat) : Int))))) :
    cComp (cEn g0) (hTup 2 (hCons (hName a) (hCons (hName b) hNil))) cYes g [a, b] ρ = some (.lst (is.mapIdx F), ρ) := by
  obtain ⟨za, zb, e⟩ := loopC_pair (n := 0) (za := none) (zb := none) hab ha hb (fun i x hx => by rw [Nat.zero_add]; exact h i x hx)
  have e1 : enD (is.map G) = (is.mapIdx fun i x => (0 + i, x)).map fun p => D.tup [.int ((p.1 : Nat) : Int), G p.2] := by
    unfold enD
    apply List.ext_getElem?
    intro i
    simp only [List.getElem?_mapIdx, List.getElem?_map, Option.map_map, Function.comp_def, Nat.zero_add]
  have e2 : ((is.mapIdx fun i x => (0 + i, x)).map fun p => F p.1 p.2) = is.mapIdx F := by
    apply List.ext_getElem?
    intro i
    simp only [List.getElem?_mapIdx, List.getElem?_map, Option.map_map, Function.comp_def, Nat.zero_add]
  rw [cComp_ap]
  unfold cEn
  rw [h0, Option.bind_some, hd, Option.map_some, Option.bind_some, if_pos (by unfold enD; rw [List.length_mapIdx, List.length_map]; exact hl), wipeE_cons, wipeE_cons, wipeE_nil, e1, e, e2, Option.map_some, restE_cons, restE_cons, restE_nil]
  show some (D.lst (is.mapIdx F), ((((ρ.set b zb).set a za).set b (ρ[b]?.getD none)).set a (ρ[a]?.getD none))) = _
  have ea := set_rest ρ a za ha
  rw [List.set_set] at ea
  rw [List.set_comm _ _ hab, List.set_set, set_rest ρ b zb hb, ea]
end
theorem mapIdx_range {β : Type} (n : Nat) (F : Nat → Nat → β) : (List.range n).mapIdx F = (List.range n).map fun i => F i i := by
  apply List.ext_getElem?
  intro i
  rw [List.getElem?_mapIdx, List.getElem?_map]
  by_cases h : i < n
  · rw [List.getElem?_range h]; rfl
  · rw [List.getElem?_eq_none (by simpa using h)]; rfl
end G
namespace T14
open PySem PySem.Spec PyProof.Rows L2 G
def topS (i : Nat) : Stmt := PySem.Challenge.pw_bellring_k14_whole_beats_moved.main.body.getD i (.Pass ⟨0, 0, 0, 0⟩)
abbrev whileN : Nat := 1000000

def c_NIL : D := (D.tup [(D.int 0), (D.int 1)])
section
variable {Pg : Program} {w : World} {K : PySem.W.Frag} {mg : Str → Option Value} {base : Heap}
abbrev s_frac : Stmt := topS 3
abbrev N_frac : List Str := ["p", "q", "factor"]
abbrev p_frac : List Str := ["p", "q"]
theorem sc_frac : FnScope N_frac p_frac (defScope s_frac) := ⟨rfl, rfl, rfl, by decide +kernel, rfl, by decide +kernel, by decide +kernel⟩
def b_frac : Gs := (cSeq (cSet 2 (cIf (cTest (cOp gtD (cVar 1) (cK (D.int 0)))) (cCall gcdD (evA [(cVar 0), (cVar 1)])) (cUn negD (cCall gcdD (evA [(cVar 0), (cVar 1)])))))
    (cRet (cTup [(cOp fdivD (cVar 0) (cVar 2)), (cOp fdivD (cVar 1) (cVar 2))])))
def f_frac : Fn := runB 3 2 [] false b_frac
theorem ok_frac {f : Addr} {fd : FuncData} (F : Fun K "frac" "frac" s_frac f fd) (m_gcd : mg "gcd" = some (.builtin "math.gcd")) : FnOk Pg w K mg base CX0 1 f fd p_frac (spF K f_frac [] false) := by
  have S := sc_frac
  exact fn_mk (N := N_frac) (P := []) (Oe := []) (own := false) (b := b_frac) F S fun cdv A outer s H E hr =>
    (ss_cons (O1 := []) (sj_set (i := 2) (by decide) S.nd (ej_if (tj_gt (ej_var 1) ej_int) (ej_gcd m_gcd (aj_cons (ej_var 0) (aj_cons (ej_var 1) aj_nil))) (ej_neg (ej_gcd m_gcd (aj_cons (ej_var 0) (aj_cons (ej_var 1) aj_nil))))))
    (ss_one (sj_ret (ej_tup (aj_cons (ej_fdiv (ej_var 0) (ej_var 2)) (aj_cons (ej_fdiv (ej_var 1) (ej_var 2)) aj_nil))))))
abbrev s_plus : Stmt := topS 4
abbrev N_plus : List Str := ["a", "b"]
abbrev p_plus : List Str := ["a", "b"]
theorem sc_plus : FnScope N_plus p_plus (defScope s_plus) := ⟨rfl, rfl, rfl, by decide +kernel, rfl, by decide +kernel, by decide +kernel⟩
def b_plus : Gs := (cRet (cUser f_frac [.v (cOp addD (cOp mulD (cOp ixD (cVar 0) (cK (D.int 0))) (cOp ixD (cVar 1) (cK (D.int 1)))) (cOp mulD (cOp ixD (cVar 1) (cK (D.int 0))) (cOp ixD (cVar 0) (cK (D.int 1))))), .v (cOp mulD (cOp ixD (cVar 0) (cK (D.int 1))) (cOp ixD (cVar 1) (cK (D.int 1))))]))
def f_plus : Fn := runB 2 2 [] false b_plus
theorem ok_plus {f : Addr} {fd : FuncData} (F : Fun K "plus" "plus" s_plus f fd) (C_frac : Cal Pg w K mg base 1 "frac" p_frac f_frac [] false) : FnOk Pg w K mg base CX0 2 f fd p_plus (spF K f_plus [] false) := by
  have S := sc_plus
  exact fn_mk (N := N_plus) (P := []) (Oe := []) (own := false) (b := b_plus) F S fun cdv A outer s H E hr =>
    (ss_one (sj_ret (ej_call C_frac hr (rj_cons (ej_add (ej_mul (ej_ix (ej_var 0) ej_int) (ej_ix (ej_var 1) ej_int)) (ej_mul (ej_ix (ej_var 1) ej_int) (ej_ix (ej_var 0) ej_int))) (rj_cons (ej_mul (ej_ix (ej_var 0) ej_int) (ej_ix (ej_var 1) ej_int)) rj_nil)))))
abbrev s_minus : Stmt := topS 5
abbrev N_minus : List Str := ["a", "b"]
abbrev p_minus : List Str := ["a", "b"]
theorem sc_minus : FnScope N_minus p_minus (defScope s_minus) := ⟨rfl, rfl, rfl, by decide +kernel, rfl, by decide +kernel, by decide +kernel⟩
def b_minus : Gs := (cRet (cUser f_frac [.v (cOp subD (cOp mulD (cOp ixD (cVar 0) (cK (D.int 0))) (cOp ixD (cVar 1) (cK (D.int 1)))) (cOp mulD (cOp ixD (cVar 1) (cK (D.int 0))) (cOp ixD (cVar 0) (cK (D.int 1))))), .v (cOp mulD (cOp ixD (cVar 0) (cK (D.int 1))) (cOp ixD (cVar 1) (cK (D.int 1))))]))
def f_minus : Fn := runB 2 2 [] false b_minus
theorem ok_minus {f : Addr} {fd : FuncData} (F : Fun K "minus" "minus" s_minus f fd) (C_frac : Cal Pg w K mg base 1 "frac" p_frac f_frac [] false) : FnOk Pg w K mg base CX0 2 f fd p_minus (spF K f_minus [] false) := by
  have S := sc_minus
  exact fn_mk (N := N_minus) (P := []) (Oe := []) (own := false) (b := b_minus) F S fun cdv A outer s H E hr =>
    (ss_one (sj_ret (ej_call C_frac hr (rj_cons (ej_sub (ej_mul (ej_ix (ej_var 0) ej_int) (ej_ix (ej_var 1) ej_int)) (ej_mul (ej_ix (ej_var 1) ej_int) (ej_ix (ej_var 0) ej_int))) (rj_cons (ej_mul (ej_ix (ej_var 0) ej_int) (ej_ix (ej_var 1) ej_int)) rj_nil)))))
abbrev s_times : Stmt := topS 6
abbrev N_times : List Str := ["a", "b"]
abbrev p_times : List Str := ["a", "b"]
theorem sc_times : FnScope N_times p_times (defScope s_times) := ⟨rfl, rfl, rfl, by decide +kernel, rfl, by decide +kernel, by decide +kernel⟩
def b_times : Gs := (cRet (cUser f_frac [.v (cOp mulD (cOp ixD (cVar 0) (cK (D.int 0))) (cOp ixD (cVar 1) (cK (D.int 0)))), .v (cOp mulD (cOp ixD (cVar 0) (cK (D.int 1))) (cOp ixD (cVar 1) (cK (D.int 1))))]))
def f_times : Fn := runB 2 2 [] false b_times
theorem ok_times {f : Addr} {fd : FuncData} (F : Fun K "times" "times" s_times f fd) (C_frac : Cal Pg w K mg base 1 "frac" p_frac f_frac [] false) : FnOk Pg w K mg base CX0 2 f fd p_times (spF K f_times [] false) := by
  have S := sc_times
  exact fn_mk (N := N_times) (P := []) (Oe := []) (own := false) (b := b_times) F S fun cdv A outer s H E hr =>
    (ss_one (sj_ret (ej_call C_frac hr (rj_cons (ej_mul (ej_ix (ej_var 0) ej_int) (ej_ix (ej_var 1) ej_int)) (rj_cons (ej_mul (ej_ix (ej_var 0) ej_int) (ej_ix (ej_var 1) ej_int)) rj_nil)))))
abbrev s_over : Stmt := topS 7
abbrev N_over : List Str := ["a", "b"]
abbrev p_over : List Str := ["a", "b"]
theorem sc_over : FnScope N_over p_over (defScope s_over) := ⟨rfl, rfl, rfl, by decide +kernel, rfl, by decide +kernel, by decide +kernel⟩
def b_over : Gs := (cRet (cUser f_frac [.v (cOp mulD (cOp ixD (cVar 0) (cK (D.int 0))) (cOp ixD (cVar 1) (cK (D.int 1)))), .v (cOp mulD (cOp ixD (cVar 0) (cK (D.int 1))) (cOp ixD (cVar 1) (cK (D.int 0))))]))
def f_over : Fn := runB 2 2 [] false b_over
theorem ok_over {f : Addr} {fd : FuncData} (F : Fun K "over" "over" s_over f fd) (C_frac : Cal Pg w K mg base 1 "frac" p_frac f_frac [] false) : FnOk Pg w K mg base CX0 2 f fd p_over (spF K f_over [] false) := by
  have S := sc_over
  exact fn_mk (N := N_over) (P := []) (Oe := []) (own := false) (b := b_over) F S fun cdv A outer s H E hr =>
    (ss_one (sj_ret (ej_call C_frac hr (rj_cons (ej_mul (ej_ix (ej_var 0) ej_int) (ej_ix (ej_var 1) ej_int)) (rj_cons (ej_mul (ej_ix (ej_var 0) ej_int) (ej_ix (ej_var 1) ej_int)) rj_nil)))))
abbrev s_less : Stmt := topS 8
abbrev N_less : List Str := ["a", "b"]
abbrev p_less : List Str := ["a", "b"]
theorem sc_less : FnScope N_less p_less (defScope s_less) := ⟨rfl, rfl, rfl, by decide +kernel, rfl, by decide +kernel, by decide +kernel⟩
def b_less : Gs := (cRet (cOp ltD (cOp mulD (cOp ixD (cVar 0) (cK (D.int 0))) (cOp ixD (cVar 1) (cK (D.int 1)))) (cOp mulD (cOp ixD (cVar 1) (cK (D.int 0))) (cOp ixD (cVar 0) (cK (D.int 1))))))
def f_less : Fn := runB 2 2 [] false b_less
theorem ok_less {f : Addr} {fd : FuncData} (F : Fun K "less" "less" s_less f fd)  : FnOk Pg w K mg base CX0 1 f fd p_less (spF K f_less [] false) := by
  have S := sc_less
  exact fn_mk (N := N_less) (P := []) (Oe := []) (own := false) (b := b_less) F S fun cdv A outer s H E hr =>
    (ss_one (sj_ret (ej_lt (ej_mul (ej_ix (ej_var 0) ej_int) (ej_ix (ej_var 1) ej_int)) (ej_mul (ej_ix (ej_var 1) ej_int) (ej_ix (ej_var 0) ej_int)))))
abbrev s_sum_of : Stmt := topS 9
abbrev N_sum_of : List Str := ["numbers", "total", "number"]
abbrev p_sum_of : List Str := ["numbers"]
theorem sc_sum_of : FnScope N_sum_of p_sum_of (defScope s_sum_of) := ⟨rfl, rfl, rfl, by decide +kernel, rfl, by decide +kernel, by decide +kernel⟩
def b_sum_of_L1 : Gs := (cSet 1 (cUser f_plus [.v (cVar 1), .v (cVar 2)]))
def b_sum_of : Gs := (cSeq (cSet 1 (cK c_NIL))
    (cSeq (cFor (cIt (cVar 0)) (hName 2) b_sum_of_L1)
    (cRet (cVar 1))))
def f_sum_of : Fn := runB 3 1 [] false b_sum_of
theorem ok_sum_of {f : Addr} {fd : FuncData} (F : Fun K "sum_of" "sum_of" s_sum_of f fd) (C_plus : Cal Pg w K mg base 2 "plus" p_plus f_plus [] false) (g_NIL : Glb K mg "NIL" c_NIL) : FnOk Pg w K mg base CX0 3 f fd p_sum_of (spF K f_sum_of [] false) := by
  have S := sc_sum_of
  exact fn_mk (N := N_sum_of) (P := []) (Oe := []) (own := false) (b := b_sum_of) F S fun cdv A outer s H E hr =>
    (ss_cons (O1 := []) (sj_set (i := 1) (by decide) S.nd (ej_gl g_NIL))
    (ss_cons (O1 := []) (sj_for rfl PassesOwn.never (ij_any (ej_var 0)) (gj_name (by decide) S.nd) (ss_one (sj_set (i := 1) (by decide) S.nd (ej_call C_plus hr (rj_cons (ej_var 1) (rj_cons (ej_var 2) rj_nil))))))
    (ss_one (sj_ret (ej_var 1)))))
abbrev s_error_at : Stmt := topS 11
abbrev N_error_at : List Str := ["beat", "at", "time", "start", "gap"]
abbrev p_error_at : List Str := ["beat", "at", "time"]
theorem sc_error_at : FnScope N_error_at p_error_at (defScope s_error_at) := ⟨rfl, rfl, rfl, by decide +kernel, rfl, by decide +kernel, by decide +kernel⟩
def b_error_at : Gs := (cSeq (cAsg (hTup 2 (hCons (hName 3) (hCons (hName 4) hNil))) (cVar 0))
    (cRet (cUser f_minus [.v (cUser f_frac [.v (cVar 2), .v (cK (D.int 1))]), .v (cUser f_plus [.v (cVar 3), .v (cUser f_times [.v (cVar 4), .v (cUser f_frac [.v (cVar 1), .v (cK (D.int 1))])])])])))
def f_error_at : Fn := runB 5 3 [] false b_error_at
theorem ok_error_at {f : Addr} {fd : FuncData} (F : Fun K "error_at" "error_at" s_error_at f fd) (C_frac : Cal Pg w K mg base 1 "frac" p_frac f_frac [] false) (C_plus : Cal Pg w K mg base 2 "plus" p_plus f_plus [] false) (C_minus : Cal Pg w K mg base 2 "minus" p_minus f_minus [] false) (C_times : Cal Pg w K mg base 2 "times" p_times f_times [] false) : FnOk Pg w K mg base CX0 3 f fd p_error_at (spF K f_error_at [] false) := by
  have S := sc_error_at
  exact fn_mk (N := N_error_at) (P := []) (Oe := []) (own := false) (b := b_error_at) F S fun cdv A outer s H E hr =>
    (ss_cons (O1 := []) (sj_asg (ej_var 0) (gj_tup rfl (gsj_cons (gj_name (by decide) S.nd) (gsj_cons (gj_name (by decide) S.nd) gsj_nil))))
    (ss_one (sj_ret (ej_call C_minus hr (rj_cons (ej_call C_frac hr (rj_cons (ej_var 2) (rj_cons ej_int rj_nil))) (rj_cons (ej_call C_plus hr (rj_cons (ej_var 3) (rj_cons (ej_call C_times hr (rj_cons (ej_var 4) (rj_cons (ej_call C_frac hr (rj_cons (ej_var 1) (rj_cons ej_int rj_nil))) rj_nil))) rj_nil))) rj_nil))))))
abbrev s_errors : Stmt := topS 12
abbrev N_errors : List Str := ["beat", "blows", "at", "time"]
abbrev p_errors : List Str := ["beat", "blows"]
theorem sc_errors : FnScope N_errors p_errors (defScope s_errors) := ⟨rfl, rfl, rfl, by decide +kernel, rfl, by decide +kernel, by decide +kernel⟩
def b_errors : Gs := (cRet (cComp (cEn (cVar 1)) (hTup 2 (hCons (hName 2) (hCons (hName 3) hNil))) cYes (cUser f_error_at [.v (cVar 0), .v (cVar 2), .v (cVar 3)]) [2, 3]))
def f_errors : Fn := runB 4 2 [] false b_errors
theorem ok_errors {f : Addr} {fd : FuncData} (F : Fun K "errors" "errors" s_errors f fd) (C_error_at : Cal Pg w K mg base 3 "error_at" p_error_at f_error_at [] false) (m_enumerate : mg "enumerate" = none) : FnOk Pg w K mg base CX0 4 f fd p_errors (spF K f_errors [] false) := by
  have S := sc_errors
  exact fn_mk (N := N_errors) (P := []) (Oe := []) (own := false) (b := b_errors) F S fun cdv A outer s H E hr =>
    (ss_one (sj_ret (EO.j (eo_comp rfl S.nd (ow := [("at", 2), ("time", 3)]) (S := [2, 3]) (ij_enum m_enumerate (ej_var 1)) (blkOk_by (own := [("at", 2), ("time", 3)]) (N := N_errors) (sc := defScope s_errors) (by decide +kernel)) (fun _ _ _ _ _ => (gj_tup rfl (gsj_cons (gj_name (by decide) S.nd) (gsj_cons (gj_name (by decide) S.nd) gsj_nil)))) (fun _ _ _ _ _ => nj_nil) (fun _ _ _ _ _ => (ej_call C_error_at hr (rj_cons (ej_var 0) (rj_cons (ej_var 2) (rj_cons (ej_var 3) rj_nil)))))))))
abbrev s_amount : Stmt := topS 13
abbrev N_amount : List Str := ["number"]
abbrev p_amount : List Str := ["number"]
theorem sc_amount : FnScope N_amount p_amount (defScope s_amount) := ⟨rfl, rfl, rfl, by decide +kernel, rfl, by decide +kernel, by decide +kernel⟩
def b_amount : Gs := (cRet (cIf (cTest (cUser f_less [.v (cVar 0), .v (cK c_NIL)])) (cUser f_minus [.v (cK c_NIL), .v (cVar 0)]) (cVar 0)))
def f_amount : Fn := runB 1 1 [] false b_amount
theorem ok_amount {f : Addr} {fd : FuncData} (F : Fun K "amount" "amount" s_amount f fd) (C_minus : Cal Pg w K mg base 2 "minus" p_minus f_minus [] false) (C_less : Cal Pg w K mg base 1 "less" p_less f_less [] false) (g_NIL : Glb K mg "NIL" c_NIL) : FnOk Pg w K mg base CX0 3 f fd p_amount (spF K f_amount [] false) := by
  have S := sc_amount
  exact fn_mk (N := N_amount) (P := []) (Oe := []) (own := false) (b := b_amount) F S fun cdv A outer s H E hr =>
    (ss_one (sj_ret (ej_if (tj_val (ej_call C_less hr (rj_cons (ej_var 0) (rj_cons (ej_gl g_NIL) rj_nil)))) (ej_call C_minus hr (rj_cons (ej_gl g_NIL) (rj_cons (ej_var 0) rj_nil))) (ej_var 0))))
abbrev s_worst_error : Stmt := topS 14
abbrev N_worst_error : List Str := ["beat", "blows", "found", "number"]
abbrev p_worst_error : List Str := ["beat", "blows"]
theorem sc_worst_error : FnScope N_worst_error p_worst_error (defScope s_worst_error) := ⟨rfl, rfl, rfl, by decide +kernel, rfl, by decide +kernel, by decide +kernel⟩
def b_worst_error_L1 : Gs := (cIfS (cTest (cUser f_less [.v (cVar 2), .v (cUser f_amount [.v (cVar 3)])])) (cSet 2 (cUser f_amount [.v (cVar 3)])) cNil)
def b_worst_error : Gs := (cSeq (cSet 2 (cK c_NIL))
    (cSeq (cFor (cIt (cUser f_errors [.v (cVar 0), .v (cVar 1)])) (hName 3) b_worst_error_L1)
    (cRet (cVar 2))))
def f_worst_error : Fn := runB 4 2 [] false b_worst_error
theorem ok_worst_error {f : Addr} {fd : FuncData} (F : Fun K "worst_error" "worst_error" s_worst_error f fd) (C_less : Cal Pg w K mg base 1 "less" p_less f_less [] false) (C_errors : Cal Pg w K mg base 4 "errors" p_errors f_errors [] false) (C_amount : Cal Pg w K mg base 3 "amount" p_amount f_amount [] false) (g_NIL : Glb K mg "NIL" c_NIL) : FnOk Pg w K mg base CX0 5 f fd p_worst_error (spF K f_worst_error [] false) := by
  have S := sc_worst_error
  exact fn_mk (N := N_worst_error) (P := []) (Oe := []) (own := false) (b := b_worst_error) F S fun cdv A outer s H E hr =>
    (ss_cons (O1 := []) (sj_set (i := 2) (by decide) S.nd (ej_gl g_NIL))
    (ss_cons (O1 := []) (sj_for rfl PassesOwn.never (ij_any (ej_call C_errors hr (rj_cons (ej_var 0) (rj_cons (ej_var 1) rj_nil)))) (gj_name (by decide) S.nd) (ss_one (sj_if (tj_val (ej_call C_less hr (rj_cons (ej_var 2) (rj_cons (ej_call C_amount hr (rj_cons (ej_var 3) rj_nil)) rj_nil)))) (ss_one (sj_set (i := 2) (by decide) S.nd (ej_call C_amount hr (rj_cons (ej_var 3) rj_nil)))) ss_nil)))
    (ss_one (sj_ret (ej_var 2)))))
abbrev s_triple_error : Stmt := topS 15
abbrev N_triple_error : List Str := ["blows", "first", "middle", "last", "gap", "line"]
abbrev p_triple_error : List Str := ["blows", "first", "middle", "last"]
theorem sc_triple_error : FnScope N_triple_error p_triple_error (defScope s_triple_error) := ⟨rfl, rfl, rfl, by decide +kernel, rfl, by decide +kernel, by decide +kernel⟩
def b_triple_error : Gs := (cSeq (cSet 4 (cUser f_frac [.v (cOp subD (cOp ixD (cVar 0) (cVar 3)) (cOp ixD (cVar 0) (cVar 1))), .v (cOp subD (cVar 3) (cVar 1))]))
    (cSeq (cSet 5 (cUser f_plus [.v (cUser f_frac [.v (cOp ixD (cVar 0) (cVar 1)), .v (cK (D.int 1))]), .v (cUser f_times [.v (cVar 4), .v (cUser f_frac [.v (cOp subD (cVar 2) (cVar 1)), .v (cK (D.int 1))])])]))
    (cRet (cUser f_over [.v (cUser f_minus [.v (cUser f_frac [.v (cOp ixD (cVar 0) (cVar 2)), .v (cK (D.int 1))]), .v (cVar 5)]), .v (cTup [(cK (D.int 2)), (cK (D.int 1))])]))))
def f_triple_error : Fn := runB 6 4 [] false b_triple_error
theorem ok_triple_error {f : Addr} {fd : FuncData} (F : Fun K "triple_error" "triple_error" s_triple_error f fd) (C_frac : Cal Pg w K mg base 1 "frac" p_frac f_frac [] false) (C_plus : Cal Pg w K mg base 2 "plus" p_plus f_plus [] false) (C_minus : Cal Pg w K mg base 2 "minus" p_minus f_minus [] false) (C_times : Cal Pg w K mg base 2 "times" p_times f_times [] false) (C_over : Cal Pg w K mg base 2 "over" p_over f_over [] false) : FnOk Pg w K mg base CX0 3 f fd p_triple_error (spF K f_triple_error [] false) := by
  have S := sc_triple_error
  exact fn_mk (N := N_triple_error) (P := []) (Oe := []) (own := false) (b := b_triple_error) F S fun cdv A outer s H E hr =>
    (ss_cons (O1 := []) (sj_set (i := 4) (by decide) S.nd (ej_call C_frac hr (rj_cons (ej_sub (ej_ix (ej_var 0) (ej_var 3)) (ej_ix (ej_var 0) (ej_var 1))) (rj_cons (ej_sub (ej_var 3) (ej_var 1)) rj_nil))))
    (ss_cons (O1 := []) (sj_set (i := 5) (by decide) S.nd (ej_call C_plus hr (rj_cons (ej_call C_frac hr (rj_cons (ej_ix (ej_var 0) (ej_var 1)) (rj_cons ej_int rj_nil))) (rj_cons (ej_call C_times hr (rj_cons (ej_var 4) (rj_cons (ej_call C_frac hr (rj_cons (ej_sub (ej_var 2) (ej_var 1)) (rj_cons ej_int rj_nil))) rj_nil))) rj_nil))))
    (ss_one (sj_ret (ej_call C_over hr (rj_cons (ej_call C_minus hr (rj_cons (ej_call C_frac hr (rj_cons (ej_ix (ej_var 0) (ej_var 2)) (rj_cons ej_int rj_nil))) (rj_cons (ej_var 5) rj_nil))) (rj_cons (ej_tup (aj_cons ej_int (aj_cons ej_int aj_nil))) rj_nil)))))))
abbrev s_evenest : Stmt := topS 16
abbrev N_evenest : List Str := ["blows", "best", "first", "middle", "last", "off", "gap", "start"]
abbrev p_evenest : List Str := ["blows"]
theorem sc_evenest : FnScope N_evenest p_evenest (defScope s_evenest) := ⟨rfl, rfl, rfl, by decide +kernel, rfl, by decide +kernel, by decide +kernel⟩
def b_evenest_L1 : Gs := (cSeq (cSet 5 (cUser f_triple_error [.v (cVar 0), .v (cVar 2), .v (cVar 3), .v (cVar 4)]))
    (cIfS (cTest (cUser f_less [.v (cOp ixD (cVar 1) (cK (D.int 0))), .v (cUser f_amount [.v (cVar 5)])])) (cSet 1 (cTup [(cUser f_amount [.v (cVar 5)]), (cTup [(cVar 2), (cVar 3), (cVar 4)])])) cNil))
def b_evenest_L2 : Gs := (cFor (cItA rng2 (evA [(cOp addD (cVar 3) (cK (D.int 1))), (cCall lenD (evA [(cVar 0)]))])) (hName 4) b_evenest_L1)
def b_evenest_L3 : Gs := (cFor (cItA rng2 (evA [(cOp addD (cVar 2) (cK (D.int 1))), (cCall lenD (evA [(cVar 0)]))])) (hName 3) b_evenest_L2)
def b_evenest : Gs := (cSeq (cIfS (cTest (cOp ltD (cCall lenD (evA [(cVar 0)])) (cK (D.int 2)))) (cRet (cTup [(cTup [(cUser f_frac [.v (cOp ixD (cVar 0) (cK (D.int 0))), .v (cK (D.int 1))]), (cK c_NIL)]), (cK c_NIL), (cK D.non)])) cNil)
    (cSeq (cSet 1 (cTup [(cK c_NIL), (cK D.non)]))
    (cSeq (cFor (cItA rng1 (evA [(cCall lenD (evA [(cVar 0)]))])) (hName 2) b_evenest_L3)
    (cSeq (cIfS (cTest (cOp isN (cOp ixD (cVar 1) (cK (D.int 1))) (cK D.non))) (cRet (cTup [(cTup [(cUser f_frac [.v (cOp ixD (cVar 0) (cK (D.int 0))), .v (cK (D.int 1))]), (cUser f_frac [.v (cOp subD (cOp ixD (cVar 0) (cK (D.int 1))) (cOp ixD (cVar 0) (cK (D.int 0)))), .v (cK (D.int 1))])]), (cK c_NIL), (cK D.non)])) cNil)
    (cSeq (cAsg (hTup 3 (hCons (hName 2) (hCons (hName 3) (hCons (hName 4) hNil)))) (cOp ixD (cVar 1) (cK (D.int 1))))
    (cSeq (cSet 6 (cUser f_frac [.v (cOp subD (cOp ixD (cVar 0) (cVar 4)) (cOp ixD (cVar 0) (cVar 2))), .v (cOp subD (cVar 4) (cVar 2))]))
    (cSeq (cSet 5 (cUser f_triple_error [.v (cVar 0), .v (cVar 2), .v (cVar 3), .v (cVar 4)]))
    (cSeq (cSet 7 (cUser f_plus [.v (cUser f_minus [.v (cUser f_frac [.v (cOp ixD (cVar 0) (cVar 2)), .v (cK (D.int 1))]), .v (cUser f_times [.v (cVar 6), .v (cUser f_frac [.v (cVar 2), .v (cK (D.int 1))])])]), .v (cVar 5)]))
    (cRet (cTup [(cTup [(cVar 7), (cVar 6)]), (cOp ixD (cVar 1) (cK (D.int 0))), (cOp ixD (cVar 1) (cK (D.int 1)))]))))))))))
def f_evenest : Fn := runB 8 1 [] false b_evenest
theorem ok_evenest {f : Addr} {fd : FuncData} (F : Fun K "evenest" "evenest" s_evenest f fd) (C_frac : Cal Pg w K mg base 1 "frac" p_frac f_frac [] false) (C_plus : Cal Pg w K mg base 2 "plus" p_plus f_plus [] false) (C_minus : Cal Pg w K mg base 2 "minus" p_minus f_minus [] false) (C_times : Cal Pg w K mg base 2 "times" p_times f_times [] false) (C_less : Cal Pg w K mg base 1 "less" p_less f_less [] false) (C_amount : Cal Pg w K mg base 3 "amount" p_amount f_amount [] false) (C_triple_error : Cal Pg w K mg base 3 "triple_error" p_triple_error f_triple_error [] false) (g_NIL : Glb K mg "NIL" c_NIL) (m_len : mg "len" = none) (m_range : mg "range" = none) : FnOk Pg w K mg base CX0 4 f fd p_evenest (spF K f_evenest [] false) := by
  have S := sc_evenest
  exact fn_mk (N := N_evenest) (P := []) (Oe := []) (own := false) (b := b_evenest) F S fun cdv A outer s H E hr =>
    (ss_cons (O1 := []) (sj_if (tj_lt (ej_len m_len (aj_cons (ej_var 0) aj_nil)) ej_int) (ss_one (sj_ret (ej_tup (aj_cons (ej_tup (aj_cons (ej_call C_frac hr (rj_cons (ej_ix (ej_var 0) ej_int) (rj_cons ej_int rj_nil))) (aj_cons (ej_gl g_NIL) aj_nil))) (aj_cons (ej_gl g_NIL) (aj_cons ej_non aj_nil)))))) ss_nil)
    (ss_cons (O1 := []) (sj_set (i := 1) (by decide) S.nd (ej_tup (aj_cons (ej_gl g_NIL) (aj_cons ej_non aj_nil))))
    (ss_cons (O1 := []) (sj_for rfl PassesOwn.never (ij_range1 (by rfl) m_range (aj_cons (ej_len m_len (aj_cons (ej_var 0) aj_nil)) aj_nil)) (gj_name (by decide) S.nd) (ss_one (sj_for rfl PassesOwn.never (ij_range2 (by rfl) m_range (aj_cons (ej_add (ej_var 2) ej_int) (aj_cons (ej_len m_len (aj_cons (ej_var 0) aj_nil)) aj_nil))) (gj_name (by decide) S.nd) (ss_one (sj_for rfl PassesOwn.never (ij_range2 (by rfl) m_range (aj_cons (ej_add (ej_var 3) ej_int) (aj_cons (ej_len m_len (aj_cons (ej_var 0) aj_nil)) aj_nil))) (gj_name (by decide) S.nd) (ss_cons (O1 := []) (sj_set (i := 5) (by decide) S.nd (ej_call C_triple_error hr (rj_cons (ej_var 0) (rj_cons (ej_var 2) (rj_cons (ej_var 3) (rj_cons (ej_var 4) rj_nil))))))
    (ss_one (sj_if (tj_val (ej_call C_less hr (rj_cons (ej_ix (ej_var 1) ej_int) (rj_cons (ej_call C_amount hr (rj_cons (ej_var 5) rj_nil)) rj_nil)))) (ss_one (sj_set (i := 1) (by decide) S.nd (ej_tup (aj_cons (ej_call C_amount hr (rj_cons (ej_var 5) rj_nil)) (aj_cons (ej_tup (aj_cons (ej_var 2) (aj_cons (ej_var 3) (aj_cons (ej_var 4) aj_nil)))) aj_nil))))) ss_nil))))))))
    (ss_cons (O1 := []) (sj_if (tj_is (ej_ix (ej_var 1) ej_int) ej_non) (ss_one (sj_ret (ej_tup (aj_cons (ej_tup (aj_cons (ej_call C_frac hr (rj_cons (ej_ix (ej_var 0) ej_int) (rj_cons ej_int rj_nil))) (aj_cons (ej_call C_frac hr (rj_cons (ej_sub (ej_ix (ej_var 0) ej_int) (ej_ix (ej_var 0) ej_int)) (rj_cons ej_int rj_nil))) aj_nil))) (aj_cons (ej_gl g_NIL) (aj_cons ej_non aj_nil)))))) ss_nil)
    (ss_cons (O1 := []) (sj_asg (ej_ix (ej_var 1) ej_int) (gj_tup rfl (gsj_cons (gj_name (by decide) S.nd) (gsj_cons (gj_name (by decide) S.nd) (gsj_cons (gj_name (by decide) S.nd) gsj_nil)))))
    (ss_cons (O1 := []) (sj_set (i := 6) (by decide) S.nd (ej_call C_frac hr (rj_cons (ej_sub (ej_ix (ej_var 0) (ej_var 4)) (ej_ix (ej_var 0) (ej_var 2))) (rj_cons (ej_sub (ej_var 4) (ej_var 2)) rj_nil))))
    (ss_cons (O1 := []) (sj_set (i := 5) (by decide) S.nd (ej_call C_triple_error hr (rj_cons (ej_var 0) (rj_cons (ej_var 2) (rj_cons (ej_var 3) (rj_cons (ej_var 4) rj_nil))))))
    (ss_cons (O1 := []) (sj_set (i := 7) (by decide) S.nd (ej_call C_plus hr (rj_cons (ej_call C_minus hr (rj_cons (ej_call C_frac hr (rj_cons (ej_ix (ej_var 0) (ej_var 2)) (rj_cons ej_int rj_nil))) (rj_cons (ej_call C_times hr (rj_cons (ej_var 6) (rj_cons (ej_call C_frac hr (rj_cons (ej_var 2) (rj_cons ej_int rj_nil))) rj_nil))) rj_nil))) (rj_cons (ej_var 5) rj_nil))))
    (ss_one (sj_ret (ej_tup (aj_cons (ej_tup (aj_cons (ej_var 7) (aj_cons (ej_var 6) aj_nil))) (aj_cons (ej_ix (ej_var 1) ej_int) (aj_cons (ej_ix (ej_var 1) ej_int) aj_nil))))))))))))))
abbrev s_squares : Stmt := topS 17
abbrev N_squares : List Str := ["beat", "blows", "number"]
abbrev p_squares : List Str := ["beat", "blows"]
theorem sc_squares : FnScope N_squares p_squares (defScope s_squares) := ⟨rfl, rfl, rfl, by decide +kernel, rfl, by decide +kernel, by decide +kernel⟩
def b_squares : Gs := (cRet (cUser f_sum_of [.v (cComp (cIt (cUser f_errors [.v (cVar 0), .v (cVar 1)])) (hName 2) cYes (cUser f_times [.v (cVar 2), .v (cVar 2)]) [2])]))
def f_squares : Fn := runB 3 2 [] false b_squares
theorem ok_squares {f : Addr} {fd : FuncData} (F : Fun K "squares" "squares" s_squares f fd) (C_times : Cal Pg w K mg base 2 "times" p_times f_times [] false) (C_sum_of : Cal Pg w K mg base 3 "sum_of" p_sum_of f_sum_of [] false) (C_errors : Cal Pg w K mg base 4 "errors" p_errors f_errors [] false) : FnOk Pg w K mg base CX0 5 f fd p_squares (spF K f_squares [] false) := by
  have S := sc_squares
  exact fn_mk (N := N_squares) (P := []) (Oe := []) (own := false) (b := b_squares) F S fun cdv A outer s H E hr =>
    (ss_one (sj_ret (ej_call C_sum_of hr (rj_cons (EO.j (eo_comp rfl S.nd (ow := [("number", 2)]) (S := [2]) (ij_any (ej_call C_errors hr (rj_cons (ej_var 0) (rj_cons (ej_var 1) rj_nil)))) (blkOk_by (own := [("number", 2)]) (N := N_squares) (sc := defScope s_squares) (by decide +kernel)) (fun _ _ _ _ _ => (gj_name (by decide) S.nd)) (fun _ _ _ _ _ => nj_nil) (fun _ _ _ _ _ => (ej_call C_times hr (rj_cons (ej_var 2) (rj_cons (ej_var 2) rj_nil)))))) rj_nil))))
abbrev s_least_squares : Stmt := topS 18
abbrev N_least_squares : List Str := ["blows", "many", "places", "square", "at", "total", "product", "time", "gap", "start"]
abbrev p_least_squares : List Str := ["blows"]
theorem sc_least_squares : FnScope N_least_squares p_least_squares (defScope s_least_squares) := ⟨rfl, rfl, rfl, by decide +kernel, rfl, by decide +kernel, by decide +kernel⟩
def b_least_squares : Gs := (cSeq (cSet 1 (cCall lenD (evA [(cVar 0)])))
    (cSeq (cIfS (cTest (cOp ltD (cVar 1) (cK (D.int 2)))) (cRet (cTup [(cUser f_frac [.v (cOp ixD (cVar 0) (cK (D.int 0))), .v (cK (D.int 1))]), (cK c_NIL)])) cNil)
    (cSeq (cSet 2 (cSumR (cItA rng1 (evA [(cVar 1)]))))
    (cSeq (cSet 3 (cCall sumD (evA [(cComp (cItA rng1 (evA [(cVar 1)])) (hName 4) cYes (cOp mulD (cVar 4) (cVar 4)) [4])])))
    (cSeq (cSet 5 (cCall sumD (evA [(cVar 0)])))
    (cSeq (cSet 6 (cCall sumD (evA [(cComp (cEn (cVar 0)) (hTup 2 (hCons (hName 4) (hCons (hName 7) hNil))) cYes (cOp mulD (cVar 4) (cVar 7)) [4, 7])])))
    (cSeq (cSet 8 (cUser f_frac [.v (cOp subD (cOp mulD (cVar 1) (cVar 6)) (cOp mulD (cVar 2) (cVar 5))), .v (cOp subD (cOp mulD (cVar 1) (cVar 3)) (cOp mulD (cVar 2) (cVar 2)))]))
    (cSeq (cSet 9 (cUser f_over [.v (cUser f_minus [.v (cUser f_frac [.v (cVar 5), .v (cK (D.int 1))]), .v (cUser f_times [.v (cVar 8), .v (cUser f_frac [.v (cVar 2), .v (cK (D.int 1))])])]), .v (cUser f_frac [.v (cVar 1), .v (cK (D.int 1))])]))
    (cRet (cTup [(cVar 9), (cVar 8)]))))))))))
def f_least_squares : Fn := runB 10 1 [] false b_least_squares
theorem ok_least_squares {f : Addr} {fd : FuncData} (F : Fun K "least_squares" "least_squares" s_least_squares f fd) (C_frac : Cal Pg w K mg base 1 "frac" p_frac f_frac [] false) (C_minus : Cal Pg w K mg base 2 "minus" p_minus f_minus [] false) (C_times : Cal Pg w K mg base 2 "times" p_times f_times [] false) (C_over : Cal Pg w K mg base 2 "over" p_over f_over [] false) (g_NIL : Glb K mg "NIL" c_NIL) (m_enumerate : mg "enumerate" = none) (m_len : mg "len" = none) (m_range : mg "range" = none) (m_sum : mg "sum" = none) : FnOk Pg w K mg base CX0 3 f fd p_least_squares (spF K f_least_squares [] false) := by
  have S := sc_least_squares
  exact fn_mk (N := N_least_squares) (P := []) (Oe := []) (own := false) (b := b_least_squares) F S fun cdv A outer s H E hr =>
    (ss_cons (O1 := []) (sj_set (i := 1) (by decide) S.nd (ej_len m_len (aj_cons (ej_var 0) aj_nil)))
    (ss_cons (O1 := []) (sj_if (tj_lt (ej_var 1) ej_int) (ss_one (sj_ret (ej_tup (aj_cons (ej_call C_frac hr (rj_cons (ej_ix (ej_var 0) ej_int) (rj_cons ej_int rj_nil))) (aj_cons (ej_gl g_NIL) aj_nil))))) ss_nil)
    (ss_cons (O1 := []) (sj_set (i := 2) (by decide) S.nd (ej_sumRg rfl m_sum (prg_1 rfl m_range (ej_var 1)) rgT1))
    (ss_cons (O1 := []) (sj_set (i := 3) (by decide) S.nd (ej_sum rfl m_sum (aj_cons (EO.j (eo_comp rfl S.nd (ow := [("at", 4)]) (S := [4]) (ij_range1 (by rfl) m_range (aj_cons (ej_var 1) aj_nil)) (blkOk_by (own := [("at", 4)]) (N := N_least_squares) (sc := defScope s_least_squares) (by decide +kernel)) (fun _ _ _ _ _ => (gj_name (by decide) S.nd)) (fun _ _ _ _ _ => nj_nil) (fun _ _ _ _ _ => (ej_mul (ej_var 4) (ej_var 4))))) aj_nil)))
    (ss_cons (O1 := []) (sj_set (i := 5) (by decide) S.nd (ej_sum rfl m_sum (aj_cons (ej_var 0) aj_nil)))
    (ss_cons (O1 := []) (sj_set (i := 6) (by decide) S.nd (ej_sum rfl m_sum (aj_cons (EO.j (eo_comp rfl S.nd (ow := [("at", 4), ("time", 7)]) (S := [4, 7]) (ij_enum m_enumerate (ej_var 0)) (blkOk_by (own := [("at", 4), ("time", 7)]) (N := N_least_squares) (sc := defScope s_least_squares) (by decide +kernel)) (fun _ _ _ _ _ => (gj_tup rfl (gsj_cons (gj_name (by decide) S.nd) (gsj_cons (gj_name (by decide) S.nd) gsj_nil)))) (fun _ _ _ _ _ => nj_nil) (fun _ _ _ _ _ => (ej_mul (ej_var 4) (ej_var 7))))) aj_nil)))
    (ss_cons (O1 := []) (sj_set (i := 8) (by decide) S.nd (ej_call C_frac hr (rj_cons (ej_sub (ej_mul (ej_var 1) (ej_var 6)) (ej_mul (ej_var 2) (ej_var 5))) (rj_cons (ej_sub (ej_mul (ej_var 1) (ej_var 3)) (ej_mul (ej_var 2) (ej_var 2))) rj_nil))))
    (ss_cons (O1 := []) (sj_set (i := 9) (by decide) S.nd (ej_call C_over hr (rj_cons (ej_call C_minus hr (rj_cons (ej_call C_frac hr (rj_cons (ej_var 5) (rj_cons ej_int rj_nil))) (rj_cons (ej_call C_times hr (rj_cons (ej_var 8) (rj_cons (ej_call C_frac hr (rj_cons (ej_var 2) (rj_cons ej_int rj_nil))) rj_nil))) rj_nil))) (rj_cons (ej_call C_frac hr (rj_cons (ej_var 1) (rj_cons ej_int rj_nil))) rj_nil))))
    (ss_one (sj_ret (ej_tup (aj_cons (ej_var 9) (aj_cons (ej_var 8) aj_nil)))))))))))))
abbrev s_judge_evenest : Stmt := topS 20
abbrev N_judge_evenest : List Str := ["blows", "beat", "error", "three", "first", "middle", "last"]
abbrev p_judge_evenest : List Str := ["blows", "beat", "error", "three"]
theorem sc_judge_evenest : FnScope N_judge_evenest p_judge_evenest (defScope s_judge_evenest) := ⟨rfl, rfl, rfl, by decide +kernel, rfl, by decide +kernel, by decide +kernel⟩
def b_judge_evenest : Gs := (cSeq (cIfS (cTest (cOp neD (cUser f_worst_error [.v (cVar 1), .v (cVar 0)]) (cVar 2))) (cRet (cK (D.bl false))) cNil)
    (cSeq (cIfS (cTest (cOp isN (cVar 3) (cK D.non))) (cRet (cOp eqD (cVar 2) (cK c_NIL))) cNil)
    (cSeq (cAsg (hTup 3 (hCons (hName 4) (hCons (hName 5) (hCons (hName 6) hNil)))) (cVar 3))
    (cSeq (cIfS (cNot (cTest (cChain (cK (D.int 0)) [(leD, (cVar 4)), (ltD, (cVar 5)), (ltD, (cVar 6)), (ltD, (cCall lenD (evA [(cVar 0)])))]))) (cRet (cK (D.bl false))) cNil)
    (cRet (cOp eqD (cUser f_amount [.v (cUser f_triple_error [.v (cVar 0), .v (cVar 4), .v (cVar 5), .v (cVar 6)])]) (cVar 2)))))))
def f_judge_evenest : Fn := runB 7 4 [] false b_judge_evenest
theorem ok_judge_evenest {f : Addr} {fd : FuncData} (F : Fun K "judge_evenest" "judge_evenest" s_judge_evenest f fd) (C_amount : Cal Pg w K mg base 3 "amount" p_amount f_amount [] false) (C_worst_error : Cal Pg w K mg base 5 "worst_error" p_worst_error f_worst_error [] false) (C_triple_error : Cal Pg w K mg base 3 "triple_error" p_triple_error f_triple_error [] false) (g_NIL : Glb K mg "NIL" c_NIL) (m_len : mg "len" = none) : FnOk Pg w K mg base CX0 6 f fd p_judge_evenest (spF K f_judge_evenest [] false) := by
  have S := sc_judge_evenest
  exact fn_mk (N := N_judge_evenest) (P := []) (Oe := []) (own := false) (b := b_judge_evenest) F S fun cdv A outer s H E hr =>
    (ss_cons (O1 := []) (sj_if (tj_ne hr.units (ej_call C_worst_error hr (rj_cons (ej_var 1) (rj_cons (ej_var 0) rj_nil))) (ej_var 2)) (ss_one (sj_ret ej_bl)) ss_nil)
    (ss_cons (O1 := []) (sj_if (tj_is (ej_var 3) ej_non) (ss_one (sj_ret (ej_eq hr.units (ej_var 2) (ej_gl g_NIL)))) ss_nil)
    (ss_cons (O1 := []) (sj_asg (ej_var 3) (gj_tup rfl (gsj_cons (gj_name (by decide) S.nd) (gsj_cons (gj_name (by decide) S.nd) (gsj_cons (gj_name (by decide) S.nd) gsj_nil)))))
    (ss_cons (O1 := []) (sj_if (tj_not (tj_chain ej_int (cht_cons cj_le (ej_var 4) (cht_cons cj_lt (ej_var 5) (cht_cons cj_lt (ej_var 6) (cht_one cj_lt (ej_len m_len (aj_cons (ej_var 0) aj_nil)))))))) (ss_one (sj_ret ej_bl)) ss_nil)
    (ss_one (sj_ret (ej_eq hr.units (ej_call C_amount hr (rj_cons (ej_call C_triple_error hr (rj_cons (ej_var 0) (rj_cons (ej_var 4) (rj_cons (ej_var 5) (rj_cons (ej_var 6) rj_nil))))) rj_nil)) (ej_var 2))))))))
abbrev s_judge_squares : Stmt := topS 21
abbrev N_judge_squares : List Str := ["blows", "beat", "told", "at", "number"]
abbrev p_judge_squares : List Str := ["blows", "beat"]
theorem sc_judge_squares : FnScope N_judge_squares p_judge_squares (defScope s_judge_squares) := ⟨rfl, rfl, rfl, by decide +kernel, rfl, by decide +kernel, by decide +kernel⟩
def b_judge_squares : Gs := (cSeq (cSet 2 (cUser f_errors [.v (cVar 1), .v (cVar 0)]))
    (cSeq (cIfS (cTest (cOp ltD (cCall lenD (evA [(cVar 0)])) (cK (D.int 2)))) (cRet (cAndV (cOp eqD (cVar 2) (cLst [(cK c_NIL)])) (cOp eqD (cOp ixD (cVar 1) (cK (D.int 1))) (cK c_NIL)))) cNil)
    (cSeq (cIfS (cTest (cOp neD (cUser f_sum_of [.v (cVar 2)]) (cK c_NIL))) (cRet (cK (D.bl false))) cNil)
    (cRet (cOp eqD (cUser f_sum_of [.v (cComp (cEn (cVar 2)) (hTup 2 (hCons (hName 3) (hCons (hName 4) hNil))) cYes (cUser f_times [.v (cVar 4), .v (cUser f_frac [.v (cVar 3), .v (cK (D.int 1))])]) [3, 4])]) (cK c_NIL))))))
def f_judge_squares : Fn := runB 5 2 [] false b_judge_squares
theorem ok_judge_squares {f : Addr} {fd : FuncData} (F : Fun K "judge_squares" "judge_squares" s_judge_squares f fd) (C_frac : Cal Pg w K mg base 1 "frac" p_frac f_frac [] false) (C_times : Cal Pg w K mg base 2 "times" p_times f_times [] false) (C_sum_of : Cal Pg w K mg base 3 "sum_of" p_sum_of f_sum_of [] false) (C_errors : Cal Pg w K mg base 4 "errors" p_errors f_errors [] false) (g_NIL : Glb K mg "NIL" c_NIL) (m_enumerate : mg "enumerate" = none) (m_len : mg "len" = none) : FnOk Pg w K mg base CX0 5 f fd p_judge_squares (spF K f_judge_squares [] false) := by
  have S := sc_judge_squares
  exact fn_mk (N := N_judge_squares) (P := []) (Oe := []) (own := false) (b := b_judge_squares) F S fun cdv A outer s H E hr =>
    (ss_cons (O1 := []) (sj_set (i := 2) (by decide) S.nd (ej_call C_errors hr (rj_cons (ej_var 1) (rj_cons (ej_var 0) rj_nil))))
    (ss_cons (O1 := []) (sj_if (tj_lt (ej_len m_len (aj_cons (ej_var 0) aj_nil)) ej_int) (ss_one (sj_ret (ej_and (ej_eq hr.units (ej_var 2) (EO.j (eo_lst (aj_cons (ej_gl g_NIL) aj_nil)))) (ej_one (ej_eq hr.units (ej_ix (ej_var 1) ej_int) (ej_gl g_NIL)))))) ss_nil)
    (ss_cons (O1 := []) (sj_if (tj_ne hr.units (ej_call C_sum_of hr (rj_cons (ej_var 2) rj_nil)) (ej_gl g_NIL)) (ss_one (sj_ret ej_bl)) ss_nil)
    (ss_one (sj_ret (ej_eq hr.units (ej_call C_sum_of hr (rj_cons (EO.j (eo_comp rfl S.nd (ow := [("at", 3), ("number", 4)]) (S := [3, 4]) (ij_enum m_enumerate (ej_var 2)) (blkOk_by (own := [("at", 3), ("number", 4)]) (N := N_judge_squares) (sc := defScope s_judge_squares) (by decide +kernel)) (fun _ _ _ _ _ => (gj_tup rfl (gsj_cons (gj_name (by decide) S.nd) (gsj_cons (gj_name (by decide) S.nd) gsj_nil)))) (fun _ _ _ _ _ => nj_nil) (fun _ _ _ _ _ => (ej_call C_times hr (rj_cons (ej_var 4) (rj_cons (ej_call C_frac hr (rj_cons (ej_var 3) (rj_cons ej_int rj_nil))) rj_nil)))))) rj_nil)) (ej_gl g_NIL)))))))
abbrev s__law_start : Stmt := topS 23
abbrev N__law_start : List Str := ["script", "k", "cell", "prime", "mixed", "number", "turn"]
abbrev p__law_start : List Str := ["script", "k"]
theorem sc__law_start : FnScope N__law_start p__law_start (defScope s__law_start) := ⟨rfl, rfl, rfl, by decide +kernel, rfl, by decide +kernel, by decide +kernel⟩
def b__law_start_L1 : Gs := (cSeq (cSet 4 (cOp modD (cCall intD (evA [(cOp addD (cOp addD (cOp addD (cOp addD (cOp mulD (cVar 4) (cVar 4)) (cOp mulD (cK (D.int 7)) (cVar 4))) (cOp mulD (cK (D.int 131)) (cVar 1))) (cVar 6)) (cK (D.int 3)))])) (cVar 3)))
    (cSet 5 (cOp addD (cOp mulD (cVar 5) (cVar 3)) (cVar 4))))
def b__law_start : Gs := (cSeq (cSet 2 (cK (D.int 0)))
    (cSeq (cIfS (cTest (cOp gtD (cCall lenD (evA [(cVar 0)])) (cK (D.int 0)))) (cSet 2 (cCall intD (evA [(cOp ixD (cVar 0) (cOp modD (cCall intD (evA [(cVar 1)])) (cCall lenD (evA [(cVar 0)]))))]))) cNil)
    (cSeq (cIfS (cAnd (cTest (cOp ltD (cVar 1) (cCall lenD (evA [(cVar 0)])))) (cTest (cOp geD (cCall absD (evA [(cVar 2)])) (cOp powD (cK (D.int 10)) (cK (D.int 18)))))) (cRet (cLst [(cCall absD (evA [(cVar 2)]))])) cNil)
    (cSeq (cSet 3 (cK (D.int 618970019642690137449562111)))
    (cSeq (cSet 4 (cOp modD (cCall intD (evA [(cOp addD (cOp addD (cOp mulD (cVar 2) (cK (D.int 2654435761))) (cOp mulD (cOp addD (cVar 1) (cK (D.int 1))) (cK (D.int 6700417)))) (cK (D.int 11)))])) (cVar 3)))
    (cSeq (cSet 5 (cK (D.int 0)))
    (cSeq (cFor (cItA rng1 (evA [(cK (D.int 6))])) (hName 6) b__law_start_L1)
    (cRet (cLst [(cVar 5)])))))))))
def f__law_start : Fn := runB 7 2 [] true b__law_start
theorem ok__law_start {f : Addr} {fd : FuncData} (F : Fun K "_law_start" "_law_start" s__law_start f fd) (m_abs : mg "abs" = none) (m_int : mg "int" = none) (m_len : mg "len" = none) (m_range : mg "range" = none) : FnOk Pg w K mg base CX0 1 f fd p__law_start (spF K f__law_start [] true) := by
  have S := sc__law_start
  exact fn_mk (N := N__law_start) (P := []) (Oe := []) (own := true) (b := b__law_start) F S fun cdv A outer s H E hr =>
    (ss_cons (O1 := []) (sj_set (i := 2) (by decide) S.nd ej_int)
    (ss_cons (O1 := []) (sj_if (tj_gt (ej_len m_len (aj_cons (ej_var 0) aj_nil)) ej_int) (ss_one (sj_set (i := 2) (by decide) S.nd (ej_intc m_int (aj_cons (ej_ix (ej_var 0) (ej_mod (ej_intc m_int (aj_cons (ej_var 1) aj_nil)) (ej_len m_len (aj_cons (ej_var 0) aj_nil)))) aj_nil)))) ss_nil)
    (ss_cons (O1 := []) (sj_if (WJ.t (wj_and (tj_lt (ej_var 1) (ej_len m_len (aj_cons (ej_var 0) aj_nil))) (wj_and1 (tj_ge (ej_abs m_abs (aj_cons (ej_var 2) aj_nil)) (ej_pow ej_int ej_int))))) (ss_one (sj_retO (eo_lst (aj_cons (ej_abs m_abs (aj_cons (ej_var 2) aj_nil)) aj_nil)))) ss_nil)
    (ss_cons (O1 := []) (sj_set (i := 3) (by decide) S.nd ej_int)
    (ss_cons (O1 := []) (sj_set (i := 4) (by decide) S.nd (ej_mod (ej_intc m_int (aj_cons (ej_add (ej_add (ej_mul (ej_var 2) ej_int) (ej_mul (ej_add (ej_var 1) ej_int) ej_int)) ej_int) aj_nil)) (ej_var 3)))
    (ss_cons (O1 := []) (sj_set (i := 5) (by decide) S.nd ej_int)
    (ss_cons (O1 := []) (sj_for rfl PassesOwn.never (ij_range1 (by rfl) m_range (aj_cons ej_int aj_nil)) (gj_name (by decide) S.nd) (ss_cons (O1 := []) (sj_set (i := 4) (by decide) S.nd (ej_mod (ej_intc m_int (aj_cons (ej_add (ej_add (ej_add (ej_add (ej_mul (ej_var 4) (ej_var 4)) (ej_mul ej_int (ej_var 4))) (ej_mul ej_int (ej_var 1))) (ej_var 6)) ej_int) aj_nil)) (ej_var 3)))
    (ss_one (sj_set (i := 5) (by decide) S.nd (ej_add (ej_mul (ej_var 5) (ej_var 3)) (ej_var 4))))))
    (ss_one (sj_retO (eo_lst (aj_cons (ej_var 5) aj_nil)))))))))))
abbrev s__law_digit : Stmt := topS 24
abbrev N__law_digit : List Str := ["state", "many", "digit"]
abbrev p__law_digit : List Str := ["state", "many"]
theorem sc__law_digit : FnScope N__law_digit p__law_digit (defScope s__law_digit) := ⟨rfl, rfl, rfl, by decide +kernel, rfl, by decide +kernel, by decide +kernel⟩
def b__law_digit : Gs := (cSeq (cSet 2 (cOp modD (cCall intD (evA [(cPure (cOp ixD (cVar 0) (cK (D.int 0))))])) (cVar 1)))
    (cSeq (cSetIx 0 (cOp fdivD (cPure (cOp ixD (cVar 0) (cK (D.int 0)))) (cVar 1)) (cK (D.int 0)))
    (cRet (cVar 2))))
def f__law_digit : Fn := runB 3 2 [0] false b__law_digit
theorem ok__law_digit {f : Addr} {fd : FuncData} (F : Fun K "_law_digit" "_law_digit" s__law_digit f fd) (m_int : mg "int" = none) : FnOk Pg w K mg base CX0 1 f fd p__law_digit (spF K f__law_digit [0] false) := by
  have S := sc__law_digit
  exact fn_mk (N := N__law_digit) (P := [0]) (Oe := []) (own := false) (b := b__law_digit) F S fun cdv A outer s H E hr =>
    (ss_cons (O1 := [0]) (sj_set (i := 2) (by decide) S.nd (ej_mod (ej_intc m_int (aj_cons (ej_pure (ej_ix (ej_var 0) ej_int)) aj_nil)) (ej_var 1)))
    (ss_cons (O1 := [0]) (sj_setIx (i := 0) (by decide) (ej_fdiv (ej_pure (ej_ix (ej_var 0) ej_int)) (ej_var 1)) ej_int (ps_asg (ej_fdiv (ej_pure (ej_ix (ej_var 0) ej_int)) (ej_var 1)) (pg_sub (pv 0) ej_int set_list)))
    (ss_one (sj_ret (ej_var 2)))))
abbrev s__law_least : Stmt := topS 25
abbrev N__law_least : List Str := ["blows", "found", "i", "k", "j", "top", "off"]
abbrev p__law_least : List Str := ["blows"]
theorem sc__law_least : FnScope N__law_least p__law_least (defScope s__law_least) := ⟨rfl, rfl, rfl, by decide +kernel, rfl, by decide +kernel, by decide +kernel⟩
def b__law_least_L1 : Gs := (cSeq (cSet 5 (cOp subD (cOp mulD (cOp subD (cVar 3) (cVar 2)) (cOp subD (cOp ixD (cVar 0) (cVar 4)) (cOp ixD (cVar 0) (cVar 2)))) (cOp mulD (cOp subD (cVar 4) (cVar 2)) (cOp subD (cOp ixD (cVar 0) (cVar 3)) (cOp ixD (cVar 0) (cVar 2))))))
    (cSeq (cSet 6 (cUser f_frac [.v (cCall absD (evA [(cVar 5)])), .v (cOp mulD (cK (D.int 2)) (cOp subD (cVar 3) (cVar 2)))]))
    (cSet 1 (cIf (cTest (cUser f_less [.v (cVar 1), .v (cVar 6)])) (cVar 6) (cVar 1)))))
def b__law_least_L2 : Gs := (cFor (cItA rng2 (evA [(cOp addD (cVar 2) (cK (D.int 1))), (cVar 3)])) (hName 4) b__law_least_L1)
def b__law_least_L3 : Gs := (cFor (cItA rng2 (evA [(cOp addD (cVar 2) (cK (D.int 2))), (cCall lenD (evA [(cVar 0)]))])) (hName 3) b__law_least_L2)
def b__law_least : Gs := (cSeq (cSet 1 (cTup [(cK (D.int 0)), (cK (D.int 1))]))
    (cSeq (cFor (cItA rng1 (evA [(cCall lenD (evA [(cVar 0)]))])) (hName 2) b__law_least_L3)
    (cRet (cVar 1))))
def f__law_least : Fn := runB 7 1 [] false b__law_least
theorem ok__law_least {f : Addr} {fd : FuncData} (F : Fun K "_law_least" "_law_least" s__law_least f fd) (C_frac : Cal Pg w K mg base 1 "frac" p_frac f_frac [] false) (C_less : Cal Pg w K mg base 1 "less" p_less f_less [] false) (m_abs : mg "abs" = none) (m_len : mg "len" = none) (m_range : mg "range" = none) : FnOk Pg w K mg base CX0 2 f fd p__law_least (spF K f__law_least [] false) := by
  have S := sc__law_least
  exact fn_mk (N := N__law_least) (P := []) (Oe := []) (own := false) (b := b__law_least) F S fun cdv A outer s H E hr =>
    (ss_cons (O1 := []) (sj_set (i := 1) (by decide) S.nd (ej_tup (aj_cons ej_int (aj_cons ej_int aj_nil))))
    (ss_cons (O1 := []) (sj_for rfl PassesOwn.never (ij_range1 (by rfl) m_range (aj_cons (ej_len m_len (aj_cons (ej_var 0) aj_nil)) aj_nil)) (gj_name (by decide) S.nd) (ss_one (sj_for rfl PassesOwn.never (ij_range2 (by rfl) m_range (aj_cons (ej_add (ej_var 2) ej_int) (aj_cons (ej_len m_len (aj_cons (ej_var 0) aj_nil)) aj_nil))) (gj_name (by decide) S.nd) (ss_one (sj_for rfl PassesOwn.never (ij_range2 (by rfl) m_range (aj_cons (ej_add (ej_var 2) ej_int) (aj_cons (ej_var 3) aj_nil))) (gj_name (by decide) S.nd) (ss_cons (O1 := []) (sj_set (i := 5) (by decide) S.nd (ej_sub (ej_mul (ej_sub (ej_var 3) (ej_var 2)) (ej_sub (ej_ix (ej_var 0) (ej_var 4)) (ej_ix (ej_var 0) (ej_var 2)))) (ej_mul (ej_sub (ej_var 4) (ej_var 2)) (ej_sub (ej_ix (ej_var 0) (ej_var 3)) (ej_ix (ej_var 0) (ej_var 2))))))
    (ss_cons (O1 := []) (sj_set (i := 6) (by decide) S.nd (ej_call C_frac hr (rj_cons (ej_abs m_abs (aj_cons (ej_var 5) aj_nil)) (rj_cons (ej_mul ej_int (ej_sub (ej_var 3) (ej_var 2))) rj_nil))))
    (ss_one (sj_set (i := 1) (by decide) S.nd (ej_if (tj_val (ej_call C_less hr (rj_cons (ej_var 1) (rj_cons (ej_var 6) rj_nil)))) (ej_var 6) (ej_var 1)))))))))))
    (ss_one (sj_ret (ej_var 1)))))
abbrev s__law_fit : Stmt := topS 26
abbrev N__law_fit : List Str := ["blows", "many", "ones", "moment", "k", "first", "second", "gap", "start"]
abbrev p__law_fit : List Str := ["blows"]
theorem sc__law_fit : FnScope N__law_fit p__law_fit (defScope s__law_fit) := ⟨rfl, rfl, rfl, by decide +kernel, rfl, by decide +kernel, by decide +kernel⟩
def b__law_fit : Gs := (cSeq (cSet 1 (cCall lenD (evA [(cVar 0)])))
    (cSeq (cIfS (cTest (cOp eqD (cVar 1) (cK (D.int 1)))) (cRet (cTup [(cUser f_frac [.v (cOp ixD (cVar 0) (cK (D.int 0))), .v (cK (D.int 1))]), (cTup [(cK (D.int 0)), (cK (D.int 1))])])) cNil)
    (cSeq (cSet 2 (cCall sumD (evA [(cVar 0)])))
    (cSeq (cSet 3 (cCall sumD (evA [(cComp (cItA rng1 (evA [(cVar 1)])) (hName 4) cYes (cOp mulD (cVar 4) (cOp ixD (cVar 0) (cVar 4))) [4])])))
    (cSeq (cSet 5 (cOp fdivD (cOp mulD (cVar 1) (cOp subD (cVar 1) (cK (D.int 1)))) (cK (D.int 2))))
    (cSeq (cSet 6 (cOp fdivD (cOp mulD (cOp mulD (cOp subD (cVar 1) (cK (D.int 1))) (cVar 1)) (cOp subD (cOp mulD (cK (D.int 2)) (cVar 1)) (cK (D.int 1)))) (cK (D.int 6))))
    (cSeq (cSet 7 (cUser f_frac [.v (cOp subD (cOp mulD (cVar 1) (cVar 3)) (cOp mulD (cVar 5) (cVar 2))), .v (cOp subD (cOp mulD (cVar 1) (cVar 6)) (cOp mulD (cVar 5) (cVar 5)))]))
    (cSeq (cSet 8 (cUser f_over [.v (cUser f_minus [.v (cUser f_frac [.v (cVar 2), .v (cK (D.int 1))]), .v (cUser f_times [.v (cVar 7), .v (cUser f_frac [.v (cVar 5), .v (cK (D.int 1))])])]), .v (cUser f_frac [.v (cVar 1), .v (cK (D.int 1))])]))
    (cRet (cTup [(cVar 8), (cVar 7)]))))))))))
def f__law_fit : Fn := runB 9 1 [] false b__law_fit
theorem ok__law_fit {f : Addr} {fd : FuncData} (F : Fun K "_law_fit" "_law_fit" s__law_fit f fd) (C_frac : Cal Pg w K mg base 1 "frac" p_frac f_frac [] false) (C_minus : Cal Pg w K mg base 2 "minus" p_minus f_minus [] false) (C_times : Cal Pg w K mg base 2 "times" p_times f_times [] false) (C_over : Cal Pg w K mg base 2 "over" p_over f_over [] false) (m_len : mg "len" = none) (m_range : mg "range" = none) (m_sum : mg "sum" = none) : FnOk Pg w K mg base CX0 3 f fd p__law_fit (spF K f__law_fit [] false) := by
  have S := sc__law_fit
  exact fn_mk (N := N__law_fit) (P := []) (Oe := []) (own := false) (b := b__law_fit) F S fun cdv A outer s H E hr =>
    (ss_cons (O1 := []) (sj_set (i := 1) (by decide) S.nd (ej_len m_len (aj_cons (ej_var 0) aj_nil)))
    (ss_cons (O1 := []) (sj_if (tj_eq hr.units (ej_var 1) ej_int) (ss_one (sj_ret (ej_tup (aj_cons (ej_call C_frac hr (rj_cons (ej_ix (ej_var 0) ej_int) (rj_cons ej_int rj_nil))) (aj_cons (ej_tup (aj_cons ej_int (aj_cons ej_int aj_nil))) aj_nil))))) ss_nil)
    (ss_cons (O1 := []) (sj_set (i := 2) (by decide) S.nd (ej_sum rfl m_sum (aj_cons (ej_var 0) aj_nil)))
    (ss_cons (O1 := []) (sj_set (i := 3) (by decide) S.nd (ej_sum rfl m_sum (aj_cons (EO.j (eo_comp rfl S.nd (ow := [("k", 4)]) (S := [4]) (ij_range1 (by rfl) m_range (aj_cons (ej_var 1) aj_nil)) (blkOk_by (own := [("k", 4)]) (N := N__law_fit) (sc := defScope s__law_fit) (by decide +kernel)) (fun _ _ _ _ _ => (gj_name (by decide) S.nd)) (fun _ _ _ _ _ => nj_nil) (fun _ _ _ _ _ => (ej_mul (ej_var 4) (ej_ix (ej_var 0) (ej_var 4)))))) aj_nil)))
    (ss_cons (O1 := []) (sj_set (i := 5) (by decide) S.nd (ej_fdiv (ej_mul (ej_var 1) (ej_sub (ej_var 1) ej_int)) ej_int))
    (ss_cons (O1 := []) (sj_set (i := 6) (by decide) S.nd (ej_fdiv (ej_mul (ej_mul (ej_sub (ej_var 1) ej_int) (ej_var 1)) (ej_sub (ej_mul ej_int (ej_var 1)) ej_int)) ej_int))
    (ss_cons (O1 := []) (sj_set (i := 7) (by decide) S.nd (ej_call C_frac hr (rj_cons (ej_sub (ej_mul (ej_var 1) (ej_var 3)) (ej_mul (ej_var 5) (ej_var 2))) (rj_cons (ej_sub (ej_mul (ej_var 1) (ej_var 6)) (ej_mul (ej_var 5) (ej_var 5))) rj_nil))))
    (ss_cons (O1 := []) (sj_set (i := 8) (by decide) S.nd (ej_call C_over hr (rj_cons (ej_call C_minus hr (rj_cons (ej_call C_frac hr (rj_cons (ej_var 2) (rj_cons ej_int rj_nil))) (rj_cons (ej_call C_times hr (rj_cons (ej_var 7) (rj_cons (ej_call C_frac hr (rj_cons (ej_var 5) (rj_cons ej_int rj_nil))) rj_nil))) rj_nil))) (rj_cons (ej_call C_frac hr (rj_cons (ej_var 1) (rj_cons ej_int rj_nil))) rj_nil))))
    (ss_one (sj_ret (ej_tup (aj_cons (ej_var 8) (aj_cons (ej_var 7) aj_nil)))))))))))))
abbrev s_law : Stmt := topS 27
abbrev N_law : List Str := ["script", "turn", "state", "blows", "k", "beat", "error", "three", "lies", "fit", "rest", "one", "near", "start", "gap", "moved", "many", "great", "blow", "behind", "straight"]
abbrev p_law : List Str := ["script"]
theorem sc_law : FnScope N_law p_law (defScope s_law) := ⟨rfl, rfl, rfl, by decide +kernel, rfl, by decide +kernel, by decide +kernel⟩
def b_law_L1 : Gs := (cSeq (cSet 2 (cUser f__law_start [.v (cVar 0), .v (cVar 1)]))
    (cSeq (cSet 3 (cComp (cItA rng1 (evA [(cOp addD (cK (D.int 1)) (cUser f__law_digit [.s 2, .v (cK (D.int 12))]))])) (hName 4) cYes (cOp addD (cOp subD (cUser f__law_digit [.s 2, .v (cK (D.int 400))]) (cK (D.int 100))) (cOp mulD (cK (D.int 100)) (cVar 4))) [4]))
    (cSeq (cAsg (hTup 3 (hCons (hName 5) (hCons (hName 6) (hCons (hName 7) hNil)))) (cUser f_evenest [.v (cVar 3)]))
    (cSeq (cIfS (cOr (cTest (cOp neD (cVar 6) (cUser f__law_least [.v (cVar 3)]))) (cOr (cTest (cOp neD (cUser f_worst_error [.v (cVar 5), .v (cVar 3)]) (cVar 6))) (cTest (cOp neD (cOp isN (cVar 7) (cK D.non)) (cOp eqD (cVar 6) (cTup [(cK (D.int 0)), (cK (D.int 1))])))))) (cRet (cK (D.bl false))) cNil)
    (cSeq (cIfS (cOr (cTest (cOp notB (cUser f_judge_evenest [.v (cVar 3), .v (cVar 5), .v (cVar 6), .v (cVar 7)]) (cK (D.bl true)))) (cTest (cOp notB (cUser f_judge_evenest [.v (cVar 3), .v (cVar 5), .v (cUser f_plus [.v (cVar 6), .v (cTup [(cK (D.int 1)), (cK (D.int 3))])]), .v (cVar 7)]) (cK (D.bl false))))) (cRet (cK (D.bl false))) cNil)
    (cSeq (cIfS (cTest (cOp notN (cVar 7) (cK D.non))) (cSeq (cSet 8 (cUser f_triple_error [.v (cVar 3), .v (cOp ixD (cVar 7) (cK (D.int 0))), .v (cOp ixD (cVar 7) (cK (D.int 1))), .v (cOp ixD (cVar 7) (cK (D.int 2)))]))
    (cIfS (cOr (cTest (cOp neD (cIf (cTest (cUser f_less [.v (cTup [(cK (D.int 0)), (cK (D.int 1))]), .v (cVar 8)])) (cVar 8) (cUser f_minus [.v (cTup [(cK (D.int 0)), (cK (D.int 1))]), .v (cVar 8)])) (cVar 6))) (cTest (cOp notB (cUser f_judge_evenest [.v (cVar 3), .v (cVar 5), .v (cVar 6), .v (cK D.non)]) (cK (D.bl false))))) (cRet (cK (D.bl false))) cNil)) cNil)
    (cSeq (cSet 9 (cUser f_least_squares [.v (cVar 3)]))
    (cSeq (cIfS (cOr (cTest (cOp neD (cVar 9) (cUser f__law_fit [.v (cVar 3)]))) (cTest (cOp notB (cUser f_judge_squares [.v (cVar 3), .v (cVar 9)]) (cK (D.bl true))))) (cRet (cK (D.bl false))) cNil)
    (cSeq (cSet 10 (cUser f_errors [.v (cVar 9), .v (cVar 3)]))
    (cSeq (cIfS (cTest (cOp neD (cVar 10) (cComp (cItA rng1 (evA [(cCall lenD (evA [(cVar 3)]))])) (hName 4) cYes (cUser f_minus [.v (cUser f_frac [.v (cOp ixD (cVar 3) (cVar 4)), .v (cK (D.int 1))]), .v (cUser f_plus [.v (cOp ixD (cVar 9) (cK (D.int 0))), .v (cUser f_times [.v (cUser f_frac [.v (cVar 4), .v (cK (D.int 1))]), .v (cOp ixD (cVar 9) (cK (D.int 1)))])])]) [4]))) (cRet (cK (D.bl false))) cNil)
    (cSeq (cIfS (cOr (cTest (cOp neD (cUser f_squares [.v (cVar 9), .v (cVar 3)]) (cUser f_sum_of [.v (cComp (cIt (cVar 10)) (hName 11) cYes (cUser f_times [.v (cVar 11), .v (cVar 11)]) [11])]))) (cTest (cOp neD (cUser f_sum_of [.v (cVar 10)]) (cTup [(cK (D.int 0)), (cK (D.int 1))])))) (cRet (cK (D.bl false))) cNil)
    (cSeq (cSet 12 (cTup [(cUser f_plus [.v (cOp ixD (cVar 9) (cK (D.int 0))), .v (cUser f_frac [.v (cOp subD (cUser f__law_digit [.s 2, .v (cK (D.int 5))]) (cK (D.int 2))), .v (cK (D.int 7))])]), (cUser f_plus [.v (cOp ixD (cVar 9) (cK (D.int 1))), .v (cUser f_frac [.v (cOp subD (cUser f__law_digit [.s 2, .v (cK (D.int 5))]) (cK (D.int 2))), .v (cK (D.int 9))])])]))
    (cSeq (cIfS (cAnd (cTest (cOp neD (cVar 12) (cVar 9))) (cOr (cTest (cUser f_less [.v (cUser f_squares [.v (cVar 12), .v (cVar 3)]), .v (cUser f_squares [.v (cVar 9), .v (cVar 3)])])) (cAnd (cTest (cOp gtD (cCall lenD (evA [(cVar 3)])) (cK (D.int 1)))) (cTest (cOp notB (cUser f_judge_squares [.v (cVar 3), .v (cVar 12)]) (cK (D.bl false))))))) (cRet (cK (D.bl false))) cNil)
    (cSeq (cIfS (cTest (cUser f_less [.v (cUser f_worst_error [.v (cVar 12), .v (cVar 3)]), .v (cVar 6)])) (cRet (cK (D.bl false))) cNil)
    (cSeq (cAsg (hTup 2 (hCons (hName 13) (hCons (hName 14) hNil))) (cTup [(cOp subD (cUser f__law_digit [.s 2, .v (cK (D.int 1000))]) (cK (D.int 500))), (cOp subD (cUser f__law_digit [.s 2, .v (cK (D.int 99))]) (cK (D.int 40)))]))
    (cSeq (cSet 15 (cComp (cItA rng1 (evA [(cCall lenD (evA [(cVar 3)]))])) (hName 4) cYes (cOp addD (cOp addD (cOp ixD (cVar 3) (cVar 4)) (cVar 13)) (cOp mulD (cVar 14) (cVar 4))) [4]))
    (cSeq (cIfS (cOr (cTest (cOp neD (cOp ixD (cUser f_evenest [.v (cVar 15)]) (cK (D.int 1))) (cVar 6))) (cTest (cOp neD (cUser f_errors [.v (cTup [(cUser f_plus [.v (cOp ixD (cVar 5) (cK (D.int 0))), .v (cUser f_frac [.v (cVar 13), .v (cK (D.int 1))])]), (cUser f_plus [.v (cOp ixD (cVar 5) (cK (D.int 1))), .v (cUser f_frac [.v (cVar 14), .v (cK (D.int 1))])])]), .v (cVar 15)]) (cUser f_errors [.v (cVar 5), .v (cVar 3)])))) (cRet (cK (D.bl false))) cNil)
    (cSeq (cIfS (cAnd (cTest (cOp gtD (cCall lenD (evA [(cVar 3)])) (cK (D.int 1)))) (cTest (cOp neD (cUser f_least_squares [.v (cVar 15)]) (cTup [(cUser f_plus [.v (cOp ixD (cVar 9) (cK (D.int 0))), .v (cUser f_frac [.v (cVar 13), .v (cK (D.int 1))])]), (cUser f_plus [.v (cOp ixD (cVar 9) (cK (D.int 1))), .v (cUser f_frac [.v (cVar 14), .v (cK (D.int 1))])])])))) (cRet (cK (D.bl false))) cNil)
    (cSeq (cSet 16 (cOp addD (cK (D.int 2)) (cUser f__law_digit [.s 2, .v (cK (D.int 5))])))
    (cSeq (cSet 17 (cComp (cIt (cVar 3)) (hName 18) cYes (cOp mulD (cVar 16) (cVar 18)) [18]))
    (cSeq (cSet 19 (cComp (cRv (cVar 3)) (hName 18) cYes (cOp subD (cK (D.int 0)) (cVar 18)) [18]))
    (cSeq (cIfS (cOr (cTest (cOp neD (cOp ixD (cUser f_evenest [.v (cVar 17)]) (cK (D.int 1))) (cUser f_times [.v (cUser f_frac [.v (cVar 16), .v (cK (D.int 1))]), .v (cVar 6)]))) (cTest (cOp neD (cOp ixD (cUser f_evenest [.v (cVar 19)]) (cK (D.int 1))) (cVar 6)))) (cRet (cK (D.bl false))) cNil)
    (cSeq (cIfS (cOr (cTest (cOp neD (cUser f_squares [.v (cUser f_least_squares [.v (cVar 17)]), .v (cVar 17)]) (cUser f_times [.v (cUser f_frac [.v (cOp mulD (cVar 16) (cVar 16)), .v (cK (D.int 1))]), .v (cUser f_squares [.v (cVar 9), .v (cVar 3)])]))) (cTest (cOp neD (cUser f_squares [.v (cUser f_least_squares [.v (cVar 19)]), .v (cVar 19)]) (cUser f_squares [.v (cVar 9), .v (cVar 3)])))) (cRet (cK (D.bl false))) cNil)
    (cSeq (cSet 20 (cComp (cItA rng1 (evA [(cCall lenD (evA [(cVar 3)]))])) (hName 4) cYes (cOp addD (cVar 13) (cOp mulD (cVar 14) (cVar 4))) [4]))
    (cIfS (cOr (cTest (cOp neD (cSl slD (cUser f_evenest [.v (cVar 20)]) (cPart (cK (D.int 1))) cNoP) (cTup [(cTup [(cK (D.int 0)), (cK (D.int 1))]), (cK D.non)]))) (cTest (cOp neD (cUser f_squares [.v (cUser f_least_squares [.v (cVar 20)]), .v (cVar 20)]) (cTup [(cK (D.int 0)), (cK (D.int 1))])))) (cRet (cK (D.bl false))) cNil)))))))))))))))))))))))))
def b_law : Gs := (cSeq (cFor (cItA rng1 (evA [(cK (D.int 5))])) (hName 1) b_law_L1)
    (cRet (cK (D.bl true))))
def f_law : Fn := runB 21 1 [] false b_law
theorem ok_law {f : Addr} {fd : FuncData} (F : Fun K "law" "law" s_law f fd) (C_frac : Cal Pg w K mg base 1 "frac" p_frac f_frac [] false) (C_plus : Cal Pg w K mg base 2 "plus" p_plus f_plus [] false) (C_minus : Cal Pg w K mg base 2 "minus" p_minus f_minus [] false) (C_times : Cal Pg w K mg base 2 "times" p_times f_times [] false) (C_less : Cal Pg w K mg base 1 "less" p_less f_less [] false) (C_sum_of : Cal Pg w K mg base 3 "sum_of" p_sum_of f_sum_of [] false) (C_errors : Cal Pg w K mg base 4 "errors" p_errors f_errors [] false) (C_worst_error : Cal Pg w K mg base 5 "worst_error" p_worst_error f_worst_error [] false) (C_triple_error : Cal Pg w K mg base 3 "triple_error" p_triple_error f_triple_error [] false) (C_evenest : Cal Pg w K mg base 4 "evenest" p_evenest f_evenest [] false) (C_squares : Cal Pg w K mg base 5 "squares" p_squares f_squares [] false) (C_least_squares : Cal Pg w K mg base 3 "least_squares" p_least_squares f_least_squares [] false) (C_judge_evenest : Cal Pg w K mg base 6 "judge_evenest" p_judge_evenest f_judge_evenest [] false) (C_judge_squares : Cal Pg w K mg base 5 "judge_squares" p_judge_squares f_judge_squares [] false) (C__law_start : Cal Pg w K mg base 1 "_law_start" p__law_start f__law_start [] true) (C__law_digit : Cal Pg w K mg base 1 "_law_digit" p__law_digit f__law_digit [0] false) (C__law_least : Cal Pg w K mg base 2 "_law_least" p__law_least f__law_least [] false) (C__law_fit : Cal Pg w K mg base 3 "_law_fit" p__law_fit f__law_fit [] false) (m_len : mg "len" = none) (m_range : mg "range" = none) (m_reversed : mg "reversed" = none) : FnOk Pg w K mg base CX0 7 f fd p_law (spF K f_law [] false) := by
  have S := sc_law
  exact fn_mk (N := N_law) (P := []) (Oe := []) (own := false) (b := b_law) F S fun cdv A outer s H E hr =>
    (ss_cons (O1 := []) (sj_for rfl PassesOwn.never (ij_range1 (by rfl) m_range (aj_cons ej_int aj_nil)) (gj_name (by decide) S.nd) (ss_end 2 (by decide) (ss_cons (O1 := [2]) (sj_setO (i := 2) (by decide) S.nd (eo_call C__law_start hr (rj_cons (ej_var 0) (rj_cons (ej_var 1) rj_nil))))
    (ss_cons (O1 := [2]) (sj_set (i := 3) (by decide) S.nd (EO.j (eo_comp rfl S.nd (ow := [("k", 4)]) (S := [4]) (ij_range1 (by rfl) m_range (aj_cons (ej_add ej_int (ej_call C__law_digit hr (rj_slot 2 (rj_cons ej_int rj_nil)))) aj_nil)) (blkOk_by (own := [("k", 4)]) (N := N_law) (sc := defScope s_law) (by decide +kernel)) (fun _ _ _ _ _ => (gj_name (by decide) S.nd)) (fun _ _ _ _ _ => nj_nil) (fun _ _ _ _ _ => (ej_add (ej_sub (ej_call C__law_digit hr (rj_slot 2 (rj_cons ej_int rj_nil))) ej_int) (ej_mul ej_int (ej_var 4)))))))
    (ss_cons (O1 := [2]) (sj_asg (ej_call C_evenest hr (rj_cons (ej_var 3) rj_nil)) (gj_tup rfl (gsj_cons (gj_name (by decide) S.nd) (gsj_cons (gj_name (by decide) S.nd) (gsj_cons (gj_name (by decide) S.nd) gsj_nil)))))
    (ss_cons (O1 := [2]) (sj_if (WJ.t (wj_or (tj_ne hr.units (ej_var 6) (ej_call C__law_least hr (rj_cons (ej_var 3) rj_nil))) (wj_or (tj_ne hr.units (ej_call C_worst_error hr (rj_cons (ej_var 5) (rj_cons (ej_var 3) rj_nil))) (ej_var 6)) (wj_or1 (tj_ne hr.units (ej_is (ej_var 7) ej_non) (ej_eq hr.units (ej_var 6) (ej_tup (aj_cons ej_int (aj_cons ej_int aj_nil))))))))) (ss_one (sj_ret ej_bl)) ss_nil)
    (ss_cons (O1 := [2]) (sj_if (WJ.t (wj_or (tj_isnotB (ej_call C_judge_evenest hr (rj_cons (ej_var 3) (rj_cons (ej_var 5) (rj_cons (ej_var 6) (rj_cons (ej_var 7) rj_nil))))) ej_bl) (wj_or1 (tj_isnotB (ej_call C_judge_evenest hr (rj_cons (ej_var 3) (rj_cons (ej_var 5) (rj_cons (ej_call C_plus hr (rj_cons (ej_var 6) (rj_cons (ej_tup (aj_cons ej_int (aj_cons ej_int aj_nil))) rj_nil))) (rj_cons (ej_var 7) rj_nil))))) ej_bl)))) (ss_one (sj_ret ej_bl)) ss_nil)
    (ss_cons (O1 := [2]) (sj_if (tj_isnot (ej_var 7) ej_non) (ss_cons (O1 := [2]) (sj_set (i := 8) (by decide) S.nd (ej_call C_triple_error hr (rj_cons (ej_var 3) (rj_cons (ej_ix (ej_var 7) ej_int) (rj_cons (ej_ix (ej_var 7) ej_int) (rj_cons (ej_ix (ej_var 7) ej_int) rj_nil))))))
    (ss_one (sj_if (WJ.t (wj_or (tj_ne hr.units (ej_if (tj_val (ej_call C_less hr (rj_cons (ej_tup (aj_cons ej_int (aj_cons ej_int aj_nil))) (rj_cons (ej_var 8) rj_nil)))) (ej_var 8) (ej_call C_minus hr (rj_cons (ej_tup (aj_cons ej_int (aj_cons ej_int aj_nil))) (rj_cons (ej_var 8) rj_nil)))) (ej_var 6)) (wj_or1 (tj_isnotB (ej_call C_judge_evenest hr (rj_cons (ej_var 3) (rj_cons (ej_var 5) (rj_cons (ej_var 6) (rj_cons ej_non rj_nil))))) ej_bl)))) (ss_one (sj_ret ej_bl)) ss_nil))) ss_nil)
    (ss_cons (O1 := [2]) (sj_set (i := 9) (by decide) S.nd (ej_call C_least_squares hr (rj_cons (ej_var 3) rj_nil)))
    (ss_cons (O1 := [2]) (sj_if (WJ.t (wj_or (tj_ne hr.units (ej_var 9) (ej_call C__law_fit hr (rj_cons (ej_var 3) rj_nil))) (wj_or1 (tj_isnotB (ej_call C_judge_squares hr (rj_cons (ej_var 3) (rj_cons (ej_var 9) rj_nil))) ej_bl)))) (ss_one (sj_ret ej_bl)) ss_nil)
    (ss_cons (O1 := [2]) (sj_set (i := 10) (by decide) S.nd (ej_call C_errors hr (rj_cons (ej_var 9) (rj_cons (ej_var 3) rj_nil))))
    (ss_cons (O1 := [2]) (sj_if (tj_ne hr.units (ej_var 10) (EO.j (eo_comp rfl S.nd (ow := [("k", 4)]) (S := [4]) (ij_range1 (by rfl) m_range (aj_cons (ej_len m_len (aj_cons (ej_var 3) aj_nil)) aj_nil)) (blkOk_by (own := [("k", 4)]) (N := N_law) (sc := defScope s_law) (by decide +kernel)) (fun _ _ _ _ _ => (gj_name (by decide) S.nd)) (fun _ _ _ _ _ => nj_nil) (fun _ _ _ _ _ => (ej_call C_minus hr (rj_cons (ej_call C_frac hr (rj_cons (ej_ix (ej_var 3) (ej_var 4)) (rj_cons ej_int rj_nil))) (rj_cons (ej_call C_plus hr (rj_cons (ej_ix (ej_var 9) ej_int) (rj_cons (ej_call C_times hr (rj_cons (ej_call C_frac hr (rj_cons (ej_var 4) (rj_cons ej_int rj_nil))) (rj_cons (ej_ix (ej_var 9) ej_int) rj_nil))) rj_nil))) rj_nil))))))) (ss_one (sj_ret ej_bl)) ss_nil)
    (ss_cons (O1 := [2]) (sj_if (WJ.t (wj_or (tj_ne hr.units (ej_call C_squares hr (rj_cons (ej_var 9) (rj_cons (ej_var 3) rj_nil))) (ej_call C_sum_of hr (rj_cons (EO.j (eo_comp rfl S.nd (ow := [("one", 11)]) (S := [11]) (ij_any (ej_var 10)) (blkOk_by (own := [("one", 11)]) (N := N_law) (sc := defScope s_law) (by decide +kernel)) (fun _ _ _ _ _ => (gj_name (by decide) S.nd)) (fun _ _ _ _ _ => nj_nil) (fun _ _ _ _ _ => (ej_call C_times hr (rj_cons (ej_var 11) (rj_cons (ej_var 11) rj_nil)))))) rj_nil))) (wj_or1 (tj_ne hr.units (ej_call C_sum_of hr (rj_cons (ej_var 10) rj_nil)) (ej_tup (aj_cons ej_int (aj_cons ej_int aj_nil))))))) (ss_one (sj_ret ej_bl)) ss_nil)
    (ss_cons (O1 := [2]) (sj_set (i := 12) (by decide) S.nd (ej_tup (aj_cons (ej_call C_plus hr (rj_cons (ej_ix (ej_var 9) ej_int) (rj_cons (ej_call C_frac hr (rj_cons (ej_sub (ej_call C__law_digit hr (rj_slot 2 (rj_cons ej_int rj_nil))) ej_int) (rj_cons ej_int rj_nil))) rj_nil))) (aj_cons (ej_call C_plus hr (rj_cons (ej_ix (ej_var 9) ej_int) (rj_cons (ej_call C_frac hr (rj_cons (ej_sub (ej_call C__law_digit hr (rj_slot 2 (rj_cons ej_int rj_nil))) ej_int) (rj_cons ej_int rj_nil))) rj_nil))) aj_nil))))
    (ss_cons (O1 := [2]) (sj_if (WJ.t (wj_and (tj_ne hr.units (ej_var 12) (ej_var 9)) (wj_and1 (WJ.t (wj_or (tj_val (ej_call C_less hr (rj_cons (ej_call C_squares hr (rj_cons (ej_var 12) (rj_cons (ej_var 3) rj_nil))) (rj_cons (ej_call C_squares hr (rj_cons (ej_var 9) (rj_cons (ej_var 3) rj_nil))) rj_nil)))) (wj_or1 (WJ.t (wj_and (tj_gt (ej_len m_len (aj_cons (ej_var 3) aj_nil)) ej_int) (wj_and1 (tj_isnotB (ej_call C_judge_squares hr (rj_cons (ej_var 3) (rj_cons (ej_var 12) rj_nil))) ej_bl)))))))))) (ss_one (sj_ret ej_bl)) ss_nil)
    (ss_cons (O1 := [2]) (sj_if (tj_val (ej_call C_less hr (rj_cons (ej_call C_worst_error hr (rj_cons (ej_var 12) (rj_cons (ej_var 3) rj_nil))) (rj_cons (ej_var 6) rj_nil)))) (ss_one (sj_ret ej_bl)) ss_nil)
    (ss_cons (O1 := [2]) (sj_asg (ej_tup (aj_cons (ej_sub (ej_call C__law_digit hr (rj_slot 2 (rj_cons ej_int rj_nil))) ej_int) (aj_cons (ej_sub (ej_call C__law_digit hr (rj_slot 2 (rj_cons ej_int rj_nil))) ej_int) aj_nil))) (gj_tup rfl (gsj_cons (gj_name (by decide) S.nd) (gsj_cons (gj_name (by decide) S.nd) gsj_nil))))
    (ss_cons (O1 := [2]) (sj_setComp (i := 15) (by decide) rfl S.nd (sw_true rfl rfl rfl (by decide +kernel)) (ow := [("k", 4)]) (S := [4]) (ij_range1 (by rfl) m_range (aj_cons (ej_len m_len (aj_cons (ej_var 3) aj_nil)) aj_nil)) (blkOk_by (own := [("k", 4)]) (N := N_law) (sc := defScope s_law) (by decide +kernel)) (fun _ _ _ _ _ => (gj_name (by decide) S.nd)) (fun _ _ _ _ _ => nj_nil) (fun _ _ _ _ _ => (ej_add (ej_add (ej_ix (ej_var 3) (ej_var 4)) (ej_var 13)) (ej_mul (ej_var 14) (ej_var 4)))))
    (ss_cons (O1 := [2]) (sj_if (WJ.t (wj_or (tj_ne hr.units (ej_ix (ej_call C_evenest hr (rj_cons (ej_var 15) rj_nil)) ej_int) (ej_var 6)) (wj_or1 (tj_ne hr.units (ej_call C_errors hr (rj_cons (ej_tup (aj_cons (ej_call C_plus hr (rj_cons (ej_ix (ej_var 5) ej_int) (rj_cons (ej_call C_frac hr (rj_cons (ej_var 13) (rj_cons ej_int rj_nil))) rj_nil))) (aj_cons (ej_call C_plus hr (rj_cons (ej_ix (ej_var 5) ej_int) (rj_cons (ej_call C_frac hr (rj_cons (ej_var 14) (rj_cons ej_int rj_nil))) rj_nil))) aj_nil))) (rj_cons (ej_var 15) rj_nil))) (ej_call C_errors hr (rj_cons (ej_var 5) (rj_cons (ej_var 3) rj_nil))))))) (ss_one (sj_ret ej_bl)) ss_nil)
    (ss_cons (O1 := [2]) (sj_if (WJ.t (wj_and (tj_gt (ej_len m_len (aj_cons (ej_var 3) aj_nil)) ej_int) (wj_and1 (tj_ne hr.units (ej_call C_least_squares hr (rj_cons (ej_var 15) rj_nil)) (ej_tup (aj_cons (ej_call C_plus hr (rj_cons (ej_ix (ej_var 9) ej_int) (rj_cons (ej_call C_frac hr (rj_cons (ej_var 13) (rj_cons ej_int rj_nil))) rj_nil))) (aj_cons (ej_call C_plus hr (rj_cons (ej_ix (ej_var 9) ej_int) (rj_cons (ej_call C_frac hr (rj_cons (ej_var 14) (rj_cons ej_int rj_nil))) rj_nil))) aj_nil))))))) (ss_one (sj_ret ej_bl)) ss_nil)
    (ss_cons (O1 := [2]) (sj_set (i := 16) (by decide) S.nd (ej_add ej_int (ej_call C__law_digit hr (rj_slot 2 (rj_cons ej_int rj_nil)))))
    (ss_cons (O1 := [2]) (sj_setComp (i := 17) (by decide) rfl S.nd (sw_true rfl rfl rfl (by decide +kernel)) (ow := [("blow", 18)]) (S := [18]) (ij_any (ej_var 3)) (blkOk_by (own := [("blow", 18)]) (N := N_law) (sc := defScope s_law) (by decide +kernel)) (fun _ _ _ _ _ => (gj_name (by decide) S.nd)) (fun _ _ _ _ _ => nj_nil) (fun _ _ _ _ _ => (ej_mul (ej_var 16) (ej_var 18))))
    (ss_cons (O1 := [2]) (sj_setComp (i := 19) (by decide) rfl S.nd (sw_true rfl rfl rfl (by decide +kernel)) (ow := [("blow", 18)]) (S := [18]) (ij_rev m_reversed (ej_var 3)) (blkOk_by (own := [("blow", 18)]) (N := N_law) (sc := defScope s_law) (by decide +kernel)) (fun _ _ _ _ _ => (gj_name (by decide) S.nd)) (fun _ _ _ _ _ => nj_nil) (fun _ _ _ _ _ => (ej_sub ej_int (ej_var 18))))
    (ss_cons (O1 := [2]) (sj_if (WJ.t (wj_or (tj_ne hr.units (ej_ix (ej_call C_evenest hr (rj_cons (ej_var 17) rj_nil)) ej_int) (ej_call C_times hr (rj_cons (ej_call C_frac hr (rj_cons (ej_var 16) (rj_cons ej_int rj_nil))) (rj_cons (ej_var 6) rj_nil)))) (wj_or1 (tj_ne hr.units (ej_ix (ej_call C_evenest hr (rj_cons (ej_var 19) rj_nil)) ej_int) (ej_var 6))))) (ss_one (sj_ret ej_bl)) ss_nil)
    (ss_cons (O1 := [2]) (sj_if (WJ.t (wj_or (tj_ne hr.units (ej_call C_squares hr (rj_cons (ej_call C_least_squares hr (rj_cons (ej_var 17) rj_nil)) (rj_cons (ej_var 17) rj_nil))) (ej_call C_times hr (rj_cons (ej_call C_frac hr (rj_cons (ej_mul (ej_var 16) (ej_var 16)) (rj_cons ej_int rj_nil))) (rj_cons (ej_call C_squares hr (rj_cons (ej_var 9) (rj_cons (ej_var 3) rj_nil))) rj_nil)))) (wj_or1 (tj_ne hr.units (ej_call C_squares hr (rj_cons (ej_call C_least_squares hr (rj_cons (ej_var 19) rj_nil)) (rj_cons (ej_var 19) rj_nil))) (ej_call C_squares hr (rj_cons (ej_var 9) (rj_cons (ej_var 3) rj_nil))))))) (ss_one (sj_ret ej_bl)) ss_nil)
    (ss_cons (O1 := [2]) (sj_setComp (i := 20) (by decide) rfl S.nd (sw_true rfl rfl rfl (by decide +kernel)) (ow := [("k", 4)]) (S := [4]) (ij_range1 (by rfl) m_range (aj_cons (ej_len m_len (aj_cons (ej_var 3) aj_nil)) aj_nil)) (blkOk_by (own := [("k", 4)]) (N := N_law) (sc := defScope s_law) (by decide +kernel)) (fun _ _ _ _ _ => (gj_name (by decide) S.nd)) (fun _ _ _ _ _ => nj_nil) (fun _ _ _ _ _ => (ej_add (ej_var 13) (ej_mul (ej_var 14) (ej_var 4)))))
    (ss_one (sj_if (WJ.t (wj_or (tj_ne hr.units (ej_sl (ej_call C_evenest hr (rj_cons (ej_var 20) rj_nil)) (oj_some ej_int) oj_none) (ej_tup (aj_cons (ej_tup (aj_cons ej_int (aj_cons ej_int aj_nil))) (aj_cons ej_non aj_nil)))) (wj_or1 (tj_ne hr.units (ej_call C_squares hr (rj_cons (ej_call C_least_squares hr (rj_cons (ej_var 20) rj_nil)) (rj_cons (ej_var 20) rj_nil))) (ej_tup (aj_cons ej_int (aj_cons ej_int aj_nil))))))) (ss_one (sj_ret ej_bl)) ss_nil))))))))))))))))))))))))))))
    (ss_one (sj_ret ej_bl)))
end
end T14
namespace T14
open PySem L2 G
/-! ### fractions are rational numbers -/
def enc (x : Rat) : D := .tup [.int x.num, .int x.den]
theorem enc_inj {x y : Rat} : enc x = enc y ↔ x = y := by
  constructor
  · intro h
    unfold enc at h
    simp only [D.tup.injEq, List.cons.injEq, D.int.injEq, and_true] at h
    exact Rat.ext h.1 (by exact_mod_cast h.2)
  · rintro rfl; rfl
theorem shp_enc {x : Rat} : (enc x).shp = true := by
  rfl
theorem eqv_enc {x y : Rat} : D.eqv (enc x) (enc y) = decide (x = y) := by
  show (x.num == y.num && ((x.den : Int) == (y.den : Int) && true)) = _
  rw [Bool.and_true]
  by_cases h : x = y
  · subst h; simp
  · rw [decide_eq_false h, Bool.and_eq_false_iff]
    by_cases h1 : x.num = y.num
    · right
      simp only [beq_eq_false_iff_ne, ne_eq]
      intro h2
      exact h (Rat.ext h1 (by exact_mod_cast h2))
    · left
      simpa using h1
@[simp] theorem neD_enc {x y : Rat} : neD (enc x) (enc y) = some (.bl (decide (x ≠ y))) := by
  unfold neD
  rw [if_pos ⟨shp_enc, shp_enc⟩, eqv_enc]
  by_cases h : x = y <;> simp [h]
@[simp] theorem noMut_enc {x : Rat} : noMut (enc x) = true := rfl
/-! ### sizes -/
def Sz (x : Rat) (n : Nat) : Prop := x.num.natAbs < 2 ^ n ∧ x.den < 2 ^ n
theorem Sz.mono {x : Rat} {n m : Nat} (h : Sz x n) (hm : n ≤ m) : Sz x m := ⟨Nat.lt_of_lt_of_le h.1 (Nat.pow_le_pow_right (by decide) hm), Nat.lt_of_lt_of_le h.2 (Nat.pow_le_pow_right (by decide) hm)⟩
theorem divInt_le {p q : Int} (hq : q ≠ 0) : (Rat.divInt p q).num.natAbs ≤ p.natAbs ∧ (Rat.divInt p q).den ≤ q.natAbs := by
  have key : ∀ (p : Int) (d : Nat) (h : d ≠ 0), (Rat.normalize p d h).num.natAbs ≤ p.natAbs ∧ (Rat.normalize p d h).den ≤ d := fun p d h => by
    rw [Rat.normalize_eq]
    refine ⟨?_, Nat.div_le_self _ _⟩
    show (p / ((p.natAbs.gcd d : Nat) : Int)).natAbs ≤ p.natAbs
    rw [Int.natAbs_ediv_of_dvd (Int.ofNat_dvd_left.mpr (Nat.gcd_dvd_left _ _)), Int.natAbs_natCast]
    exact Nat.div_le_self _ _
  cases q with
  | ofNat d =>
    have hd : d ≠ 0 := fun z => hq (by rw [z]; rfl)
    show (mkRat p d).num.natAbs ≤ _ ∧ (mkRat p d).den ≤ _
    unfold mkRat
    rw [dif_neg hd]
    exact key p d hd
  | negSucc d =>
    have := key (-p) d.succ (Nat.succ_ne_zero _)
    rw [Int.natAbs_neg] at this
    exact this
theorem den_pos (x : Rat) : (0 : Int) < (x.den : Int) := by have := x.den_pos; omega
theorem add_eq (x y : Rat) : x + y = Rat.divInt (x.num * y.den + y.num * x.den) (x.den * y.den) := by
  have h := Rat.divInt_add_divInt x.num y.num (d₁ := x.den) (d₂ := y.den) (by have := den_pos x; omega) (by have := den_pos y; omega)
  rw [Rat.num_divInt_den, Rat.num_divInt_den] at h
  exact h
theorem sub_eq (x y : Rat) : x - y = Rat.divInt (x.num * y.den - y.num * x.den) (x.den * y.den) := by
  have h := Rat.divInt_sub_divInt x.num y.num (d₁ := x.den) (d₂ := y.den) (by have := den_pos x; omega) (by have := den_pos y; omega)
  rw [Rat.num_divInt_den, Rat.num_divInt_den] at h
  exact h
theorem mul_eq (x y : Rat) : x * y = Rat.divInt (x.num * y.num) (x.den * y.den) := by
  have h := Rat.divInt_mul_divInt x.num y.num (d₁ := x.den) (d₂ := y.den)
  rw [Rat.num_divInt_den, Rat.num_divInt_den] at h
  exact h
theorem div_eq (x y : Rat) : x / y = Rat.divInt (x.num * y.den) (x.den * y.num) := by
  rw [Rat.div_def, Rat.inv_def]
  have h := Rat.divInt_mul_divInt x.num y.den (d₁ := x.den) (d₂ := y.num)
  rw [Rat.num_divInt_den] at h
  exact h
theorem nat_mul_lt {a b n m : Nat} (ha : a < 2 ^ n) (hb : b < 2 ^ m) : a * b < 2 ^ (n + m) := by
  rw [Nat.pow_add]
  exact Nat.mul_lt_mul'' ha hb
theorem abs_add (i j : Int) : (i + j).natAbs ≤ i.natAbs + j.natAbs := Int.natAbs_add_le i j
theorem top_lt {x y : Rat} {n m : Nat} (hx : Sz x n) (hy : Sz y m) : (x.num * y.den + y.num * x.den).natAbs < 2 ^ (n + m + 1) ∧ (x.num * y.den - y.num * x.den).natAbs < 2 ^ (n + m + 1) := by
  have h1 : (x.num * (y.den : Int)).natAbs < 2 ^ (n + m) := by rw [Int.natAbs_mul, Int.natAbs_natCast]; exact nat_mul_lt hx.1 hy.2
  have h2 : (y.num * (x.den : Int)).natAbs < 2 ^ (n + m) := by rw [Int.natAbs_mul, Int.natAbs_natCast, Nat.add_comm n m]; exact nat_mul_lt hy.1 hx.2
  have e : 2 ^ (n + m + 1) = 2 ^ (n + m) * 2 := Nat.pow_succ ..
  constructor <;> omega
theorem bot_lt {x y : Rat} {n m : Nat} (hx : Sz x n) (hy : Sz y m) : ((x.den : Int) * (y.den : Int)).natAbs < 2 ^ (n + m) := by
  rw [Int.natAbs_mul, Int.natAbs_natCast, Int.natAbs_natCast]
  exact nat_mul_lt hx.2 hy.2
theorem bot_ne (x y : Rat) : ((x.den : Int) * (y.den : Int)) ≠ 0 := by
  have := Int.mul_pos (den_pos x) (den_pos y)
  omega
theorem pow_le {n m : Nat} (h : n ≤ m) : 2 ^ n ≤ 2 ^ m := Nat.pow_le_pow_right (by decide) h
theorem Sz.add {x y : Rat} {n m : Nat} (hx : Sz x n) (hy : Sz y m) : Sz (x + y) (n + m + 1) := by
  rw [add_eq]
  obtain ⟨h1, h2⟩ := divInt_le (p := x.num * y.den + y.num * x.den) (bot_ne x y)
  exact ⟨Nat.lt_of_le_of_lt h1 (top_lt hx hy).1, Nat.lt_of_le_of_lt h2 (Nat.lt_of_lt_of_le (bot_lt hx hy) (pow_le (by omega)))⟩
theorem Sz.sub {x y : Rat} {n m : Nat} (hx : Sz x n) (hy : Sz y m) : Sz (x - y) (n + m + 1) := by
  rw [sub_eq]
  obtain ⟨h1, h2⟩ := divInt_le (p := x.num * y.den - y.num * x.den) (bot_ne x y)
  exact ⟨Nat.lt_of_le_of_lt h1 (top_lt hx hy).2, Nat.lt_of_le_of_lt h2 (Nat.lt_of_lt_of_le (bot_lt hx hy) (pow_le (by omega)))⟩
theorem Sz.mul {x y : Rat} {n m : Nat} (hx : Sz x n) (hy : Sz y m) : Sz (x * y) (n + m) := by
  rw [mul_eq]
  obtain ⟨h1, h2⟩ := divInt_le (p := x.num * y.num) (bot_ne x y)
  exact ⟨Nat.lt_of_le_of_lt h1 (by rw [Int.natAbs_mul]; exact nat_mul_lt hx.1 hy.1), Nat.lt_of_le_of_lt h2 (bot_lt hx hy)⟩
/-! ### the program's functions -/
theorem log_small {q : Int} {n : Nat} (h : q.natAbs < 2 ^ n) (hn : n ≤ 8000) : q.natAbs.log2 < 9000 := by
  by_cases h0 : 0 < n
  · have := log2_lt h h0
    omega
  · have : n = 0 := by omega
    subst this
    have : q.natAbs = 0 := by simpa using h
    rw [this]
    decide
theorem gcd_log {p q : Int} {n : Nat} (hq : q ≠ 0) (h : q.natAbs < 2 ^ n) : Nat.gcd p.natAbs q.natAbs < 2 ^ n := Nat.lt_of_le_of_lt (Nat.gcd_le_right _ (by omega)) h
theorem enc_norm (p : Int) (d : Nat) (h : d ≠ 0) : enc (Rat.normalize p d h) = .tup [.int (p / ((p.natAbs.gcd d : Nat) : Int)), .int ((d / p.natAbs.gcd d : Nat) : Int)] := by
  unfold enc
  rw [Rat.normalize_eq]
theorem frac_eq (p q : Int) (n : Nat) (hq : q ≠ 0) (h : q.natAbs < 2 ^ n) (hn : n ≤ 8000 := by decide) : f_frac [.int p, .int q] = some (enc (Rat.divInt p q), []) := by
  have hg : 0 < Nat.gcd p.natAbs q.natAbs := Nat.gcd_pos_of_pos_right _ (by omega)
  have hgl := gcd_log (p := p) hq h
  have hd1 : ((Nat.gcd p.natAbs q.natAbs : Nat) : Int) ∣ p := Int.ofNat_dvd_left.mpr (Nat.gcd_dvd_left _ _)
  have hd2 : ((Nat.gcd p.natAbs q.natAbs : Nat) : Int) ∣ q := Int.ofNat_dvd_left.mpr (Nat.gcd_dvd_right _ _)
  by_cases hpos : 0 < q
  · obtain ⟨d, rfl⟩ : ∃ d : Nat, q = (d : Int) := ⟨q.toNat, by omega⟩
    have hd : d ≠ 0 := by omega
    rw [Int.natAbs_natCast] at *
    have e : Rat.divInt p (d : Int) = Rat.normalize p d hd := by
      show mkRat p d = _
      unfold mkRat
      rw [dif_neg hd]
    rw [e, enc_norm]
    have l1 : ((p.natAbs.gcd d : Nat) : Int).natAbs.log2 < 9000 := log_small (by rw [Int.natAbs_natCast]; exact hgl) hn
    have e1 : ∀ z : Int, fdivD (.int z) (.int ((p.natAbs.gcd d : Nat) : Int)) = some (.int (z / ((p.natAbs.gcd d : Nat) : Int))) := fun z => fdivD_int (by omega) l1
    refine runB_eq (ρ := [some (.int p), some (.int d), some (.int (p.natAbs.gcd d : Nat))]) rfl ?_ rfl
    have hp' : (0 : Int) < (d : Int) := hpos
    simp [b_frac, e1, hpos, Nat.pos_of_ne_zero hd]
  · obtain ⟨d, rfl⟩ : ∃ d : Nat, q = Int.negSucc d := ⟨(-q - 1).toNat, by omega⟩
    have e : Rat.divInt p (Int.negSucc d) = Rat.normalize (-p) d.succ (Nat.succ_ne_zero _) := rfl
    rw [e, enc_norm, Int.natAbs_neg]
    have en : (Int.negSucc d).natAbs = d.succ := rfl
    rw [en] at *
    have l1 : (-((p.natAbs.gcd d.succ : Nat) : Int)).natAbs.log2 < 9000 := log_small (by rw [Int.natAbs_neg, Int.natAbs_natCast]; exact hgl) hn
    have hg' : 0 < p.natAbs.gcd d.succ := hg
    have e1 : ∀ z : Int, ((p.natAbs.gcd d.succ : Nat) : Int) ∣ z → fdivD (.int z) (.int (-((p.natAbs.gcd d.succ : Nat) : Int))) = some (.int ((-z) / ((p.natAbs.gcd d.succ : Nat) : Int))) := fun z hz => by
      rw [fdivD_neg (by omega) l1, Int.fdiv_eq_ediv_of_dvd (Int.neg_dvd.mpr hz), Int.ediv_neg, Int.neg_ediv_of_dvd hz]
    have e2 := e1 p hd1
    have e3 := e1 (Int.negSucc d) hd2
    have e4 : (-(Int.negSucc d)) / ((p.natAbs.gcd d.succ : Nat) : Int) = ((d.succ / p.natAbs.gcd d.succ : Nat) : Int) := rfl
    rw [e4] at e3
    refine runB_eq (ρ := [some (.int p), some (.int (Int.negSucc d)), some (.int (-(p.natAbs.gcd d.succ : Nat)))]) rfl ?_ rfl
    have hneg : ¬ (0 : Int) < Int.negSucc d := hpos
    simp only [b_frac, cSeq_ap, cSet_ap, cIf_ap, cTest_ap, cOp_ap, cVar_ap, cK_ap, cCall_ap, evA_cons, evA_nil, cUn_ap, cRet_ap, cTup_ap, List.map_cons, List.map_nil, List.replicate, List.cons_append, List.nil_append, List.getElem?_cons_zero, List.getElem?_cons_succ, Option.getD_some, Option.map_some, Option.bind_some, gtD_int, truthB_bl, decide_eq_false hneg, gcdD_int, negD_int, List.set_cons_succ, List.set_cons_zero, Nat.sub_self, en]
    simp [e2, e3]
theorem num_neg_lt (x : Rat) {n : Nat} (h : Sz x n) : x.num.natAbs < 2 ^ n := h.1
theorem den_lt (x : Rat) {n : Nat} (h : Sz x n) : ((x.den : Int)).natAbs < 2 ^ n := by rw [Int.natAbs_natCast]; exact h.2
theorem m4 {i j : Int} {n m : Nat} (hi : i.natAbs < 2 ^ n) (hj : j.natAbs < 2 ^ m) (hn : n ≤ 4000) (hm : m ≤ 4000) : mulD (.int i) (.int j) = some (.int (i * j)) :=
  mulD_lt 4000 4000 (Nat.lt_of_lt_of_le hi (pow_le hn)) (Nat.lt_of_lt_of_le hj (pow_le hm))
theorem plus_eq (x y : Rat) (n m : Nat) (hx : Sz x n) (hy : Sz y m) (hn : n ≤ 3000 := by decide) (hm : m ≤ 3000 := by decide) : f_plus [enc x, enc y] = some (enc (x + y), []) := by
  have e1 := m4 hx.1 (den_lt y hy) (by omega) (by omega)
  have e2 := m4 hy.1 (den_lt x hx) (by omega) (by omega)
  have e3 := m4 (den_lt x hx) (den_lt y hy) (by omega) (by omega)
  have e4 := frac_eq (x.num * y.den + y.num * x.den) (x.den * y.den) (n + m) (bot_ne x y) (bot_lt hx hy) (by omega)
  rw [← add_eq] at e4
  refine runB_eq (ρ := [some (enc x), some (enc y)]) rfl ?_ rfl
  simp [b_plus, enc, e1, e2, e3]
  simp [enc] at e4
  simp [e4]
theorem minus_eq (x y : Rat) (n m : Nat) (hx : Sz x n) (hy : Sz y m) (hn : n ≤ 3000 := by decide) (hm : m ≤ 3000 := by decide) : f_minus [enc x, enc y] = some (enc (x - y), []) := by
  have e1 := m4 hx.1 (den_lt y hy) (by omega) (by omega)
  have e2 := m4 hy.1 (den_lt x hx) (by omega) (by omega)
  have e3 := m4 (den_lt x hx) (den_lt y hy) (by omega) (by omega)
  have e4 := frac_eq (x.num * y.den - y.num * x.den) (x.den * y.den) (n + m) (bot_ne x y) (bot_lt hx hy) (by omega)
  rw [← sub_eq] at e4
  refine runB_eq (ρ := [some (enc x), some (enc y)]) rfl ?_ rfl
  simp [b_minus, enc, e1, e2, e3]
  simp [enc] at e4
  simp [e4]
theorem times_eq (x y : Rat) (n m : Nat) (hx : Sz x n) (hy : Sz y m) (hn : n ≤ 3000 := by decide) (hm : m ≤ 3000 := by decide) : f_times [enc x, enc y] = some (enc (x * y), []) := by
  have e1 := m4 hx.1 hy.1 (by omega) (by omega)
  have e3 := m4 (den_lt x hx) (den_lt y hy) (by omega) (by omega)
  have e4 := frac_eq (x.num * y.num) (x.den * y.den) (n + m) (bot_ne x y) (bot_lt hx hy) (by omega)
  rw [← mul_eq] at e4
  refine runB_eq (ρ := [some (enc x), some (enc y)]) rfl ?_ rfl
  simp [b_times, enc, e1, e3]
  simp [enc] at e4
  simp [e4]
theorem over_eq (x y : Rat) (n m : Nat) (hx : Sz x n) (hy : Sz y m) (h0 : y.num ≠ 0) (hn : n ≤ 3000 := by decide) (hm : m ≤ 3000 := by decide) : f_over [enc x, enc y] = some (enc (x / y), []) := by
  have e1 := m4 hx.1 (den_lt y hy) (by omega) (by omega)
  have e3 := m4 (den_lt x hx) hy.1 (by omega) (by omega)
  have e4 := frac_eq (x.num * y.den) (x.den * y.num) (n + m) (Int.mul_ne_zero (by have := den_pos x; omega) h0) (by rw [Int.natAbs_mul, Int.natAbs_natCast]; exact nat_mul_lt hx.2 hy.1) (by omega)
  rw [← div_eq] at e4
  refine runB_eq (ρ := [some (enc x), some (enc y)]) rfl ?_ rfl
  simp [b_over, enc, e1, e3]
  simp [enc] at e4
  simp [e4]
theorem less_eq (x y : Rat) (n m : Nat) (hx : Sz x n) (hy : Sz y m) (hn : n ≤ 3000 := by decide) (hm : m ≤ 3000 := by decide) : f_less [enc x, enc y] = some (.bl (decide (x < y)), []) := by
  have e1 := m4 hx.1 (den_lt y hy) (by omega) (by omega)
  have e2 := m4 hy.1 (den_lt x hx) (by omega) (by omega)
  refine runB_eq (ρ := [some (enc x), some (enc y)]) rfl ?_ rfl
  simp [b_less, enc, e1, e2, Rat.lt_iff]

/-! ### sums -/
theorem sum_loop (b : Nat) : ∀ (xs : List Rat) (n : Nat) (t : Rat) (ρ0 : Option D) (s : Option D), (∀ x ∈ xs, Sz x b) → Sz t n → n + (b + 1) * xs.length ≤ 3000 → b ≤ 3000 →
    ∃ s', loopL (fun x ρ => (hName 2 x ρ).bind b_sum_of_L1) (xs.map enc) [ρ0, some (enc t), s] = some (.nx [ρ0, some (enc (xs.foldl (· + ·) t)), s'])
  | [], n, t, ρ0, s, _, _, _, _ => ⟨s, rfl⟩
  | x :: xs, n, t, ρ0, s, hx, ht, hn, hb => by
    rw [List.length_cons, Nat.mul_succ] at hn
    have h1 := hx x List.mem_cons_self
    have e := plus_eq t x n b ht h1 (by omega) hb
    obtain ⟨s', h⟩ := sum_loop b xs (n + b + 1) (t + x) ρ0 (some (enc x)) (fun y hy => hx y (List.mem_cons_of_mem _ hy)) (ht.add h1) (by omega) hb
    refine ⟨s', ?_⟩
    rw [List.map_cons, loopL_cons]
    simp only [hName_ap, b_sum_of_L1, Option.bind_some, cSet_ap, cUser_ap, evR_v, evR_nil, cVar_ap, List.set_cons_succ, List.set_cons_zero, List.getElem?_cons_zero, List.getElem?_cons_succ, Option.getD_some, Option.map_some, e, slotsR_v, slotsR_nil, setOuts_nil]
    exact h
theorem enc0 : enc 0 = c_NIL := rfl
theorem foldl_add (xs : List Rat) : ∀ t : Rat, xs.foldl (· + ·) t = t + xs.sum := by
  induction xs with
  | nil => intro t; simp [Rat.add_zero]
  | cons x xs ih =>
    intro t
    rw [List.foldl_cons, ih, List.sum_cons, Rat.add_assoc]
theorem sum_eq (xs : List Rat) (b : Nat) (hx : ∀ x ∈ xs, Sz x b) (hl : (b + 1) * xs.length + 1 ≤ 3000) (hb : b ≤ 3000) : f_sum_of [.lst (xs.map enc)] = some (enc xs.sum, []) := by
  obtain ⟨s', h⟩ := sum_loop b xs 1 0 (some (.lst (xs.map enc))) none hx ⟨by decide, by decide⟩ (by omega) hb
  rw [foldl_add, Rat.zero_add] at h
  refine runB_eq (ρ := [some (.lst (xs.map enc)), some (enc xs.sum), s']) rfl ?_ rfl
  unfold b_sum_of
  rw [seq_nx (ρ' := [some (.lst (xs.map enc)), some (enc 0), none]) (by rfl), seq_nx (ρ' := [some (.lst (xs.map enc)), some (enc xs.sum), s']) ?_]
  · simp
  · rw [cFor_ap, cIt_ap]
    simpa using h
theorem Sz.sum {b : Nat} : ∀ {xs : List Rat}, (∀ x ∈ xs, Sz x b) → Sz xs.sum ((b + 1) * xs.length + 1)
  | [], _ => ⟨Nat.two_pow_pos _, by show 1 < 2 ^ ((b + 1) * 0 + 1); rw [Nat.mul_zero]; decide⟩
  | x :: xs, h => by
    rw [List.sum_cons, List.length_cons, Nat.mul_succ]
    exact ((h x List.mem_cons_self).add (Sz.sum fun y hy => h y (List.mem_cons_of_mem _ hy))).mono (by omega)
end T14
namespace T14
/-! ### lines through points -/
def ab (x : Rat) : Rat := if x < 0 then 0 - x else x
theorem ab_cases (x : Rat) : (0 ≤ x ∧ ab x = x) ∨ (x < 0 ∧ ab x = 0 - x) := by
  unfold ab
  by_cases h : x < 0
  · exact .inr ⟨h, if_pos h⟩
  · exact .inl ⟨by grind, if_neg h⟩
theorem ab_le {x w : Rat} : ab x ≤ w ↔ x ≤ w ∧ -w ≤ x := by
  rcases ab_cases x with ⟨h, e⟩ | ⟨h, e⟩ <;> rw [e] <;> constructor <;> grind
theorem ab_nn (x : Rat) : 0 ≤ ab x := by rcases ab_cases x with ⟨h, e⟩ | ⟨h, e⟩ <;> grind
theorem ab_neg (x : Rat) : ab (-x) = ab x := by
  rcases ab_cases x with ⟨h, e⟩ | ⟨h, e⟩ <;> rcases ab_cases (-x) with ⟨h', e'⟩ | ⟨h', e'⟩ <;> grind
theorem nat_lt {i j : Nat} (h : i < j) : (i : Rat) < (j : Rat) := by exact_mod_cast h
/-- half of what the middle one lies off the line of the others -/
def trip (f : Nat → Rat) (i j k : Nat) : Rat := (f j - (f i + (f k - f i) / ((k : Rat) - (i : Rat)) * ((j : Rat) - (i : Rat)))) / 2
theorem trip_eq (f : Nat → Rat) {i j k : Nat} (h : i < k) : 2 * ((k : Rat) - i) * trip f i j k = ((k : Rat) - i) * f j - ((k : Rat) - j) * f i - ((j : Rat) - i) * f k := by
  have h1 : ((k : Rat) - i) ≠ 0 := by have := nat_lt h; grind
  unfold trip
  have h2 : (f k - f i) / ((k : Rat) - i) * ((k : Rat) - i) = f k - f i := Rat.div_mul_cancel h1
  generalize (f k - f i) / ((k : Rat) - i) = q at *
  grind
theorem mul_nn {a b : Rat} (h : 0 ≤ a) (h' : 0 ≤ b) : 0 ≤ a * b := Rat.mul_nonneg h h'
theorem mul_ps {a b : Rat} (h : 0 < a) (h' : 0 < b) : 0 < a * b := Rat.mul_pos h h'
theorem cancel_le {c a b : Rat} (hc : 0 < c) (h : c * a ≤ c * b) : a ≤ b := by
  refine Classical.byContradiction fun z => ?_
  have h1 : 0 < a - b := by grind
  have := mul_ps hc h1
  grind
theorem trip_le {r : Nat → Rat} {i j k : Nat} {w : Rat} (hij : i < j) (hjk : j < k) (h1 : ab (r i) ≤ w) (h2 : ab (r j) ≤ w) (h3 : ab (r k) ≤ w) : ab (trip r i j k) ≤ w := by
  have e := trip_eq r (i := i) (j := j) (k := k) (by omega)
  have a1 := nat_lt hij
  have a2 := nat_lt hjk
  rw [ab_le] at h1 h2 h3 ⊢
  have hc : 0 < 2 * ((k : Rat) - i) := by grind
  have u : 0 < (k : Rat) - j := by grind
  have v : 0 < (j : Rat) - i := by grind
  constructor
  · refine cancel_le hc ?_
    have m1 := mul_nn (Rat.le_of_lt u) (show 0 ≤ r i + w by grind)
    have m2 := mul_nn (Rat.le_of_lt v) (show 0 ≤ r k + w by grind)
    have m3 := mul_nn (show 0 ≤ (k : Rat) - i by grind) (show 0 ≤ w - r j by grind)
    grind
  · refine cancel_le hc ?_
    have m1 := mul_nn (Rat.le_of_lt u) (show 0 ≤ w - r i by grind)
    have m2 := mul_nn (Rat.le_of_lt v) (show 0 ≤ w - r k by grind)
    have m3 := mul_nn (show 0 ≤ (k : Rat) - i by grind) (show 0 ≤ r j + w by grind)
    grind
theorem trip_gt {r : Nat → Rat} {i j k : Nat} {w : Rat} (hij : i < j) (hjk : j < k) (h1 : r i ≤ -w) (h2 : w ≤ r j) (h3 : r k ≤ -w) (s : r i < -w ∨ w < r j ∨ r k < -w) : w < trip r i j k := by
  have e := trip_eq r (i := i) (j := j) (k := k) (by omega)
  have a1 := nat_lt hij
  have a2 := nat_lt hjk
  have hc : 0 < 2 * ((k : Rat) - i) := by grind
  have u : 0 < (k : Rat) - j := by grind
  have v : 0 < (j : Rat) - i := by grind
  refine Classical.byContradiction fun z => ?_
  have z' : 0 ≤ w - trip r i j k := by grind
  have m0 := mul_nn (Rat.le_of_lt hc) z'
  have m1 := mul_nn (Rat.le_of_lt u) (show 0 ≤ -w - r i by grind)
  have m2 := mul_nn (Rat.le_of_lt v) (show 0 ≤ -w - r k by grind)
  have m3 := mul_nn (show 0 ≤ (k : Rat) - i by grind) (show 0 ≤ r j - w by grind)
  rcases s with s | s | s
  · have := mul_ps u (show 0 < -w - r i by grind); grind
  · have := mul_ps (show 0 < (k : Rat) - i by grind) (show 0 < r j - w by grind); grind
  · have := mul_ps v (show 0 < -w - r k by grind); grind
theorem trip_line (f : Nat → Rat) (s g : Rat) {i j k : Nat} (h : i < k) : trip (fun m => f m - (s + g * m)) i j k = trip f i j k := by
  have e1 := trip_eq f (i := i) (j := j) h
  have e2 := trip_eq (fun m => f m - (s + g * m)) (i := i) (j := j) h
  have a := nat_lt h
  have hc : 2 * ((k : Rat) - i) ≠ 0 := by grind
  have : 2 * ((k : Rat) - i) * trip (fun m => f m - (s + g * m)) i j k = 2 * ((k : Rat) - i) * trip f i j k := by grind
  have h1 := congrArg (fun x => (2 * ((k : Rat) - i))⁻¹ * x) this
  simp only [← Rat.mul_assoc, Rat.inv_mul_cancel _ hc, Rat.one_mul] at h1
  exact h1
theorem trip_neg (f : Nat → Rat) (i j k : Nat) : trip (fun m => -f m) i j k = - trip f i j k := by
  unfold trip
  have : (-f k - -f i) / ((k : Rat) - i) = - ((f k - f i) / ((k : Rat) - i)) := by
    rw [Rat.div_def, Rat.div_def]; grind
  rw [this]
  grind
/-- no point lies farther than the three -/
theorem cheb {r : Nat → Rat} {n a b c : Nat} {w : Rat} (hw : 0 ≤ w) (hab : a < b) (hbc : b < c) (hcn : c < n) (h1 : r a = -w) (h2 : r b = w) (h3 : r c = -w) (hm : ∀ i j k, i < j → j < k → k < n → ab (trip r i j k) ≤ w) :
    ∀ p, p < n → ab (r p) ≤ w := by
  intro p hp
  have up : ∀ {i j k}, i < j → j < k → k < n → ¬ w < trip r i j k := fun h h' h'' z => by
    have := (ab_le.mp (hm _ _ _ h h' h'')).1
    grind
  have dn : ∀ {i j k}, i < j → j < k → k < n → ¬ w < trip (fun m => -r m) i j k := fun h h' h'' z => by
    have := (ab_le.mp (hm _ _ _ h h' h'')).2
    rw [trip_neg] at z
    grind
  rw [ab_le]
  constructor
  · refine Classical.byContradiction fun z => ?_
    have z' : w < r p := by grind
    by_cases p1 : p < a
    · exact dn p1 hab (by omega) (trip_gt p1 hab (by grind) (by grind) (by grind) (.inl (by grind)))
    · by_cases p2 : p = a
      · subst p2; grind
      · by_cases p3 : p < c
        · exact up (show a < p by omega) p3 hcn (trip_gt (by omega) p3 (by grind) (by grind) (by grind) (.inr (.inl z')))
        · by_cases p4 : p = c
          · subst p4; grind
          · exact dn hbc (show c < p by omega) hp (trip_gt hbc (by omega) (by grind) (by grind) (by grind) (.inr (.inr (by grind))))
  · refine Classical.byContradiction fun z => ?_
    have z' : r p < -w := by grind
    by_cases p1 : p < b
    · exact up p1 hbc hcn (trip_gt p1 hbc (by grind) (by grind) (by grind) (.inl z'))
    · by_cases p2 : p = b
      · subst p2; grind
      · exact up hab (show b < p by omega) hp (trip_gt hab (by omega) (by grind) (by grind) (by grind) (.inr (.inr z')))
end T14
namespace T14
/-! ### sums -/
def sm (n : Nat) (F : Nat → Rat) : Rat := ((List.range n).map F).sum
theorem sm_zero (F : Nat → Rat) : sm 0 F = 0 := rfl
theorem sm_succ (n : Nat) (F : Nat → Rat) : sm (n + 1) F = sm n F + F n := by
  unfold sm
  rw [List.range_succ, List.map_append, List.sum_append]
  simp [Rat.add_zero]
theorem sm_congr {n : Nat} {F G : Nat → Rat} (h : ∀ i, i < n → F i = G i) : sm n F = sm n G := by
  unfold sm
  rw [List.map_congr_left fun i hi => h i (List.mem_range.mp hi)]
theorem sm_add (n : Nat) (F G : Nat → Rat) : sm n (fun i => F i + G i) = sm n F + sm n G := by
  induction n with
  | zero => rw [sm_zero, sm_zero, sm_zero]; grind
  | succ n ih => rw [sm_succ, sm_succ, sm_succ, ih]; grind
theorem sm_mul (n : Nat) (c : Rat) (F : Nat → Rat) : sm n (fun i => c * F i) = c * sm n F := by
  induction n with
  | zero => rw [sm_zero, sm_zero]; grind
  | succ n ih => rw [sm_succ, sm_succ, ih]; grind
theorem sm_const (n : Nat) (c : Rat) : sm n (fun _ => c) = n * c := by
  induction n with
  | zero => rw [sm_zero]; simp
  | succ n ih => rw [sm_succ, ih]; push_cast; grind
theorem sm_nn {n : Nat} {F : Nat → Rat} (h : ∀ i, i < n → 0 ≤ F i) : 0 ≤ sm n F := by
  induction n with
  | zero => rw [sm_zero]; exact Rat.le_refl
  | succ n ih => rw [sm_succ]; have := ih fun i hi => h i (by omega); have := h n (by omega); grind
theorem sm_front (n : Nat) (F : Nat → Rat) : sm (n + 1) F = F 0 + sm n (fun i => F (i + 1)) := by
  induction n generalizing F with
  | zero => rw [sm_succ, sm_zero, sm_zero]; grind
  | succ n ih => rw [sm_succ, ih F, sm_succ]; grind
theorem sm_rev (n : Nat) (F : Nat → Rat) : sm n (fun i => F (n - 1 - i)) = sm n F := by
  induction n generalizing F with
  | zero => rfl
  | succ n ih =>
    rw [sm_front, sm_succ]
    have : sm n (fun i => F (n + 1 - 1 - (i + 1))) = sm n F := by
      rw [← ih F]
      exact sm_congr fun i hi => by congr 1; omega
    rw [this]
    show F (n + 1 - 1 - 0) + _ = _
    rw [show n + 1 - 1 - 0 = n by omega]; grind
/-! the three sums of places -/
def P1 (n : Nat) : Rat := sm n fun i => (i : Rat)
def P2 (n : Nat) : Rat := sm n fun i => (i : Rat) * i
theorem P1_eq (n : Nat) : 2 * P1 n = (n : Rat) * (n - 1) := by
  unfold P1
  induction n with
  | zero => rw [sm_zero]; simp
  | succ n ih => rw [sm_succ]; push_cast; grind
theorem P2_eq (n : Nat) : 6 * P2 n = ((n : Rat) - 1) * n * (2 * n - 1) := by
  unfold P2
  induction n with
  | zero => rw [sm_zero]; simp
  | succ n ih => rw [sm_succ]; push_cast; grind
/-- n times the spread of the places -/
def Dt (n : Nat) : Rat := n * P2 n - P1 n * P1 n
theorem Dt_eq (n : Nat) : 12 * Dt n = (n : Rat) * n * (n * n - 1) := by
  have h1 := P1_eq n
  have h2 := P2_eq n
  unfold Dt
  have h3 : (2 * P1 n) * (2 * P1 n) = ((n : Rat) * (n - 1)) * ((n : Rat) * (n - 1)) := by rw [h1]
  have h4 : (n : Rat) * (6 * P2 n) = n * (((n : Rat) - 1) * n * (2 * n - 1)) := by rw [h2]
  grind
theorem Dt_pos {n : Nat} (h : 1 < n) : 0 < Dt n := by
  have e := Dt_eq n
  have h1 : (1 : Rat) < n := by exact_mod_cast h
  have h2 : 0 < (n : Rat) := by grind
  have h3 : 0 < (n : Rat) * n - 1 := by
    have := mul_ps (show 0 < (n : Rat) - 1 by grind) (show 0 < (n : Rat) + 1 by grind)
    grind
  have h4 := mul_ps (mul_ps h2 h2) h3
  grind
/-! residuals -/
def res (f : Nat → Rat) (s g : Rat) (i : Nat) : Rat := f i - (s + g * i)
theorem sm_res (n : Nat) (f : Nat → Rat) (s g : Rat) : sm n (res f s g) = sm n f - n * s - g * P1 n := by
  unfold P1
  induction n with
  | zero => rw [sm_zero, sm_zero, sm_zero]; simp; grind
  | succ n ih => rw [sm_succ, sm_succ, sm_succ, ih]; unfold res; push_cast; grind
theorem sm_ires (n : Nat) (f : Nat → Rat) (s g : Rat) : sm n (fun i => (i : Rat) * res f s g i) = sm n (fun i => (i : Rat) * f i) - s * P1 n - g * P2 n := by
  unfold P1 P2
  induction n with
  | zero => rw [sm_zero, sm_zero, sm_zero, sm_zero]; grind
  | succ n ih => rw [sm_succ, sm_succ, sm_succ, sm_succ, ih]; unfold res; grind
/-- the line of least squares -/
def fg (n : Nat) (f : Nat → Rat) : Rat := (n * sm n (fun i => (i : Rat) * f i) - P1 n * sm n f) / Dt n
def fs (n : Nat) (f : Nat → Rat) : Rat := (sm n f - fg n f * P1 n) / n
theorem fit_ok {n : Nat} (h : 1 < n) (f : Nat → Rat) : sm n (res f (fs n f) (fg n f)) = 0 ∧ sm n (fun i => (i : Rat) * res f (fs n f) (fg n f) i) = 0 := by
  have hd := Dt_pos h
  have hn : (n : Rat) ≠ 0 := by
    have : (1 : Rat) < n := by exact_mod_cast h
    grind
  have e1 : fg n f * Dt n = n * sm n (fun i => (i : Rat) * f i) - P1 n * sm n f := Rat.div_mul_cancel (by grind)
  have e2 : fs n f * n = sm n f - fg n f * P1 n := Rat.div_mul_cancel hn
  rw [sm_res, sm_ires]
  generalize fg n f = g at *
  generalize fs n f = s at *
  generalize sm n (fun i => (i : Rat) * f i) = m at *
  unfold Dt at e1
  constructor
  · grind
  · have e3 : (n : Rat) * (m - s * P1 n - g * P2 n) = 0 := by grind
    rcases Rat.mul_eq_zero.mp e3 with z | z
    · exact absurd z hn
    · exact z
theorem fit_one {n : Nat} (h : 1 < n) (f : Nat → Rat) {s g s' g' : Rat} (a1 : sm n (res f s g) = 0) (a2 : sm n (fun i => (i : Rat) * res f s g i) = 0) (b1 : sm n (res f s' g') = 0) (b2 : sm n (fun i => (i : Rat) * res f s' g' i) = 0) : s = s' ∧ g = g' := by
  have hd := Dt_pos h
  have hn : (n : Rat) ≠ 0 := by
    have : (1 : Rat) < n := by exact_mod_cast h
    grind
  rw [sm_res] at a1 b1
  rw [sm_ires] at a2 b2
  unfold Dt at hd
  have e : (n * P2 n - P1 n * P1 n) * (g - g') = 0 := by grind
  have eg : g = g' := by
    rcases Rat.mul_eq_zero.mp e with z | z
    · rw [z] at hd; exact absurd hd (by decide)
    · grind
  subst eg
  have e : (n : Rat) * (s - s') = 0 := by grind
  rcases Rat.mul_eq_zero.mp e with z | z
  · exact absurd z hn
  · exact ⟨by grind, rfl⟩
theorem fit_eq {n : Nat} (h : 1 < n) (f : Nat → Rat) {s g : Rat} (a1 : sm n (res f s g) = 0) (a2 : sm n (fun i => (i : Rat) * res f s g i) = 0) : s = fs n f ∧ g = fg n f :=
  fit_one h f a1 a2 (fit_ok h f).1 (fit_ok h f).2
/-- sums of squares -/
def sq (n : Nat) (f : Nat → Rat) (s g : Rat) : Rat := sm n fun i => res f s g i * res f s g i
theorem sq_near (n : Nat) (f : Nat → Rat) (s g ds dg : Rat) : sq n f (s + ds) (g + dg) = sq n f s g - 2 * ds * sm n (res f s g) - 2 * dg * sm n (fun i => (i : Rat) * res f s g i) + sm n (fun i => (ds + dg * i) * (ds + dg * i)) := by
  unfold sq
  induction n with
  | zero => simp only [sm_zero]; grind
  | succ n ih => simp only [sm_succ]; rw [ih]; unfold res; grind
theorem sq_self (x : Rat) : 0 ≤ x * x := by
  by_cases h : 0 ≤ x
  · exact mul_nn h h
  · have := mul_nn (show 0 ≤ -x by grind) (show 0 ≤ -x by grind)
    grind
theorem sq_least {n : Nat} {f : Nat → Rat} {s g : Rat} (a1 : sm n (res f s g) = 0) (a2 : sm n (fun i => (i : Rat) * res f s g i) = 0) (s' g' : Rat) : sq n f s g ≤ sq n f s' g' := by
  have e := sq_near n f s g (s' - s) (g' - g)
  rw [show s + (s' - s) = s' by grind, show g + (g' - g) = g' by grind, a1, a2] at e
  have := sm_nn (n := n) (F := fun i => ((s' - s) + (g' - g) * i) * ((s' - s) + (g' - g) * i)) fun i _ => sq_self _
  grind
/-! turnings -/
theorem res_mv (f : Nat → Rat) (s g st gp : Rat) (i : Nat) : res (fun m => f m + st + gp * m) (s + st) (g + gp) i = res f s g i := by
  unfold res; grind
theorem res_sc (f : Nat → Rat) (c s g : Rat) (i : Nat) : res (fun m => c * f m) (c * s) (c * g) i = c * res f s g i := by
  unfold res; grind
theorem cast_sub {n i : Nat} (h : i < n) : ((n - 1 - i : Nat) : Rat) = (n : Rat) - 1 - i := by
  have : ((n - 1 - i : Nat) : Rat) + i + 1 = n := by exact_mod_cast (show n - 1 - i + i + 1 = n by omega)
  grind
theorem res_bk (f : Nat → Rat) (s g : Rat) {n i : Nat} (h : i < n) : res (fun m => 0 - f (n - 1 - m)) (-(s + g * (n - 1))) g i = - res f s g (n - 1 - i) := by
  unfold res
  rw [cast_sub h]
  grind
theorem trip_mv (f : Nat → Rat) (st gp : Rat) {i j k : Nat} (h : i < k) : trip (fun m => f m + st + gp * m) i j k = trip f i j k := by
  have := trip_line (fun m => f m + st + gp * m) st gp (i := i) (j := j) h
  rw [← this]
  congr 1
  funext m
  grind
theorem trip_sc (f : Nat → Rat) (c : Rat) {i j k : Nat} (h : i < k) : trip (fun m => c * f m) i j k = c * trip f i j k := by
  have e1 := trip_eq f (i := i) (j := j) h
  have e2 := trip_eq (fun m => c * f m) (i := i) (j := j) h
  have a := nat_lt h
  have hc : 0 < 2 * ((k : Rat) - i) := by grind
  have e : 2 * ((k : Rat) - i) * trip (fun m => c * f m) i j k = 2 * ((k : Rat) - i) * (c * trip f i j k) := by grind
  exact Rat.le_antisymm (cancel_le hc (by rw [e]; exact Rat.le_refl)) (cancel_le hc (by rw [e]; exact Rat.le_refl))
theorem trip_bk (f : Nat → Rat) {n i j k : Nat} (hij : i < j) (hjk : j < k) (hk : k < n) : trip (fun m => 0 - f (n - 1 - m)) i j k = - trip f (n - 1 - k) (n - 1 - j) (n - 1 - i) := by
  have e1 := trip_eq f (i := n - 1 - k) (j := n - 1 - j) (k := n - 1 - i) (by omega)
  have e2 := trip_eq (fun m => 0 - f (n - 1 - m)) (i := i) (j := j) (k := k) (by omega)
  rw [cast_sub hk, cast_sub (show j < n by omega), cast_sub (show i < n by omega)] at e1
  have a := nat_lt (show i < k by omega)
  have hc : 0 < 2 * ((k : Rat) - i) := by grind
  have e : 2 * ((k : Rat) - i) * trip (fun m => 0 - f (n - 1 - m)) i j k = 2 * ((k : Rat) - i) * (- trip f (n - 1 - k) (n - 1 - j) (n - 1 - i)) := by grind
  exact Rat.le_antisymm (cancel_le hc (by rw [e]; exact Rat.le_refl)) (cancel_le hc (by rw [e]; exact Rat.le_refl))
end T14
namespace T14
open PySem L2 G
/-- blows -/
def bl (n : Nat) (z : Nat → Int) : D := .lst ((List.range n).map fun i => .int (z i))
abbrev fz (z : Nat → Int) : Nat → Rat := fun i => (z i : Rat)
def Bz (b n : Nat) (z : Nat → Int) : Prop := ∀ i, i < n → (z i).natAbs < 2 ^ b
def encP (s g : Rat) : D := .tup [enc s, enc g]
theorem divInt_one (p : Int) : Rat.divInt p 1 = (p : Rat) := by
  rw [Rat.divInt_eq_div]
  simp [Rat.div_def]
  grind
theorem frac1 (p : Int) : f_frac [.int p, .int 1] = some (enc (p : Rat), []) := by
  rw [frac_eq p 1 1 (by decide) (by decide), divInt_one]
theorem Sz.int {p : Int} {b : Nat} (h : p.natAbs < 2 ^ b) (hb : 0 < b := by decide) : Sz (p : Rat) b := ⟨by rw [Rat.num_intCast]; exact h, by rw [Rat.den_intCast]; exact Nat.one_lt_two_pow (by omega)⟩
theorem Sz.nat {p : Nat} {b : Nat} (h : p < 2 ^ b) (hb : 0 < b := by decide) : Sz (p : Rat) b := by
  have := Sz.int (p := (p : Int)) (b := b) (by rw [Int.natAbs_natCast]; exact h) hb
  rwa [Rat.intCast_natCast] at this
theorem frac1n (p : Nat) : f_frac [.int (p : Nat), .int 1] = some (enc (p : Rat), []) := by
  rw [frac1, Rat.intCast_natCast]
theorem fracq (p q : Int) (b : Nat) (hq : q ≠ 0) (h : q.natAbs < 2 ^ b) (hb : b ≤ 8000 := by decide) : f_frac [.int p, .int q] = some (enc ((p : Rat) / (q : Rat)), []) := by
  rw [frac_eq p q b hq h hb, Rat.divInt_eq_div]
theorem Sz.frac {p q : Int} {b : Nat} (hq : q ≠ 0) (hp : p.natAbs < 2 ^ b) (h : q.natAbs < 2 ^ b) : Sz ((p : Rat) / (q : Rat)) b := by
  rw [← Rat.divInt_eq_div]
  obtain ⟨h1, h2⟩ := divInt_le (p := p) hq
  exact ⟨Nat.lt_of_le_of_lt h1 hp, Nat.lt_of_le_of_lt h2 h⟩
theorem encP_pl (s g : Rat) : Pl (encP s g) 2 := Pl.tup fun d hd => by
  simp only [List.mem_cons, List.not_mem_nil, or_false] at hd
  rcases hd with rfl | rfl <;> exact Pl.tup fun d hd => by
    simp only [List.mem_cons, List.not_mem_nil, or_false] at hd
    rcases hd with rfl | rfl <;> exact Pl.int _ 0
theorem enc_pl (s : Rat) : Pl (enc s) 1 := Pl.tup fun d hd => by
  simp only [List.mem_cons, List.not_mem_nil, or_false] at hd
  rcases hd with rfl | rfl <;> exact Pl.int _ 0
theorem bl_ix {n i : Nat} {z : Nat → Int} (h : i < n) : ixD (bl n z) (.int (i : Nat)) = some (.int (z i)) := by
  show atI _ _ = _
  rw [atI_lt (k := i) rfl (by simpa using h)]
  simp [h]
theorem bl_len {n : Nat} {z : Nat → Int} : lenD [bl n z] = some (.int (n : Nat)) := by
  unfold bl
  rw [lenD_lst]
  simp
theorem bl_items {n : Nat} {z : Nat → Int} : itemsD (bl n z) = some ((List.range n).map fun i => .int (z i)) := rfl
theorem error_eq (s g : Rat) (i : Nat) (z : Int) {a c b : Nat} (hs : Sz s a) (hg : Sz g c) (hi : i < 16) (hz : z.natAbs < 2 ^ b) (hb : 0 < b) (h1 : a ≤ 1000) (h2 : c ≤ 1000) (h3 : b ≤ 1000) :
    f_error_at [encP s g, .int (i : Nat), .int z] = some (enc ((z : Rat) - (s + g * i)), []) ∧ Sz ((z : Rat) - (s + g * i)) (b + (a + (c + 4) + 1) + 1) := by
  have hi' : Sz (i : Rat) 4 := Sz.nat (by omega)
  have e1 := frac1 z
  have e2 := frac1n i
  have e3 := times_eq g i c 4 hg hi' (by omega)
  have e4 := plus_eq s (g * i) a (c + 4) hs (hg.mul hi') (by omega) (by omega)
  have s4 := hs.add (hg.mul hi')
  have e5 := minus_eq (z : Rat) (s + g * i) b (a + (c + 4) + 1) (Sz.int hz hb) s4 (by omega) (by omega)
  refine ⟨?_, (Sz.int hz hb).sub s4⟩
  refine runB_eq (ρ := [some (encP s g), some (.int (i : Nat)), some (.int z), some (enc s), some (enc g)]) rfl ?_ rfl
  show b_error_at [some (encP s g), some (.int (i : Nat)), some (.int z), none, none] = _
  rw [b_error_at, seq_nx (ρ' := [some (encP s g), some (.int (i : Nat)), some (.int z), some (enc s), some (enc g)]) rfl]
  simp only [cRet_ap, cUser_ap, evR_v, evR_nil, cVar_ap, cK_ap, List.getElem?_cons_succ, List.getElem?_cons_zero, Option.getD_some, Option.map_some, Option.bind_some, e1, e2, e3, e4, e5, slotsR_v, slotsR_nil, setOuts_nil]
def errL (n : Nat) (r : Nat → Rat) : D := .lst ((List.range n).map fun i => enc (r i))
theorem errors_eq (s g : Rat) (n : Nat) (z : Nat → Int) {a c b : Nat} (hs : Sz s a) (hg : Sz g c) (hn : n ≤ 16) (hz : Bz b n z) (hb : 0 < b) (h1 : a ≤ 1000) (h2 : c ≤ 1000) (h3 : b ≤ 1000) :
    f_errors [encP s g, bl n z] = some (errL n (res (fz z) s g), []) ∧ ∀ i, i < n → Sz (res (fz z) s g i) (b + (a + (c + 4) + 1) + 1) := by
  refine ⟨?_, fun i hi => (error_eq s g i (z i) hs hg (by omega) (hz i hi) hb h1 h2 h3).2⟩
  refine runB_eq (ρ := [some (encP s g), some (bl n z), none, none]) rfl ?_ rfl
  show b_errors [some (encP s g), some (bl n z), none, none] = _
  rw [b_errors, cRet_ap, comp_pair (a := 2) (b := 3) (G := fun i => .int (z i)) (F := fun i j => enc (res (fz z) s g j)) (is := List.range n) (d := bl n z) (by decide) (by show 2 < 4; decide) (by show 3 < 4; decide) rfl bl_items (by simp; omega) fun i x hx => ?_]
  · rw [mapIdx_range]
    rfl
  · have hi : i < n := by
      have := (List.getElem?_eq_some_iff.mp hx).1
      simpa using this
    have : x = i := by
      rw [List.getElem?_range hi] at hx
      exact (Option.some.inj hx).symm
    subst this
    have e := (error_eq s g x (z x) hs hg (by omega) (hz x hi) hb h1 h2 h3).1
    simp only [cUser_ap, evR_v, evR_nil, cVar_ap, List.set_cons_succ, List.set_cons_zero, List.getElem?_cons_succ, List.getElem?_cons_zero, Option.getD_some, Option.map_some, Option.bind_some, e, slotsR_v, slotsR_nil, setOuts_nil]
    rfl
theorem z1 : Sz (0 : Rat) 1 := ⟨by decide, by decide⟩
theorem cnil : c_NIL = enc 0 := rfl
theorem enc01 : D.tup [.int 0, .int 1] = enc 0 := rfl
theorem amount_eq (x : Rat) {a : Nat} (hx : Sz x a) (ha : a ≤ 3000) : f_amount [enc x] = some (enc (ab x), []) := by
  have e1 := less_eq x 0 a 1 hx z1 ha
  have e2 := minus_eq 0 x 1 a z1 hx (by decide) ha
  refine runB_eq (ρ := [some (enc x)]) rfl ?_ rfl
  show b_amount [some (enc x)] = _
  unfold ab
  by_cases h : x < 0
  · rw [decide_eq_true h] at e1
    rw [if_pos h]
    simp only [b_amount, cRet_ap, cIf_ap, cTest_ap, cUser_ap, evR_v, evR_nil, cVar_ap, cK_ap, cnil, List.getElem?_cons_zero, Option.getD_some, Option.map_some, Option.bind_some, e1, e2, slotsR_v, slotsR_nil, setOuts_nil, truthB_bl, if_true]
  · rw [decide_eq_false h] at e1
    rw [if_neg h]
    simp only [b_amount, cRet_ap, cIf_ap, cTest_ap, cUser_ap, evR_v, evR_nil, cVar_ap, cK_ap, cnil, List.getElem?_cons_zero, Option.getD_some, Option.map_some, Option.bind_some, e1, e2, slotsR_v, slotsR_nil, setOuts_nil, truthB_bl, Bool.false_eq_true, if_false]
theorem Sz.ab {x : Rat} {a : Nat} (h : Sz x a) : Sz (ab x) a := by
  rcases ab_cases x with ⟨_, e⟩ | ⟨_, e⟩ <;> rw [e]
  · exact h
  · have : 0 - x = -x := by grind
    rw [this]
    exact ⟨by rw [show (-x).num = -x.num from rfl, Int.natAbs_neg]; exact h.1, h.2⟩
/-- the greatest amount -/
def mx : Nat → (Nat → Rat) → Rat
  | 0, _ => 0
  | n + 1, r => if mx n r < ab (r n) then ab (r n) else mx n r
theorem mx_nn (n : Nat) (r : Nat → Rat) : 0 ≤ mx n r := by
  induction n with
  | zero => exact Rat.le_refl
  | succ n ih => unfold mx; have := ab_nn (r n); split <;> grind
theorem mx_ge {n : Nat} {r : Nat → Rat} : ∀ i, i < n → ab (r i) ≤ mx n r := by
  induction n with
  | zero => intro i hi; omega
  | succ n ih =>
    intro i hi
    unfold mx
    by_cases h : i = n
    · subst h; split <;> grind
    · have := ih i (by omega)
      split <;> grind
theorem mx_le {n : Nat} {r : Nat → Rat} {w : Rat} (hw : 0 ≤ w) (h : ∀ i, i < n → ab (r i) ≤ w) : mx n r ≤ w := by
  induction n with
  | zero => exact hw
  | succ n ih => unfold mx; have := ih fun i hi => h i (by omega); have := h n (by omega); split <;> grind
theorem mx_sz {n : Nat} {r : Nat → Rat} {a : Nat} (ha : 0 < a) (h : ∀ i, i < n → Sz (r i) a) : Sz (mx n r) a := by
  induction n with
  | zero => exact z1.mono ha
  | succ n ih => unfold mx; split
                 · exact (h n (by omega)).ab
                 · exact ih fun i hi => h i (by omega)
theorem worst_eq (s g : Rat) (n : Nat) (z : Nat → Int) {a c b : Nat} (hs : Sz s a) (hg : Sz g c) (hn : n ≤ 16) (hz : Bz b n z) (hb : 0 < b) (h1 : a ≤ 600) (h2 : c ≤ 600) (h3 : b ≤ 600) :
    f_worst_error [encP s g, bl n z] = some (enc (mx n (res (fz z) s g)), []) := by
  obtain ⟨e1, e2⟩ := errors_eq s g n z hs hg hn hz hb (by omega) (by omega) (by omega)
  generalize hS : b + (a + (c + 4) + 1) + 1 = S at e2
  generalize res (fz z) s g = r at *
  have key : ∃ ρ', loopL (fun x ρ => (hName 3 x ρ).bind b_worst_error_L1) ((List.range n).map fun i => enc (r i)) [some (encP s g), some (bl n z), some (enc 0), none] = some (.nx ρ') ∧
      ∃ z3, ρ' = [some (encP s g), some (bl n z), some (enc (mx (0 + ((List.range n).map fun i => enc (r i)).length) r)), z3] := by
    refine loopL_at (I := fun k ρ => ∃ z3, ρ = [some (encP s g), some (bl n z), some (enc (mx k r)), z3]) (n := 0) (fun i x hx ρ hI => ?_) ⟨none, rfl⟩
    obtain ⟨z3, rfl⟩ := hI
    rw [Nat.zero_add]
    have hi : i < n := by
      have := (List.getElem?_eq_some_iff.mp hx).1
      simpa using this
    rw [List.getElem?_map, List.getElem?_range hi] at hx
    cases hx
    have hr := e2 i hi
    have hm : Sz (mx i r) S := mx_sz (by omega) fun j hj => e2 j (by omega)
    have q1 := amount_eq (r i) hr (by omega)
    have q2 := less_eq (mx i r) (ab (r i)) S S hm hr.ab (by omega) (by omega)
    refine ⟨_, ?_, some (enc (r i)), rfl⟩
    show b_worst_error_L1 [some (encP s g), some (bl n z), some (enc (mx i r)), some (enc (r i))] = _
    rw [mx]
    by_cases h : mx i r < ab (r i)
    · rw [decide_eq_true h] at q2
      rw [if_pos h]
      simp only [b_worst_error_L1, cIfS_ap, cSet_ap, cTest_ap, cUser_ap, evR_v, evR_nil, cVar_ap, cK_ap, List.getElem?_cons_succ, List.getElem?_cons_zero, Option.getD_some, Option.map_some, Option.bind_some, q1, q2, slotsR_v, slotsR_nil, setOuts_nil, truthB_bl, if_true, List.set_cons_succ, List.set_cons_zero]
    · rw [decide_eq_false h] at q2
      rw [if_neg h]
      simp only [b_worst_error_L1, cIfS_ap, cSet_ap, cTest_ap, cUser_ap, evR_v, evR_nil, cVar_ap, cK_ap, List.getElem?_cons_succ, List.getElem?_cons_zero, Option.getD_some, Option.map_some, Option.bind_some, q1, q2, slotsR_v, slotsR_nil, setOuts_nil, truthB_bl, Bool.false_eq_true, if_false, cNil_ap]
  obtain ⟨ρ', e, z3, rfl⟩ := key
  rw [List.length_map, List.length_range, Nat.zero_add] at e
  refine runB_eq (ρ := [some (encP s g), some (bl n z), some (enc (mx n r)), z3]) rfl ?_ rfl
  show b_worst_error [some (encP s g), some (bl n z), none, none] = _
  rw [b_worst_error, seq_nx (ρ' := [some (encP s g), some (bl n z), some (enc 0), none]) rfl, seq_nx (ρ' := [some (encP s g), some (bl n z), some (enc (mx n r)), z3])]
  · rfl
  · rw [cFor_ap, cIt_ap]
    simp only [cUser_ap, evR_v, evR_nil, cVar_ap, List.getElem?_cons_succ, List.getElem?_cons_zero, Option.getD_some, Option.map_some, Option.bind_some, e1, slotsR_v, slotsR_nil, setOuts_nil]
    exact e
theorem icast_sub (p q : Int) : ((p - q : Int) : Rat) = (p : Rat) - q := Rat.intCast_sub p q
theorem nat_pow {i b : Nat} (hi : i < 16) (hb : 4 ≤ b) : i < 2 ^ b := Nat.lt_of_lt_of_le hi (Nat.pow_le_pow_right (by decide) hb : 2 ^ 4 ≤ 2 ^ b)
theorem triple_eq (n : Nat) (z : Nat → Int) {i j k b : Nat} (hij : i < j) (hjk : j < k) (hk : k < n) (hn : n ≤ 16) (hz : Bz b n z) (hb : 4 ≤ b) (h3 : b ≤ 300) :
    f_triple_error [bl n z, .int (i : Nat), .int (j : Nat), .int (k : Nat)] = some (enc (trip (fz z) i j k), []) ∧ Sz (trip (fz z) i j k) (3 * b + 10) ∧ f_frac [.int (z k - z i), .int ((k : Int) - i)] = some (enc ((fz z k - fz z i) / ((k : Rat) - i)), []) ∧ Sz ((fz z k - fz z i) / ((k : Rat) - i)) (b + 1) := by
  have zi := hz i (by omega)
  have zj := hz j (by omega)
  have zk := hz k (by omega)
  have p1 : 2 ^ (b + 1) = 2 ^ b * 2 := Nat.pow_succ ..
  have hd : (z k - z i).natAbs < 2 ^ (b + 1) := by omega
  have hq : ((k : Int) - i).natAbs < 2 ^ (b + 1) := Nat.lt_of_lt_of_le (show ((k : Int) - i).natAbs < 16 by omega) (Nat.pow_le_pow_right (by decide) (by omega) : 2 ^ 4 ≤ _)
  have hq0 : (k : Int) - i ≠ 0 := by omega
  have c1 : (((k : Int) - i : Int) : Rat) = (k : Rat) - i := by rw [icast_sub, Rat.intCast_natCast, Rat.intCast_natCast]
  have c2 : ((z k - z i : Int) : Rat) = fz z k - fz z i := icast_sub _ _
  have g1 := fracq (z k - z i) ((k : Int) - i) (b + 1) hq0 hq (by omega)
  have sg := Sz.frac hq0 hd hq
  rw [c1, c2] at g1 sg
  refine ⟨?_, ?_, g1, sg⟩
  all_goals have tr : trip (fz z) i j k = (fz z j - (fz z i + (fz z k - fz z i) / ((k : Rat) - (i : Rat)) * ((j : Rat) - (i : Rat)))) / 2 := rfl
  all_goals generalize (fz z k - fz z i) / ((k : Rat) - i) = q at *
  all_goals have e0 := frac1 (z i)
  all_goals have e1 := frac1 (z j)
  all_goals have c3 : (((j : Int) - i : Int) : Rat) = (j : Rat) - i := by rw [icast_sub, Rat.intCast_natCast, Rat.intCast_natCast]
  all_goals have e2 := frac1 ((j : Int) - i)
  all_goals rw [c3] at e2
  all_goals have s2 : Sz ((j : Rat) - i) 4 := by rw [← c3]; exact Sz.int (by omega)
  all_goals have e3 := times_eq q ((j : Rat) - i) (b + 1) 4 sg s2 (by omega)
  all_goals have s3 := sg.mul s2
  all_goals have e4 := plus_eq (fz z i) (q * ((j : Rat) - i)) b (b + 1 + 4) (Sz.int zi (by omega)) s3 (by omega) (by omega)
  all_goals have s4 := (Sz.int zi (by omega)).add s3
  all_goals have e5 := minus_eq (fz z j) (fz z i + q * ((j : Rat) - i)) b (b + (b + 1 + 4) + 1) (Sz.int zj (by omega)) s4 (by omega) (by omega)
  all_goals have s5 := (Sz.int zj (by omega)).sub s4
  all_goals have s6 : Sz (2 : Rat) 2 := ⟨by decide, by decide⟩
  · have e6 := over_eq (fz z j - (fz z i + q * ((j : Rat) - i))) 2 _ 2 s5 s6 (by decide) (by omega)
    rw [tr]
    refine runB_eq (ρ := [some (bl n z), some (.int (i : Nat)), some (.int (j : Nat)), some (.int (k : Nat)), some (enc q), some (enc (fz z i + q * ((j : Rat) - i)))]) rfl ?_ rfl
    show b_triple_error [some (bl n z), some (.int (i : Nat)), some (.int (j : Nat)), some (.int (k : Nat)), none, none] = _
    have x1 := bl_ix (z := z) (show i < n by omega)
    have x2 := bl_ix (z := z) (show j < n by omega)
    have x3 := bl_ix (z := z) hk
    have e7 : D.tup [.int 2, .int 1] = enc 2 := rfl
    rw [b_triple_error, seq_nx (ρ' := [some (bl n z), some (.int (i : Nat)), some (.int (j : Nat)), some (.int (k : Nat)), some (enc q), none]) (by
      simp only [cSet_ap, cUser_ap, evR_v, evR_nil, cVar_ap, cK_ap, cOp_ap, List.getElem?_cons_succ, List.getElem?_cons_zero, Option.getD_some, Option.map_some, Option.bind_some, x1, x3, subD_int, g1, slotsR_v, slotsR_nil, setOuts_nil, List.set_cons_succ, List.set_cons_zero]), seq_nx (ρ' := [some (bl n z), some (.int (i : Nat)), some (.int (j : Nat)), some (.int (k : Nat)), some (enc q), some (enc (fz z i + q * ((j : Rat) - i)))]) (by
      simp only [cSet_ap, cUser_ap, evR_v, evR_nil, cVar_ap, cK_ap, cOp_ap, List.getElem?_cons_succ, List.getElem?_cons_zero, Option.getD_some, Option.map_some, Option.bind_some, x1, subD_int, e0, e2, e3, e4, slotsR_v, slotsR_nil, setOuts_nil, List.set_cons_succ, List.set_cons_zero])]
    simp only [cRet_ap, cTup_ap, evA_cons, evA_nil, cUser_ap, evR_v, evR_nil, cVar_ap, cK_ap, cOp_ap, List.getElem?_cons_succ, List.getElem?_cons_zero, Option.getD_some, Option.map_some, Option.bind_some, x2, e1, e5, e7, e6, slotsR_v, slotsR_nil, setOuts_nil]
  · have s7 := Sz.frac (p := 1) (q := 2) (b := 2) (by decide) (by decide) (by decide)
    have s8 := s5.mul s7
    have : trip (fz z) i j k = (fz z j - (fz z i + q * ((j : Rat) - i))) * (((1 : Int) : Rat) / ((2 : Int) : Rat)) := by
      rw [tr, show ((1 : Int) : Rat) = 1 from rfl, show ((2 : Int) : Rat) = 2 from rfl]
      grind
    rw [this]
    exact s8.mono (by omega)
end T14
namespace T14
open PySem L2 G
def encO : Option (Nat × Nat × Nat) → D
  | none => .non
  | some (a, b, c) => .tup [.int (a : Nat), .int (b : Nat), .int (c : Nat)]
abbrev bst (e : Rat) (o : Option (Nat × Nat × Nat)) : D := .tup [enc e, encO o]
structure Ok (n : Nat) (f : Nat → Rat) (P : Nat → Nat → Nat → Prop) (e : Rat) (o : Option (Nat × Nat × Nat)) : Prop where
  sz : Sz e 52
  all : ∀ i j k, i < j → j < k → k < n → P i j k → ab (trip f i j k) ≤ e
  at_ : match o with | none => e = 0 | some (a, b, c) => a < b ∧ b < c ∧ c < n ∧ e = ab (trip f a b c) ∧ 0 < e
theorem Ok.mono {n : Nat} {f : Nat → Rat} {P P' : Nat → Nat → Nat → Prop} {e : Rat} {o : Option (Nat × Nat × Nat)} (h : Ok n f P e o) (hp : ∀ i j k, i < j → j < k → k < n → P' i j k → P i j k) : Ok n f P' e o :=
  ⟨h.sz, fun i j k h1 h2 h3 h4 => h.all i j k h1 h2 h3 (hp i j k h1 h2 h3 h4), h.at_⟩
theorem Ok.nn {n : Nat} {f : Nat → Rat} {P : Nat → Nat → Nat → Prop} {e : Rat} {o : Option (Nat × Nat × Nat)} (h : Ok n f P e o) : 0 ≤ e := by
  have := h.at_
  match o, this with
  | none, h => rw [h]; exact Rat.le_refl
  | some (a, b, c), h => exact Rat.le_of_lt h.2.2.2.2
theorem step1 {n : Nat} {z : Nat → Int} (hn : n ≤ 16) (hz : Bz 14 n z) {P : Nat → Nat → Nat → Prop} {e : Rat} {o : Option (Nat × Nat × Nat)} (hO : Ok n (fz z) P e o) {i j k : Nat} (hij : i < j) (hjk : j < k) (hk : k < n) (s5 s6 s7 : Option D) :
    ∃ e' o' s5', b_evenest_L1 [some (bl n z), some (bst e o), some (.int (i : Nat)), some (.int (j : Nat)), some (.int (k : Nat)), s5, s6, s7] = some (.nx [some (bl n z), some (bst e' o'), some (.int (i : Nat)), some (.int (j : Nat)), some (.int (k : Nat)), s5', s6, s7]) ∧ Ok n (fz z) (fun a b c => P a b c ∨ (a = i ∧ b = j ∧ c = k)) e' o' := by
  obtain ⟨t1, t2, _, _⟩ := triple_eq n z hij hjk hk hn hz (by decide) (by decide)
  have t2 : Sz (trip (fz z) i j k) 52 := t2
  have q1 := amount_eq _ t2 (by decide)
  have q2 := less_eq e (ab (trip (fz z) i j k)) 52 52 hO.sz t2.ab
  rw [b_evenest_L1, seq_nx (ρ' := [some (bl n z), some (bst e o), some (.int (i : Nat)), some (.int (j : Nat)), some (.int (k : Nat)), some (enc (trip (fz z) i j k)), s6, s7]) (by
    simp only [cSet_ap, cUser_ap, evR_v, evR_nil, cVar_ap, List.getElem?_cons_succ, List.getElem?_cons_zero, Option.getD_some, Option.map_some, Option.bind_some, t1, slotsR_v, slotsR_nil, setOuts_nil, List.set_cons_succ, List.set_cons_zero])]
  by_cases h : e < ab (trip (fz z) i j k)
  · rw [decide_eq_true h] at q2
    refine ⟨ab (trip (fz z) i j k), some (i, j, k), some (enc (trip (fz z) i j k)), ?_, t2.ab, fun a b c h1 h2 h3 h4 => ?_, hij, hjk, hk, rfl, ?_⟩
    · simp only [cIfS_ap, cTest_ap, cSet_ap, cTup_ap, evA_cons, evA_nil, cOp_ap, cK_ap, cUser_ap, evR_v, evR_nil, cVar_ap, List.getElem?_cons_succ, List.getElem?_cons_zero, Option.getD_some, Option.map_some, Option.bind_some, ixD_tup, atI_0, q1, q2, slotsR_v, slotsR_nil, setOuts_nil, List.set_cons_succ, List.set_cons_zero, truthB_bl, if_true]
      rfl
    · rcases h4 with h4 | ⟨rfl, rfl, rfl⟩
      · have := hO.all a b c h1 h2 h3 h4
        grind
      · exact Rat.le_refl
    · have := hO.nn
      grind
  · rw [decide_eq_false h] at q2
    refine ⟨e, o, some (enc (trip (fz z) i j k)), ?_, hO.sz, fun a b c h1 h2 h3 h4 => ?_, hO.at_⟩
    · simp only [cIfS_ap, cTest_ap, cNil_ap, cOp_ap, cK_ap, cUser_ap, evR_v, evR_nil, cVar_ap, List.getElem?_cons_succ, List.getElem?_cons_zero, Option.getD_some, Option.map_some, Option.bind_some, ixD_tup, atI_0, q1, q2, slotsR_v, slotsR_nil, setOuts_nil, List.set_cons_succ, List.set_cons_zero, truthB_bl, Bool.false_eq_true, if_false]
    · rcases h4 with h4 | ⟨rfl, rfl, rfl⟩
      · exact hO.all a b c h1 h2 h3 h4
      · grind
theorem rangeD_gets {lo hi : Int} {i : Nat} {x : D} (h : (rangeD lo hi)[i]? = some x) : x = .int (lo + (i : Int)) ∧ (i : Int) < hi - lo := rangeD_get h
theorem loop1 {n : Nat} {z : Nat → Int} (hn : n ≤ 16) (hz : Bz 14 n z) {P : Nat → Nat → Nat → Prop} {e : Rat} {o : Option (Nat × Nat × Nat)} (hO : Ok n (fz z) P e o) {i j : Nat} (hij : i < j) (hj : j < n) (s4 s5 s6 s7 : Option D) :
    ∃ e' o' s4' s5', b_evenest_L2 [some (bl n z), some (bst e o), some (.int (i : Nat)), some (.int (j : Nat)), s4, s5, s6, s7] = some (.nx [some (bl n z), some (bst e' o'), some (.int (i : Nat)), some (.int (j : Nat)), s4', s5', s6, s7]) ∧ Ok n (fz z) (fun a b c => P a b c ∨ (a = i ∧ b = j)) e' o' := by
  obtain ⟨ρ', h1, e', o', s4', s5', rfl, h2⟩ := loopL_at (b := fun x ρ => (hName 4 x ρ).bind b_evenest_L1) (xs := rangeD ((j : Int) + 1) (n : Int)) (n := 0) (ρ := [some (bl n z), some (bst e o), some (.int (i : Nat)), some (.int (j : Nat)), s4, s5, s6, s7])
    (I := fun t ρ => ∃ e' o' s4' s5', ρ = [some (bl n z), some (bst e' o'), some (.int (i : Nat)), some (.int (j : Nat)), s4', s5', s6, s7] ∧ Ok n (fz z) (fun a b c => P a b c ∨ (a = i ∧ b = j ∧ c < j + 1 + t)) e' o')
    (fun t x hx ρ hI => by
      obtain ⟨e1, o1, s41, s51, rfl, h⟩ := hI
      simp only [Nat.zero_add] at h ⊢
      obtain ⟨rfl, ht⟩ := rangeD_get hx
      have hc0 : (j : Int) + 1 + (t : Int) = ((j + 1 + t : Nat) : Int) := by omega
      rw [hc0]
      obtain ⟨e2, o2, s52, h3, h4⟩ := step1 hn hz h hij (show j < j + 1 + t by omega) (show j + 1 + t < n by omega) s51 s6 s7
      refine ⟨[some (bl n z), some (bst e2 o2), some (.int (i : Nat)), some (.int (j : Nat)), some (.int ((j + 1 + t : Nat) : Int)), s52, s6, s7], (by simp only [hName_ap, Option.bind_some, List.set_cons_succ, List.set_cons_zero]; exact h3), e2, o2, _, s52, rfl, h4.mono fun a b c h1 h2 h3 h4 => ?_⟩
      rcases h4 with h4 | ⟨rfl, rfl, h4⟩
      · exact .inl (.inl h4)
      · by_cases q : c < b + 1 + t
        · exact .inl (.inr ⟨rfl, rfl, q⟩)
        · exact .inr ⟨rfl, rfl, by omega⟩) ⟨e, o, s4, s5, rfl, hO.mono fun a b c h1 h2 h3 h4 => by
      rcases h4 with h4 | ⟨rfl, rfl, h4⟩
      · exact h4
      · omega⟩
  refine ⟨e', o', s4', s5', ?_, h2.mono fun a b c h1 h2 h3 h4 => ?_⟩
  · rw [b_evenest_L2, cFor_ap, itR2 (i := (j : Int) + 1) (j := (n : Int)) (ρ1 := [some (bl n z), some (bst e o), some (.int (i : Nat)), some (.int (j : Nat)), s4, s5, s6, s7]) (ρ2 := [some (bl n z), some (bst e o), some (.int (i : Nat)), some (.int (j : Nat)), s4, s5, s6, s7]) rfl (by
      simp only [cCall_ap, evA_cons, evA_nil, cVar_ap, List.getElem?_cons_succ, List.getElem?_cons_zero, Option.getD_some, Option.map_some, Option.bind_some, bl_len])]
    exact h1
  · rcases h4 with h4 | ⟨rfl, rfl⟩
    · exact .inl h4
    · refine .inr ⟨rfl, rfl, ?_⟩
      rw [rangeD_len]; omega
theorem loop2' {n : Nat} {z : Nat → Int} (hn : n ≤ 16) (f : Gs) (hf : ∀ {P : Nat → Nat → Nat → Prop} {e : Rat} {o : Option (Nat × Nat × Nat)}, Ok n (fz z) P e o → ∀ {i j : Nat}, i < j → j < n → ∀ s4 s5 s6 s7 : Option D, ∃ e' o' s4' s5', f [some (bl n z), some (bst e o), some (.int (i : Nat)), some (.int (j : Nat)), s4, s5, s6, s7] = some (.nx [some (bl n z), some (bst e' o'), some (.int (i : Nat)), some (.int (j : Nat)), s4', s5', s6, s7]) ∧ Ok n (fz z) (fun a b c => P a b c ∨ (a = i ∧ b = j)) e' o') {P : Nat → Nat → Nat → Prop} {e : Rat} {o : Option (Nat × Nat × Nat)} (hO : Ok n (fz z) P e o) {i : Nat} (hi : i < n) (s3 s4 s5 s6 s7 : Option D) :
    ∃ e' o' s3' s4' s5', (cFor (cItA rng2 (evA [(cOp addD (cVar 2) (cK (D.int 1))), (cCall lenD (evA [(cVar 0)]))])) (hName 3) f) [some (bl n z), some (bst e o), some (.int (i : Nat)), s3, s4, s5, s6, s7] = some (.nx [some (bl n z), some (bst e' o'), some (.int (i : Nat)), s3', s4', s5', s6, s7]) ∧ Ok n (fz z) (fun a b c => P a b c ∨ a = i) e' o' := by
  obtain ⟨ρ', h1, e', o', s3', s4', s5', rfl, h2⟩ := loopL_at (b := fun x ρ => (hName 3 x ρ).bind f) (xs := rangeD ((i : Int) + 1) (n : Int)) (n := 0) (ρ := [some (bl n z), some (bst e o), some (.int (i : Nat)), s3, s4, s5, s6, s7])
    (I := fun t ρ => ∃ e' o' s3' s4' s5', ρ = [some (bl n z), some (bst e' o'), some (.int (i : Nat)), s3', s4', s5', s6, s7] ∧ Ok n (fz z) (fun a b c => P a b c ∨ (a = i ∧ b < i + 1 + t)) e' o')
    (fun t x hx ρ hI => by
      obtain ⟨e1, o1, s31, s41, s51, rfl, h⟩ := hI
      simp only [Nat.zero_add] at h ⊢
      obtain ⟨rfl, ht⟩ := rangeD_get hx
      have hc0 : (i : Int) + 1 + (t : Int) = ((i + 1 + t : Nat) : Int) := by omega
      rw [hc0]
      obtain ⟨e2, o2, s42, s52, h3, h4⟩ := hf h (show i < i + 1 + t by omega) (show i + 1 + t < n by omega) s41 s51 s6 s7
      refine ⟨[some (bl n z), some (bst e2 o2), some (.int (i : Nat)), some (.int ((i + 1 + t : Nat) : Int)), s42, s52, s6, s7], (by simp only [hName_ap, Option.bind_some, List.set_cons_succ, List.set_cons_zero]; exact h3), e2, o2, _, s42, s52, rfl, h4.mono fun a b c h1 h2 h3 h4 => ?_⟩
      rcases h4 with h4 | ⟨rfl, h4⟩
      · exact .inl (.inl h4)
      · by_cases q : b < a + 1 + t
        · exact .inl (.inr ⟨rfl, q⟩)
        · exact .inr ⟨rfl, by omega⟩) ⟨e, o, s3, s4, s5, rfl, hO.mono fun a b c h1 h2 h3 h4 => by
      rcases h4 with h4 | ⟨rfl, h4⟩
      · exact h4
      · omega⟩
  refine ⟨e', o', s3', s4', s5', ?_, h2.mono fun a b c h1 h2 h3 h4 => ?_⟩
  · rw [cFor_ap, itR2 (i := (i : Int) + 1) (j := (n : Int)) (ρ1 := [some (bl n z), some (bst e o), some (.int (i : Nat)), s3, s4, s5, s6, s7]) (ρ2 := [some (bl n z), some (bst e o), some (.int (i : Nat)), s3, s4, s5, s6, s7]) rfl (by
      simp only [cCall_ap, evA_cons, evA_nil, cVar_ap, List.getElem?_cons_succ, List.getElem?_cons_zero, Option.getD_some, Option.map_some, Option.bind_some, bl_len])]
    exact h1
  · rcases h4 with h4 | rfl
    · exact .inl h4
    · refine .inr ⟨rfl, ?_⟩
      rw [rangeD_len]; omega
theorem loop2 {n : Nat} {z : Nat → Int} (hn : n ≤ 16) (hz : Bz 14 n z) {P : Nat → Nat → Nat → Prop} {e : Rat} {o : Option (Nat × Nat × Nat)} (hO : Ok n (fz z) P e o) {i : Nat} (hi : i < n) (s3 s4 s5 s6 s7 : Option D) :
    ∃ e' o' s3' s4' s5', b_evenest_L3 [some (bl n z), some (bst e o), some (.int (i : Nat)), s3, s4, s5, s6, s7] = some (.nx [some (bl n z), some (bst e' o'), some (.int (i : Nat)), s3', s4', s5', s6, s7]) ∧ Ok n (fz z) (fun a b c => P a b c ∨ a = i) e' o' := by
  unfold b_evenest_L3
  exact loop2' hn b_evenest_L2 (fun hO _ _ h1 h2 s4 s5 s6 s7 => loop1 hn hz hO h1 h2 s4 s5 s6 s7) hO hi s3 s4 s5 s6 s7
theorem loop3' {n : Nat} {z : Nat → Int} (hn : n ≤ 16) (f : Gs) (hf : ∀ {P : Nat → Nat → Nat → Prop} {e : Rat} {o : Option (Nat × Nat × Nat)}, Ok n (fz z) P e o → ∀ {i : Nat}, i < n → ∀ s3 s4 s5 s6 s7 : Option D, ∃ e' o' s3' s4' s5', f [some (bl n z), some (bst e o), some (.int (i : Nat)), s3, s4, s5, s6, s7] = some (.nx [some (bl n z), some (bst e' o'), some (.int (i : Nat)), s3', s4', s5', s6, s7]) ∧ Ok n (fz z) (fun a b c => P a b c ∨ a = i) e' o') :
    ∃ e' o' s2 s3 s4 s5, (cFor (cItA rng1 (evA [(cCall lenD (evA [(cVar 0)]))])) (hName 2) f) [some (bl n z), some (bst 0 none), none, none, none, none, none, none] = some (.nx [some (bl n z), some (bst e' o'), s2, s3, s4, s5, none, none]) ∧ Ok n (fz z) (fun _ _ _ => True) e' o' := by
  obtain ⟨ρ', h1, e', o', s2', s3', s4', s5', rfl, h2⟩ := loopL_at (b := fun x ρ => (hName 2 x ρ).bind f) (xs := rangeD 0 (n : Int)) (n := 0) (ρ := [some (bl n z), some (bst 0 none), none, none, none, none, none, none])
    (I := fun t ρ => ∃ e' o' s2' s3' s4' s5', ρ = [some (bl n z), some (bst e' o'), s2', s3', s4', s5', none, none] ∧ Ok n (fz z) (fun a b c => a < t) e' o')
    (fun t x hx ρ hI => by
      obtain ⟨e1, o1, s21, s31, s41, s51, rfl, h⟩ := hI
      simp only [Nat.zero_add] at h ⊢
      obtain ⟨rfl, ht⟩ := range0_get hx
      obtain ⟨e2, o2, s32, s42, s52, h3, h4⟩ := hf h ht s31 s41 s51 none none
      refine ⟨[some (bl n z), some (bst e2 o2), some (.int (t : Nat)), s32, s42, s52, none, none], (by simp only [hName_ap, Option.bind_some, List.set_cons_succ, List.set_cons_zero]; exact h3), e2, o2, _, s32, s42, s52, rfl, h4.mono fun a b c h1 h2 h3 h4 => ?_⟩
      by_cases q : a < t
      · exact .inl q
      · exact .inr (by omega)) ⟨0, none, none, none, none, none, rfl, z1.mono (by decide), fun a b c _ _ _ h => absurd h (Nat.not_lt_zero _), rfl⟩
  refine ⟨e', o', s2', s3', s4', s5', ?_, h2.mono fun a b c h1 h2 h3 h4 => ?_⟩
  · rw [cFor_ap, itR (n := n) (ρ' := [some (bl n z), some (bst 0 none), none, none, none, none, none, none]) (by
      simp only [cCall_ap, evA_cons, evA_nil, cVar_ap, List.getElem?_cons_succ, List.getElem?_cons_zero, Option.getD_some, Option.map_some, Option.bind_some, bl_len])]
    exact h1
  · rw [range0_len]; omega
theorem loop3 {n : Nat} {z : Nat → Int} (hn : n ≤ 16) (hz : Bz 14 n z) :
    ∃ e' o' s2 s3 s4 s5, (cFor (cItA rng1 (evA [(cCall lenD (evA [(cVar 0)]))])) (hName 2) b_evenest_L3) [some (bl n z), some (bst 0 none), none, none, none, none, none, none] = some (.nx [some (bl n z), some (bst e' o'), s2, s3, s4, s5, none, none]) ∧ Ok n (fz z) (fun _ _ _ => True) e' o' :=
  loop3' hn b_evenest_L3 fun hO _ h1 s3 s4 s5 s6 s7 => loop2 hn hz hO h1 s3 s4 s5 s6 s7
/-- what evenest tells -/
structure Ev (n : Nat) (z : Nat → Int) (s g e : Rat) (o : Option (Nat × Nat × Nat)) : Prop where
  ok : Ok n (fz z) (fun _ _ _ => True) e o
  ss : Sz s 90
  sg : Sz g 20
  le : ∀ p, p < n → ab (res (fz z) s g p) ≤ e
theorem line3 {n : Nat} {f : Nat → Rat} {a b c : Nat} {e : Rat} (hab : a < b) (hbc : b < c) (hcn : c < n) (he : e = ab (trip f a b c)) (hall : ∀ i j k, i < j → j < k → k < n → ab (trip f i j k) ≤ e) :
    ∀ p, p < n → ab (res f (f a - (f c - f a) / ((c : Rat) - a) * a + trip f a b c) ((f c - f a) / ((c : Rat) - a)) p) ≤ e := by
  have h1 : ((c : Rat) - a) ≠ 0 := by have := nat_lt (show a < c by omega); grind
  have h2 : (f c - f a) / ((c : Rat) - a) * ((c : Rat) - a) = f c - f a := Rat.div_mul_cancel h1
  have ht : trip f a b c = (f b - (f a + (f c - f a) / ((c : Rat) - (a : Rat)) * ((b : Rat) - (a : Rat)))) / 2 := rfl
  generalize (f c - f a) / ((c : Rat) - a) = q at *
  have hr : ∀ i j k, i < j → j < k → k < n → ab (trip (res f (f a - q * a + trip f a b c) q) i j k) ≤ e := fun i j k x y z' => by
    have : trip (res f (f a - q * a + trip f a b c) q) i j k = trip f i j k := trip_line f _ _ (by omega)
    rw [this]
    exact hall i j k x y z'
  have ra : res f (f a - q * a + trip f a b c) q a = - trip f a b c := by unfold res; grind
  have rb : res f (f a - q * a + trip f a b c) q b = trip f a b c := by unfold res; grind
  have rc : res f (f a - q * a + trip f a b c) q c = - trip f a b c := by unfold res; grind
  generalize res f (f a - q * a + trip f a b c) q = r at *
  rcases ab_cases (trip f a b c) with ⟨h, e1⟩ | ⟨h, e1⟩
  · rw [e1] at he
    exact cheb (w := e) (by grind) hab hbc hcn (by grind) (by grind) (by grind) hr
  · rw [e1] at he
    intro p hp
    have := cheb (r := fun i => - r i) (w := e) (by grind) hab hbc hcn (by grind) (by grind) (by grind) (fun i j k x y z' => by
      have h5 : trip (fun i => - r i) i j k = - trip r i j k := trip_neg r i j k
      rw [h5, ab_neg]; exact hr i j k x y z') p hp
    rw [ab_neg] at this
    exact this
theorem flat {n : Nat} {f : Nat → Rat} (hn : 2 ≤ n) (hall : ∀ i j k, i < j → j < k → k < n → ab (trip f i j k) ≤ 0) : ∀ p, p < n → ab (res f (f 0) (f 1 - f 0) p) ≤ 0 := by
  intro p hp
  have : res f (f 0) (f 1 - f 0) p = 0 := by
    by_cases h0 : p = 0
    · subst h0; unfold res; simp; grind
    · by_cases h1 : p = 1
      · subst h1; unfold res; simp; grind
      · have h := hall 0 1 p (by decide) (by omega) hp
        have e := trip_eq f (i := 0) (j := 1) (k := p) (by omega)
        rw [ab_le] at h
        have : trip f 0 1 p = 0 := by grind
        rw [this] at e
        unfold res
        simp at e
        grind
  rw [this]
  exact (by decide : ab 0 ≤ 0)
theorem evenest_eq {n : Nat} {z : Nat → Int} (h1 : 1 ≤ n) (hn : n ≤ 16) (hz : Bz 14 n z) : ∃ s g e o, f_evenest [bl n z] = some (.tup [encP s g, enc e, encO o], []) ∧ Ev n z s g e o := by
  have zi : ∀ i, i < n → Sz (fz z i) 14 := fun i hi => Sz.int (hz i hi)
  have x0 := bl_ix (z := z) (show 0 < n by omega)
  have f0 := frac1 (z 0)
  by_cases h2 : n < 2
  · have : n = 1 := by omega
    subst this
    refine ⟨fz z 0, 0, 0, none, ?_, ⟨z1.mono (by decide), fun i j k _ _ _ => by omega, rfl⟩, (zi 0 (by decide)).mono (by decide), z1.mono (by decide), fun p hp => ?_⟩
    · refine runB_eq (ρ := [some (bl 1 z), none, none, none, none, none, none, none]) rfl ?_ rfl
      show b_evenest [some (bl 1 z), none, none, none, none, none, none, none] = _
      rw [b_evenest, cSeq_ap, if_yes (ρ' := [some (bl 1 z), none, none, none, none, none, none, none]) (by
        simp only [cTest_ap, cOp_ap, cCall_ap, evA_cons, evA_nil, cVar_ap, cK_ap, List.getElem?_cons_zero, Option.getD_some, Option.map_some, Option.bind_some, bl_len, ltD_int, truthB_bl]; rfl)]
      have x0 : ixD (bl 1 z) (.int 0) = _ := x0
      simp only [cRet_ap, cTup_ap, evA_cons, evA_nil, cUser_ap, evR_v, evR_nil, cOp_ap, cVar_ap, cK_ap, List.getElem?_cons_zero, Option.getD_some, Option.map_some, Option.bind_some, x0, f0, slotsR_v, slotsR_nil, setOuts_nil]
      rfl
    · have : p = 0 := by omega
      subst this
      have : res (fz z) (fz z 0) 0 0 = 0 := by unfold res; simp; grind
      rw [this]
      exact (by decide : ab 0 ≤ 0)
  · obtain ⟨e, o, s2, s3, s4, s5, hl, hO⟩ := loop3 hn hz
    have nlt : ¬ ((n : Int) < 2) := by omega
    have go : ∀ r ρ', (cSeq (cIfS (cTest (cOp isN (cOp ixD (cVar 1) (cK (D.int 1))) (cK D.non))) (cRet (cTup [(cTup [(cUser f_frac [.v (cOp ixD (cVar 0) (cK (D.int 0))), .v (cK (D.int 1))]), (cUser f_frac [.v (cOp subD (cOp ixD (cVar 0) (cK (D.int 1))) (cOp ixD (cVar 0) (cK (D.int 0)))), .v (cK (D.int 1))])]), (cK c_NIL), (cK D.non)])) cNil)
    (cSeq (cAsg (hTup 3 (hCons (hName 2) (hCons (hName 3) (hCons (hName 4) hNil)))) (cOp ixD (cVar 1) (cK (D.int 1))))
    (cSeq (cSet 6 (cUser f_frac [.v (cOp subD (cOp ixD (cVar 0) (cVar 4)) (cOp ixD (cVar 0) (cVar 2))), .v (cOp subD (cVar 4) (cVar 2))]))
    (cSeq (cSet 5 (cUser f_triple_error [.v (cVar 0), .v (cVar 2), .v (cVar 3), .v (cVar 4)]))
    (cSeq (cSet 7 (cUser f_plus [.v (cUser f_minus [.v (cUser f_frac [.v (cOp ixD (cVar 0) (cVar 2)), .v (cK (D.int 1))]), .v (cUser f_times [.v (cVar 6), .v (cUser f_frac [.v (cVar 2), .v (cK (D.int 1))])])]), .v (cVar 5)]))
    (cRet (cTup [(cTup [(cVar 7), (cVar 6)]), (cOp ixD (cVar 1) (cK (D.int 0))), (cOp ixD (cVar 1) (cK (D.int 1)))]))))))) [some (bl n z), some (bst e o), s2, s3, s4, s5, none, none] = some (.rt r ρ') → f_evenest [bl n z] = some (r, []) := fun r ρ' h => by
      refine runB_eq (ρ := ρ') rfl ?_ rfl
      show b_evenest [some (bl n z), none, none, none, none, none, none, none] = _
      rw [b_evenest, seq_nx (ρ' := [some (bl n z), none, none, none, none, none, none, none]) (if_nil (by
        simp only [cTest_ap, cOp_ap, cCall_ap, evA_cons, evA_nil, cVar_ap, cK_ap, List.getElem?_cons_zero, Option.getD_some, Option.map_some, Option.bind_some, bl_len, ltD_int, truthB_bl, decide_eq_false nlt])), seq_nx (ρ' := [some (bl n z), some (bst 0 none), none, none, none, none, none, none]) rfl, seq_nx hl]
      exact h
    have x1 := bl_ix (z := z) (show 1 < n by omega)
    have x0 : ixD (bl n z) (.int 0) = _ := x0
    have x1 : ixD (bl n z) (.int 1) = _ := x1
    match o, hO, hl, go with
    | none, hO, hl, go =>
      have he : e = 0 := hO.at_
      subst he
      have f1 := frac1 (z 1 - z 0)
      rw [icast_sub] at f1
      refine ⟨fz z 0, fz z 1 - fz z 0, 0, none, go _ [some (bl n z), some (bst 0 none), s2, s3, s4, s5, none, none] ?_, hO, (zi 0 (by omega)).mono (by decide), ?_, flat (by omega) fun i j k a b c => hO.all i j k a b c trivial⟩
      · rw [cSeq_ap, if_yes (ρ' := [some (bl n z), some (bst 0 none), s2, s3, s4, s5, none, none]) rfl]
        simp only [cRet_ap, cTup_ap, evA_cons, evA_nil, cUser_ap, evR_v, evR_nil, cOp_ap, cVar_ap, cK_ap, List.getElem?_cons_zero, Option.getD_some, Option.map_some, Option.bind_some, x0, x1, f0, f1, subD_int, slotsR_v, slotsR_nil, setOuts_nil]
        rfl
      · rw [← icast_sub]
        have a0 := hz 0 (by omega)
        have a1 := hz 1 (by omega)
        exact (Sz.int (b := 15) (by omega)).mono (by decide)
    | some (a, b, c), hO, hl, go =>
      obtain ⟨hab, hbc, hcn, he, hpos⟩ := hO.at_
      obtain ⟨t1, t2, t3, t4⟩ := triple_eq n z hab hbc hcn hn hz (by decide) (by decide)
      have t2 : Sz (trip (fz z) a b c) 52 := t2
      have t4 : Sz ((fz z c - fz z a) / ((c : Rat) - a)) 15 := t4
      have na : Sz (a : Rat) 4 := Sz.nat (by omega)
      have e2 := times_eq _ _ 15 4 t4 na
      have e3 := minus_eq (fz z a) _ 14 19 (zi a (by omega)) (t4.mul na)
      have s3' := (zi a (by omega)).sub (t4.mul na)
      have e4 := plus_eq _ _ 34 52 s3' t2
      have fa := frac1 (z a)
      have fn := frac1n a
      have xa := bl_ix (z := z) (show a < n by omega)
      have xc := bl_ix (z := z) hcn
      refine ⟨_, _, e, some (a, b, c), go _ [some (bl n z), some (bst e (some (a, b, c))), some (.int (a : Nat)), some (.int (b : Nat)), some (.int (c : Nat)), some (enc (trip (fz z) a b c)), some (enc ((fz z c - fz z a) / ((c : Rat) - a))), some (enc (fz z a - (fz z c - fz z a) / ((c : Rat) - a) * a + trip (fz z) a b c))] ?_, hO, (s3'.add t2).mono (by decide), t4.mono (by decide), line3 hab hbc hcn he fun i j k x y w => hO.all i j k x y w trivial⟩
      rw [seq_nx (ρ' := [some (bl n z), some (bst e (some (a, b, c))), s2, s3, s4, s5, none, none]) (if_nil rfl), seq_nx (ρ' := [some (bl n z), some (bst e (some (a, b, c))), some (.int (a : Nat)), some (.int (b : Nat)), some (.int (c : Nat)), s5, none, none]) rfl,
        seq_nx (ρ' := [some (bl n z), some (bst e (some (a, b, c))), some (.int (a : Nat)), some (.int (b : Nat)), some (.int (c : Nat)), s5, some (enc ((fz z c - fz z a) / ((c : Rat) - a))), none]) (by
          simp only [cSet_ap, cUser_ap, evR_v, evR_nil, cOp_ap, cVar_ap, List.getElem?_cons_zero, List.getElem?_cons_succ, Option.getD_some, Option.map_some, Option.bind_some, xa, xc, subD_int, t3, slotsR_v, slotsR_nil, setOuts_nil, List.set_cons_succ, List.set_cons_zero]),
        seq_nx (ρ' := [some (bl n z), some (bst e (some (a, b, c))), some (.int (a : Nat)), some (.int (b : Nat)), some (.int (c : Nat)), some (enc (trip (fz z) a b c)), some (enc ((fz z c - fz z a) / ((c : Rat) - a))), none]) (by
          simp only [cSet_ap, cUser_ap, evR_v, evR_nil, cVar_ap, List.getElem?_cons_zero, List.getElem?_cons_succ, Option.getD_some, Option.map_some, Option.bind_some, t1, slotsR_v, slotsR_nil, setOuts_nil, List.set_cons_succ, List.set_cons_zero]),
        seq_nx (ρ' := [some (bl n z), some (bst e (some (a, b, c))), some (.int (a : Nat)), some (.int (b : Nat)), some (.int (c : Nat)), some (enc (trip (fz z) a b c)), some (enc ((fz z c - fz z a) / ((c : Rat) - a))), some (enc (fz z a - (fz z c - fz z a) / ((c : Rat) - a) * a + trip (fz z) a b c))]) (by
          simp only [cSet_ap, cUser_ap, evR_v, evR_nil, cOp_ap, cVar_ap, cK_ap, List.getElem?_cons_zero, List.getElem?_cons_succ, Option.getD_some, Option.map_some, Option.bind_some, xa, fa, fn, e2, e3, e4, slotsR_v, slotsR_nil, setOuts_nil, List.set_cons_succ, List.set_cons_zero])]
      rfl
end T14
namespace T14
open PySem L2 G
theorem ab_int (p : Int) : ((if p < 0 then -p else p : Int) : Rat) = ab (p : Rat) := by
  have h0 : ((0 : Int) : Rat) = 0 := rfl
  unfold ab
  by_cases h : p < 0
  · have h' : (p : Rat) < 0 := by rw [← h0]; exact Rat.intCast_lt_intCast.mpr h
    rw [if_pos h, if_pos h', Rat.intCast_neg]
    grind
  · have h' : ¬ (p : Rat) < 0 := by rw [← h0]; exact fun z => h (Rat.intCast_lt_intCast.mp z)
    rw [if_neg h, if_neg h']
theorem ab_mul {c t : Rat} (hc : 0 < c) : ab (c * t) = c * ab t := by
  rcases ab_cases t with ⟨h, e⟩ | ⟨h, e⟩
  · have := mul_nn (Rat.le_of_lt hc) h
    rw [e]
    rcases ab_cases (c * t) with ⟨h', e'⟩ | ⟨h', e'⟩ <;> grind
  · have := mul_ps hc (show 0 < -t by grind)
    rw [e]
    rcases ab_cases (c * t) with ⟨h', e'⟩ | ⟨h', e'⟩ <;> grind
/-- what the law's own search holds -/
structure Lk (n : Nat) (f : Nat → Rat) (P : Nat → Nat → Nat → Prop) (e : Rat) : Prop where
  sz : Sz e 52
  all : ∀ i j k, i < j → j < k → k < n → P i j k → ab (trip f i j k) ≤ e
  at_ : e = 0 ∨ ∃ a b c, a < b ∧ b < c ∧ c < n ∧ e = ab (trip f a b c)
theorem Lk.mono {n : Nat} {f : Nat → Rat} {P P' : Nat → Nat → Nat → Prop} {e : Rat} (h : Lk n f P e) (hp : ∀ i j k, i < j → j < k → k < n → P' i j k → P i j k) : Lk n f P' e :=
  ⟨h.sz, fun i j k h1 h2 h3 h4 => h.all i j k h1 h2 h3 (hp i j k h1 h2 h3 h4), h.at_⟩
theorem off_eq (n : Nat) (z : Nat → Int) (hn : n ≤ 16) (hz : Bz 14 n z) {i j k : Nat} (hij : i < j) (hjk : j < k) (hk : k < n) :
    mulD (.int ((k : Int) - i)) (.int (z j - z i)) = some (.int (((k : Int) - i) * (z j - z i))) ∧ mulD (.int ((j : Int) - i)) (.int (z k - z i)) = some (.int (((j : Int) - i) * (z k - z i))) ∧ mulD (.int 2) (.int ((k : Int) - i)) = some (.int (2 * ((k : Int) - i))) ∧
    f_frac [.int (if ((k : Int) - i) * (z j - z i) - ((j : Int) - i) * (z k - z i) < 0 then -(((k : Int) - i) * (z j - z i) - ((j : Int) - i) * (z k - z i)) else ((k : Int) - i) * (z j - z i) - ((j : Int) - i) * (z k - z i)), .int (2 * ((k : Int) - i))] = some (enc (ab (trip (fz z) i j k)), []) := by
  have zi := hz i (by omega)
  have zj := hz j (by omega)
  have zk := hz k (by omega)
  refine ⟨mulD_lt 10 20 (by omega) (by omega), mulD_lt 10 20 (by omega) (by omega), mulD_lt 10 20 (by decide) (by omega), ?_⟩
  rw [fracq _ (2 * ((k : Int) - i)) 10 (by omega) (by omega), ab_int]
  have c1 : ((((k : Int) - i) * (z j - z i) - ((j : Int) - i) * (z k - z i) : Int) : Rat) = (2 * ((k : Rat) - i)) * trip (fz z) i j k := by
    rw [trip_eq (fz z) (show i < k by omega)]
    simp only [Rat.intCast_sub, Rat.intCast_mul, Rat.intCast_natCast]
    grind
  have c2 : ((2 * ((k : Int) - i) : Int) : Rat) = 2 * ((k : Rat) - i) := by
    simp only [Rat.intCast_sub, Rat.intCast_mul, Rat.intCast_natCast]
    rfl
  have hc : 0 < 2 * ((k : Rat) - i) := by have := nat_lt (show i < k by omega); grind
  rw [c1, c2, ab_mul hc]
  have : 2 * ((k : Rat) - i) * ab (trip (fz z) i j k) / (2 * ((k : Rat) - i)) = ab (trip (fz z) i j k) := by
    rw [Rat.mul_comm]; exact Rat.mul_div_cancel (by grind)
  rw [this]
theorem lstep {n : Nat} {z : Nat → Int} (hn : n ≤ 16) (hz : Bz 14 n z) {P : Nat → Nat → Nat → Prop} {e : Rat} (hO : Lk n (fz z) P e) {i j k : Nat} (hij : i < j) (hjk : j < k) (hk : k < n) (s5 s6 : Option D) :
    ∃ e' s5' s6', b__law_least_L1 [some (bl n z), some (enc e), some (.int (i : Nat)), some (.int (k : Nat)), some (.int (j : Nat)), s5, s6] = some (.nx [some (bl n z), some (enc e'), some (.int (i : Nat)), some (.int (k : Nat)), some (.int (j : Nat)), s5', s6']) ∧ Lk n (fz z) (fun a b c => P a b c ∨ (a = i ∧ b = j ∧ c = k)) e' := by
  obtain ⟨m1, m2, m3, m4⟩ := off_eq n z hn hz hij hjk hk
  obtain ⟨_, t2, _, _⟩ := triple_eq n z hij hjk hk hn hz (by decide) (by decide)
  have t2 : Sz (trip (fz z) i j k) 52 := t2
  have q2 := less_eq e (ab (trip (fz z) i j k)) 52 52 hO.sz t2.ab
  have xi := bl_ix (z := z) (show i < n by omega)
  have xj := bl_ix (z := z) (show j < n by omega)
  have xk := bl_ix (z := z) hk
  refine ⟨if e < ab (trip (fz z) i j k) then ab (trip (fz z) i j k) else e, some (.int (((k : Int) - i) * (z j - z i) - ((j : Int) - i) * (z k - z i))), some (enc (ab (trip (fz z) i j k))), ?_, ?_⟩
  · rw [b__law_least_L1, seq_nx (ρ' := [some (bl n z), some (enc e), some (.int (i : Nat)), some (.int (k : Nat)), some (.int (j : Nat)), some (.int (((k : Int) - i) * (z j - z i) - ((j : Int) - i) * (z k - z i))), s6]) (by
      simp only [cSet_ap, cOp_ap, cVar_ap, List.getElem?_cons_succ, List.getElem?_cons_zero, Option.getD_some, Option.map_some, Option.bind_some, subD_int, xi, xj, xk, m1, m2, List.set_cons_succ, List.set_cons_zero]), seq_nx (ρ' := [some (bl n z), some (enc e), some (.int (i : Nat)), some (.int (k : Nat)), some (.int (j : Nat)), some (.int (((k : Int) - i) * (z j - z i) - ((j : Int) - i) * (z k - z i))), some (enc (ab (trip (fz z) i j k)))]) (by
      simp only [cSet_ap, cUser_ap, evR_v, evR_nil, cCall_ap, evA_cons, evA_nil, cOp_ap, cVar_ap, cK_ap, List.getElem?_cons_succ, List.getElem?_cons_zero, Option.getD_some, Option.map_some, Option.bind_some, subD_int, absD_int, m3, m4, slotsR_v, slotsR_nil, setOuts_nil, List.set_cons_succ, List.set_cons_zero])]
    by_cases h : e < ab (trip (fz z) i j k)
    · rw [decide_eq_true h] at q2
      rw [if_pos h]
      simp only [cSet_ap, cIf_ap, cTest_ap, cUser_ap, evR_v, evR_nil, cVar_ap, List.getElem?_cons_succ, List.getElem?_cons_zero, Option.getD_some, Option.map_some, Option.bind_some, q2, truthB_bl, if_true, slotsR_v, slotsR_nil, setOuts_nil, List.set_cons_succ, List.set_cons_zero]
    · rw [decide_eq_false h] at q2
      rw [if_neg h]
      simp only [cSet_ap, cIf_ap, cTest_ap, cUser_ap, evR_v, evR_nil, cVar_ap, List.getElem?_cons_succ, List.getElem?_cons_zero, Option.getD_some, Option.map_some, Option.bind_some, q2, truthB_bl, Bool.false_eq_true, if_false, slotsR_v, slotsR_nil, setOuts_nil, List.set_cons_succ, List.set_cons_zero]
  · by_cases h : e < ab (trip (fz z) i j k)
    · rw [if_pos h]
      refine ⟨t2.ab, fun a b c h1 h2 h3 h4 => ?_, .inr ⟨i, j, k, hij, hjk, hk, rfl⟩⟩
      rcases h4 with h4 | ⟨rfl, rfl, rfl⟩
      · have := hO.all a b c h1 h2 h3 h4
        grind
      · exact Rat.le_refl
    · rw [if_neg h]
      refine ⟨hO.sz, fun a b c h1 h2 h3 h4 => ?_, hO.at_⟩
      rcases h4 with h4 | ⟨rfl, rfl, rfl⟩
      · exact hO.all a b c h1 h2 h3 h4
      · grind
theorem lloop1 {n : Nat} {z : Nat → Int} (hn : n ≤ 16) (f : Gs) (hf : ∀ {P : Nat → Nat → Nat → Prop} {e : Rat}, Lk n (fz z) P e → ∀ {i j k : Nat}, i < j → j < k → k < n → ∀ s5 s6 : Option D, ∃ e' s5' s6', f [some (bl n z), some (enc e), some (.int (i : Nat)), some (.int (k : Nat)), some (.int (j : Nat)), s5, s6] = some (.nx [some (bl n z), some (enc e'), some (.int (i : Nat)), some (.int (k : Nat)), some (.int (j : Nat)), s5', s6']) ∧ Lk n (fz z) (fun a b c => P a b c ∨ (a = i ∧ b = j ∧ c = k)) e')
    {P : Nat → Nat → Nat → Prop} {e : Rat} (hO : Lk n (fz z) P e) {i k : Nat} (hik : i < k) (hk : k < n) (s4 s5 s6 : Option D) :
    ∃ e' s4' s5' s6', (cFor (cItA rng2 (evA [(cOp addD (cVar 2) (cK (D.int 1))), (cVar 3)])) (hName 4) f) [some (bl n z), some (enc e), some (.int (i : Nat)), some (.int (k : Nat)), s4, s5, s6] = some (.nx [some (bl n z), some (enc e'), some (.int (i : Nat)), some (.int (k : Nat)), s4', s5', s6']) ∧ Lk n (fz z) (fun a b c => P a b c ∨ (a = i ∧ c = k)) e' := by
  obtain ⟨ρ', h1, e', s4', s5', s6', rfl, h2⟩ := loopL_at (b := fun x ρ => (hName 4 x ρ).bind f) (xs := rangeD ((i : Int) + 1) (k : Int)) (n := 0) (ρ := [some (bl n z), some (enc e), some (.int (i : Nat)), some (.int (k : Nat)), s4, s5, s6])
    (I := fun t ρ => ∃ e' s4' s5' s6', ρ = [some (bl n z), some (enc e'), some (.int (i : Nat)), some (.int (k : Nat)), s4', s5', s6'] ∧ Lk n (fz z) (fun a b c => P a b c ∨ (a = i ∧ c = k ∧ b < i + 1 + t)) e')
    (fun t x hx ρ hI => by
      obtain ⟨e1, s41, s51, s61, rfl, h⟩ := hI
      simp only [Nat.zero_add] at h ⊢
      obtain ⟨rfl, ht⟩ := rangeD_get hx
      have hc0 : (i : Int) + 1 + (t : Int) = ((i + 1 + t : Nat) : Int) := by omega
      rw [hc0]
      obtain ⟨e2, s52, s62, h3, h4⟩ := hf h (show i < i + 1 + t by omega) (show i + 1 + t < k by omega) hk s51 s61
      refine ⟨[some (bl n z), some (enc e2), some (.int (i : Nat)), some (.int (k : Nat)), some (.int ((i + 1 + t : Nat) : Int)), s52, s62], (by simp only [hName_ap, Option.bind_some, List.set_cons_succ, List.set_cons_zero]; exact h3), e2, _, s52, s62, rfl, h4.mono fun a b c h1 h2 h3 h4 => ?_⟩
      rcases h4 with h4 | ⟨rfl, rfl, h4⟩
      · exact .inl (.inl h4)
      · by_cases q : b < a + 1 + t
        · exact .inl (.inr ⟨rfl, rfl, q⟩)
        · exact .inr ⟨rfl, by omega, rfl⟩) ⟨e, s4, s5, s6, rfl, hO.mono fun a b c h1 h2 h3 h4 => by
      rcases h4 with h4 | ⟨rfl, rfl, h4⟩
      · exact h4
      · omega⟩
  refine ⟨e', s4', s5', s6', ?_, h2.mono fun a b c h1 h2 h3 h4 => ?_⟩
  · rw [cFor_ap, itR2 (i := (i : Int) + 1) (j := (k : Int)) (ρ1 := [some (bl n z), some (enc e), some (.int (i : Nat)), some (.int (k : Nat)), s4, s5, s6]) (ρ2 := [some (bl n z), some (enc e), some (.int (i : Nat)), some (.int (k : Nat)), s4, s5, s6]) rfl rfl]
    exact h1
  · rcases h4 with h4 | ⟨rfl, rfl⟩
    · exact .inl h4
    · refine .inr ⟨rfl, rfl, ?_⟩
      rw [rangeD_len]; omega
theorem lloop2 {n : Nat} {z : Nat → Int} (hn : n ≤ 16) (f : Gs) (hf : ∀ {P : Nat → Nat → Nat → Prop} {e : Rat}, Lk n (fz z) P e → ∀ {i k : Nat}, i < k → k < n → ∀ s4 s5 s6 : Option D, ∃ e' s4' s5' s6', f [some (bl n z), some (enc e), some (.int (i : Nat)), some (.int (k : Nat)), s4, s5, s6] = some (.nx [some (bl n z), some (enc e'), some (.int (i : Nat)), some (.int (k : Nat)), s4', s5', s6']) ∧ Lk n (fz z) (fun a b c => P a b c ∨ (a = i ∧ c = k)) e')
    {P : Nat → Nat → Nat → Prop} {e : Rat} (hO : Lk n (fz z) P e) {i : Nat} (hi : i < n) (s3 s4 s5 s6 : Option D) :
    ∃ e' s3' s4' s5' s6', (cFor (cItA rng2 (evA [(cOp addD (cVar 2) (cK (D.int 2))), (cCall lenD (evA [(cVar 0)]))])) (hName 3) f) [some (bl n z), some (enc e), some (.int (i : Nat)), s3, s4, s5, s6] = some (.nx [some (bl n z), some (enc e'), some (.int (i : Nat)), s3', s4', s5', s6']) ∧ Lk n (fz z) (fun a b c => P a b c ∨ a = i) e' := by
  obtain ⟨ρ', h1, e', s3', s4', s5', s6', rfl, h2⟩ := loopL_at (b := fun x ρ => (hName 3 x ρ).bind f) (xs := rangeD ((i : Int) + 2) (n : Int)) (n := 0) (ρ := [some (bl n z), some (enc e), some (.int (i : Nat)), s3, s4, s5, s6])
    (I := fun t ρ => ∃ e' s3' s4' s5' s6', ρ = [some (bl n z), some (enc e'), some (.int (i : Nat)), s3', s4', s5', s6'] ∧ Lk n (fz z) (fun a b c => P a b c ∨ (a = i ∧ c < i + 2 + t)) e')
    (fun t x hx ρ hI => by
      obtain ⟨e1, s31, s41, s51, s61, rfl, h⟩ := hI
      simp only [Nat.zero_add] at h ⊢
      obtain ⟨rfl, ht⟩ := rangeD_get hx
      have hc0 : (i : Int) + 2 + (t : Int) = ((i + 2 + t : Nat) : Int) := by omega
      rw [hc0]
      obtain ⟨e2, s42, s52, s62, h3, h4⟩ := hf h (show i < i + 2 + t by omega) (show i + 2 + t < n by omega) s41 s51 s61
      refine ⟨[some (bl n z), some (enc e2), some (.int (i : Nat)), some (.int ((i + 2 + t : Nat) : Int)), s42, s52, s62], (by simp only [hName_ap, Option.bind_some, List.set_cons_succ, List.set_cons_zero]; exact h3), e2, _, s42, s52, s62, rfl, h4.mono fun a b c h1 h2 h3 h4 => ?_⟩
      rcases h4 with h4 | ⟨rfl, h4⟩
      · exact .inl (.inl h4)
      · by_cases q : c < a + 2 + t
        · exact .inl (.inr ⟨rfl, q⟩)
        · exact .inr ⟨rfl, by omega⟩) ⟨e, s3, s4, s5, s6, rfl, hO.mono fun a b c h1 h2 h3 h4 => by
      rcases h4 with h4 | ⟨rfl, h4⟩
      · exact h4
      · omega⟩
  refine ⟨e', s3', s4', s5', s6', ?_, h2.mono fun a b c h1 h2 h3 h4 => ?_⟩
  · rw [cFor_ap, itR2 (i := (i : Int) + 2) (j := (n : Int)) (ρ1 := [some (bl n z), some (enc e), some (.int (i : Nat)), s3, s4, s5, s6]) (ρ2 := [some (bl n z), some (enc e), some (.int (i : Nat)), s3, s4, s5, s6]) rfl (by
      simp only [cCall_ap, evA_cons, evA_nil, cVar_ap, List.getElem?_cons_succ, List.getElem?_cons_zero, Option.getD_some, Option.map_some, Option.bind_some, bl_len])]
    exact h1
  · rcases h4 with h4 | rfl
    · exact .inl h4
    · refine .inr ⟨rfl, ?_⟩
      rw [rangeD_len]; omega
theorem lloop3 {n : Nat} {z : Nat → Int} (hn : n ≤ 16) (f : Gs) (hf : ∀ {P : Nat → Nat → Nat → Prop} {e : Rat}, Lk n (fz z) P e → ∀ {i : Nat}, i < n → ∀ s3 s4 s5 s6 : Option D, ∃ e' s3' s4' s5' s6', f [some (bl n z), some (enc e), some (.int (i : Nat)), s3, s4, s5, s6] = some (.nx [some (bl n z), some (enc e'), some (.int (i : Nat)), s3', s4', s5', s6']) ∧ Lk n (fz z) (fun a b c => P a b c ∨ a = i) e') :
    ∃ e' s2 s3 s4 s5 s6, (cFor (cItA rng1 (evA [(cCall lenD (evA [(cVar 0)]))])) (hName 2) f) [some (bl n z), some (enc 0), none, none, none, none, none] = some (.nx [some (bl n z), some (enc e'), s2, s3, s4, s5, s6]) ∧ Lk n (fz z) (fun _ _ _ => True) e' := by
  obtain ⟨ρ', h1, e', s2', s3', s4', s5', s6', rfl, h2⟩ := loopL_at (b := fun x ρ => (hName 2 x ρ).bind f) (xs := rangeD 0 (n : Int)) (n := 0) (ρ := [some (bl n z), some (enc 0), none, none, none, none, none])
    (I := fun t ρ => ∃ e' s2' s3' s4' s5' s6', ρ = [some (bl n z), some (enc e'), s2', s3', s4', s5', s6'] ∧ Lk n (fz z) (fun a b c => a < t) e')
    (fun t x hx ρ hI => by
      obtain ⟨e1, s21, s31, s41, s51, s61, rfl, h⟩ := hI
      simp only [Nat.zero_add] at h ⊢
      obtain ⟨rfl, ht⟩ := range0_get hx
      obtain ⟨e2, s32, s42, s52, s62, h3, h4⟩ := hf h ht s31 s41 s51 s61
      refine ⟨[some (bl n z), some (enc e2), some (.int (t : Nat)), s32, s42, s52, s62], (by simp only [hName_ap, Option.bind_some, List.set_cons_succ, List.set_cons_zero]; exact h3), e2, _, s32, s42, s52, s62, rfl, h4.mono fun a b c h1 h2 h3 h4 => ?_⟩
      by_cases q : a < t
      · exact .inl q
      · exact .inr (by omega)) ⟨0, none, none, none, none, none, rfl, z1.mono (by decide), fun a b c _ _ _ h => absurd h (Nat.not_lt_zero _), .inl rfl⟩
  refine ⟨e', s2', s3', s4', s5', s6', ?_, h2.mono fun a b c h1 h2 h3 h4 => ?_⟩
  · rw [cFor_ap, itR (n := n) (ρ' := [some (bl n z), some (enc 0), none, none, none, none, none]) (by
      simp only [cCall_ap, evA_cons, evA_nil, cVar_ap, List.getElem?_cons_succ, List.getElem?_cons_zero, Option.getD_some, Option.map_some, Option.bind_some, bl_len])]
    exact h1
  · rw [range0_len]; omega
theorem least_same {n : Nat} {f : Nat → Rat} {e e' : Rat} {o : Option (Nat × Nat × Nat)} (h : Ok n f (fun _ _ _ => True) e o) (h' : Lk n f (fun _ _ _ => True) e') : e' = e := by
  apply Rat.le_antisymm
  · rcases h'.at_ with q | ⟨a, b, c, h1, h2, h3, q⟩
    · rw [q]; exact h.nn
    · rw [q]; exact h.all a b c h1 h2 h3 trivial
  · have he' : 0 ≤ e' := by
      rcases h'.at_ with q | ⟨a, b, c, h1, h2, h3, q⟩
      · rw [q]; exact Rat.le_refl
      · rw [q]; exact ab_nn _
    have := h.at_
    match o, this with
    | none, q => rw [show e = 0 from q]; exact he'
    | some (a, b, c), q => rw [q.2.2.2.1]; exact h'.all a b c q.1 q.2.1 q.2.2.1 trivial
theorem lleast_eq {n : Nat} {z : Nat → Int} (hn : n ≤ 16) (hz : Bz 14 n z) {e : Rat} {o : Option (Nat × Nat × Nat)} (h : Ok n (fz z) (fun _ _ _ => True) e o) : f__law_least [bl n z] = some (enc e, []) := by
  obtain ⟨e', s2, s3, s4, s5, s6, h1, h2⟩ := lloop3 (z := z) hn b__law_least_L3 fun hO _ hi s3 s4 s5 s6 => by
    unfold b__law_least_L3
    exact lloop2 hn b__law_least_L2 (fun hO _ _ hik hk s4 s5 s6 => by
      unfold b__law_least_L2
      exact lloop1 hn b__law_least_L1 (fun hO _ _ _ a b c s5 s6 => lstep hn hz hO a b c s5 s6) hO hik hk s4 s5 s6) hO hi s3 s4 s5 s6
  rw [least_same h h2] at h1
  refine runB_eq (ρ := [some (bl n z), some (enc e), s2, s3, s4, s5, s6]) rfl ?_ rfl
  show b__law_least [some (bl n z), none, none, none, none, none, none] = _
  rw [b__law_least, seq_nx (ρ' := [some (bl n z), some (enc 0), none, none, none, none, none]) rfl, seq_nx h1]
  rfl
end T14
namespace T14
open PySem L2 G
theorem errs_items {n : Nat} {r : Nat → Rat} : itemsD (errL n r) = some ((List.range n).map fun i => enc (r i)) := rfl
theorem sumof_eq (n : Nat) (r : Nat → Rat) (b : Nat) (h : ∀ i, i < n → Sz (r i) b) (hl : (b + 1) * n + 1 ≤ 3000) (hb : b ≤ 3000) : f_sum_of [errL n r] = some (enc (sm n r), []) ∧ Sz (sm n r) ((b + 1) * n + 1) := by
  have hx : ∀ x ∈ (List.range n).map r, Sz x b := fun x hx => by
    obtain ⟨i, hi, rfl⟩ := List.mem_map.mp hx
    exact h i (List.mem_range.mp hi)
  have e := sum_eq ((List.range n).map r) b hx (by simpa using hl) hb
  rw [List.map_map] at e
  refine ⟨e, ?_⟩
  have := Sz.sum hx
  rw [List.length_map, List.length_range] at this
  exact this
theorem squares_eq (s g : Rat) (n : Nat) (z : Nat → Int) {a c b S : Nat} (hs : Sz s a) (hg : Sz g c) (hn : n ≤ 12) (hz : Bz b n z) (hb : 0 < b) (h1 : a ≤ 600) (h2 : c ≤ 600) (h3 : b ≤ 600) (hS : b + (a + (c + 4) + 1) + 1 = S) (hS2 : (S + S + 1) * 12 + 1 ≤ 3000) :
    f_squares [encP s g, bl n z] = some (enc (sq n (fz z) s g), []) ∧ Sz (sq n (fz z) s g) 3000 := by
  obtain ⟨e1, e2⟩ := errors_eq s g n z hs hg (by omega) hz hb (by omega) (by omega) (by omega)
  rw [hS] at e2
  have hl : (S + S + 1) * n + 1 ≤ 3000 := Nat.le_trans (Nat.succ_le_succ (Nat.mul_le_mul_left _ hn)) hS2
  obtain ⟨e3, s3⟩ := sumof_eq n (fun i => res (fz z) s g i * res (fz z) s g i) (S + S) (fun i hi => (e2 i hi).mul (e2 i hi)) hl (by omega)
  refine ⟨?_, s3.mono hl⟩
  refine runB_eq (ρ := [some (encP s g), some (bl n z), none]) rfl ?_ rfl
  show b_squares [some (encP s g), some (bl n z), none] = _
  have e4 : cComp (cIt (cUser f_errors [.v (cVar 0), .v (cVar 1)])) (hName 2) cYes (cUser f_times [.v (cVar 2), .v (cVar 2)]) [2] [some (encP s g), some (bl n z), none] = some (errL n (fun i => res (fz z) s g i * res (fz z) s g i), [some (encP s g), some (bl n z), none]) := by
    rw [comp_ix (G := fun i => enc (res (fz z) s g i)) (F := fun i => enc (res (fz z) s g i * res (fz z) s g i)) (is := List.range n) (by show 2 < 3; decide) (by
      simp only [cIt_ap, cUser_ap, evR_v, evR_nil, cVar_ap, List.getElem?_cons_succ, List.getElem?_cons_zero, Option.getD_some, Option.map_some, Option.bind_some, e1, slotsR_v, slotsR_nil, setOuts_nil, errs_items]) (by simp; omega) fun i hi => ?_]
    · rfl
    · have hi := List.mem_range.mp hi
      have q := times_eq _ _ S S (e2 i hi) (e2 i hi) (by omega) (by omega)
      simp only [cUser_ap, evR_v, evR_nil, cVar_ap, List.set_cons_succ, List.set_cons_zero, List.getElem?_cons_succ, List.getElem?_cons_zero, Option.getD_some, Option.map_some, Option.bind_some, q, slotsR_v, slotsR_nil, setOuts_nil]
  rw [b_squares, cRet_ap, cUser_ap, evR_v, e4]
  simp only [evR_nil, Option.map_some, Option.bind_some, e3, slotsR_v, slotsR_nil, setOuts_nil]
  rfl
/-! ### whole sums -/
def is (n : Nat) (F : Nat → Int) : Int := ((List.range n).map F).sum
theorem is_succ (n : Nat) (F : Nat → Int) : is (n + 1) F = is n F + F n := by
  unfold is
  rw [List.range_succ, List.map_append, List.sum_append]
  simp
theorem is_cast (n : Nat) (F : Nat → Int) : ((is n F : Int) : Rat) = sm n (fun i => (F i : Rat)) := by
  induction n with
  | zero => rfl
  | succ n ih => rw [is_succ, sm_succ, Rat.intCast_add, ih]
theorem is_le {F : Nat → Int} {c : Nat} : ∀ {n : Nat}, (∀ i, i < n → (F i).natAbs ≤ c) → (is n F).natAbs ≤ n * c
  | 0, _ => by simp [is]
  | n + 1, h => by
    have h1 := is_le (n := n) fun i hi => h i (by omega)
    have h2 := h n (by omega)
    rw [is_succ, Nat.succ_mul]
    omega
def p1 (n : Nat) : Int := is n fun i => (i : Int)
def p2 (n : Nat) : Int := is n fun i => (i : Int) * i
theorem p1_cast (n : Nat) : ((p1 n : Int) : Rat) = P1 n := by
  rw [p1, is_cast]
  exact sm_congr fun i _ => Rat.intCast_natCast i
theorem p2_cast (n : Nat) : ((p2 n : Int) : Rat) = P2 n := by
  rw [p2, is_cast]
  exact sm_congr fun i _ => by rw [Rat.intCast_mul, Rat.intCast_natCast]
theorem p1_two (n : Nat) : 2 * p1 n = (n : Int) * (n - 1) := by
  unfold p1
  induction n with
  | zero => rfl
  | succ n ih => rw [is_succ, Int.mul_add, ih]; push_cast; grind
theorem p2_six (n : Nat) : 6 * p2 n = ((n : Int) - 1) * n * (2 * n - 1) := by
  unfold p2
  induction n with
  | zero => rfl
  | succ n ih => rw [is_succ, Int.mul_add, ih]; push_cast; grind
theorem is_sumD (n : Nat) (F : Nat → Int) : sumD [.lst ((List.range n).map fun i => .int (F i))] = some (.int (is n F)) := by
  show (intsD _).map _ = _
  rw [intsD_map]
  rfl
theorem sumR_eq {g : Gx} {ρ ρ' : G.Env} {n : Nat} (h : g ρ = some (.int (n : Nat), ρ')) (hn : n ≤ 1000) : cSumR (cItA rng1 (evA [g])) ρ = some (.int (p1 n), ρ') := by
  unfold cSumR
  rw [itR h (by omega), Option.bind_some, rangeD_nat, intsD_map, Option.bind_some, if_pos]
  · rfl
  · constructor
    · simp; omega
    · rw [List.all_eq_true]
      intro x hx
      obtain ⟨i, hi, rfl⟩ := List.mem_map.mp hx
      have := List.mem_range.mp hi
      simp only [decide_eq_true_eq]
      omega
/-- the line of least squares, told -/
def FS (n : Nat) (z : Nat → Int) : Rat := if n < 2 then fz z 0 else fs n (fz z)
def FG (n : Nat) (z : Nat → Int) : Rat := if n < 2 then 0 else fg n (fz z)
def tot (n : Nat) (z : Nat → Int) : Int := is n z
def mom (n : Nat) (z : Nat → Int) : Int := is n fun i => (i : Int) * z i
theorem small_p (n : Nat) (hn : n ≤ 12) : (p1 n).natAbs ≤ 144 ∧ (p2 n).natAbs ≤ 1728 := by
  have h1 := is_le (F := fun i => (i : Int)) (c := 12) (n := n) fun i hi => by omega
  have h2 := is_le (F := fun i => (i : Int) * i) (c := 144) (n := n) fun i hi => by
    rw [Int.natAbs_mul, Int.natAbs_natCast]
    exact Nat.mul_le_mul (by omega : i ≤ 12) (by omega : i ≤ 12)
  have a1 : n * 12 ≤ 12 * 12 := Nat.mul_le_mul_right _ hn
  have a2 : n * 144 ≤ 12 * 144 := Nat.mul_le_mul_right _ hn
  unfold p1 p2
  omega
theorem small_t {n : Nat} {z : Nat → Int} (hn : n ≤ 12) (hz : Bz 14 n z) : (tot n z).natAbs ≤ 200000 ∧ (mom n z).natAbs ≤ 2400000 := by
  have h1 := is_le (F := z) (c := 16384) (n := n) fun i hi => by have := hz i hi; omega
  have h2 := is_le (F := fun i => (i : Int) * z i) (c := 12 * 16384) (n := n) fun i hi => by
    rw [Int.natAbs_mul, Int.natAbs_natCast]
    exact Nat.mul_le_mul (by omega : i ≤ 12) (by have := hz i hi; omega)
  have a1 : n * 16384 ≤ 12 * 16384 := Nat.mul_le_mul_right _ hn
  have a2 : n * (12 * 16384) ≤ 12 * (12 * 16384) := Nat.mul_le_mul_right _ hn
  unfold tot mom
  omega
structure Fit (n : Nat) (z : Nat → Int) : Prop where
  m1 : mulD (.int (n : Nat)) (.int (mom n z)) = some (.int ((n : Int) * mom n z))
  m2 : mulD (.int (p1 n)) (.int (tot n z)) = some (.int (p1 n * tot n z))
  m3 : mulD (.int (n : Nat)) (.int (p2 n)) = some (.int ((n : Int) * p2 n))
  m4 : mulD (.int (p1 n)) (.int (p1 n)) = some (.int (p1 n * p1 n))
  f1 : f_frac [.int ((n : Int) * mom n z - p1 n * tot n z), .int ((n : Int) * p2 n - p1 n * p1 n)] = some (enc (fg n (fz z)), [])
  f2 : f_frac [.int (tot n z), .int 1] = some (enc (sm n (fz z)), [])
  f3 : f_frac [.int (p1 n), .int 1] = some (enc (P1 n), [])
  f4 : f_times [enc (fg n (fz z)), enc (P1 n)] = some (enc (fg n (fz z) * P1 n), [])
  f5 : f_minus [enc (sm n (fz z)), enc (fg n (fz z) * P1 n)] = some (enc (sm n (fz z) - fg n (fz z) * P1 n), [])
  f6 : f_frac [.int (n : Nat), .int 1] = some (enc (n : Rat), [])
  f7 : f_over [enc (sm n (fz z) - fg n (fz z) * P1 n), enc (n : Rat)] = some (enc (fs n (fz z)), [])
  sg : Sz (fg n (fz z)) 27
  ss : Sz (fs n (fz z)) 58
theorem fit_mk {n : Nat} {z : Nat → Int} (h2 : 2 ≤ n) (hn : n ≤ 12) (hz : Bz 14 n z) : Fit n z := by
  obtain ⟨a1, a2⟩ := small_p n hn
  obtain ⟨b1, b2⟩ := small_t hn hz
  have c1 : ((tot n z : Int) : Rat) = sm n (fz z) := is_cast n z
  have c2 : ((mom n z : Int) : Rat) = sm n (fun i => (i : Rat) * fz z i) := by
    rw [mom, is_cast]
    exact sm_congr fun i _ => by rw [Rat.intCast_mul, Rat.intCast_natCast]
  have d1 : (((n : Int) * mom n z - p1 n * tot n z : Int) : Rat) = n * sm n (fun i => (i : Rat) * fz z i) - P1 n * sm n (fz z) := by
    rw [Rat.intCast_sub, Rat.intCast_mul, Rat.intCast_mul, Rat.intCast_natCast, c1, c2, p1_cast]
  have d2 : (((n : Int) * p2 n - p1 n * p1 n : Int) : Rat) = Dt n := by
    rw [Rat.intCast_sub, Rat.intCast_mul, Rat.intCast_mul, Rat.intCast_natCast, p1_cast, p2_cast]
    rfl
  have hd := Dt_pos (show 1 < n by omega)
  have nz : (n : Int) * p2 n - p1 n * p1 n ≠ 0 := fun q => by
    rw [q] at d2
    rw [← d2] at hd
    exact absurd hd (by decide)
  have k1 : ((n : Int) * mom n z).natAbs ≤ 12 * 2400000 := by rw [Int.natAbs_mul, Int.natAbs_natCast]; exact Nat.mul_le_mul hn b2
  have k2 : (p1 n * tot n z).natAbs ≤ 144 * 200000 := by rw [Int.natAbs_mul]; exact Nat.mul_le_mul a1 b1
  have k3 : ((n : Int) * p2 n).natAbs ≤ 12 * 1728 := by rw [Int.natAbs_mul, Int.natAbs_natCast]; exact Nat.mul_le_mul hn a2
  have k4 : (p1 n * p1 n).natAbs ≤ 144 * 144 := by rw [Int.natAbs_mul]; exact Nat.mul_le_mul a1 a1
  have f1 := fracq ((n : Int) * mom n z - p1 n * tot n z) ((n : Int) * p2 n - p1 n * p1 n) 27 nz (by omega)
  have sg := Sz.frac (p := (n : Int) * mom n z - p1 n * tot n z) (q := (n : Int) * p2 n - p1 n * p1 n) (b := 27) nz (by omega) (by omega)
  rw [d1, d2] at f1 sg
  have f1 : _ = some (enc (fg n (fz z)), []) := f1
  have sg : Sz (fg n (fz z)) 27 := sg
  have f2 := frac1 (tot n z)
  have f3 := frac1 (p1 n)
  rw [c1] at f2
  rw [p1_cast] at f3
  have sP : Sz (P1 n) 8 := by rw [← p1_cast]; exact Sz.int (by omega)
  have sT : Sz (sm n (fz z)) 18 := by rw [← c1]; exact Sz.int (by omega)
  have sN : Sz (n : Rat) 4 := Sz.nat (by omega)
  have f4 := times_eq _ _ 27 8 sg sP
  have f5 := minus_eq _ _ 18 35 sT (sg.mul sP)
  have s5 := sT.sub (sg.mul sP)
  have n0 : ((n : Rat)).num ≠ 0 := by rw [Rat.num_natCast]; omega
  have f7 := over_eq _ _ 54 4 s5 sN n0
  refine ⟨mulD_lt 10 30 (by omega) (by omega), mulD_lt 10 30 (by omega) (by omega), mulD_lt 10 30 (by omega) (by omega), mulD_lt 10 30 (by omega) (by omega), f1, f2, f3, f4, f5, frac1n n, f7, sg, ?_⟩
  have e1 : fs n (fz z) = (sm n (fz z) - fg n (fz z) * P1 n) * (((1 : Int) : Rat) / ((n : Int) : Rat)) := by
    rw [Rat.intCast_natCast, show ((1 : Int) : Rat) = 1 from rfl, fs, Rat.div_def, Rat.div_def]
    grind
  rw [e1]
  exact (s5.mul (Sz.frac (p := 1) (q := (n : Int)) (b := 4) (by omega) (by decide) (by omega))).mono (by decide)
theorem FS_sz {n : Nat} {z : Nat → Int} (h1 : 1 ≤ n) (hn : n ≤ 12) (hz : Bz 14 n z) : Sz (FS n z) 58 ∧ Sz (FG n z) 27 := by
  unfold FS FG
  by_cases h : n < 2
  · rw [if_pos h, if_pos h]
    exact ⟨(Sz.int (hz 0 (by omega))).mono (by decide), z1.mono (by decide)⟩
  · rw [if_neg h, if_neg h]
    have F := fit_mk (by omega) hn hz
    exact ⟨F.ss, F.sg⟩
theorem least_eq {n : Nat} {z : Nat → Int} (h1 : 1 ≤ n) (hn : n ≤ 12) (hz : Bz 14 n z) : f_least_squares [bl n z] = some (encP (FS n z) (FG n z), []) := by
  have x0 : ixD (bl n z) (.int 0) = _ := bl_ix (z := z) (show 0 < n by omega)
  unfold FS FG
  by_cases h : n < 2
  · rw [if_pos h, if_pos h]
    have hi : (n : Int) < 2 := by omega
    have f0 := frac1 (z 0)
    refine runB_eq (ρ := [some (bl n z), some (.int (n : Nat)), none, none, none, none, none, none, none, none]) rfl ?_ rfl
    show b_least_squares [some (bl n z), none, none, none, none, none, none, none, none, none] = _
    rw [b_least_squares, seq_nx (ρ' := [some (bl n z), some (.int (n : Nat)), none, none, none, none, none, none, none, none]) (by
      simp only [cSet_ap, cCall_ap, evA_cons, evA_nil, cVar_ap, List.getElem?_cons_zero, Option.getD_some, Option.map_some, Option.bind_some, bl_len, List.set_cons_succ, List.set_cons_zero]), cSeq_ap, if_yes (ρ' := [some (bl n z), some (.int (n : Nat)), none, none, none, none, none, none, none, none]) (by
      simp only [cTest_ap, cOp_ap, cVar_ap, cK_ap, List.getElem?_cons_succ, List.getElem?_cons_zero, Option.getD_some, Option.map_some, Option.bind_some, ltD_int, truthB_bl, decide_eq_true hi])]
    simp only [cRet_ap, cTup_ap, evA_cons, evA_nil, cUser_ap, evR_v, evR_nil, cOp_ap, cVar_ap, cK_ap, List.getElem?_cons_zero, Option.getD_some, Option.map_some, Option.bind_some, x0, f0, slotsR_v, slotsR_nil, setOuts_nil]
    rfl
  · rw [if_neg h, if_neg h]
    have hi : ¬ (n : Int) < 2 := by omega
    have F := fit_mk (z := z) (by omega) hn hz
    have q1 := is_sumD n (fun i => (i : Int) * i)
    have q2 : sumD [bl n z] = some (.int (tot n z)) := is_sumD n z
    have q3 := is_sumD n (fun i => (i : Int) * z i)
    refine runB_eq (ρ := [some (bl n z), some (.int (n : Nat)), some (.int (p1 n)), some (.int (p2 n)), none, some (.int (tot n z)), some (.int (mom n z)), none, some (enc (fg n (fz z))), some (enc (fs n (fz z)))]) rfl ?_ rfl
    show b_least_squares [some (bl n z), none, none, none, none, none, none, none, none, none] = _
    rw [b_least_squares, seq_nx (ρ' := [some (bl n z), some (.int (n : Nat)), none, none, none, none, none, none, none, none]) (by
      simp only [cSet_ap, cCall_ap, evA_cons, evA_nil, cVar_ap, List.getElem?_cons_zero, Option.getD_some, Option.map_some, Option.bind_some, bl_len, List.set_cons_succ, List.set_cons_zero]), seq_nx (ρ' := [some (bl n z), some (.int (n : Nat)), none, none, none, none, none, none, none, none]) (if_nil (by
      simp only [cTest_ap, cOp_ap, cVar_ap, cK_ap, List.getElem?_cons_succ, List.getElem?_cons_zero, Option.getD_some, Option.map_some, Option.bind_some, ltD_int, truthB_bl, decide_eq_false hi])),
      seq_nx (ρ' := [some (bl n z), some (.int (n : Nat)), some (.int (p1 n)), none, none, none, none, none, none, none]) (by rw [cSet_ap, sumR_eq (n := n) rfl (by omega)]; rfl),
      seq_nx (ρ' := [some (bl n z), some (.int (n : Nat)), some (.int (p1 n)), some (.int (p2 n)), none, none, none, none, none, none]) (by
        rw [cSet_ap, cCall_ap, evA_cons, comp_ix (G := fun (i : Nat) => D.int (i : Int)) (F := fun (i : Nat) => D.int ((i : Int) * i)) (is := List.range n) (by show 4 < 10; decide) (itRm (n := n) rfl (by omega)) (by simp; omega) (fun i hi => by
          have hi := List.mem_range.mp hi
          have m := mulD_lt (i := (i : Int)) (j := (i : Int)) 10 10 (by omega) (by omega)
          simp only [cOp_ap, cVar_ap, List.set_cons_succ, List.set_cons_zero, List.getElem?_cons_succ, List.getElem?_cons_zero, Option.getD_some, Option.map_some, Option.bind_some, m])]
        simp only [evA_nil, Option.map_some, Option.bind_some, q1]
        rfl),
      seq_nx (ρ' := [some (bl n z), some (.int (n : Nat)), some (.int (p1 n)), some (.int (p2 n)), none, some (.int (tot n z)), none, none, none, none]) (by
        simp only [cSet_ap, cCall_ap, evA_cons, evA_nil, cVar_ap, List.getElem?_cons_zero, Option.getD_some, Option.map_some, Option.bind_some, q2, List.set_cons_succ, List.set_cons_zero]),
      seq_nx (ρ' := [some (bl n z), some (.int (n : Nat)), some (.int (p1 n)), some (.int (p2 n)), none, some (.int (tot n z)), some (.int (mom n z)), none, none, none]) (by
        rw [cSet_ap, cCall_ap, evA_cons, comp_pair (a := 4) (b := 7) (G := fun i => .int (z i)) (F := fun i j => .int ((i : Int) * z j)) (is := List.range n) (d := bl n z) (by decide) (by show 4 < 10; decide) (by show 7 < 10; decide) rfl bl_items (by simp; omega) (fun i x hx => by
          have hi : i < n := by
            have := (List.getElem?_eq_some_iff.mp hx).1
            simpa using this
          have : x = i := by
            rw [List.getElem?_range hi] at hx
            exact (Option.some.inj hx).symm
          subst this
          have m := mulD_lt (i := (x : Int)) (j := z x) 10 20 (by omega) (by have := hz x hi; omega)
          simp only [cOp_ap, cVar_ap, List.set_cons_succ, List.set_cons_zero, List.getElem?_cons_succ, List.getElem?_cons_zero, Option.getD_some, Option.map_some, Option.bind_some, m])]
        rw [mapIdx_range]
        simp only [evA_nil, Option.map_some, Option.bind_some, q3]
        rfl),
      seq_nx (ρ' := [some (bl n z), some (.int (n : Nat)), some (.int (p1 n)), some (.int (p2 n)), none, some (.int (tot n z)), some (.int (mom n z)), none, some (enc (fg n (fz z))), none]) (by
        simp only [cSet_ap, cUser_ap, evR_v, evR_nil, cOp_ap, cVar_ap, List.getElem?_cons_succ, List.getElem?_cons_zero, Option.getD_some, Option.map_some, Option.bind_some, F.m1, F.m2, F.m3, F.m4, subD_int, F.f1, slotsR_v, slotsR_nil, setOuts_nil, List.set_cons_succ, List.set_cons_zero]),
      seq_nx (ρ' := [some (bl n z), some (.int (n : Nat)), some (.int (p1 n)), some (.int (p2 n)), none, some (.int (tot n z)), some (.int (mom n z)), none, some (enc (fg n (fz z))), some (enc (fs n (fz z)))]) (by
        simp only [cSet_ap, cUser_ap, evR_v, evR_nil, cVar_ap, cK_ap, List.getElem?_cons_succ, List.getElem?_cons_zero, Option.getD_some, Option.map_some, Option.bind_some, F.f2, F.f3, F.f4, F.f5, F.f6, F.f7, slotsR_v, slotsR_nil, setOuts_nil, List.set_cons_succ, List.set_cons_zero])]
    rfl
theorem lfit_eq {n : Nat} {z : Nat → Int} (h1 : 1 ≤ n) (hn : n ≤ 12) (hz : Bz 14 n z) : f__law_fit [bl n z] = some (encP (FS n z) (FG n z), []) := by
  have x0 : ixD (bl n z) (.int 0) = _ := bl_ix (z := z) (show 0 < n by omega)
  unfold FS FG
  by_cases h : n < 2
  · rw [if_pos h, if_pos h]
    have hi : (n : Int) = 1 := by omega
    have f0 := frac1 (z 0)
    refine runB_eq (ρ := [some (bl n z), some (.int (n : Nat)), none, none, none, none, none, none, none]) rfl ?_ rfl
    show b__law_fit [some (bl n z), none, none, none, none, none, none, none, none] = _
    rw [b__law_fit, seq_nx (ρ' := [some (bl n z), some (.int (n : Nat)), none, none, none, none, none, none, none]) (by
      simp only [cSet_ap, cCall_ap, evA_cons, evA_nil, cVar_ap, List.getElem?_cons_zero, Option.getD_some, Option.map_some, Option.bind_some, bl_len, List.set_cons_succ, List.set_cons_zero]), cSeq_ap, if_yes (ρ' := [some (bl n z), some (.int (n : Nat)), none, none, none, none, none, none, none]) (by
      simp only [cTest_ap, cOp_ap, cVar_ap, cK_ap, List.getElem?_cons_succ, List.getElem?_cons_zero, Option.getD_some, Option.map_some, Option.bind_some, eqD_int, truthB_bl, decide_eq_true hi])]
    simp only [cRet_ap, cTup_ap, evA_cons, evA_nil, cUser_ap, evR_v, evR_nil, cOp_ap, cVar_ap, cK_ap, List.getElem?_cons_zero, Option.getD_some, Option.map_some, Option.bind_some, x0, f0, slotsR_v, slotsR_nil, setOuts_nil]
    rfl
  · rw [if_neg h, if_neg h]
    have hi : ¬ (n : Int) = 1 := by omega
    have F := fit_mk (z := z) (by omega) hn hz
    have q2 : sumD [bl n z] = some (.int (tot n z)) := is_sumD n z
    have q3 := is_sumD n (fun i => (i : Int) * z i)
    have g1 : mulD (.int (n : Nat)) (.int ((n : Int) - 1)) = some (.int (2 * p1 n)) := by rw [p1_two]; exact mulD_lt 10 10 (by omega) (by omega)
    have g2 : fdivD (.int (2 * p1 n)) (.int 2) = some (.int (p1 n)) := by
      rw [fdivD_int (by decide) (by decide), Int.mul_ediv_cancel_left _ (by decide)]
    have g3 : mulD (.int ((n : Int) - 1)) (.int (n : Nat)) = some (.int (((n : Int) - 1) * n)) := mulD_lt 10 10 (by omega) (by omega)
    have g4 : mulD (.int 2) (.int (n : Nat)) = some (.int (2 * (n : Int))) := mulD_lt 10 10 (by omega) (by omega)
    have g5 : mulD (.int (((n : Int) - 1) * n)) (.int (2 * (n : Int) - 1)) = some (.int (6 * p2 n)) := by
      rw [p2_six]
      refine mulD_lt 20 10 ?_ (by omega)
      rw [Int.natAbs_mul, Int.natAbs_natCast]
      exact Nat.lt_of_le_of_lt (Nat.mul_le_mul (by omega : ((n : Int) - 1).natAbs ≤ 12) hn) (by decide)
    have g6 : fdivD (.int (6 * p2 n)) (.int 6) = some (.int (p2 n)) := by
      rw [fdivD_int (by decide) (by decide), Int.mul_ediv_cancel_left _ (by decide)]
    refine runB_eq (ρ := [some (bl n z), some (.int (n : Nat)), some (.int (tot n z)), some (.int (mom n z)), none, some (.int (p1 n)), some (.int (p2 n)), some (enc (fg n (fz z))), some (enc (fs n (fz z)))]) rfl ?_ rfl
    show b__law_fit [some (bl n z), none, none, none, none, none, none, none, none] = _
    rw [b__law_fit, seq_nx (ρ' := [some (bl n z), some (.int (n : Nat)), none, none, none, none, none, none, none]) (by
      simp only [cSet_ap, cCall_ap, evA_cons, evA_nil, cVar_ap, List.getElem?_cons_zero, Option.getD_some, Option.map_some, Option.bind_some, bl_len, List.set_cons_succ, List.set_cons_zero]), seq_nx (ρ' := [some (bl n z), some (.int (n : Nat)), none, none, none, none, none, none, none]) (if_nil (by
      simp only [cTest_ap, cOp_ap, cVar_ap, cK_ap, List.getElem?_cons_succ, List.getElem?_cons_zero, Option.getD_some, Option.map_some, Option.bind_some, eqD_int, truthB_bl, decide_eq_false hi])),
      seq_nx (ρ' := [some (bl n z), some (.int (n : Nat)), some (.int (tot n z)), none, none, none, none, none, none]) (by
        simp only [cSet_ap, cCall_ap, evA_cons, evA_nil, cVar_ap, List.getElem?_cons_zero, Option.getD_some, Option.map_some, Option.bind_some, q2, List.set_cons_succ, List.set_cons_zero]),
      seq_nx (ρ' := [some (bl n z), some (.int (n : Nat)), some (.int (tot n z)), some (.int (mom n z)), none, none, none, none, none]) (by
        rw [cSet_ap, cCall_ap, evA_cons, comp_ix (G := fun (i : Nat) => D.int (i : Int)) (F := fun (i : Nat) => D.int ((i : Int) * z i)) (is := List.range n) (by show 4 < 9; decide) (itRm (n := n) rfl (by omega)) (by simp; omega) (fun i hi => by
          have hi := List.mem_range.mp hi
          have m := mulD_lt (i := (i : Int)) (j := z i) 10 20 (by omega) (by have := hz i hi; omega)
          simp only [cOp_ap, cVar_ap, List.set_cons_succ, List.set_cons_zero, List.getElem?_cons_succ, List.getElem?_cons_zero, Option.getD_some, Option.map_some, Option.bind_some, bl_ix hi, m])]
        simp only [evA_nil, Option.map_some, Option.bind_some, q3]
        rfl),
      seq_nx (ρ' := [some (bl n z), some (.int (n : Nat)), some (.int (tot n z)), some (.int (mom n z)), none, some (.int (p1 n)), none, none, none]) (by
        simp only [cSet_ap, cOp_ap, cVar_ap, cK_ap, List.getElem?_cons_succ, List.getElem?_cons_zero, Option.getD_some, Option.map_some, Option.bind_some, subD_int, g1, g2, List.set_cons_succ, List.set_cons_zero]),
      seq_nx (ρ' := [some (bl n z), some (.int (n : Nat)), some (.int (tot n z)), some (.int (mom n z)), none, some (.int (p1 n)), some (.int (p2 n)), none, none]) (by
        simp only [cSet_ap, cOp_ap, cVar_ap, cK_ap, List.getElem?_cons_succ, List.getElem?_cons_zero, Option.getD_some, Option.map_some, Option.bind_some, subD_int, g3, g4, g5, g6, List.set_cons_succ, List.set_cons_zero]),
      seq_nx (ρ' := [some (bl n z), some (.int (n : Nat)), some (.int (tot n z)), some (.int (mom n z)), none, some (.int (p1 n)), some (.int (p2 n)), some (enc (fg n (fz z))), none]) (by
        simp only [cSet_ap, cUser_ap, evR_v, evR_nil, cOp_ap, cVar_ap, List.getElem?_cons_succ, List.getElem?_cons_zero, Option.getD_some, Option.map_some, Option.bind_some, F.m1, F.m2, F.m3, F.m4, subD_int, F.f1, slotsR_v, slotsR_nil, setOuts_nil, List.set_cons_succ, List.set_cons_zero]),
      seq_nx (ρ' := [some (bl n z), some (.int (n : Nat)), some (.int (tot n z)), some (.int (mom n z)), none, some (.int (p1 n)), some (.int (p2 n)), some (enc (fg n (fz z))), some (enc (fs n (fz z)))]) (by
        simp only [cSet_ap, cUser_ap, evR_v, evR_nil, cVar_ap, cK_ap, List.getElem?_cons_succ, List.getElem?_cons_zero, Option.getD_some, Option.map_some, Option.bind_some, F.f2, F.f3, F.f4, F.f5, F.f6, F.f7, slotsR_v, slotsR_nil, setOuts_nil, List.set_cons_succ, List.set_cons_zero])]
    rfl
end T14
namespace T14
open PySem L2 G
@[simp] theorem eqD_enc {x y : Rat} : eqD (enc x) (enc y) = some (.bl (decide (x = y))) := by
  unfold eqD
  rw [if_pos ⟨shp_enc, shp_enc⟩, eqv_enc]
theorem encP_inj {s g s' g' : Rat} : encP s g = encP s' g' ↔ s = s' ∧ g = g' := by
  unfold encP
  rw [D.tup.injEq, List.cons.injEq, List.cons.injEq, enc_inj, enc_inj]
  simp
theorem neD_encP {s g s' g' : Rat} : neD (encP s g) (encP s' g') = some (.bl (decide (¬ (s = s' ∧ g = g')))) := by
  by_cases h : s = s' ∧ g = g'
  · obtain ⟨rfl, rfl⟩ := h
    rw [(encP_pl s g).ne0]; simp
  · unfold neD
    rw [if_pos ⟨(encP_pl _ _).shp, (encP_pl _ _).shp⟩, eqv_ne (encP_pl _ _).nb (encP_pl _ _).nb fun z => h (encP_inj.mp z)]
    simp [h]
theorem errL_pl (n : Nat) (r : Nat → Rat) : Pl (errL n r) 2 := Pl.lst fun d hd => by obtain ⟨i, _, rfl⟩ := List.mem_map.mp hd; exact enc_pl _
theorem errL_ne {n : Nat} {r r' : Nat → Rat} (h : ∀ i, i < n → r i = r' i) : neD (errL n r) (errL n r') = some (.bl false) := by
  have : errL n r = errL n r' := by
    unfold errL
    congr 1
    exact List.map_congr_left fun i hi => by rw [h i (List.mem_range.mp hi)]
  rw [this]
  exact (errL_pl n r').ne0
section
variable {n : Nat} {z : Nat → Int} {s g e : Rat} {a c b : Nat}
theorem je_bad (hs : Sz s a) (hg : Sz g c) (hn : n ≤ 16) (hz : Bz b n z) (hb : 0 < b) (h1 : a ≤ 600) (h2 : c ≤ 600) (h3 : b ≤ 600) (h : mx n (res (fz z) s g) ≠ e) (o : D) : f_judge_evenest [bl n z, encP s g, enc e, o] = some (.bl false, []) := by
  have w := worst_eq s g n z hs hg hn hz hb h1 h2 h3
  refine runB_eq (ρ := [some (bl n z), some (encP s g), some (enc e), some o, none, none, none]) rfl ?_ rfl
  show b_judge_evenest [some (bl n z), some (encP s g), some (enc e), some o, none, none, none] = _
  rw [b_judge_evenest, cSeq_ap, if_yes (ρ' := [some (bl n z), some (encP s g), some (enc e), some o, none, none, none]) (by
    simp only [cTest_ap, cOp_ap, cUser_ap, evR_v, evR_nil, cVar_ap, List.getElem?_cons_succ, List.getElem?_cons_zero, Option.getD_some, Option.map_some, Option.bind_some, w, neD_enc, truthB_bl, slotsR_v, slotsR_nil, setOuts_nil, decide_eq_true h])]
  rfl
theorem je_none (hs : Sz s a) (hg : Sz g c) (hn : n ≤ 16) (hz : Bz b n z) (hb : 0 < b) (h1 : a ≤ 600) (h2 : c ≤ 600) (h3 : b ≤ 600) (h : mx n (res (fz z) s g) = e) : f_judge_evenest [bl n z, encP s g, enc e, .non] = some (.bl (decide (e = 0)), []) := by
  have w := worst_eq s g n z hs hg hn hz hb h1 h2 h3
  rw [h] at w
  refine runB_eq (ρ := [some (bl n z), some (encP s g), some (enc e), some .non, none, none, none]) rfl ?_ rfl
  show b_judge_evenest [some (bl n z), some (encP s g), some (enc e), some .non, none, none, none] = _
  rw [b_judge_evenest, seq_nx (ρ' := [some (bl n z), some (encP s g), some (enc e), some .non, none, none, none]) (if_nil (by
    simp only [cTest_ap, cOp_ap, cUser_ap, evR_v, evR_nil, cVar_ap, List.getElem?_cons_succ, List.getElem?_cons_zero, Option.getD_some, Option.map_some, Option.bind_some, w, neD_enc, truthB_bl, slotsR_v, slotsR_nil, setOuts_nil, ne_eq, not_true_eq_false, decide_false])), cSeq_ap, if_yes (ρ' := [some (bl n z), some (encP s g), some (enc e), some .non, none, none, none]) rfl]
  simp only [cRet_ap, cOp_ap, cVar_ap, cK_ap, cnil, List.getElem?_cons_succ, List.getElem?_cons_zero, Option.getD_some, Option.map_some, Option.bind_some, eqD_enc]
theorem je_some (hs : Sz s a) (hg : Sz g c) (hn : n ≤ 16) (hz : Bz 14 n z) (h1 : a ≤ 600) (h2 : c ≤ 600) (h : mx n (res (fz z) s g) = e) {i j k : Nat} (hij : i < j) (hjk : j < k) (hk : k < n) (he : e = ab (trip (fz z) i j k)) :
    f_judge_evenest [bl n z, encP s g, enc e, encO (some (i, j, k))] = some (.bl true, []) := by
  have w := worst_eq s g n z hs hg hn hz (by decide) h1 h2 (by decide)
  rw [h] at w
  obtain ⟨t1, t2, _, _⟩ := triple_eq n z hij hjk hk hn hz (by decide) (by decide)
  have q1 := amount_eq _ t2 (by decide)
  have a1 : (i : Int) < j := by omega
  have a2 : (j : Int) < k := by omega
  have a3 : (k : Int) < n := by omega
  have a0 : (0 : Int) ≤ i := by omega
  refine runB_eq (ρ := [some (bl n z), some (encP s g), some (enc e), some (encO (some (i, j, k))), some (.int (i : Nat)), some (.int (j : Nat)), some (.int (k : Nat))]) rfl ?_ rfl
  show b_judge_evenest [some (bl n z), some (encP s g), some (enc e), some (encO (some (i, j, k))), none, none, none] = _
  rw [b_judge_evenest, seq_nx (ρ' := [some (bl n z), some (encP s g), some (enc e), some (encO (some (i, j, k))), none, none, none]) (if_nil (by
    simp only [cTest_ap, cOp_ap, cUser_ap, evR_v, evR_nil, cVar_ap, List.getElem?_cons_succ, List.getElem?_cons_zero, Option.getD_some, Option.map_some, Option.bind_some, w, neD_enc, truthB_bl, slotsR_v, slotsR_nil, setOuts_nil, ne_eq, not_true_eq_false, decide_false])), seq_nx (ρ' := [some (bl n z), some (encP s g), some (enc e), some (encO (some (i, j, k))), none, none, none]) (if_nil rfl), seq_nx (ρ' := [some (bl n z), some (encP s g), some (enc e), some (encO (some (i, j, k))), some (.int (i : Nat)), some (.int (j : Nat)), some (.int (k : Nat))]) rfl, seq_nx (ρ' := [some (bl n z), some (encP s g), some (enc e), some (encO (some (i, j, k))), some (.int (i : Nat)), some (.int (j : Nat)), some (.int (k : Nat))]) (if_nil (by
    simp only [cNot_ap, cTest_ap, cChain_ap, chainS_cons, chainS_one, cCall_ap, evA_cons, evA_nil, cVar_ap, cK_ap, List.getElem?_cons_succ, List.getElem?_cons_zero, Option.getD_some, Option.map_some, Option.bind_some, bl_len, leD_int, ltD_int, truthB_bl, decide_eq_true a0, decide_eq_true a1, decide_eq_true a2, decide_eq_true a3, if_true, Bool.not_true]))]
  simp only [cRet_ap, cOp_ap, cUser_ap, evR_v, evR_nil, cVar_ap, List.getElem?_cons_succ, List.getElem?_cons_zero, Option.getD_some, Option.map_some, Option.bind_some, t1, q1, slotsR_v, slotsR_nil, setOuts_nil, eqD_enc, he, decide_true]
theorem js_two (hs : Sz s a) (hg : Sz g c) (hn2 : 2 ≤ n) (hn : n ≤ 12) (hz : Bz 14 n z) (h1 : a ≤ 80) (h2 : c ≤ 40) :
    f_judge_squares [bl n z, encP s g] = some (.bl (decide (sm n (res (fz z) s g) = 0 ∧ sm n (fun i => (i : Rat) * res (fz z) s g i) = 0)), []) := by
  obtain ⟨e1, e2⟩ := errors_eq s g n z hs hg (by omega) hz (by decide) (by omega) (by omega) (by omega)
  have e2 : ∀ i, i < n → Sz (res (fz z) s g i) 140 := fun i hi => (e2 i hi).mono (by omega)
  obtain ⟨e3, _⟩ := sumof_eq n _ 140 e2 (by omega) (by decide)
  obtain ⟨e4, _⟩ := sumof_eq n (fun i => res (fz z) s g i * (i : Rat)) 144 (fun i hi => (e2 i hi).mul (Sz.nat (b := 4) (by omega))) (by omega) (by decide)
  have e5 : sm n (fun i => res (fz z) s g i * (i : Rat)) = sm n (fun i => (i : Rat) * res (fz z) s g i) := sm_congr fun i _ => Rat.mul_comm _ _
  rw [e5] at e4
  have hi : ¬ (n : Int) < 2 := by omega
  have e6 : cComp (cEn (cVar 2)) (hTup 2 (hCons (hName 3) (hCons (hName 4) hNil))) cYes (cUser f_times [.v (cVar 4), .v (cUser f_frac [.v (cVar 3), .v (cK (D.int 1))])]) [3, 4] [some (bl n z), some (encP s g), some (errL n (res (fz z) s g)), none, none] = some (errL n (fun i => res (fz z) s g i * (i : Rat)), [some (bl n z), some (encP s g), some (errL n (res (fz z) s g)), none, none]) := by
    rw [comp_pair (a := 3) (b := 4) (G := fun i => enc (res (fz z) s g i)) (F := fun i j => enc (res (fz z) s g j * (i : Rat))) (is := List.range n) (d := errL n (res (fz z) s g)) (by decide) (by show 3 < 5; decide) (by show 4 < 5; decide) rfl errs_items (by simp; omega) (fun i x hx => by
      have hi : i < n := by
        have := (List.getElem?_eq_some_iff.mp hx).1
        simpa using this
      have : x = i := by
        rw [List.getElem?_range hi] at hx
        exact (Option.some.inj hx).symm
      subst this
      have q1 := frac1n x
      have q2 := times_eq _ _ 140 4 (e2 x hi) (Sz.nat (p := x) (b := 4) (by omega))
      simp only [cUser_ap, evR_v, evR_nil, cVar_ap, cK_ap, List.set_cons_succ, List.set_cons_zero, List.getElem?_cons_succ, List.getElem?_cons_zero, Option.getD_some, Option.map_some, Option.bind_some, q1, q2, slotsR_v, slotsR_nil, setOuts_nil])]
    rw [mapIdx_range]
    rfl
  refine runB_eq (ρ := [some (bl n z), some (encP s g), some (errL n (res (fz z) s g)), none, none]) rfl ?_ rfl
  show b_judge_squares [some (bl n z), some (encP s g), none, none, none] = _
  rw [b_judge_squares, seq_nx (ρ' := [some (bl n z), some (encP s g), some (errL n (res (fz z) s g)), none, none]) (by
    simp only [cSet_ap, cUser_ap, evR_v, evR_nil, cVar_ap, List.getElem?_cons_succ, List.getElem?_cons_zero, Option.getD_some, Option.map_some, Option.bind_some, e1, slotsR_v, slotsR_nil, setOuts_nil, List.set_cons_succ, List.set_cons_zero]), seq_nx (ρ' := [some (bl n z), some (encP s g), some (errL n (res (fz z) s g)), none, none]) (if_nil (by
    simp only [cTest_ap, cOp_ap, cCall_ap, evA_cons, evA_nil, cVar_ap, cK_ap, List.getElem?_cons_zero, Option.getD_some, Option.map_some, Option.bind_some, bl_len, ltD_int, truthB_bl, decide_eq_false hi]))]
  by_cases h : sm n (res (fz z) s g) = 0
  · rw [seq_nx (ρ' := [some (bl n z), some (encP s g), some (errL n (res (fz z) s g)), none, none]) (if_nil (by
      simp only [cTest_ap, cOp_ap, cUser_ap, evR_v, evR_nil, cVar_ap, cK_ap, cnil, List.getElem?_cons_succ, List.getElem?_cons_zero, Option.getD_some, Option.map_some, Option.bind_some, e3, h, neD_enc, truthB_bl, slotsR_v, slotsR_nil, setOuts_nil, ne_eq, not_true_eq_false, decide_false])), cRet_ap, cOp_ap, cUser_ap, evR_v, e6]
    simp only [evR_nil, Option.map_some, Option.bind_some, e4, slotsR_v, slotsR_nil, setOuts_nil, cK_ap, cnil, eqD_enc, h, true_and]
  · rw [cSeq_ap, if_yes (ρ' := [some (bl n z), some (encP s g), some (errL n (res (fz z) s g)), none, none]) (by
      simp only [cTest_ap, cOp_ap, cUser_ap, evR_v, evR_nil, cVar_ap, cK_ap, cnil, List.getElem?_cons_succ, List.getElem?_cons_zero, Option.getD_some, Option.map_some, Option.bind_some, e3, neD_enc, truthB_bl, slotsR_v, slotsR_nil, setOuts_nil, decide_eq_true h])]
    simp only [h, false_and, decide_false]
    rfl
theorem js_one (hz : Bz 14 1 z) : f_judge_squares [bl 1 z, encP (fz z 0) 0] = some (.bl true, []) := by
  obtain ⟨e1, _⟩ := errors_eq (fz z 0) 0 1 z (Sz.int (hz 0 (by decide))) z1 (by decide) hz (by decide) (by decide) (by decide) (by decide)
  have e2 : errL 1 (res (fz z) (fz z 0) 0) = .lst [enc 0] := by
    unfold errL
    show D.lst [enc (res (fz z) (fz z 0) 0 0)] = _
    congr 3
    unfold res; simp; grind
  rw [e2] at e1
  have e3 : eqD (.lst [enc 0]) (.lst [enc 0]) = some (.bl true) := eqD_self (by decide +kernel)
  refine runB_eq (ρ := [some (bl 1 z), some (encP (fz z 0) 0), some (.lst [enc 0]), none, none]) rfl ?_ rfl
  show b_judge_squares [some (bl 1 z), some (encP (fz z 0) 0), none, none, none] = _
  rw [b_judge_squares, seq_nx (ρ' := [some (bl 1 z), some (encP (fz z 0) 0), some (.lst [enc 0]), none, none]) (by
    simp only [cSet_ap, cUser_ap, evR_v, evR_nil, cVar_ap, List.getElem?_cons_succ, List.getElem?_cons_zero, Option.getD_some, Option.map_some, Option.bind_some, e1, slotsR_v, slotsR_nil, setOuts_nil, List.set_cons_succ, List.set_cons_zero]), cSeq_ap, if_yes (ρ' := [some (bl 1 z), some (encP (fz z 0) 0), some (.lst [enc 0]), none, none]) (by
    simp only [cTest_ap, cOp_ap, cCall_ap, evA_cons, evA_nil, cVar_ap, cK_ap, List.getElem?_cons_zero, Option.getD_some, Option.map_some, Option.bind_some, bl_len, ltD_int, truthB_bl]; rfl)]
  have e4 : ixD (encP (fz z 0) 0) (.int 1) = some (enc 0) := rfl
  simp only [cRet_ap, cAndV_ap, cOp_ap, cLst_ap, evA_cons, evA_nil, cVar_ap, cK_ap, cnil, List.getElem?_cons_succ, List.getElem?_cons_zero, Option.getD_some, Option.map_some, Option.bind_some, e3, e4, eqD_enc, truthB_bl, if_true, decide_true]
end
/-! ### turned blows -/
def Tt : Nat → Nat → Nat → Prop := fun _ _ _ => True
theorem max_le {n : Nat} {f f' : Nat → Rat} {e e' c c' : Rat} {o o' : Option (Nat × Nat × Nat)} (hc : 0 < c) (hc' : 0 < c') (h : Ok n f Tt e o) (h' : Ok n f' Tt e' o')
    (H : ∀ i j k, i < j → j < k → k < n → ∃ i' j' k', i' < j' ∧ j' < k' ∧ k' < n ∧ c * ab (trip f i j k) = c' * ab (trip f' i' j' k')) : c * e ≤ c' * e' := by
  have := h.at_
  match o, this with
  | none, q =>
    rw [show e = 0 from q]
    have := mul_nn (Rat.le_of_lt hc') h'.nn
    grind
  | some (a, b, d), q =>
    obtain ⟨q1, q2, q3, q4, _⟩ := q
    obtain ⟨i', j', k', r1, r2, r3, r4⟩ := H a b d q1 q2 q3
    rw [q4, r4]
    have := mul_nn (Rat.le_of_lt hc') (show 0 ≤ e' - ab (trip f' i' j' k') by have := h'.all _ _ _ r1 r2 r3 trivial; grind)
    grind
theorem fit_mv {n : Nat} (h : 1 < n) (f : Nat → Rat) (st gp : Rat) : fs n (fun m => f m + st + gp * m) = fs n f + st ∧ fg n (fun m => f m + st + gp * m) = fg n f + gp := by
  obtain ⟨a1, a2⟩ := fit_ok h f
  have := fit_eq h (fun m => f m + st + gp * m) (s := fs n f + st) (g := fg n f + gp) (by rw [← a1]; exact sm_congr fun i _ => res_mv f _ _ _ _ i) (by rw [← a2]; exact sm_congr fun i _ => by rw [res_mv])
  exact ⟨this.1.symm, this.2.symm⟩
theorem fit_sc {n : Nat} (h : 1 < n) (f : Nat → Rat) (c : Rat) : fs n (fun m => c * f m) = c * fs n f ∧ fg n (fun m => c * f m) = c * fg n f := by
  obtain ⟨a1, a2⟩ := fit_ok h f
  have := fit_eq h (fun m => c * f m) (s := c * fs n f) (g := c * fg n f) (by
    rw [show res (fun m => c * f m) (c * fs n f) (c * fg n f) = fun i => c * res f (fs n f) (fg n f) i from funext fun i => res_sc f _ _ _ i, sm_mul, a1]; grind) (by
    rw [show (fun i : Nat => (i : Rat) * res (fun m => c * f m) (c * fs n f) (c * fg n f) i) = fun i : Nat => c * ((i : Rat) * res f (fs n f) (fg n f) i) from funext fun i => by rw [res_sc]; grind, sm_mul, a2]; grind)
  exact ⟨this.1.symm, this.2.symm⟩
theorem fit_bk {n : Nat} (h : 1 < n) (f : Nat → Rat) : fs n (fun m => 0 - f (n - 1 - m)) = -(fs n f + fg n f * (n - 1)) ∧ fg n (fun m => 0 - f (n - 1 - m)) = fg n f := by
  obtain ⟨a1, a2⟩ := fit_ok h f
  have := fit_eq h (fun m => 0 - f (n - 1 - m)) (s := -(fs n f + fg n f * (n - 1))) (g := fg n f) (by
    rw [sm_congr (G := fun i => (-1) * res f (fs n f) (fg n f) (n - 1 - i)) fun i hi => by rw [res_bk f _ _ hi]; grind, sm_mul, sm_rev n (res f (fs n f) (fg n f)), a1]; grind) (by
    rw [sm_congr (G := fun i => (fun j : Nat => ((j : Rat) - ((n : Rat) - 1)) * res f (fs n f) (fg n f) j) (n - 1 - i)) fun i hi => by rw [res_bk f _ _ hi]; simp only; rw [cast_sub hi]; grind, sm_rev n (fun j : Nat => ((j : Rat) - ((n : Rat) - 1)) * res f (fs n f) (fg n f) j),
      sm_congr (G := fun j : Nat => (j : Rat) * res f (fs n f) (fg n f) j + (-((n : Rat) - 1)) * res f (fs n f) (fg n f) j) fun i _ => by grind, sm_add, sm_mul, a1, a2]; grind)
  exact ⟨this.1.symm, this.2.symm⟩
theorem sq_sc (n : Nat) (f : Nat → Rat) (c s g : Rat) : sq n (fun m => c * f m) (c * s) (c * g) = c * c * sq n f s g := by
  unfold sq
  rw [← sm_mul]
  exact sm_congr fun i _ => by rw [res_sc]; grind
theorem sq_bk (n : Nat) (f : Nat → Rat) (s g : Rat) : sq n (fun m => 0 - f (n - 1 - m)) (-(s + g * (n - 1))) g = sq n f s g := by
  unfold sq
  rw [← sm_rev n (fun i => res f s g i * res f s g i)]
  exact sm_congr fun i hi => by rw [res_bk f s g hi]; grind
theorem sq_one (f : Nat → Rat) : sq 1 f (f 0) 0 = 0 := by
  unfold sq
  rw [sm_succ, sm_zero]
  unfold res
  simp
  grind
end T14
namespace T14
open PySem L2 G
theorem dig : DigF f__law_digit := fun n m h h1 => digit_eq n m h h1
def q3 : Rat := ⟨1, 3, by decide, by decide⟩
theorem q3_enc : D.tup [.int 1, .int 3] = enc q3 := rfl
theorem q3_sz : Sz q3 2 := ⟨by decide, by decide⟩
theorem q3_pos : 0 < q3 := by decide
theorem bl_of (l : List Int) : D.lst (l.map D.int) = bl l.length (fun i => l.getD i 0) := by
  unfold bl
  congr 1
  apply List.ext_getElem?
  intro i
  rw [List.getElem?_map, List.getElem?_map]
  by_cases h : i < l.length
  · rw [List.getElem?_range h, List.getElem?_eq_getElem h]
    simp [List.getD, h]
  · rw [List.getElem?_eq_none (by omega), List.getElem?_eq_none (by simp; omega)]
    rfl
theorem res0 {n : Nat} {z : Nat → Int} (h1 : 1 ≤ n) : sm n (res (fz z) (FS n z) (FG n z)) = 0 := by
  unfold FS FG
  by_cases h : n < 2
  · rw [if_pos h, if_pos h]
    have : n = 1 := by omega
    subst this
    rw [sm_succ, sm_zero]
    unfold res; simp; grind
  · rw [if_neg h, if_neg h]
    exact (fit_ok (by omega) _).1
theorem sqle {n : Nat} {z : Nat → Int} (h1 : 1 ≤ n) (s g : Rat) : sq n (fz z) (FS n z) (FG n z) ≤ sq n (fz z) s g := by
  unfold FS FG
  by_cases h : n < 2
  · rw [if_pos h, if_pos h]
    have : n = 1 := by omega
    subst this
    rw [sq_one]
    exact sm_nn fun i _ => sq_self _
  · rw [if_neg h, if_neg h]
    obtain ⟨a1, a2⟩ := fit_ok (show 1 < n by omega) (fz z)
    exact sq_least a1 a2 s g
theorem js_fit {n : Nat} {z : Nat → Int} (h1 : 1 ≤ n) (hn : n ≤ 12) (hz : Bz 14 n z) : f_judge_squares [bl n z, encP (FS n z) (FG n z)] = some (.bl true, []) := by
  by_cases h : n < 2
  · have : n = 1 := by omega
    subst this
    exact js_one hz
  · obtain ⟨s1, s2⟩ := FS_sz h1 hn hz
    rw [js_two s1 s2 (by omega) hn hz (by decide) (by decide)]
    unfold FS FG
    rw [if_neg h, if_neg h, decide_eq_true (fit_ok (show 1 < n by omega) (fz z))]
theorem mxe {n : Nat} {z : Nat → Int} {s g e : Rat} {o : Option (Nat × Nat × Nat)} (h : Ev n z s g e o) : mx n (res (fz z) s g) = e := by
  apply Rat.le_antisymm
  · exact mx_le h.ok.nn h.le
  · have := h.ok.at_
    match o, this with
    | none, q => rw [show e = 0 from q]; exact mx_nn _ _
    | some (a, b, c), q =>
      obtain ⟨q1, q2, q3, q4, _⟩ := q
      rw [q4, ← trip_line (fz z) s g (show a < c by omega)]
      exact trip_le q1 q2 (mx_ge a (by omega)) (mx_ge b (by omega)) (mx_ge c q3)
theorem mx_low {n : Nat} {z : Nat → Int} {e : Rat} {o : Option (Nat × Nat × Nat)} (h : Ok n (fz z) (fun _ _ _ => True) e o) (s g : Rat) : e ≤ mx n (res (fz z) s g) := by
  have := h.at_
  match o, this with
  | none, q => rw [show e = 0 from q]; exact mx_nn _ _
  | some (a, b, c), q =>
    obtain ⟨q1, q2, q3, q4, _⟩ := q
    rw [q4, ← trip_line (fz z) s g (show a < c by omega)]
    exact trip_le q1 q2 (mx_ge a (by omega)) (mx_ge b (by omega)) (mx_ge c q3)
theorem ab_neg' (x : Rat) : (if 0 < x then x else 0 - x) = ab x := by
  rcases ab_cases x with ⟨h, e⟩ | ⟨h, e⟩ <;> rw [e] <;> split <;> grind
theorem bl_rev {n : Nat} {z : Nat → Int} : ((List.range n).map fun i => D.int (z i)).reverse = (List.range n).map fun i => .int (z (n - 1 - i)) := by
  apply List.ext_getElem?
  intro i
  by_cases h : i < n
  · rw [List.getElem?_reverse (by simpa using h), List.getElem?_map, List.getElem?_map, List.length_map, List.length_range, List.getElem?_range (by omega), List.getElem?_range h]
    rfl
  · rw [List.getElem?_eq_none (by simp; omega), List.getElem?_eq_none (by simp; omega)]

theorem turn_ok (ns : List Int) (hn : ns.length ≤ 63) (hb : ∀ z ∈ ns, Builtin.Int.intBits z ≤ 1048576) (k : Nat) (hk : k < 1000) (s2 s3 s4 s5 s6 s7 s8 s9 s10 s11 s12 s13 s14 s15 s16 s17 s18 s19 s20 : Option D) :
    ∃ ρ', b_law_L1 [some (.scr ns), some (.int (k : Nat)), s2, s3, s4, s5, s6, s7, s8, s9, s10, s11, s12, s13, s14, s15, s16, s17, s18, s19, s20] = some (.nx ρ') ∧ ∃ r, ρ' = some (.scr ns) :: r ∧ r.length = 20 := by
  obtain ⟨st, e0⟩ := start_ex ns k hk hn hb
  have e0 : f__law_start [.scr ns, .int (k : Nat)] = some (sta st, []) := e0
  rw [b_law_L1, seq_nx (ρ' := [some (.scr ns), some (.int (k : Nat)), some (sta st), s3, s4, s5, s6, s7, s8, s9, s10, s11, s12, s13, s14, s15, s16, s17, s18, s19, s20]) (by simp only [cSet_ap, cTest_ap, cOp_ap, cUser_ap, evR_v, evR_nil, cVar_ap, cK_ap, cCall_ap, evA_cons, evA_nil, List.getElem?_cons_succ, List.getElem?_cons_zero, Option.getD_some, Option.map_some, Option.bind_some, slotsR_v, slotsR_nil, setOuts_nil, List.set_cons_succ, List.set_cons_zero, truthB_bl, e0])]
  have hit : cItA rng1 (evA [(cOp addD (cK (D.int 1)) (cUser f__law_digit [.s 2, .v (cK (D.int 12))]))]) [some (.scr ns), some (.int (k : Nat)), some (sta st), s3, s4, s5, s6, s7, s8, s9, s10, s11, s12, s13, s14, s15, s16, s17, s18, s19, s20] = some (rangeD 0 ((1 + st % 12 : Nat) : Int), [some (.scr ns), some (.int (k : Nat)), some (sta (st / 12)), s3, s4, s5, s6, s7, s8, s9, s10, s11, s12, s13, s14, s15, s16, s17, s18, s19, s20]) := itR (n := 1 + st % 12) (by
    have dd := digit_ap (F := f__law_digit) (s := 2) (m := 12) (st := st) (g := cK (D.int 12)) (ρ := [some (.scr ns), some (.int (k : Nat)), some (sta st), s3, s4, s5, s6, s7, s8, s9, s10, s11, s12, s13, s14, s15, s16, s17, s18, s19, s20]) dig rfl rfl (by decide) (by decide)
    rw [cOp_ap, cK_ap, Option.bind_some, dd]
    simp only [Option.bind_some, addD_int, Option.map_some]
    rfl) (by omega)
  obtain ⟨l, st1, llen, labs, lev⟩ := comp_draw (α := Int) (G := D.int) (Pd := fun a => a.natAbs < 2 ^ 11) (v := 4) (s := 2) (g := cOp addD (cOp subD (cUser f__law_digit [.s 2, .v (cK (D.int 400))]) (cK (D.int 100))) (cOp mulD (cK (D.int 100)) (cVar 4))) (st := st / 12) (by decide) hit rfl (by show 4 < 21; decide) (by rw [range0_len]; omega) (fun x hx st1 => by
    obtain ⟨i, rfl, hi⟩ := mem_range0 hx
    have m := mulD_lt (i := 100) (j := (i : Int)) 10 10 (by decide) (by omega)
    have hd := Nat.mod_lt st1 (show 0 < 400 by decide)
    refine ⟨((st1 % 400 : Nat) : Int) - 100 + 100 * (i : Int), st1 / 400, by omega, ?_⟩
    rw [cOp_ap, cOp_ap, digit_ap (m := 400) dig (by rfl) rfl (by decide) (by decide), List.set_comm _ _ (by decide), List.set_set]
    simp only [cOp_ap, cVar_ap, cK_ap, List.set_cons_succ, List.set_cons_zero, List.getElem?_cons_succ, List.getElem?_cons_zero, Option.getD_some, Option.map_some, Option.bind_some, subD_int, m, addD_int])
  rw [range0_len] at llen
  rw [bl_of] at lev
  generalize hz : (fun i => l.getD i 0) = z at lev
  have zb : ∀ i, i < l.length → (z i).natAbs < 2 ^ 11 := fun i hi => by
    rw [← hz]
    simp only [List.getD, List.getElem?_eq_getElem hi, Option.getD_some]
    exact labs _ (List.getElem_mem hi)
  generalize l.length = n at *
  have n1 : 1 ≤ n := by omega
  have n12 : n ≤ 12 := by omega
  have hz14 : Bz 14 n z := fun i hi => Nat.lt_of_lt_of_le (zb i hi) (by decide)
  clear hit labs hz
  rw [seq_nx (ρ' := [some (.scr ns), some (.int (k : Nat)), some (sta st1), some (bl n z), s4, s5, s6, s7, s8, s9, s10, s11, s12, s13, s14, s15, s16, s17, s18, s19, s20]) (by rw [cSet_ap, lev]; rfl)]
  obtain ⟨s, g, e, oo, ev, hev⟩ := evenest_eq (z := z) n1 (by omega) hz14
  have ss := hev.ss
  have sg := hev.sg
  have se := hev.ok.sz
  have sz0 := hev.ok.nn
  have mxh := mxe hev
  rw [seq_nx (ρ' := [some (.scr ns), some (.int (k : Nat)), some (sta st1), some (bl n z), s4, some (encP s g), some (enc e), some (encO oo), s8, s9, s10, s11, s12, s13, s14, s15, s16, s17, s18, s19, s20]) (by
    simp only [cAsg_ap, cTest_ap, cOp_ap, cUser_ap, evR_v, evR_nil, cVar_ap, cK_ap, cCall_ap, evA_cons, evA_nil, List.getElem?_cons_succ, List.getElem?_cons_zero, Option.getD_some, Option.map_some, Option.bind_some, slotsR_v, slotsR_nil, setOuts_nil, List.set_cons_succ, List.set_cons_zero, truthB_bl, ev]
    rfl)]
  have w1 := lleast_eq (by omega) hz14 hev.ok
  have w2 := worst_eq s g n z ss sg (by omega) hz14 (by decide) (by decide) (by decide) (by decide)
  rw [mxh] at w2
  have w3 : ∃ b, isN (encO oo) .non = some (.bl b) ∧ decide (e = 0) = b := by
    have := hev.ok.at_
    match oo, this with
    | none, q => exact ⟨true, rfl, decide_eq_true q⟩
    | some (a, b, c), q => exact ⟨false, rfl, decide_eq_false (by have := q.2.2.2.2; grind)⟩
  obtain ⟨b3, w3, w4⟩ := w3
  rw [seq_nx (ρ' := [some (.scr ns), some (.int (k : Nat)), some (sta st1), some (bl n z), s4, some (encP s g), some (enc e), some (encO oo), s8, s9, s10, s11, s12, s13, s14, s15, s16, s17, s18, s19, s20]) (if_nil (by
    simp only [cOr_ap, cTup_ap, cTest_ap, cOp_ap, cUser_ap, evR_v, evR_nil, cVar_ap, cK_ap, cCall_ap, evA_cons, evA_nil, List.getElem?_cons_succ, List.getElem?_cons_zero, Option.getD_some, Option.map_some, Option.bind_some, slotsR_v, slotsR_nil, setOuts_nil, List.set_cons_succ, List.set_cons_zero, truthB_bl, w1, w2, w3, neD_enc, enc01, eqD_enc, w4, neD_bl, ne_eq, not_true_eq_false, decide_false, Bool.false_eq_true, if_false]))]
  have j1 : f_judge_evenest [bl n z, encP s g, enc e, encO oo] = some (.bl true, []) := by
    have := hev.ok.at_
    match oo, this with
    | none, q => exact (je_none ss sg (by omega) hz14 (by decide) (by decide) (by decide) (by decide) mxh).trans (by rw [decide_eq_true (show e = 0 from q)])
    | some (a, b, c), q => exact je_some ss sg (by omega) hz14 (by decide) (by decide) mxh q.1 q.2.1 q.2.2.1 q.2.2.2.1
  have j2 := plus_eq e q3 52 2 se q3_sz
  have j3 := je_bad (e := e + q3) ss sg (by omega) hz14 (by decide) (by decide) (by decide) (by decide) (by rw [mxh]; have := q3_pos; grind) (encO oo)
  rw [seq_nx (ρ' := [some (.scr ns), some (.int (k : Nat)), some (sta st1), some (bl n z), s4, some (encP s g), some (enc e), some (encO oo), s8, s9, s10, s11, s12, s13, s14, s15, s16, s17, s18, s19, s20]) (if_nil (by
    simp only [cOr_ap, cTup_ap, cTest_ap, cOp_ap, cUser_ap, evR_v, evR_nil, cVar_ap, cK_ap, cCall_ap, evA_cons, evA_nil, List.getElem?_cons_succ, List.getElem?_cons_zero, Option.getD_some, Option.map_some, Option.bind_some, slotsR_v, slotsR_nil, setOuts_nil, List.set_cons_succ, List.set_cons_zero, truthB_bl, j1, j2, j3, q3_enc, notB, decide_true, Bool.not_true, Bool.false_eq_true, if_false]))]
  have step : ∃ t8 : Option D, cIfS (cTest (cOp notN (cVar 7) (cK D.non))) (cSeq (cSet 8 (cUser f_triple_error [.v (cVar 3), .v (cOp ixD (cVar 7) (cK (D.int 0))), .v (cOp ixD (cVar 7) (cK (D.int 1))), .v (cOp ixD (cVar 7) (cK (D.int 2)))]))
    (cIfS (cOr (cTest (cOp neD (cIf (cTest (cUser f_less [.v (cTup [(cK (D.int 0)), (cK (D.int 1))]), .v (cVar 8)])) (cVar 8) (cUser f_minus [.v (cTup [(cK (D.int 0)), (cK (D.int 1))]), .v (cVar 8)])) (cVar 6))) (cTest (cOp notB (cUser f_judge_evenest [.v (cVar 3), .v (cVar 5), .v (cVar 6), .v (cK D.non)]) (cK (D.bl false))))) (cRet (cK (D.bl false))) cNil)) cNil [some (.scr ns), some (.int (k : Nat)), some (sta st1), some (bl n z), s4, some (encP s g), some (enc e), some (encO oo), s8, s9, s10, s11, s12, s13, s14, s15, s16, s17, s18, s19, s20] = some (.nx [some (.scr ns), some (.int (k : Nat)), some (sta st1), some (bl n z), s4, some (encP s g), some (enc e), some (encO oo), t8, s9, s10, s11, s12, s13, s14, s15, s16, s17, s18, s19, s20]) := by
    have := hev.ok.at_
    match oo, this with
    | none, q => exact ⟨s8, if_no (by simp only [cTest_ap, cOp_ap, cUser_ap, evR_v, evR_nil, cVar_ap, cK_ap, cCall_ap, evA_cons, evA_nil, List.getElem?_cons_succ, List.getElem?_cons_zero, Option.getD_some, Option.map_some, Option.bind_some, slotsR_v, slotsR_nil, setOuts_nil, List.set_cons_succ, List.set_cons_zero, truthB_bl]; rfl)⟩
    | some (a, b, c), q =>
      obtain ⟨hab, hbc, hcn, he, hpos⟩ := q
      obtain ⟨t1, t2, _, _⟩ := triple_eq n z hab hbc hcn (by omega) hz14 (by decide) (by decide)
      have t2 : Sz (trip (fz z) a b c) 52 := t2
      have l1 := less_eq 0 (trip (fz z) a b c) 1 52 z1 t2
      have l2 := minus_eq 0 (trip (fz z) a b c) 1 52 z1 t2
      have l3 := je_none ss sg (by omega) hz14 (by decide) (by decide) (by decide) (by decide) mxh
      rw [decide_eq_false (show ¬ e = 0 by grind)] at l3
      have x0 : ixD (encO (some (a, b, c))) (.int 0) = some (.int (a : Nat)) := rfl
      have x1 : ixD (encO (some (a, b, c))) (.int 1) = some (.int (b : Nat)) := rfl
      have x2 : ixD (encO (some (a, b, c))) (.int 2) = some (.int (c : Nat)) := rfl
      have x3 : notN (encO (some (a, b, c))) .non = some (.bl true) := rfl
      refine ⟨some (enc (trip (fz z) a b c)), ?_⟩
      rw [if_yes (ρ' := [some (.scr ns), some (.int (k : Nat)), some (sta st1), some (bl n z), s4, some (encP s g), some (enc e), some (encO (some (a, b, c))), s8, s9, s10, s11, s12, s13, s14, s15, s16, s17, s18, s19, s20]) (by simp only [cTest_ap, cOp_ap, cUser_ap, evR_v, evR_nil, cVar_ap, cK_ap, cCall_ap, evA_cons, evA_nil, List.getElem?_cons_succ, List.getElem?_cons_zero, Option.getD_some, Option.map_some, Option.bind_some, slotsR_v, slotsR_nil, setOuts_nil, List.set_cons_succ, List.set_cons_zero, truthB_bl, x3]), seq_nx (ρ' := [some (.scr ns), some (.int (k : Nat)), some (sta st1), some (bl n z), s4, some (encP s g), some (enc e), some (encO (some (a, b, c))), some (enc (trip (fz z) a b c)), s9, s10, s11, s12, s13, s14, s15, s16, s17, s18, s19, s20]) (by
        simp only [cSet_ap, cTest_ap, cOp_ap, cUser_ap, evR_v, evR_nil, cVar_ap, cK_ap, cCall_ap, evA_cons, evA_nil, List.getElem?_cons_succ, List.getElem?_cons_zero, Option.getD_some, Option.map_some, Option.bind_some, slotsR_v, slotsR_nil, setOuts_nil, List.set_cons_succ, List.set_cons_zero, truthB_bl, x0, x1, x2, t1])]
      refine if_nil ?_
      have ha := ab_neg' (trip (fz z) a b c)
      rw [← he] at ha
      by_cases hp : 0 < trip (fz z) a b c
      · rw [decide_eq_true hp] at l1
        rw [if_pos hp] at ha
        have hx : neD (enc (trip (fz z) a b c)) (enc e) = some (.bl false) := by rw [ha]; exact (enc_pl e).ne0
        simp only [cOr_ap, cIf_ap, cTup_ap, cTest_ap, cOp_ap, cUser_ap, evR_v, evR_nil, cVar_ap, cK_ap, cCall_ap, evA_cons, evA_nil, List.getElem?_cons_succ, List.getElem?_cons_zero, Option.getD_some, Option.map_some, Option.bind_some, slotsR_v, slotsR_nil, setOuts_nil, List.set_cons_succ, List.set_cons_zero, truthB_bl, enc01, l1, if_true, hx, l3, notB, decide_true, Bool.not_true, Bool.false_eq_true, if_false]
      · rw [decide_eq_false hp] at l1
        rw [if_neg hp] at ha
        have hx : neD (enc (0 - trip (fz z) a b c)) (enc e) = some (.bl false) := by rw [ha]; exact (enc_pl e).ne0
        simp only [cOr_ap, cIf_ap, cTup_ap, cTest_ap, cOp_ap, cUser_ap, evR_v, evR_nil, cVar_ap, cK_ap, cCall_ap, evA_cons, evA_nil, List.getElem?_cons_succ, List.getElem?_cons_zero, Option.getD_some, Option.map_some, Option.bind_some, slotsR_v, slotsR_nil, setOuts_nil, List.set_cons_succ, List.set_cons_zero, truthB_bl, enc01, l1, l2, if_true, hx, l3, notB, decide_true, Bool.not_true, Bool.false_eq_true, if_false]
  obtain ⟨t8, step⟩ := step
  rw [seq_nx step]
  have f1 := least_eq n1 n12 hz14
  have f2 := lfit_eq n1 n12 hz14
  have f3 := js_fit n1 n12 hz14
  obtain ⟨fS, fG⟩ := FS_sz n1 n12 hz14
  have fr0 := res0 (z := z) n1
  rw [seq_nx (ρ' := [some (.scr ns), some (.int (k : Nat)), some (sta st1), some (bl n z), s4, some (encP s g), some (enc e), some (encO oo), t8, some (encP (FS n z) (FG n z)), s10, s11, s12, s13, s14, s15, s16, s17, s18, s19, s20]) (by simp only [cSet_ap, cTest_ap, cOp_ap, cUser_ap, evR_v, evR_nil, cVar_ap, cK_ap, cCall_ap, evA_cons, evA_nil, List.getElem?_cons_succ, List.getElem?_cons_zero, Option.getD_some, Option.map_some, Option.bind_some, slotsR_v, slotsR_nil, setOuts_nil, List.set_cons_succ, List.set_cons_zero, truthB_bl, f1])]
  have f4 : neD (encP (FS n z) (FG n z)) (encP (FS n z) (FG n z)) = some (.bl false) := (encP_pl _ _).ne0
  rw [seq_nx (ρ' := [some (.scr ns), some (.int (k : Nat)), some (sta st1), some (bl n z), s4, some (encP s g), some (enc e), some (encO oo), t8, some (encP (FS n z) (FG n z)), s10, s11, s12, s13, s14, s15, s16, s17, s18, s19, s20]) (if_nil (by
    simp only [cOr_ap, cTest_ap, cOp_ap, cUser_ap, evR_v, evR_nil, cVar_ap, cK_ap, cCall_ap, evA_cons, evA_nil, List.getElem?_cons_succ, List.getElem?_cons_zero, Option.getD_some, Option.map_some, Option.bind_some, slotsR_v, slotsR_nil, setOuts_nil, List.set_cons_succ, List.set_cons_zero, truthB_bl, f2, f3, f4, notB, decide_true, Bool.not_true, Bool.false_eq_true, if_false]))]
  obtain ⟨r1, r2⟩ := errors_eq (FS n z) (FG n z) n z fS fG (by omega) hz14 (by decide) (by decide) (by decide) (by decide)
  have r2 : ∀ i, i < n → Sz (res (fz z) (FS n z) (FG n z) i) 105 := r2
  rw [seq_nx (ρ' := [some (.scr ns), some (.int (k : Nat)), some (sta st1), some (bl n z), s4, some (encP s g), some (enc e), some (encO oo), t8, some (encP (FS n z) (FG n z)), some (errL n (res (fz z) (FS n z) (FG n z))), s11, s12, s13, s14, s15, s16, s17, s18, s19, s20]) (by simp only [cSet_ap, cTest_ap, cOp_ap, cUser_ap, evR_v, evR_nil, cVar_ap, cK_ap, cCall_ap, evA_cons, evA_nil, List.getElem?_cons_succ, List.getElem?_cons_zero, Option.getD_some, Option.map_some, Option.bind_some, slotsR_v, slotsR_nil, setOuts_nil, List.set_cons_succ, List.set_cons_zero, truthB_bl, r1])]
  have i0 : ixD (encP (FS n z) (FG n z)) (.int 0) = some (enc (FS n z)) := rfl
  have i1 : ixD (encP (FS n z) (FG n z)) (.int 1) = some (enc (FG n z)) := rfl
  have r3 : cComp (cItA rng1 (evA [(cCall lenD (evA [(cVar 3)]))])) (hName 4) cYes (cUser f_minus [.v (cUser f_frac [.v (cOp ixD (cVar 3) (cVar 4)), .v (cK (D.int 1))]), .v (cUser f_plus [.v (cOp ixD (cVar 9) (cK (D.int 0))), .v (cUser f_times [.v (cUser f_frac [.v (cVar 4), .v (cK (D.int 1))]), .v (cOp ixD (cVar 9) (cK (D.int 1)))])])]) [4] [some (.scr ns), some (.int (k : Nat)), some (sta st1), some (bl n z), s4, some (encP s g), some (enc e), some (encO oo), t8, some (encP (FS n z) (FG n z)), some (errL n (res (fz z) (FS n z) (FG n z))), s11, s12, s13, s14, s15, s16, s17, s18, s19, s20] = some (errL n (res (fz z) (FS n z) (FG n z)), [some (.scr ns), some (.int (k : Nat)), some (sta st1), some (bl n z), s4, some (encP s g), some (enc e), some (encO oo), t8, some (encP (FS n z) (FG n z)), some (errL n (res (fz z) (FS n z) (FG n z))), s11, s12, s13, s14, s15, s16, s17, s18, s19, s20]) := by
    rw [comp_ix (G := fun (i : Nat) => D.int (i : Int)) (F := fun i => enc (res (fz z) (FS n z) (FG n z) i)) (is := List.range n) (by show 4 < 21; decide) (itRm (n := n) (by
      simp only [cTest_ap, cOp_ap, cUser_ap, evR_v, evR_nil, cVar_ap, cK_ap, cCall_ap, evA_cons, evA_nil, List.getElem?_cons_succ, List.getElem?_cons_zero, Option.getD_some, Option.map_some, Option.bind_some, slotsR_v, slotsR_nil, setOuts_nil, List.set_cons_succ, List.set_cons_zero, truthB_bl, bl_len]) (by omega)) (by simp; omega) fun i hi => ?_]
    · rfl
    · have hi := List.mem_range.mp hi
      have sn : Sz (i : Rat) 4 := Sz.nat (by omega)
      have q1 := frac1 (z i)
      have q2 := frac1n i
      have q3 := times_eq (i : Rat) (FG n z) 4 27 sn fG
      have q4 := plus_eq (FS n z) ((i : Rat) * FG n z) 58 31 fS (sn.mul fG)
      have q5 := minus_eq (fz z i) (FS n z + (i : Rat) * FG n z) 14 90 (Sz.int (hz14 i hi)) (fS.add (sn.mul fG))
      have q6 : fz z i - (FS n z + (i : Rat) * FG n z) = res (fz z) (FS n z) (FG n z) i := by unfold res; rw [Rat.mul_comm]
      rw [q6] at q5
      simp only [cTest_ap, cOp_ap, cUser_ap, evR_v, evR_nil, cVar_ap, cK_ap, cCall_ap, evA_cons, evA_nil, List.getElem?_cons_succ, List.getElem?_cons_zero, Option.getD_some, Option.map_some, Option.bind_some, slotsR_v, slotsR_nil, setOuts_nil, List.set_cons_succ, List.set_cons_zero, truthB_bl, bl_ix hi, i0, i1, q1, q2, q3, q4, q5]
  have r4 := errL_ne (n := n) (r := res (fz z) (FS n z) (FG n z)) (r' := res (fz z) (FS n z) (FG n z)) fun _ _ => rfl
  rw [seq_nx (ρ' := [some (.scr ns), some (.int (k : Nat)), some (sta st1), some (bl n z), s4, some (encP s g), some (enc e), some (encO oo), t8, some (encP (FS n z) (FG n z)), some (errL n (res (fz z) (FS n z) (FG n z))), s11, s12, s13, s14, s15, s16, s17, s18, s19, s20]) (if_nil (by
    rw [cTest_ap, cOp_ap, cVar_ap]
    show ((cComp _ _ _ _ _ [some (.scr ns), some (.int (k : Nat)), some (sta st1), some (bl n z), s4, some (encP s g), some (enc e), some (encO oo), t8, some (encP (FS n z) (FG n z)), some (errL n (res (fz z) (FS n z) (FG n z))), s11, s12, s13, s14, s15, s16, s17, s18, s19, s20]).bind fun q => (neD (errL n (res (fz z) (FS n z) (FG n z))) q.1).map fun z => (z, q.2)).bind _ = _
    rw [r3]
    simp only [Option.bind_some, r4, Option.map_some, truthB_bl]))]
  obtain ⟨u1, u2⟩ := squares_eq (FS n z) (FG n z) n z (S := 105) fS fG n12 hz14 (by decide) (by decide) (by decide) (by decide) (by decide) (by decide)
  have u3 : cComp (cIt (cVar 10)) (hName 11) cYes (cUser f_times [.v (cVar 11), .v (cVar 11)]) [11] [some (.scr ns), some (.int (k : Nat)), some (sta st1), some (bl n z), s4, some (encP s g), some (enc e), some (encO oo), t8, some (encP (FS n z) (FG n z)), some (errL n (res (fz z) (FS n z) (FG n z))), s11, s12, s13, s14, s15, s16, s17, s18, s19, s20] = some (errL n (fun i => res (fz z) (FS n z) (FG n z) i * res (fz z) (FS n z) (FG n z) i), [some (.scr ns), some (.int (k : Nat)), some (sta st1), some (bl n z), s4, some (encP s g), some (enc e), some (encO oo), t8, some (encP (FS n z) (FG n z)), some (errL n (res (fz z) (FS n z) (FG n z))), s11, s12, s13, s14, s15, s16, s17, s18, s19, s20]) := by
    rw [comp_ix (G := fun i => enc (res (fz z) (FS n z) (FG n z) i)) (F := fun i => enc (res (fz z) (FS n z) (FG n z) i * res (fz z) (FS n z) (FG n z) i)) (is := List.range n) (by show 11 < 21; decide) rfl (by simp; omega) fun i hi => ?_]
    · rfl
    · have hi := List.mem_range.mp hi
      have q := times_eq _ _ 105 105 (r2 i hi) (r2 i hi)
      simp only [cTest_ap, cOp_ap, cUser_ap, evR_v, evR_nil, cVar_ap, cK_ap, cCall_ap, evA_cons, evA_nil, List.getElem?_cons_succ, List.getElem?_cons_zero, Option.getD_some, Option.map_some, Option.bind_some, slotsR_v, slotsR_nil, setOuts_nil, List.set_cons_succ, List.set_cons_zero, truthB_bl, q]
  obtain ⟨u4, _⟩ := sumof_eq n (fun i => res (fz z) (FS n z) (FG n z) i * res (fz z) (FS n z) (FG n z) i) 210 (fun i hi => (r2 i hi).mul (r2 i hi)) (by omega) (by decide)
  obtain ⟨u5, _⟩ := sumof_eq n (res (fz z) (FS n z) (FG n z)) 105 r2 (by omega) (by decide)
  rw [fr0] at u5
  have u6 : neD (enc (sq n (fz z) (FS n z) (FG n z))) (enc (sm n fun i => res (fz z) (FS n z) (FG n z) i * res (fz z) (FS n z) (FG n z) i)) = some (.bl false) := (enc_pl _).ne0
  rw [seq_nx (ρ' := [some (.scr ns), some (.int (k : Nat)), some (sta st1), some (bl n z), s4, some (encP s g), some (enc e), some (encO oo), t8, some (encP (FS n z) (FG n z)), some (errL n (res (fz z) (FS n z) (FG n z))), s11, s12, s13, s14, s15, s16, s17, s18, s19, s20]) (if_nil (by
    simp only [cOr_ap, cTup_ap, cTest_ap, cOp_ap, cUser_ap, evR_v, evR_nil, cVar_ap, cK_ap, cCall_ap, evA_cons, evA_nil, List.getElem?_cons_succ, List.getElem?_cons_zero, Option.getD_some, Option.map_some, Option.bind_some, slotsR_v, slotsR_nil, setOuts_nil, List.set_cons_succ, List.set_cons_zero, truthB_bl, u1, u3, u4, u5, u6, enc01, neD_enc, ne_eq, not_true_eq_false, decide_false, Bool.false_eq_true, if_false]))]
  have v1 := fracq (((st1 % 5 : Nat) : Int) - 2) 7 4 (by decide) (by decide)
  have v2 := fracq (((st1 / 5 % 5 : Nat) : Int) - 2) 9 4 (by decide) (by decide)
  have v3 := Sz.frac (p := ((st1 % 5 : Nat) : Int) - 2) (q := 7) (b := 4) (by decide) (by have := Nat.mod_lt st1 (show 0 < 5 by decide); omega) (by decide)
  have v4 := Sz.frac (p := ((st1 / 5 % 5 : Nat) : Int) - 2) (q := 9) (b := 4) (by decide) (by have := Nat.mod_lt (st1 / 5) (show 0 < 5 by decide); omega) (by decide)
  have v5 := plus_eq _ _ 58 4 fS v3
  have v6 := plus_eq _ _ 27 4 fG v4
  have v7 := digit_ap (F := f__law_digit) (s := 2) (m := 5) (st := st1) (g := cK (D.int 5)) (ρ := [some (.scr ns), some (.int (k : Nat)), some (sta st1), some (bl n z), s4, some (encP s g), some (enc e), some (encO oo), t8, some (encP (FS n z) (FG n z)), some (errL n (res (fz z) (FS n z) (FG n z))), s11, s12, s13, s14, s15, s16, s17, s18, s19, s20]) dig rfl rfl (by decide) (by decide)
  have v8 := digit_ap (F := f__law_digit) (s := 2) (m := 5) (st := st1 / 5) (g := cK (D.int 5)) (ρ := [some (.scr ns), some (.int (k : Nat)), some (sta (st1 / 5)), some (bl n z), s4, some (encP s g), some (enc e), some (encO oo), t8, some (encP (FS n z) (FG n z)), some (errL n (res (fz z) (FS n z) (FG n z))), s11, s12, s13, s14, s15, s16, s17, s18, s19, s20]) dig rfl rfl (by decide) (by decide)
  simp only [List.set_cons_succ, List.set_cons_zero] at v7 v8
  rw [seq_nx (ρ' := [some (.scr ns), some (.int (k : Nat)), some (sta (st1 / 5 / 5)), some (bl n z), s4, some (encP s g), some (enc e), some (encO oo), t8, some (encP (FS n z) (FG n z)), some (errL n (res (fz z) (FS n z) (FG n z))), s11, some (encP (FS n z + (((st1 % 5 : Nat) : Int) - 2 : Int) / ((7 : Int) : Rat)) (FG n z + (((st1 / 5 % 5 : Nat) : Int) - 2 : Int) / ((9 : Int) : Rat))), s13, s14, s15, s16, s17, s18, s19, s20]) (by
    rw [cSet_ap, cTup_ap]
    simp only [evA_cons, evA_nil, cUser_ap (F := f_plus), cUser_ap (F := f_frac), evR_v, evR_nil, cOp_ap, cVar_ap, cK_ap, List.getElem?_cons_succ, List.getElem?_cons_zero, Option.getD_some, Option.map_some, Option.bind_some, slotsR_v, slotsR_nil, setOuts_nil, List.set_cons_succ, List.set_cons_zero, i0, i1, v7, v8, subD_int, v1, v2, v5, v6]
    rfl)]
  have nS := fS.add v3
  have nG := fG.add v4
  generalize hs' : FS n z + (((st1 % 5 : Nat) : Int) - 2 : Int) / ((7 : Int) : Rat) = s' at nS
  generalize hg' : FG n z + (((st1 / 5 % 5 : Nat) : Int) - 2 : Int) / ((9 : Int) : Rat) = g' at nG
  generalize st1 / 5 / 5 = st2
  show ∃ ρ', cSeq _ _ [some (.scr ns), some (.int (k : Nat)), some (sta st2), some (bl n z), s4, some (encP s g), some (enc e), some (encO oo), t8, some (encP (FS n z) (FG n z)), some (errL n (res (fz z) (FS n z) (FG n z))), s11, some (encP s' g'), s13, s14, s15, s16, s17, s18, s19, s20] = _ ∧ _
  have nS : Sz s' 63 := nS
  have nG : Sz g' 32 := nG
  obtain ⟨x1, x2⟩ := squares_eq s' g' n z (S := 115) nS nG n12 hz14 (by decide) (by decide) (by decide) (by decide) (by decide) (by decide)
  have x3 := less_eq _ _ 3000 3000 x2 u2
  rw [decide_eq_false (show ¬ sq n (fz z) s' g' < sq n (fz z) (FS n z) (FG n z) by have := sqle (z := z) n1 s' g'; grind)] at x3
  have x4 : neD (encP s' g') (encP (FS n z) (FG n z)) = _ := neD_encP
  rw [seq_nx (ρ' := [some (.scr ns), some (.int (k : Nat)), some (sta st2), some (bl n z), s4, some (encP s g), some (enc e), some (encO oo), t8, some (encP (FS n z) (FG n z)), some (errL n (res (fz z) (FS n z) (FG n z))), s11, some (encP s' g'), s13, s14, s15, s16, s17, s18, s19, s20]) (if_nil (by
    rw [cAnd_ap]
    by_cases hq : s' = FS n z ∧ g' = FG n z
    · rw [decide_eq_false (fun h => h hq)] at x4
      simp only [cTest_ap, cOp_ap, cUser_ap, evR_v, evR_nil, cVar_ap, cK_ap, cCall_ap, evA_cons, evA_nil, List.getElem?_cons_succ, List.getElem?_cons_zero, Option.getD_some, Option.map_some, Option.bind_some, slotsR_v, slotsR_nil, setOuts_nil, List.set_cons_succ, List.set_cons_zero, truthB_bl, x4, Bool.false_eq_true, if_false]
    · rw [decide_eq_true hq] at x4
      simp only [cTest_ap, cOp_ap, cUser_ap, evR_v, evR_nil, cVar_ap, cK_ap, cCall_ap, evA_cons, evA_nil, List.getElem?_cons_succ, List.getElem?_cons_zero, Option.getD_some, Option.map_some, Option.bind_some, slotsR_v, slotsR_nil, setOuts_nil, List.set_cons_succ, List.set_cons_zero, truthB_bl, x4, if_true, cOr_ap, x1, u1, x3, Bool.false_eq_true, if_false, cAnd_ap, bl_len, gtD_int]
      by_cases h2 : n < 2
      · rw [decide_eq_false (show ¬ (1 : Int) < (n : Int) by omega)]
        simp only [Bool.false_eq_true, if_false]
      · rw [decide_eq_true (show (1 : Int) < (n : Int) by omega)]
        have y := js_two nS nG (by omega) n12 hz14 (by decide) (by decide)
        rw [decide_eq_false (fun h => hq (by
          have := fit_eq (show 1 < n by omega) (fz z) h.1 h.2
          unfold FS FG
          rw [if_neg h2, if_neg h2]
          exact this))] at y
        simp only [if_true, y, setOuts_nil, Option.map_some, Option.bind_some, notB, decide_true, Bool.not_true, truthB_bl]))]
  have w5 := worst_eq s' g' n z nS nG (by omega) hz14 (by decide) (by decide) (by decide) (by decide)
  obtain ⟨_, w6⟩ := errors_eq s' g' n z nS nG (by omega) hz14 (by decide) (by decide) (by decide) (by decide)
  have w7 := less_eq (mx n (res (fz z) s' g')) e _ 52 (mx_sz (by decide) w6) se (by decide)
  rw [decide_eq_false (show ¬ mx n (res (fz z) s' g') < e by have := mx_low hev.ok s' g'; grind)] at w7
  rw [seq_nx (ρ' := [some (.scr ns), some (.int (k : Nat)), some (sta st2), some (bl n z), s4, some (encP s g), some (enc e), some (encO oo), t8, some (encP (FS n z) (FG n z)), some (errL n (res (fz z) (FS n z) (FG n z))), s11, some (encP s' g'), s13, s14, s15, s16, s17, s18, s19, s20]) (if_nil (by
    simp only [cTest_ap, cOp_ap, cUser_ap, evR_v, evR_nil, cVar_ap, cK_ap, cCall_ap, evA_cons, evA_nil, List.getElem?_cons_succ, List.getElem?_cons_zero, Option.getD_some, Option.map_some, Option.bind_some, slotsR_v, slotsR_nil, setOuts_nil, List.set_cons_succ, List.set_cons_zero, truthB_bl, w5, w7]))]
  have v7 := digit_ap (F := f__law_digit) (s := 2) (m := 1000) (st := st2) (g := cK (D.int 1000)) (ρ := [some (.scr ns), some (.int (k : Nat)), some (sta st2), some (bl n z), s4, some (encP s g), some (enc e), some (encO oo), t8, some (encP (FS n z) (FG n z)), some (errL n (res (fz z) (FS n z) (FG n z))), s11, some (encP s' g'), s13, s14, s15, s16, s17, s18, s19, s20]) dig rfl rfl (by decide) (by decide)
  have v8 := digit_ap (F := f__law_digit) (s := 2) (m := 99) (st := st2 / 1000) (g := cK (D.int 99)) (ρ := [some (.scr ns), some (.int (k : Nat)), some (sta (st2 / 1000)), some (bl n z), s4, some (encP s g), some (enc e), some (encO oo), t8, some (encP (FS n z) (FG n z)), some (errL n (res (fz z) (FS n z) (FG n z))), s11, some (encP s' g'), s13, s14, s15, s16, s17, s18, s19, s20]) dig rfl rfl (by decide) (by decide)
  simp only [List.set_cons_succ, List.set_cons_zero] at v7 v8
  rw [seq_nx (ρ' := [some (.scr ns), some (.int (k : Nat)), some (sta (st2 / 1000 / 99)), some (bl n z), s4, some (encP s g), some (enc e), some (encO oo), t8, some (encP (FS n z) (FG n z)), some (errL n (res (fz z) (FS n z) (FG n z))), s11, some (encP s' g'), some (.int (((st2 % 1000 : Nat) : Int) - 500)), some (.int (((st2 / 1000 % 99 : Nat) : Int) - 40)), s15, s16, s17, s18, s19, s20]) (by
    rw [cAsg_ap, cTup_ap]
    simp only [evA_cons, evA_nil, cOp_ap, cVar_ap, cK_ap, Option.map_some, Option.bind_some, v7, v8, subD_int]
    rfl)]
  have hst : (((st2 % 1000 : Nat) : Int) - 500).natAbs ≤ 500 := by have := Nat.mod_lt st2 (show 0 < 1000 by decide); omega
  have hgp : (((st2 / 1000 % 99 : Nat) : Int) - 40).natAbs ≤ 60 := by have := Nat.mod_lt (st2 / 1000) (show 0 < 99 by decide); omega
  generalize ((st2 % 1000 : Nat) : Int) - 500 = a at hst ⊢
  generalize ((st2 / 1000 % 99 : Nat) : Int) - 40 = b at hgp ⊢
  generalize st2 / 1000 / 99 = st3
  have bi : ∀ i : Nat, i < n → (b * (i : Int)).natAbs ≤ 60 * 12 := fun i hi => by rw [Int.natAbs_mul, Int.natAbs_natCast]; exact Nat.mul_le_mul hgp (by omega)
  have hm14 : Bz 14 n fun i => z i + a + b * (i : Int) := fun i hi => by
    have h1 := zb i hi
    have h2 := bi i hi
    show (z i + a + b * (i : Int)).natAbs < 2 ^ 14
    omega
  have fm : (fz fun i => z i + a + b * (i : Int)) = fun m : Nat => fz z m + (a : Rat) + (b : Rat) * m := by
    funext i
    show ((z i + a + b * (i : Int) : Int) : Rat) = _
    rw [Rat.intCast_add, Rat.intCast_add, Rat.intCast_mul, Rat.intCast_natCast]
  rw [seq_nx (ρ' := [some (.scr ns), some (.int (k : Nat)), some (sta st3), some (bl n z), s4, some (encP s g), some (enc e), some (encO oo), t8, some (encP (FS n z) (FG n z)), some (errL n (res (fz z) (FS n z) (FG n z))), s11, some (encP s' g'), some (.int a), some (.int b), some (bl n fun i => z i + a + b * (i : Int)), s16, s17, s18, s19, s20]) (by
    rw [cSet_ap, comp_ix (G := fun (i : Nat) => D.int (i : Int)) (F := fun (i : Nat) => D.int (z i + a + b * (i : Int))) (is := List.range n) (by show 4 < 21; decide) (itRm (n := n) (by
      simp only [cTest_ap, cOp_ap, cUser_ap, evR_v, evR_nil, cVar_ap, cK_ap, cCall_ap, evA_cons, evA_nil, List.getElem?_cons_succ, List.getElem?_cons_zero, Option.getD_some, Option.map_some, Option.bind_some, slotsR_v, slotsR_nil, setOuts_nil, List.set_cons_succ, List.set_cons_zero, truthB_bl, bl_len]) (by omega)) (by simp; omega) (fun i hi => by
      have hi := List.mem_range.mp hi
      have m := mulD_lt (i := b) (j := (i : Int)) 10 10 (by omega) (by omega)
      simp only [cTest_ap, cOp_ap, cUser_ap, evR_v, evR_nil, cVar_ap, cK_ap, cCall_ap, evA_cons, evA_nil, List.getElem?_cons_succ, List.getElem?_cons_zero, Option.getD_some, Option.map_some, Option.bind_some, slotsR_v, slotsR_nil, setOuts_nil, List.set_cons_succ, List.set_cons_zero, truthB_bl, bl_ix hi, addD_int, m])]
    rfl)]
  obtain ⟨sm', gm, em, om, evm, hevm⟩ := evenest_eq (z := fun i => z i + a + b * (i : Int)) n1 (by omega) hm14
  have eqm : em = e := by
    have h1 := hevm.ok
    rw [fm] at h1
    have tr : ∀ i j k, i < j → j < k → k < n → (1 : Rat) * ab (trip (fz z) i j k) = 1 * ab (trip (fun m : Nat => fz z m + (a : Rat) + (b : Rat) * m) i j k) := fun i j k x y w => by rw [trip_mv _ _ _ (show i < k by omega)]
    have q1 := max_le (c := 1) (c' := 1) (by decide) (by decide) hev.ok h1 fun i j k x y w => ⟨i, j, k, x, y, w, tr i j k x y w⟩
    have q2 := max_le (c := 1) (c' := 1) (by decide) (by decide) h1 hev.ok fun i j k x y w => ⟨i, j, k, x, y, w, (tr i j k x y w).symm⟩
    grind
  rw [eqm] at evm
  have y0 : ∀ (p q r : D), ixD (.tup [p, q, r]) (.int 1) = some q := fun _ _ _ => rfl
  have b0 : ixD (encP s g) (.int 0) = some (enc s) := rfl
  have b1 : ixD (encP s g) (.int 1) = some (enc g) := rfl
  have za := frac1 a
  have zg := frac1 b
  have sa : Sz (a : Rat) 10 := Sz.int (by omega)
  have sb : Sz (b : Rat) 7 := Sz.int (by omega)
  have p1 := plus_eq s (a : Rat) 90 10 ss sa
  have p2 := plus_eq g (b : Rat) 20 7 sg sb
  obtain ⟨er1, _⟩ := errors_eq (s + a) (g + b) n (fun i => z i + a + b * (i : Int)) (ss.add sa) (sg.add sb) (by omega) hm14 (by decide) (by decide) (by decide) (by decide)
  obtain ⟨er2, _⟩ := errors_eq s g n z ss sg (by omega) hz14 (by decide) (by decide) (by decide) (by decide)
  have er1 : f_errors [.tup [enc (s + a), enc (g + b)], bl n fun i => z i + a + b * (i : Int)] = _ := er1
  have er3 := errL_ne (n := n) (r := res (fz fun i => z i + a + b * (i : Int)) (s + a) (g + b)) (r' := res (fz z) s g) fun i _ => by rw [fm]; exact res_mv (fz z) s g a b i
  have ee : neD (enc e) (enc e) = some (.bl false) := (enc_pl e).ne0
  rw [seq_nx (ρ' := [some (.scr ns), some (.int (k : Nat)), some (sta st3), some (bl n z), s4, some (encP s g), some (enc e), some (encO oo), t8, some (encP (FS n z) (FG n z)), some (errL n (res (fz z) (FS n z) (FG n z))), s11, some (encP s' g'), some (.int a), some (.int b), some (bl n fun i => z i + a + b * (i : Int)), s16, s17, s18, s19, s20]) (if_nil (by
    simp only [cOr_ap, cTup_ap, cTest_ap, cOp_ap, cUser_ap, evR_v, evR_nil, cVar_ap, cK_ap, cCall_ap, evA_cons, evA_nil, List.getElem?_cons_succ, List.getElem?_cons_zero, Option.getD_some, Option.map_some, Option.bind_some, slotsR_v, slotsR_nil, setOuts_nil, List.set_cons_succ, List.set_cons_zero, truthB_bl, evm, y0, b0, b1, ee, za, zg, p1, p2, er1, er2, er3, Bool.false_eq_true, if_false]))]
  have l1 := least_eq n1 n12 hm14
  have p3 := plus_eq (FS n z) (a : Rat) 58 10 fS sa
  have p4 := plus_eq (FG n z) (b : Rat) 27 7 fG sb
  rw [seq_nx (ρ' := [some (.scr ns), some (.int (k : Nat)), some (sta st3), some (bl n z), s4, some (encP s g), some (enc e), some (encO oo), t8, some (encP (FS n z) (FG n z)), some (errL n (res (fz z) (FS n z) (FG n z))), s11, some (encP s' g'), some (.int a), some (.int b), some (bl n fun i => z i + a + b * (i : Int)), s16, s17, s18, s19, s20]) (if_nil (by
    rw [cAnd_ap]
    by_cases h2 : n < 2
    · have q : ¬ (1 : Int) < (n : Int) := by omega
      simp only [cTest_ap, cOp_ap, cUser_ap, evR_v, evR_nil, cVar_ap, cK_ap, cCall_ap, evA_cons, evA_nil, List.getElem?_cons_succ, List.getElem?_cons_zero, Option.getD_some, Option.map_some, Option.bind_some, slotsR_v, slotsR_nil, setOuts_nil, List.set_cons_succ, List.set_cons_zero, truthB_bl, bl_len, gtD_int, decide_eq_false q, Bool.false_eq_true, if_false]
    · have q : (1 : Int) < (n : Int) := by omega
      have hx : neD (encP (FS n fun i => z i + a + b * (i : Int)) (FG n fun i => z i + a + b * (i : Int))) (.tup [enc (FS n z + a), enc (FG n z + b)]) = some (.bl false) := by
        have h3 : FS n (fun i => z i + a + b * (i : Int)) = FS n z + a ∧ FG n (fun i => z i + a + b * (i : Int)) = FG n z + b := by
          unfold FS FG
          rw [if_neg h2, if_neg h2, if_neg h2, if_neg h2, fm]
          exact fit_mv (by omega) (fz z) a b
        rw [h3.1, h3.2]
        exact (encP_pl _ _).ne0
      simp only [cTup_ap, cTest_ap, cOp_ap, cUser_ap, evR_v, evR_nil, cVar_ap, cK_ap, cCall_ap, evA_cons, evA_nil, List.getElem?_cons_succ, List.getElem?_cons_zero, Option.getD_some, Option.map_some, Option.bind_some, slotsR_v, slotsR_nil, setOuts_nil, List.set_cons_succ, List.set_cons_zero, truthB_bl, bl_len, gtD_int, decide_eq_true q, if_true, l1, i0, i1, za, zg, p3, p4, hx]))]
  have v9 := digit_ap (F := f__law_digit) (s := 2) (m := 5) (st := st3) (g := cK (D.int 5)) (ρ := [some (.scr ns), some (.int (k : Nat)), some (sta st3), some (bl n z), s4, some (encP s g), some (enc e), some (encO oo), t8, some (encP (FS n z) (FG n z)), some (errL n (res (fz z) (FS n z) (FG n z))), s11, some (encP s' g'), some (.int a), some (.int b), some (bl n fun i => z i + a + b * (i : Int)), s16, s17, s18, s19, s20]) dig rfl rfl (by decide) (by decide)
  simp only [List.set_cons_succ, List.set_cons_zero] at v9
  rw [seq_nx (ρ' := [some (.scr ns), some (.int (k : Nat)), some (sta (st3 / 5)), some (bl n z), s4, some (encP s g), some (enc e), some (encO oo), t8, some (encP (FS n z) (FG n z)), some (errL n (res (fz z) (FS n z) (FG n z))), s11, some (encP s' g'), some (.int a), some (.int b), some (bl n fun i => z i + a + b * (i : Int)), some (.int (2 + ((st3 % 5 : Nat) : Int))), s17, s18, s19, s20]) (by
    simp only [cSet_ap, cOp_ap, cK_ap, Option.bind_some, v9, addD_int, Option.map_some, List.set_cons_succ, List.set_cons_zero])]
  have hmm : (2 + ((st3 % 5 : Nat) : Int)).natAbs ≤ 6 ∧ 0 < 2 + ((st3 % 5 : Nat) : Int) := by have := Nat.mod_lt st3 (show 0 < 5 by decide); omega
  generalize 2 + ((st3 % 5 : Nat) : Int) = m at hmm ⊢
  generalize st3 / 5 = st4
  obtain ⟨hm6, hm0⟩ := hmm
  have hmr : (0 : Rat) < (m : Rat) := by rw [show (0 : Rat) = ((0 : Int) : Rat) from rfl]; exact Rat.intCast_lt_intCast.mpr hm0
  have mz : ∀ i, i < n → (m * z i).natAbs ≤ 6 * 2048 := fun i hi => by rw [Int.natAbs_mul]; exact Nat.mul_le_mul hm6 (by have := zb i hi; omega)
  have hg14 : Bz 14 n fun i => m * z i := fun i hi => by have := mz i hi; show (m * z i).natAbs < 2 ^ 14; omega
  have hb14 : Bz 14 n fun i => 0 - z (n - 1 - i) := fun i hi => by have := zb (n - 1 - i) (by omega); show (0 - z (n - 1 - i)).natAbs < 2 ^ 14; omega
  have fgr : (fz fun i => m * z i) = fun i => (m : Rat) * fz z i := by funext i; exact Rat.intCast_mul _ _
  have fbk : (fz fun i => 0 - z (n - 1 - i)) = fun i => 0 - fz z (n - 1 - i) := by funext i; exact icast_sub _ _
  rw [seq_nx (ρ' := [some (.scr ns), some (.int (k : Nat)), some (sta st4), some (bl n z), s4, some (encP s g), some (enc e), some (encO oo), t8, some (encP (FS n z) (FG n z)), some (errL n (res (fz z) (FS n z) (FG n z))), s11, some (encP s' g'), some (.int a), some (.int b), some (bl n fun i => z i + a + b * (i : Int)), some (.int m), some (bl n fun i => m * z i), s18, s19, s20]) (by
    rw [cSet_ap, comp_ix (G := fun i => D.int (z i)) (F := fun i => D.int (m * z i)) (is := List.range n) (by show 18 < 21; decide) rfl (by simp; omega) (fun i hi => by
      have hi := List.mem_range.mp hi
      have mm := mulD_lt (i := m) (j := z i) 10 14 (by omega) (by have := zb i hi; omega)
      simp only [cTest_ap, cOp_ap, cUser_ap, evR_v, evR_nil, cVar_ap, cK_ap, cCall_ap, evA_cons, evA_nil, List.getElem?_cons_succ, List.getElem?_cons_zero, Option.getD_some, Option.map_some, Option.bind_some, slotsR_v, slotsR_nil, setOuts_nil, List.set_cons_succ, List.set_cons_zero, truthB_bl, mm])]
    rfl)]
  rw [seq_nx (ρ' := [some (.scr ns), some (.int (k : Nat)), some (sta st4), some (bl n z), s4, some (encP s g), some (enc e), some (encO oo), t8, some (encP (FS n z) (FG n z)), some (errL n (res (fz z) (FS n z) (FG n z))), s11, some (encP s' g'), some (.int a), some (.int b), some (bl n fun i => z i + a + b * (i : Int)), some (.int m), some (bl n fun i => m * z i), s18, some (bl n fun i => 0 - z (n - 1 - i)), s20]) (by
    rw [cSet_ap, comp_ix (G := fun i => D.int (z (n - 1 - i))) (F := fun i => D.int (0 - z (n - 1 - i))) (is := List.range n) (by show 18 < 21; decide) (by
      unfold cRv
      simp only [cTest_ap, cOp_ap, cUser_ap, evR_v, evR_nil, cVar_ap, cK_ap, cCall_ap, evA_cons, evA_nil, List.getElem?_cons_succ, List.getElem?_cons_zero, Option.getD_some, Option.map_some, Option.bind_some, slotsR_v, slotsR_nil, setOuts_nil, List.set_cons_succ, List.set_cons_zero, truthB_bl, bl, bl_rev]) (by simp; omega) (fun i hi => by
      simp only [cTest_ap, cOp_ap, cUser_ap, evR_v, evR_nil, cVar_ap, cK_ap, cCall_ap, evA_cons, evA_nil, List.getElem?_cons_succ, List.getElem?_cons_zero, Option.getD_some, Option.map_some, Option.bind_some, slotsR_v, slotsR_nil, setOuts_nil, List.set_cons_succ, List.set_cons_zero, truthB_bl, subD_int])]
    rfl)]
  obtain ⟨_, _, eg, og, evg, hevg⟩ := evenest_eq (z := fun i => m * z i) n1 (by omega) hg14
  obtain ⟨_, _, eb, ob, evb, hevb⟩ := evenest_eq (z := fun i => 0 - z (n - 1 - i)) n1 (by omega) hb14
  have eqg : eg = (m : Rat) * e := by
    have h1 := hevg.ok
    rw [fgr] at h1
    have tr : ∀ i j k, i < j → j < k → k < n → (m : Rat) * ab (trip (fz z) i j k) = 1 * ab (trip (fun i => (m : Rat) * fz z i) i j k) := fun i j k x y w => by rw [trip_sc _ _ (show i < k by omega), ab_mul hmr, Rat.one_mul]
    have q1 := max_le (c := (m : Rat)) (c' := 1) hmr (by decide) hev.ok h1 fun i j k x y w => ⟨i, j, k, x, y, w, tr i j k x y w⟩
    have q2 := max_le (c := 1) (c' := (m : Rat)) (by decide) hmr h1 hev.ok fun i j k x y w => ⟨i, j, k, x, y, w, (tr i j k x y w).symm⟩
    grind
  have eqb : eb = e := by
    have h1 := hevb.ok
    rw [fbk] at h1
    have q1 := max_le (c := 1) (c' := 1) (by decide) (by decide) hev.ok h1 fun i j k x y w => ⟨n - 1 - k, n - 1 - j, n - 1 - i, by omega, by omega, by omega, by
      have h2 := trip_bk (fz z) (n := n) (i := n - 1 - k) (j := n - 1 - j) (k := n - 1 - i) (by omega) (by omega) (by omega)
      rw [show n - 1 - (n - 1 - i) = i by omega, show n - 1 - (n - 1 - j) = j by omega, show n - 1 - (n - 1 - k) = k by omega] at h2
      rw [h2, ab_neg]⟩
    have q2 := max_le (c := 1) (c' := 1) (by decide) (by decide) h1 hev.ok fun i j k x y w => ⟨n - 1 - k, n - 1 - j, n - 1 - i, by omega, by omega, by omega, by rw [trip_bk (fz z) x y w, ab_neg]⟩
    grind
  rw [eqg] at evg
  rw [eqb] at evb
  have zm := frac1 m
  have smz : Sz (m : Rat) 3 := Sz.int (by omega)
  have tm := times_eq (m : Rat) e 3 52 smz se
  have em' : neD (enc ((m : Rat) * e)) (enc ((m : Rat) * e)) = some (.bl false) := (enc_pl _).ne0
  rw [seq_nx (ρ' := [some (.scr ns), some (.int (k : Nat)), some (sta st4), some (bl n z), s4, some (encP s g), some (enc e), some (encO oo), t8, some (encP (FS n z) (FG n z)), some (errL n (res (fz z) (FS n z) (FG n z))), s11, some (encP s' g'), some (.int a), some (.int b), some (bl n fun i => z i + a + b * (i : Int)), some (.int m), some (bl n fun i => m * z i), s18, some (bl n fun i => 0 - z (n - 1 - i)), s20]) (if_nil (by
    simp only [cOr_ap, cTest_ap, cOp_ap, cUser_ap, evR_v, evR_nil, cVar_ap, cK_ap, cCall_ap, evA_cons, evA_nil, List.getElem?_cons_succ, List.getElem?_cons_zero, Option.getD_some, Option.map_some, Option.bind_some, slotsR_v, slotsR_nil, setOuts_nil, List.set_cons_succ, List.set_cons_zero, truthB_bl, evg, evb, y0, zm, tm, em', ee, Bool.false_eq_true, if_false]))]
  have lg := least_eq n1 n12 hg14
  have lb := least_eq n1 n12 hb14
  obtain ⟨gS, gG⟩ := FS_sz n1 n12 hg14
  obtain ⟨kS, kG⟩ := FS_sz n1 n12 hb14
  obtain ⟨sg1, _⟩ := squares_eq _ _ n _ (S := 105) gS gG n12 hg14 (by decide) (by decide) (by decide) (by decide) (by decide) (by decide)
  obtain ⟨sb1, _⟩ := squares_eq _ _ n _ (S := 105) kS kG n12 hb14 (by decide) (by decide) (by decide) (by decide) (by decide) (by decide)
  have sg2 : sq n (fz fun i => m * z i) (FS n fun i => m * z i) (FG n fun i => m * z i) = (m : Rat) * m * sq n (fz z) (FS n z) (FG n z) := by
    rw [← sq_sc, fgr]
    unfold FS FG
    by_cases h2 : n < 2
    · rw [if_pos h2, if_pos h2, if_pos h2, if_pos h2, fgr, Rat.mul_zero]
    · rw [if_neg h2, if_neg h2, if_neg h2, if_neg h2, fgr, (fit_sc (by omega) (fz z) (m : Rat)).1, (fit_sc (by omega) (fz z) (m : Rat)).2]
  have sb2 : sq n (fz fun i => 0 - z (n - 1 - i)) (FS n fun i => 0 - z (n - 1 - i)) (FG n fun i => 0 - z (n - 1 - i)) = sq n (fz z) (FS n z) (FG n z) := by
    rw [fbk]
    unfold FS FG
    by_cases h2 : n < 2
    · have h1 : n = 1 := by omega
      subst h1
      rw [if_pos h2, if_pos h2, if_pos h2, if_pos h2, fbk]
      have q1 := sq_one (fun i => 0 - fz z (1 - 1 - i))
      have q2 := sq_one (fz z)
      exact q1.trans q2.symm
    · rw [if_neg h2, if_neg h2, if_neg h2, if_neg h2, fbk, (fit_bk (by omega) (fz z)).1, (fit_bk (by omega) (fz z)).2, sq_bk]
  rw [sg2] at sg1
  rw [sb2] at sb1
  have mmm := mulD_lt (i := m) (j := m) 10 10 (by omega) (by omega)
  have zmm := frac1 (m * m)
  rw [Rat.intCast_mul] at zmm
  have smm := smz.mul smz
  have tmm := times_eq ((m : Rat) * m) (sq n (fz z) (FS n z) (FG n z)) 6 3000 smm u2
  have en : ∀ x : Rat, neD (enc x) (enc x) = some (.bl false) := fun x => (enc_pl x).ne0
  rw [seq_nx (ρ' := [some (.scr ns), some (.int (k : Nat)), some (sta st4), some (bl n z), s4, some (encP s g), some (enc e), some (encO oo), t8, some (encP (FS n z) (FG n z)), some (errL n (res (fz z) (FS n z) (FG n z))), s11, some (encP s' g'), some (.int a), some (.int b), some (bl n fun i => z i + a + b * (i : Int)), some (.int m), some (bl n fun i => m * z i), s18, some (bl n fun i => 0 - z (n - 1 - i)), s20]) (if_nil (by
    simp only [cOr_ap, cTest_ap, cOp_ap, cUser_ap, evR_v, evR_nil, cVar_ap, cK_ap, cCall_ap, evA_cons, evA_nil, List.getElem?_cons_succ, List.getElem?_cons_zero, Option.getD_some, Option.map_some, Option.bind_some, slotsR_v, slotsR_nil, setOuts_nil, List.set_cons_succ, List.set_cons_zero, truthB_bl, lg, lb, sg1, sb1, mmm, zmm, tmm, u1, en, Bool.false_eq_true, if_false]))]
  have hs14 : Bz 14 n fun i => a + b * (i : Int) := fun i hi => by
    have h2 := bi i hi
    show (a + b * (i : Int)).natAbs < 2 ^ 14
    omega
  have fst : (fz fun i => a + b * (i : Int)) = fun i : Nat => (a : Rat) + (b : Rat) * i := by
    funext i
    show ((a + b * (i : Int) : Int) : Rat) = _
    rw [Rat.intCast_add, Rat.intCast_mul, Rat.intCast_natCast]
  rw [seq_nx (ρ' := [some (.scr ns), some (.int (k : Nat)), some (sta st4), some (bl n z), s4, some (encP s g), some (enc e), some (encO oo), t8, some (encP (FS n z) (FG n z)), some (errL n (res (fz z) (FS n z) (FG n z))), s11, some (encP s' g'), some (.int a), some (.int b), some (bl n fun i => z i + a + b * (i : Int)), some (.int m), some (bl n fun i => m * z i), s18, some (bl n fun i => 0 - z (n - 1 - i)), some (bl n fun i => a + b * (i : Int))]) (by
    rw [cSet_ap, comp_ix (G := fun (i : Nat) => D.int (i : Int)) (F := fun (i : Nat) => D.int (a + b * (i : Int))) (is := List.range n) (by show 4 < 21; decide) (itRm (n := n) (by
      simp only [cTest_ap, cOp_ap, cUser_ap, evR_v, evR_nil, cVar_ap, cK_ap, cCall_ap, evA_cons, evA_nil, List.getElem?_cons_succ, List.getElem?_cons_zero, Option.getD_some, Option.map_some, Option.bind_some, slotsR_v, slotsR_nil, setOuts_nil, List.set_cons_succ, List.set_cons_zero, truthB_bl, bl_len]) (by omega)) (by simp; omega) (fun i hi => by
      have hi := List.mem_range.mp hi
      have m := mulD_lt (i := b) (j := (i : Int)) 10 10 (by omega) (by omega)
      simp only [cTest_ap, cOp_ap, cUser_ap, evR_v, evR_nil, cVar_ap, cK_ap, cCall_ap, evA_cons, evA_nil, List.getElem?_cons_succ, List.getElem?_cons_zero, Option.getD_some, Option.map_some, Option.bind_some, slotsR_v, slotsR_nil, setOuts_nil, List.set_cons_succ, List.set_cons_zero, truthB_bl, addD_int, m])]
    rfl)]
  obtain ⟨_, _, es, os, evs, hevs⟩ := evenest_eq (z := fun i => a + b * (i : Int)) n1 (by omega) hs14
  have tz : ∀ i j k, i < k → trip (fz fun i => a + b * (i : Int)) i j k = 0 := fun i j k h => by
    rw [fst, ← trip_line _ (a : Rat) (b : Rat) h]
    unfold trip
    rw [Rat.div_def, Rat.div_def]
    grind
  have hos : es = 0 ∧ os = none := by
    have := hevs.ok.at_
    match os, this with
    | none, q => exact ⟨q, rfl⟩
    | some (a', b', c'), q =>
      obtain ⟨q1, q2, q3, q4, q5⟩ := q
      rw [tz a' b' c' (by omega)] at q4
      rw [q4] at q5
      exact absurd q5 (by decide)
  rw [hos.1, hos.2] at evs
  have ls := least_eq n1 n12 hs14
  obtain ⟨hS, hG⟩ := FS_sz n1 n12 hs14
  obtain ⟨sq1, _⟩ := squares_eq _ _ n _ (S := 105) hS hG n12 hs14 (by decide) (by decide) (by decide) (by decide) (by decide) (by decide)
  have sq2 : sq n (fz fun i => a + b * (i : Int)) (FS n fun i => a + b * (i : Int)) (FG n fun i => a + b * (i : Int)) = 0 := by
    have h0 : ∀ i, res (fz fun i => a + b * (i : Int)) (a : Rat) (b : Rat) i = 0 := fun i => by rw [fst]; unfold res; grind
    have h1 := sqle (z := fun i => a + b * (i : Int)) n1 (a : Rat) (b : Rat)
    have h2 : sq n (fz fun i => a + b * (i : Int)) (a : Rat) (b : Rat) = 0 := by
      unfold sq
      rw [sm_congr (G := fun _ => 0) fun i _ => by rw [h0]; grind, sm_const]
      grind
    have h3 : 0 ≤ sq n (fz fun i => a + b * (i : Int)) (FS n fun i => a + b * (i : Int)) (FG n fun i => a + b * (i : Int)) := sm_nn fun i _ => sq_self _
    rw [h2] at h1
    exact Rat.le_antisymm h1 h3
  rw [sq2] at sq1
  have sl : ∀ p q r : D, slD (.tup [p, q, r]) (some 1) none = some (.tup [q, r]) := fun _ _ _ => rfl
  have en2 : neD (.tup [enc 0, encO none]) (.tup [enc 0, .non]) = some (.bl false) := neD_self (by decide +kernel)
  refine ⟨_, if_nil (ρ' := [some (.scr ns), some (.int (k : Nat)), some (sta st4), some (bl n z), s4, some (encP s g), some (enc e), some (encO oo), t8, some (encP (FS n z) (FG n z)), some (errL n (res (fz z) (FS n z) (FG n z))), s11, some (encP s' g'), some (.int a), some (.int b), some (bl n fun i => z i + a + b * (i : Int)), some (.int m), some (bl n fun i => m * z i), s18, some (bl n fun i => 0 - z (n - 1 - i)), some (bl n fun i => a + b * (i : Int))]) (by
    simp only [cOr_ap, cTup_ap, cSl, cNoP, cPart, asInt, cTest_ap, cOp_ap, cUser_ap, evR_v, evR_nil, cVar_ap, cK_ap, cCall_ap, evA_cons, evA_nil, List.getElem?_cons_succ, List.getElem?_cons_zero, Option.getD_some, Option.map_some, Option.bind_some, slotsR_v, slotsR_nil, setOuts_nil, List.set_cons_succ, List.set_cons_zero, truthB_bl, evs, sl, enc01, en2, ls, sq1, en, Bool.false_eq_true, if_false]), _, rfl, rfl⟩
theorem plain (ns : List Int) (hn : ns.length ≤ 63) (hb : ∀ z ∈ ns, Builtin.Int.intBits z ≤ 1048576) : f_law [.scr ns] = some (.bl true, []) := by
  obtain ⟨ρ', e, r, rfl, hr⟩ := loopL_inv (b := fun x ρ => (hName 1 x ρ).bind b_law_L1) (I := fun ρ => ∃ r, ρ = some (.scr ns) :: r ∧ r.length = 20) (xs := rangeD 0 5) (ρ := some (.scr ns) :: List.replicate 20 none)
    (fun x hx ρ ⟨r, hr, hl⟩ => by
      subst hr
      obtain ⟨i, rfl, hi⟩ := rangeD_mem hx
      match r, hl with
      | [s1, s2, s3, s4, s5, s6, s7, s8, s9, s10, s11, s12, s13, s14, s15, s16, s17, s18, s19, s20], _ =>
        have h := turn_ok ns hn hb i (by omega) s2 s3 s4 s5 s6 s7 s8 s9 s10 s11 s12 s13 s14 s15 s16 s17 s18 s19 s20
        rw [hName_ap, Option.bind_some, Int.zero_add]
        exact h) ⟨_, rfl, rfl⟩
  refine runB_eq (ρ := some (.scr ns) :: r) rfl ?_ rfl
  unfold b_law
  rw [seq_nx (ρ' := some (.scr ns) :: r) ?_]
  · rfl
  · rw [cFor_ap, itR (n := 5) rfl]
    exact e
end T14
namespace T14
open PySem PySem.Spec PyProof.Rows L2 G
theorem all_mk {l : PySem.W.OpenLaw} {w : World} {K : PySem.W.Frag} {h : Heap} {mg : Str → Option Value} {fa : Addr} (X : K.In h) (G : h.Ns mainGlobals mg) (hfa : mg "law" = some (.ref fa))
    {w_frac : Addr} {od_frac an_frac : Option Addr} {sl_frac : Array (Option Value)} {oc_frac kV_frac dc_frac pm_frac cd_frac ct_frac : Value}
    (a_frac : PySem.W.nsIn K mainGlobals "frac" = some (some (.ref w_frac))) (l_frac : K.lookup w_frac = some ⟨oc_frac, od_frac, .func (PySem.W.fnOf "frac" "frac" (defArgs s_frac) (defBody s_frac) (defScope s_frac) .none kV_frac dc_frac pm_frac an_frac cd_frac ct_frac), sl_frac⟩) (c_frac : PySem.W.codeIn K cd_frac "frac" = true) (k_frac : PySem.W.keepIn K (.ref w_frac) = true)
    {w_plus : Addr} {od_plus an_plus : Option Addr} {sl_plus : Array (Option Value)} {oc_plus kV_plus dc_plus pm_plus cd_plus ct_plus : Value}
    (a_plus : PySem.W.nsIn K mainGlobals "plus" = some (some (.ref w_plus))) (l_plus : K.lookup w_plus = some ⟨oc_plus, od_plus, .func (PySem.W.fnOf "plus" "plus" (defArgs s_plus) (defBody s_plus) (defScope s_plus) .none kV_plus dc_plus pm_plus an_plus cd_plus ct_plus), sl_plus⟩) (c_plus : PySem.W.codeIn K cd_plus "plus" = true) (k_plus : PySem.W.keepIn K (.ref w_plus) = true)
    {w_minus : Addr} {od_minus an_minus : Option Addr} {sl_minus : Array (Option Value)} {oc_minus kV_minus dc_minus pm_minus cd_minus ct_minus : Value}
    (a_minus : PySem.W.nsIn K mainGlobals "minus" = some (some (.ref w_minus))) (l_minus : K.lookup w_minus = some ⟨oc_minus, od_minus, .func (PySem.W.fnOf "minus" "minus" (defArgs s_minus) (defBody s_minus) (defScope s_minus) .none kV_minus dc_minus pm_minus an_minus cd_minus ct_minus), sl_minus⟩) (c_minus : PySem.W.codeIn K cd_minus "minus" = true) (k_minus : PySem.W.keepIn K (.ref w_minus) = true)
    {w_times : Addr} {od_times an_times : Option Addr} {sl_times : Array (Option Value)} {oc_times kV_times dc_times pm_times cd_times ct_times : Value}
    (a_times : PySem.W.nsIn K mainGlobals "times" = some (some (.ref w_times))) (l_times : K.lookup w_times = some ⟨oc_times, od_times, .func (PySem.W.fnOf "times" "times" (defArgs s_times) (defBody s_times) (defScope s_times) .none kV_times dc_times pm_times an_times cd_times ct_times), sl_times⟩) (c_times : PySem.W.codeIn K cd_times "times" = true) (k_times : PySem.W.keepIn K (.ref w_times) = true)
    {w_over : Addr} {od_over an_over : Option Addr} {sl_over : Array (Option Value)} {oc_over kV_over dc_over pm_over cd_over ct_over : Value}
    (a_over : PySem.W.nsIn K mainGlobals "over" = some (some (.ref w_over))) (l_over : K.lookup w_over = some ⟨oc_over, od_over, .func (PySem.W.fnOf "over" "over" (defArgs s_over) (defBody s_over) (defScope s_over) .none kV_over dc_over pm_over an_over cd_over ct_over), sl_over⟩) (c_over : PySem.W.codeIn K cd_over "over" = true) (k_over : PySem.W.keepIn K (.ref w_over) = true)
    {w_less : Addr} {od_less an_less : Option Addr} {sl_less : Array (Option Value)} {oc_less kV_less dc_less pm_less cd_less ct_less : Value}
    (a_less : PySem.W.nsIn K mainGlobals "less" = some (some (.ref w_less))) (l_less : K.lookup w_less = some ⟨oc_less, od_less, .func (PySem.W.fnOf "less" "less" (defArgs s_less) (defBody s_less) (defScope s_less) .none kV_less dc_less pm_less an_less cd_less ct_less), sl_less⟩) (c_less : PySem.W.codeIn K cd_less "less" = true) (k_less : PySem.W.keepIn K (.ref w_less) = true)
    {w_sum_of : Addr} {od_sum_of an_sum_of : Option Addr} {sl_sum_of : Array (Option Value)} {oc_sum_of kV_sum_of dc_sum_of pm_sum_of cd_sum_of ct_sum_of : Value}
    (a_sum_of : PySem.W.nsIn K mainGlobals "sum_of" = some (some (.ref w_sum_of))) (l_sum_of : K.lookup w_sum_of = some ⟨oc_sum_of, od_sum_of, .func (PySem.W.fnOf "sum_of" "sum_of" (defArgs s_sum_of) (defBody s_sum_of) (defScope s_sum_of) .none kV_sum_of dc_sum_of pm_sum_of an_sum_of cd_sum_of ct_sum_of), sl_sum_of⟩) (c_sum_of : PySem.W.codeIn K cd_sum_of "sum_of" = true) (k_sum_of : PySem.W.keepIn K (.ref w_sum_of) = true)
    {w_error_at : Addr} {od_error_at an_error_at : Option Addr} {sl_error_at : Array (Option Value)} {oc_error_at kV_error_at dc_error_at pm_error_at cd_error_at ct_error_at : Value}
    (a_error_at : PySem.W.nsIn K mainGlobals "error_at" = some (some (.ref w_error_at))) (l_error_at : K.lookup w_error_at = some ⟨oc_error_at, od_error_at, .func (PySem.W.fnOf "error_at" "error_at" (defArgs s_error_at) (defBody s_error_at) (defScope s_error_at) .none kV_error_at dc_error_at pm_error_at an_error_at cd_error_at ct_error_at), sl_error_at⟩) (c_error_at : PySem.W.codeIn K cd_error_at "error_at" = true) (k_error_at : PySem.W.keepIn K (.ref w_error_at) = true)
    {w_errors : Addr} {od_errors an_errors : Option Addr} {sl_errors : Array (Option Value)} {oc_errors kV_errors dc_errors pm_errors cd_errors ct_errors : Value}
    (a_errors : PySem.W.nsIn K mainGlobals "errors" = some (some (.ref w_errors))) (l_errors : K.lookup w_errors = some ⟨oc_errors, od_errors, .func (PySem.W.fnOf "errors" "errors" (defArgs s_errors) (defBody s_errors) (defScope s_errors) .none kV_errors dc_errors pm_errors an_errors cd_errors ct_errors), sl_errors⟩) (c_errors : PySem.W.codeIn K cd_errors "errors" = true) (k_errors : PySem.W.keepIn K (.ref w_errors) = true)
    {w_amount : Addr} {od_amount an_amount : Option Addr} {sl_amount : Array (Option Value)} {oc_amount kV_amount dc_amount pm_amount cd_amount ct_amount : Value}
    (a_amount : PySem.W.nsIn K mainGlobals "amount" = some (some (.ref w_amount))) (l_amount : K.lookup w_amount = some ⟨oc_amount, od_amount, .func (PySem.W.fnOf "amount" "amount" (defArgs s_amount) (defBody s_amount) (defScope s_amount) .none kV_amount dc_amount pm_amount an_amount cd_amount ct_amount), sl_amount⟩) (c_amount : PySem.W.codeIn K cd_amount "amount" = true) (k_amount : PySem.W.keepIn K (.ref w_amount) = true)
    {w_worst_error : Addr} {od_worst_error an_worst_error : Option Addr} {sl_worst_error : Array (Option Value)} {oc_worst_error kV_worst_error dc_worst_error pm_worst_error cd_worst_error ct_worst_error : Value}
    (a_worst_error : PySem.W.nsIn K mainGlobals "worst_error" = some (some (.ref w_worst_error))) (l_worst_error : K.lookup w_worst_error = some ⟨oc_worst_error, od_worst_error, .func (PySem.W.fnOf "worst_error" "worst_error" (defArgs s_worst_error) (defBody s_worst_error) (defScope s_worst_error) .none kV_worst_error dc_worst_error pm_worst_error an_worst_error cd_worst_error ct_worst_error), sl_worst_error⟩) (c_worst_error : PySem.W.codeIn K cd_worst_error "worst_error" = true) (k_worst_error : PySem.W.keepIn K (.ref w_worst_error) = true)
    {w_triple_error : Addr} {od_triple_error an_triple_error : Option Addr} {sl_triple_error : Array (Option Value)} {oc_triple_error kV_triple_error dc_triple_error pm_triple_error cd_triple_error ct_triple_error : Value}
    (a_triple_error : PySem.W.nsIn K mainGlobals "triple_error" = some (some (.ref w_triple_error))) (l_triple_error : K.lookup w_triple_error = some ⟨oc_triple_error, od_triple_error, .func (PySem.W.fnOf "triple_error" "triple_error" (defArgs s_triple_error) (defBody s_triple_error) (defScope s_triple_error) .none kV_triple_error dc_triple_error pm_triple_error an_triple_error cd_triple_error ct_triple_error), sl_triple_error⟩) (c_triple_error : PySem.W.codeIn K cd_triple_error "triple_error" = true) (k_triple_error : PySem.W.keepIn K (.ref w_triple_error) = true)
    {w_evenest : Addr} {od_evenest an_evenest : Option Addr} {sl_evenest : Array (Option Value)} {oc_evenest kV_evenest dc_evenest pm_evenest cd_evenest ct_evenest : Value}
    (a_evenest : PySem.W.nsIn K mainGlobals "evenest" = some (some (.ref w_evenest))) (l_evenest : K.lookup w_evenest = some ⟨oc_evenest, od_evenest, .func (PySem.W.fnOf "evenest" "evenest" (defArgs s_evenest) (defBody s_evenest) (defScope s_evenest) .none kV_evenest dc_evenest pm_evenest an_evenest cd_evenest ct_evenest), sl_evenest⟩) (c_evenest : PySem.W.codeIn K cd_evenest "evenest" = true) (k_evenest : PySem.W.keepIn K (.ref w_evenest) = true)
    {w_squares : Addr} {od_squares an_squares : Option Addr} {sl_squares : Array (Option Value)} {oc_squares kV_squares dc_squares pm_squares cd_squares ct_squares : Value}
    (a_squares : PySem.W.nsIn K mainGlobals "squares" = some (some (.ref w_squares))) (l_squares : K.lookup w_squares = some ⟨oc_squares, od_squares, .func (PySem.W.fnOf "squares" "squares" (defArgs s_squares) (defBody s_squares) (defScope s_squares) .none kV_squares dc_squares pm_squares an_squares cd_squares ct_squares), sl_squares⟩) (c_squares : PySem.W.codeIn K cd_squares "squares" = true) (k_squares : PySem.W.keepIn K (.ref w_squares) = true)
    {w_least_squares : Addr} {od_least_squares an_least_squares : Option Addr} {sl_least_squares : Array (Option Value)} {oc_least_squares kV_least_squares dc_least_squares pm_least_squares cd_least_squares ct_least_squares : Value}
    (a_least_squares : PySem.W.nsIn K mainGlobals "least_squares" = some (some (.ref w_least_squares))) (l_least_squares : K.lookup w_least_squares = some ⟨oc_least_squares, od_least_squares, .func (PySem.W.fnOf "least_squares" "least_squares" (defArgs s_least_squares) (defBody s_least_squares) (defScope s_least_squares) .none kV_least_squares dc_least_squares pm_least_squares an_least_squares cd_least_squares ct_least_squares), sl_least_squares⟩) (c_least_squares : PySem.W.codeIn K cd_least_squares "least_squares" = true) (k_least_squares : PySem.W.keepIn K (.ref w_least_squares) = true)
    {w_judge_evenest : Addr} {od_judge_evenest an_judge_evenest : Option Addr} {sl_judge_evenest : Array (Option Value)} {oc_judge_evenest kV_judge_evenest dc_judge_evenest pm_judge_evenest cd_judge_evenest ct_judge_evenest : Value}
    (a_judge_evenest : PySem.W.nsIn K mainGlobals "judge_evenest" = some (some (.ref w_judge_evenest))) (l_judge_evenest : K.lookup w_judge_evenest = some ⟨oc_judge_evenest, od_judge_evenest, .func (PySem.W.fnOf "judge_evenest" "judge_evenest" (defArgs s_judge_evenest) (defBody s_judge_evenest) (defScope s_judge_evenest) .none kV_judge_evenest dc_judge_evenest pm_judge_evenest an_judge_evenest cd_judge_evenest ct_judge_evenest), sl_judge_evenest⟩) (c_judge_evenest : PySem.W.codeIn K cd_judge_evenest "judge_evenest" = true) (k_judge_evenest : PySem.W.keepIn K (.ref w_judge_evenest) = true)
    {w_judge_squares : Addr} {od_judge_squares an_judge_squares : Option Addr} {sl_judge_squares : Array (Option Value)} {oc_judge_squares kV_judge_squares dc_judge_squares pm_judge_squares cd_judge_squares ct_judge_squares : Value}
    (a_judge_squares : PySem.W.nsIn K mainGlobals "judge_squares" = some (some (.ref w_judge_squares))) (l_judge_squares : K.lookup w_judge_squares = some ⟨oc_judge_squares, od_judge_squares, .func (PySem.W.fnOf "judge_squares" "judge_squares" (defArgs s_judge_squares) (defBody s_judge_squares) (defScope s_judge_squares) .none kV_judge_squares dc_judge_squares pm_judge_squares an_judge_squares cd_judge_squares ct_judge_squares), sl_judge_squares⟩) (c_judge_squares : PySem.W.codeIn K cd_judge_squares "judge_squares" = true) (k_judge_squares : PySem.W.keepIn K (.ref w_judge_squares) = true)
    {w__law_start : Addr} {od__law_start an__law_start : Option Addr} {sl__law_start : Array (Option Value)} {oc__law_start kV__law_start dc__law_start pm__law_start cd__law_start ct__law_start : Value}
    (a__law_start : PySem.W.nsIn K mainGlobals "_law_start" = some (some (.ref w__law_start))) (l__law_start : K.lookup w__law_start = some ⟨oc__law_start, od__law_start, .func (PySem.W.fnOf "_law_start" "_law_start" (defArgs s__law_start) (defBody s__law_start) (defScope s__law_start) .none kV__law_start dc__law_start pm__law_start an__law_start cd__law_start ct__law_start), sl__law_start⟩) (c__law_start : PySem.W.codeIn K cd__law_start "_law_start" = true) (k__law_start : PySem.W.keepIn K (.ref w__law_start) = true)
    {w__law_digit : Addr} {od__law_digit an__law_digit : Option Addr} {sl__law_digit : Array (Option Value)} {oc__law_digit kV__law_digit dc__law_digit pm__law_digit cd__law_digit ct__law_digit : Value}
    (a__law_digit : PySem.W.nsIn K mainGlobals "_law_digit" = some (some (.ref w__law_digit))) (l__law_digit : K.lookup w__law_digit = some ⟨oc__law_digit, od__law_digit, .func (PySem.W.fnOf "_law_digit" "_law_digit" (defArgs s__law_digit) (defBody s__law_digit) (defScope s__law_digit) .none kV__law_digit dc__law_digit pm__law_digit an__law_digit cd__law_digit ct__law_digit), sl__law_digit⟩) (c__law_digit : PySem.W.codeIn K cd__law_digit "_law_digit" = true) (k__law_digit : PySem.W.keepIn K (.ref w__law_digit) = true)
    {w__law_least : Addr} {od__law_least an__law_least : Option Addr} {sl__law_least : Array (Option Value)} {oc__law_least kV__law_least dc__law_least pm__law_least cd__law_least ct__law_least : Value}
    (a__law_least : PySem.W.nsIn K mainGlobals "_law_least" = some (some (.ref w__law_least))) (l__law_least : K.lookup w__law_least = some ⟨oc__law_least, od__law_least, .func (PySem.W.fnOf "_law_least" "_law_least" (defArgs s__law_least) (defBody s__law_least) (defScope s__law_least) .none kV__law_least dc__law_least pm__law_least an__law_least cd__law_least ct__law_least), sl__law_least⟩) (c__law_least : PySem.W.codeIn K cd__law_least "_law_least" = true) (k__law_least : PySem.W.keepIn K (.ref w__law_least) = true)
    {w__law_fit : Addr} {od__law_fit an__law_fit : Option Addr} {sl__law_fit : Array (Option Value)} {oc__law_fit kV__law_fit dc__law_fit pm__law_fit cd__law_fit ct__law_fit : Value}
    (a__law_fit : PySem.W.nsIn K mainGlobals "_law_fit" = some (some (.ref w__law_fit))) (l__law_fit : K.lookup w__law_fit = some ⟨oc__law_fit, od__law_fit, .func (PySem.W.fnOf "_law_fit" "_law_fit" (defArgs s__law_fit) (defBody s__law_fit) (defScope s__law_fit) .none kV__law_fit dc__law_fit pm__law_fit an__law_fit cd__law_fit ct__law_fit), sl__law_fit⟩) (c__law_fit : PySem.W.codeIn K cd__law_fit "_law_fit" = true) (k__law_fit : PySem.W.keepIn K (.ref w__law_fit) = true)
    {w_law : Addr} {od_law an_law : Option Addr} {sl_law : Array (Option Value)} {oc_law kV_law dc_law pm_law cd_law ct_law : Value}
    (a_law : PySem.W.nsIn K mainGlobals "law" = some (some (.ref w_law))) (l_law : K.lookup w_law = some ⟨oc_law, od_law, .func (PySem.W.fnOf "law" "law" (defArgs s_law) (defBody s_law) (defScope s_law) .none kV_law dc_law pm_law an_law cd_law ct_law), sl_law⟩) (c_law : PySem.W.codeIn K cd_law "law" = true) (k_law : PySem.W.keepIn K (.ref w_law) = true)
    (z_abs : PySem.W.nsIn K mainGlobals "abs" = some none)
    (z_enumerate : PySem.W.nsIn K mainGlobals "enumerate" = some none)
    (z_gcd : PySem.W.nsIn K mainGlobals "gcd" = some (some (.builtin "math.gcd")))
    (z_int : PySem.W.nsIn K mainGlobals "int" = some none)
    (z_len : PySem.W.nsIn K mainGlobals "len" = some none)
    (z_range : PySem.W.nsIn K mainGlobals "range" = some none)
    (z_reversed : PySem.W.nsIn K mainGlobals "reversed" = some none)
    (z_sum : PySem.W.nsIn K mainGlobals "sum" = some none)
    {q_NIL : Addr} {od_NIL : Option Addr} {n_NIL : Nat} {sl_NIL : Array (Option Value)} {t0_NIL t1_NIL : Tok} (e_NIL : PySem.W.nsIn K mainGlobals "NIL" = some (some (.ref q_NIL))) (q2_NIL : K.lookup q_NIL = some ⟨.type "tuple", od_NIL, .seq #[.int 0 t0_NIL, .int 1 t1_NIL] n_NIL, sl_NIL⟩)
    : ∃ fd : FuncData, (∀ (s : Shared) (v : Value), BindsTo s fd ⟨[v], []⟩ [("script", v)]) ∧ ∀ base : Heap, K.In base → base.Ns mainGlobals mg → FnOk l.prog w K mg base CX0 7 fa fd ["script"] (spF K f_law [] false) := by
  have e := hfa.symm.trans (PySem.W.mg_of X G a_law)
  cases e
  have F_frac := fun_mk (st := s_frac) l_frac c_frac k_frac
  have F_plus := fun_mk (st := s_plus) l_plus c_plus k_plus
  have F_minus := fun_mk (st := s_minus) l_minus c_minus k_minus
  have F_times := fun_mk (st := s_times) l_times c_times k_times
  have F_over := fun_mk (st := s_over) l_over c_over k_over
  have F_less := fun_mk (st := s_less) l_less c_less k_less
  have F_sum_of := fun_mk (st := s_sum_of) l_sum_of c_sum_of k_sum_of
  have F_error_at := fun_mk (st := s_error_at) l_error_at c_error_at k_error_at
  have F_errors := fun_mk (st := s_errors) l_errors c_errors k_errors
  have F_amount := fun_mk (st := s_amount) l_amount c_amount k_amount
  have F_worst_error := fun_mk (st := s_worst_error) l_worst_error c_worst_error k_worst_error
  have F_triple_error := fun_mk (st := s_triple_error) l_triple_error c_triple_error k_triple_error
  have F_evenest := fun_mk (st := s_evenest) l_evenest c_evenest k_evenest
  have F_squares := fun_mk (st := s_squares) l_squares c_squares k_squares
  have F_least_squares := fun_mk (st := s_least_squares) l_least_squares c_least_squares k_least_squares
  have F_judge_evenest := fun_mk (st := s_judge_evenest) l_judge_evenest c_judge_evenest k_judge_evenest
  have F_judge_squares := fun_mk (st := s_judge_squares) l_judge_squares c_judge_squares k_judge_squares
  have F__law_start := fun_mk (st := s__law_start) l__law_start c__law_start k__law_start
  have F__law_digit := fun_mk (st := s__law_digit) l__law_digit c__law_digit k__law_digit
  have F__law_least := fun_mk (st := s__law_least) l__law_least c__law_least k__law_least
  have F__law_fit := fun_mk (st := s__law_fit) l__law_fit c__law_fit k__law_fit
  have F_law := fun_mk (st := s_law) l_law c_law k_law
  have m_abs := PySem.W.mg_none_of X G z_abs
  have m_enumerate := PySem.W.mg_none_of X G z_enumerate
  have m_gcd := PySem.W.mg_of X G z_gcd
  have m_int := PySem.W.mg_none_of X G z_int
  have m_len := PySem.W.mg_none_of X G z_len
  have m_range := PySem.W.mg_none_of X G z_range
  have m_reversed := PySem.W.mg_none_of X G z_reversed
  have m_sum := PySem.W.mg_none_of X G z_sum
  have g_NIL : Glb K mg "NIL" c_NIL := ⟨⟨.ref q_NIL, _, PySem.W.mg_of X G e_NIL, rfl, fun H => ⟨q_NIL, [V.int 0, V.int 1], rfl, .inr ⟨_, _, _, q2_NIL, rfl, rfl, (by show 2 ≤ sizeLine; decide), (.cons ⟨_, rfl⟩ (.cons ⟨_, rfl⟩ .nil))⟩, ⟨_, _, rfl, rfl, ⟨_, _, rfl, rfl, rfl⟩⟩⟩⟩⟩
  refine ⟨PySem.W.fnOf "law" "law" (defArgs s_law) (defBody s_law) (defScope s_law) .none kV_law dc_law pm_law an_law cd_law ct_law, fun s v => .of_eq rfl, fun base _ _ => ?_⟩
  have C_frac : Cal l.prog w K mg base 1 "frac" p_frac f_frac [] false := ⟨⟨_, _, ok_frac F_frac m_gcd, PySem.W.mg_of X G a_frac, k_frac, F_frac.binds (ps := p_frac) fun _ _ _ _ _ _ us hl => match us, hl with | [_, _], _ => rfl⟩⟩
  have C_plus : Cal l.prog w K mg base 2 "plus" p_plus f_plus [] false := ⟨⟨_, _, ok_plus F_plus C_frac, PySem.W.mg_of X G a_plus, k_plus, F_plus.binds (ps := p_plus) fun _ _ _ _ _ _ us hl => match us, hl with | [_, _], _ => rfl⟩⟩
  have C_minus : Cal l.prog w K mg base 2 "minus" p_minus f_minus [] false := ⟨⟨_, _, ok_minus F_minus C_frac, PySem.W.mg_of X G a_minus, k_minus, F_minus.binds (ps := p_minus) fun _ _ _ _ _ _ us hl => match us, hl with | [_, _], _ => rfl⟩⟩
  have C_times : Cal l.prog w K mg base 2 "times" p_times f_times [] false := ⟨⟨_, _, ok_times F_times C_frac, PySem.W.mg_of X G a_times, k_times, F_times.binds (ps := p_times) fun _ _ _ _ _ _ us hl => match us, hl with | [_, _], _ => rfl⟩⟩
  have C_over : Cal l.prog w K mg base 2 "over" p_over f_over [] false := ⟨⟨_, _, ok_over F_over C_frac, PySem.W.mg_of X G a_over, k_over, F_over.binds (ps := p_over) fun _ _ _ _ _ _ us hl => match us, hl with | [_, _], _ => rfl⟩⟩
  have C_less : Cal l.prog w K mg base 1 "less" p_less f_less [] false := ⟨⟨_, _, ok_less F_less , PySem.W.mg_of X G a_less, k_less, F_less.binds (ps := p_less) fun _ _ _ _ _ _ us hl => match us, hl with | [_, _], _ => rfl⟩⟩
  have C_sum_of : Cal l.prog w K mg base 3 "sum_of" p_sum_of f_sum_of [] false := ⟨⟨_, _, ok_sum_of F_sum_of C_plus g_NIL, PySem.W.mg_of X G a_sum_of, k_sum_of, F_sum_of.binds (ps := p_sum_of) fun _ _ _ _ _ _ us hl => match us, hl with | [_], _ => rfl⟩⟩
  have C_error_at : Cal l.prog w K mg base 3 "error_at" p_error_at f_error_at [] false := ⟨⟨_, _, ok_error_at F_error_at C_frac C_plus C_minus C_times, PySem.W.mg_of X G a_error_at, k_error_at, F_error_at.binds (ps := p_error_at) fun _ _ _ _ _ _ us hl => match us, hl with | [_, _, _], _ => rfl⟩⟩
  have C_errors : Cal l.prog w K mg base 4 "errors" p_errors f_errors [] false := ⟨⟨_, _, ok_errors F_errors C_error_at m_enumerate, PySem.W.mg_of X G a_errors, k_errors, F_errors.binds (ps := p_errors) fun _ _ _ _ _ _ us hl => match us, hl with | [_, _], _ => rfl⟩⟩
  have C_amount : Cal l.prog w K mg base 3 "amount" p_amount f_amount [] false := ⟨⟨_, _, ok_amount F_amount C_minus C_less g_NIL, PySem.W.mg_of X G a_amount, k_amount, F_amount.binds (ps := p_amount) fun _ _ _ _ _ _ us hl => match us, hl with | [_], _ => rfl⟩⟩
  have C_worst_error : Cal l.prog w K mg base 5 "worst_error" p_worst_error f_worst_error [] false := ⟨⟨_, _, ok_worst_error F_worst_error C_less C_errors C_amount g_NIL, PySem.W.mg_of X G a_worst_error, k_worst_error, F_worst_error.binds (ps := p_worst_error) fun _ _ _ _ _ _ us hl => match us, hl with | [_, _], _ => rfl⟩⟩
  have C_triple_error : Cal l.prog w K mg base 3 "triple_error" p_triple_error f_triple_error [] false := ⟨⟨_, _, ok_triple_error F_triple_error C_frac C_plus C_minus C_times C_over, PySem.W.mg_of X G a_triple_error, k_triple_error, F_triple_error.binds (ps := p_triple_error) fun _ _ _ _ _ _ us hl => match us, hl with | [_, _, _, _], _ => rfl⟩⟩
  have C_evenest : Cal l.prog w K mg base 4 "evenest" p_evenest f_evenest [] false := ⟨⟨_, _, ok_evenest F_evenest C_frac C_plus C_minus C_times C_less C_amount C_triple_error g_NIL m_len m_range, PySem.W.mg_of X G a_evenest, k_evenest, F_evenest.binds (ps := p_evenest) fun _ _ _ _ _ _ us hl => match us, hl with | [_], _ => rfl⟩⟩
  have C_squares : Cal l.prog w K mg base 5 "squares" p_squares f_squares [] false := ⟨⟨_, _, ok_squares F_squares C_times C_sum_of C_errors, PySem.W.mg_of X G a_squares, k_squares, F_squares.binds (ps := p_squares) fun _ _ _ _ _ _ us hl => match us, hl with | [_, _], _ => rfl⟩⟩
  have C_least_squares : Cal l.prog w K mg base 3 "least_squares" p_least_squares f_least_squares [] false := ⟨⟨_, _, ok_least_squares F_least_squares C_frac C_minus C_times C_over g_NIL m_enumerate m_len m_range m_sum, PySem.W.mg_of X G a_least_squares, k_least_squares, F_least_squares.binds (ps := p_least_squares) fun _ _ _ _ _ _ us hl => match us, hl with | [_], _ => rfl⟩⟩
  have C_judge_evenest : Cal l.prog w K mg base 6 "judge_evenest" p_judge_evenest f_judge_evenest [] false := ⟨⟨_, _, ok_judge_evenest F_judge_evenest C_amount C_worst_error C_triple_error g_NIL m_len, PySem.W.mg_of X G a_judge_evenest, k_judge_evenest, F_judge_evenest.binds (ps := p_judge_evenest) fun _ _ _ _ _ _ us hl => match us, hl with | [_, _, _, _], _ => rfl⟩⟩
  have C_judge_squares : Cal l.prog w K mg base 5 "judge_squares" p_judge_squares f_judge_squares [] false := ⟨⟨_, _, ok_judge_squares F_judge_squares C_frac C_times C_sum_of C_errors g_NIL m_enumerate m_len, PySem.W.mg_of X G a_judge_squares, k_judge_squares, F_judge_squares.binds (ps := p_judge_squares) fun _ _ _ _ _ _ us hl => match us, hl with | [_, _], _ => rfl⟩⟩
  have C__law_start : Cal l.prog w K mg base 1 "_law_start" p__law_start f__law_start [] true := ⟨⟨_, _, ok__law_start F__law_start m_abs m_int m_len m_range, PySem.W.mg_of X G a__law_start, k__law_start, F__law_start.binds (ps := p__law_start) fun _ _ _ _ _ _ us hl => match us, hl with | [_, _], _ => rfl⟩⟩
  have C__law_digit : Cal l.prog w K mg base 1 "_law_digit" p__law_digit f__law_digit [0] false := ⟨⟨_, _, ok__law_digit F__law_digit m_int, PySem.W.mg_of X G a__law_digit, k__law_digit, F__law_digit.binds (ps := p__law_digit) fun _ _ _ _ _ _ us hl => match us, hl with | [_, _], _ => rfl⟩⟩
  have C__law_least : Cal l.prog w K mg base 2 "_law_least" p__law_least f__law_least [] false := ⟨⟨_, _, ok__law_least F__law_least C_frac C_less m_abs m_len m_range, PySem.W.mg_of X G a__law_least, k__law_least, F__law_least.binds (ps := p__law_least) fun _ _ _ _ _ _ us hl => match us, hl with | [_], _ => rfl⟩⟩
  have C__law_fit : Cal l.prog w K mg base 3 "_law_fit" p__law_fit f__law_fit [] false := ⟨⟨_, _, ok__law_fit F__law_fit C_frac C_minus C_times C_over m_len m_range m_sum, PySem.W.mg_of X G a__law_fit, k__law_fit, F__law_fit.binds (ps := p__law_fit) fun _ _ _ _ _ _ us hl => match us, hl with | [_], _ => rfl⟩⟩
  exact ok_law F_law C_frac C_plus C_minus C_times C_less C_sum_of C_errors C_worst_error C_triple_error C_evenest C_squares C_least_squares C_judge_evenest C_judge_squares C__law_start C__law_digit C__law_least C__law_fit m_len m_range m_reversed
end T14
open PySem PySem.W PyProof.Rows
set_option maxHeartbeats 0 in
theorem PySem.Challenge.cw_bellring_k14_whole_beats_moved_holds : PySem.Challenge.rw_bellring_k14_whole_beats_moved.Holds := by
  w_on; o_law; k_head; (case hw => w_witness2)
  k_fill
  refine L2.walk_ofB (l := PySem.Challenge.rw_bellring_k14_whole_beats_moved) (n := 63) (k := 7) (x := "script") (CX := fun _ => L2.CX0) (sp := fun w => G.spF _ T14.f_law [] false) rfl (by decide) rfl ⟨rfl, by decide, by decide⟩ (fun w h Y => PySem.W.kIn_of Y) ?F (fun _ _ a ns hl hb _ hS => G.law_sp hS (T14.plain ns hl hb)) (fun _ _ _ _ _ h => h)
  case F =>
    intro w mg fa h KX G hmg
    refine' T14.all_mk KX G hmg ?a_frac ?l_frac ?c_frac ?k_frac ?a_plus ?l_plus ?c_plus ?k_plus ?a_minus ?l_minus ?c_minus ?k_minus ?a_times ?l_times ?c_times ?k_times ?a_over ?l_over ?c_over ?k_over ?a_less ?l_less ?c_less ?k_less ?a_sum_of ?l_sum_of ?c_sum_of ?k_sum_of ?a_error_at ?l_error_at ?c_error_at ?k_error_at ?a_errors ?l_errors ?c_errors ?k_errors ?a_amount ?l_amount ?c_amount ?k_amount ?a_worst_error ?l_worst_error ?c_worst_error ?k_worst_error ?a_triple_error ?l_triple_error ?c_triple_error ?k_triple_error ?a_evenest ?l_evenest ?c_evenest ?k_evenest ?a_squares ?l_squares ?c_squares ?k_squares ?a_least_squares ?l_least_squares ?c_least_squares ?k_least_squares ?a_judge_evenest ?l_judge_evenest ?c_judge_evenest ?k_judge_evenest ?a_judge_squares ?l_judge_squares ?c_judge_squares ?k_judge_squares ?a__law_start ?l__law_start ?c__law_start ?k__law_start ?a__law_digit ?l__law_digit ?c__law_digit ?k__law_digit ?a__law_least ?l__law_least ?c__law_least ?k__law_least ?a__law_fit ?l__law_fit ?c__law_fit ?k__law_fit ?a_law ?l_law ?c_law ?k_law ?z_abs ?z_enumerate ?z_gcd ?z_int ?z_len ?z_range ?z_reversed ?z_sum ?e_NIL ?q2_NIL
    (case a_frac => k_is); (case l_frac => k_is); (case c_frac => k_is); (case k_frac => k_is); (case a_plus => k_is); (case l_plus => k_is); (case c_plus => k_is); (case k_plus => k_is); (case a_minus => k_is); (case l_minus => k_is); (case c_minus => k_is); (case k_minus => k_is); (case a_times => k_is); (case l_times => k_is); (case c_times => k_is); (case k_times => k_is); (case a_over => k_is); (case l_over => k_is); (case c_over => k_is); (case k_over => k_is); (case a_less => k_is); (case l_less => k_is); (case c_less => k_is); (case k_less => k_is); (case a_sum_of => k_is); (case l_sum_of => k_is); (case c_sum_of => k_is); (case k_sum_of => k_is); (case a_error_at => k_is); (case l_error_at => k_is); (case c_error_at => k_is); (case k_error_at => k_is); (case a_errors => k_is); (case l_errors => k_is); (case c_errors => k_is); (case k_errors => k_is); (case a_amount => k_is); (case l_amount => k_is); (case c_amount => k_is); (case k_amount => k_is); (case a_worst_error => k_is); (case l_worst_error => k_is); (case c_worst_error => k_is); (case k_worst_error => k_is); (case a_triple_error => k_is); (case l_triple_error => k_is); (case c_triple_error => k_is); (case k_triple_error => k_is); (case a_evenest => k_is); (case l_evenest => k_is); (case c_evenest => k_is); (case k_evenest => k_is); (case a_squares => k_is); (case l_squares => k_is); (case c_squares => k_is); (case k_squares => k_is); (case a_least_squares => k_is); (case l_least_squares => k_is); (case c_least_squares => k_is); (case k_least_squares => k_is); (case a_judge_evenest => k_is); (case l_judge_evenest => k_is); (case c_judge_evenest => k_is); (case k_judge_evenest => k_is); (case a_judge_squares => k_is); (case l_judge_squares => k_is); (case c_judge_squares => k_is); (case k_judge_squares => k_is); (case a__law_start => k_is); (case l__law_start => k_is); (case c__law_start => k_is); (case k__law_start => k_is); (case a__law_digit => k_is); (case l__law_digit => k_is); (case c__law_digit => k_is); (case k__law_digit => k_is); (case a__law_least => k_is); (case l__law_least => k_is); (case c__law_least => k_is); (case k__law_least => k_is); (case a__law_fit => k_is); (case l__law_fit => k_is); (case c__law_fit => k_is); (case k__law_fit => k_is); (case a_law => k_is); (case l_law => k_is); (case c_law => k_is); (case k_law => k_is); (case z_abs => k_is); (case z_enumerate => k_is); (case z_gcd => k_is); (case z_int => k_is); (case z_len => k_is); (case z_range => k_is); (case z_reversed => k_is); (case z_sum => k_is); (case e_NIL => k_is); (case q2_NIL => k_is)
