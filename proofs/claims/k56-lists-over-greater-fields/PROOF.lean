import PyProof.Rows.All
import HandS.ForMost
import HandS.Walk
import HandS.IsInst
import HandS.Evl
import HandS.Style
import HandS.RaiseMore
import PyProof.ReprBulk
import HandS.Ends
import HandS.Zip
import PySem.Challenge.RW_poleheaps_k56_lists_over_greater_fields

section
set_option Elab.async false
set_option linter.all false
set_option maxRecDepth 100000
set_option maxHeartbeats 4000000
/-! DL1: a layer of values over the hand layer: shared data, owned lists. -/
namespace DL
open PySem PySem.Spec PyProof.Rows L2 Evl

/-- what a slot holds, what an expression gives: data that stays; a list of one's own; (of an expression alone) the object of a slot; a raw value -/
inductive Val where
  | sh (d : PyData)
  | ow (ds : List PyData)
  | rf (i : Nat)
  | fx (v : V)
abbrev Env := List (Option Val)

section
variable (K : PySem.W.Frag) (Hk H : Hp)
def RVs : Val → V → Prop
  | .sh d, v => Dp K Hk v d
  | .ow ds, v => ∃ p vs, v = .ref p ∧ H p = some (.lst vs) ∧ DpAll K Hk vs ds ∧ Hk p = none
  | .rf _, _ => False
  | .fx w, v => v = w
structure RE (ρ : Env) (σ : L2.St) : Prop where
  sub : Ex Hk H
  len : ρ.length = σ.length
  slot : ∀ (i : Nat) w, ρ[i]? = some (some w) → ∃ v, σ[i]? = some (some v) ∧ RVs K Hk H w v
  sep : ∀ (i j : Nat) ds es p, ρ[i]? = some (some (.ow ds)) → ρ[j]? = some (some (.ow es)) → σ[i]? = some (some (.ref p)) → σ[j]? = some (some (.ref p)) → i = j
end
/-- the addresses that the slots own -/
def OwnAt (ρ : Env) (σ : L2.St) (a : Addr) : Prop := ∃ (i : Nat) (ds : List PyData), ρ[i]? = some (some (.ow ds)) ∧ σ[i]? = some (some (.ref a))
structure Stp (O : Addr → Prop) (Hk H Hk' H' : Hp) : Prop where
  ext : Ex Hk Hk'
  frame : ∀ a o, H a = some o → ¬ O a → H' a = some o
  fresh : ∀ a, Hk' a ≠ none → Hk a ≠ none ∨ O a ∨ H a = none
  there : ∀ a, H' a = none → H a = none

theorem Stp.refl {O : Addr → Prop} {Hk H : Hp} : Stp O Hk H Hk H := ⟨Ex.refl _, fun _ _ h _ => h, fun _ h => .inl h, fun _ h => h⟩
theorem Stp.trans {O O' : Addr → Prop} {Hk H Hk1 H1 Hk2 H2 : Hp} (a : Stp O Hk H Hk1 H1) (b : Stp O' Hk1 H1 Hk2 H2) (hO : ∀ p, O' p → O p ∨ H p = none) : Stp O Hk H Hk2 H2 := by
  refine ⟨a.ext.trans b.ext, fun p o h n => ?_, fun p h => ?_, fun p h => a.there p (b.there p h)⟩
  · refine b.frame p o (a.frame p o h n) fun z => ?_
    rcases hO p z with z | z
    · exact n z
    · rw [z] at h; cases h
  · rcases b.fresh p h with h1 | h1 | h1
    · exact a.fresh p h1
    · exact .inr (hO p h1)
    · exact .inr (.inr (a.there p h1))
theorem Stp.mono {O O' : Addr → Prop} {Hk H Hk1 H1 : Hp} (a : Stp O Hk H Hk1 H1) (h : ∀ p, O p → O' p) : Stp O' Hk H Hk1 H1 :=
  ⟨a.ext, fun p o e n => a.frame p o e fun z => n (h p z), fun p e => (a.fresh p e).imp id (Or.imp (h p) id), a.there⟩

/-! ### data under an extension -/
mutual
theorem dp_ex {K : PySem.W.Frag} {H H' : Hp} (e : Ex H H') : ∀ {d : PyData} {v : V}, Dp K H v d → Dp K H' v d
  | .none, _, h => by cases h; exact .non
  | .bool _, _, h => by cases h; exact .bl _
  | .int _, _, h => by cases h; exact .int _
  | .str _, _, h => by cases h; exact .str _
  | .list _, _, h => by
    cases h with
    | lst a b => exact .lst (ex_l e a) (dpAll_ex e b)
  | .tuple _, _, h => by
    cases h with
    | tup a b => exact .tup (ex_t e a) (dpAll_ex e b)
  | .dict _, _, h => by cases h
theorem dpAll_ex {K : PySem.W.Frag} {H H' : Hp} (e : Ex H H') : ∀ {ds : List PyData} {vs : List V}, DpAll K H vs ds → DpAll K H' vs ds
  | [], _, h => by cases h; exact .nil
  | _ :: _, _, h => by
    cases h with
    | cons a b => exact .cons (dp_ex e a) (dpAll_ex e b)
end
theorem dpAll_len {K : PySem.W.Frag} {H : Hp} : ∀ {ds : List PyData} {vs : List V}, DpAll K H vs ds → vs.length = ds.length
  | [], _, h => by cases h; rfl
  | _ :: ds, _, h => by
    cases h with
    | cons a b => rw [List.length_cons, List.length_cons, dpAll_len b]
theorem dpAll_get {K : PySem.W.Frag} {H : Hp} : ∀ {ds : List PyData} {vs : List V} {i : Nat} {d : PyData}, DpAll K H vs ds → ds[i]? = some d → ∃ v, vs[i]? = some v ∧ Dp K H v d
  | [], _, _, _, _, e => by simp at e
  | d0 :: ds, _, 0, d, h, e => by
    cases h with
    | cons a b => simp at e; subst e; exact ⟨_, rfl, a⟩
  | d0 :: ds, _, i + 1, d, h, e => by
    cases h with
    | cons a b =>
      obtain ⟨v, e1, e2⟩ := dpAll_get (i := i) b (by simpa using e)
      exact ⟨v, by simpa using e1, e2⟩
theorem dpAll_app {K : PySem.W.Frag} {H : Hp} : ∀ {ds es : List PyData} {vs us : List V}, DpAll K H vs ds → DpAll K H us es → DpAll K H (vs ++ us) (ds ++ es)
  | [], _, _, _, h, h2 => by cases h; exact h2
  | _ :: _, _, _, _, h, h2 => by
    cases h with
    | cons a b => exact .cons a (dpAll_app b h2)
theorem dpAll_take {K : PySem.W.Frag} {H : Hp} : ∀ {ds : List PyData} {vs : List V} (n : Nat), DpAll K H vs ds → DpAll K H (vs.take n) (ds.take n)
  | [], _, n, h => by cases h; simp; exact .nil
  | _ :: _, _, 0, h => by cases h; exact .nil
  | _ :: _, _, n + 1, h => by
    cases h with
    | cons a b => exact .cons a (dpAll_take n b)
theorem dpAll_drop {K : PySem.W.Frag} {H : Hp} : ∀ {ds : List PyData} {vs : List V} (n : Nat), DpAll K H vs ds → DpAll K H (vs.drop n) (ds.drop n)
  | [], _, n, h => by cases h; simp; exact .nil
  | _ :: _, _, 0, h => h
  | _ :: _, _, n + 1, h => by
    cases h with
    | cons a b => exact dpAll_drop n b
theorem dpAll_set {K : PySem.W.Frag} {H : Hp} : ∀ {ds : List PyData} {vs : List V} (n : Nat) {d : PyData} {v : V}, DpAll K H vs ds → Dp K H v d → DpAll K H (vs.set n v) (ds.set n d)
  | [], _, n, _, _, h, _ => by cases h; simp; exact .nil
  | _ :: _, _, 0, _, _, h, h2 => by
    cases h with
    | cons a b => exact .cons h2 b
  | _ :: _, _, n + 1, _, _, h, h2 => by
    cases h with
    | cons a b => exact .cons a (dpAll_set n b h2)
theorem dpAll_rev {K : PySem.W.Frag} {H : Hp} : ∀ {ds : List PyData} {vs : List V}, DpAll K H vs ds → DpAll K H vs.reverse ds.reverse
  | [], _, h => by cases h; exact .nil
  | _ :: _, _, h => by
    cases h with
    | cons a b =>
      rw [List.reverse_cons, List.reverse_cons]
      exact dpAll_app (dpAll_rev b) (.cons a .nil)
theorem dpAll_rep {K : PySem.W.Frag} {H : Hp} {ds : List PyData} {vs : List V} (h : DpAll K H vs ds) : ∀ n : Nat, DpAll K H (List.replicate n vs).flatten (List.replicate n ds).flatten
  | 0 => .nil
  | n + 1 => by
    rw [List.replicate_succ, List.replicate_succ, List.flatten_cons, List.flatten_cons]
    exact dpAll_app h (dpAll_rep h n)
theorem dpAll_erase {K : PySem.W.Frag} {H : Hp} : ∀ {ds : List PyData} {vs : List V} (n : Nat), DpAll K H vs ds → DpAll K H (vs.eraseIdx n) (ds.eraseIdx n)
  | [], _, n, h => by cases h; simp; exact .nil
  | _ :: _, _, 0, h => by
    cases h with
    | cons a b => exact b
  | _ :: _, _, n + 1, h => by
    cases h with
    | cons a b => exact .cons a (dpAll_erase n b)
/-- ints -/
theorem dpAll_ints {K : PySem.W.Frag} {H : Hp} : ∀ {ns : List Int} {vs : List V}, DpAll K H vs (ns.map .int) → vs = ns.map V.int
  | [], _, h => by cases h; rfl
  | _ :: _, _, h => by
    cases h with
    | cons a b => cases a; rw [dpAll_ints b]; rfl
theorem dpAll_bools {K : PySem.W.Frag} {H : Hp} : ∀ {ns : List Bool} {vs : List V}, DpAll K H vs (ns.map .bool) → vs = ns.map V.bl
  | [], _, h => by cases h; rfl
  | _ :: _, _, h => by
    cases h with
    | cons a b => cases a; rw [dpAll_bools b]; rfl

/-! ### results -/
def RR (K : PySem.W.Frag) (Hk H : Hp) (ρ : Env) (σ : L2.St) : Val → V → Prop
  | .sh d, v => Dp K Hk v d
  | .ow ds, v => ∃ p vs, v = .ref p ∧ H p = some (.lst vs) ∧ DpAll K Hk vs ds ∧ Hk p = none ∧ ¬ OwnAt ρ σ p
  | .rf i, v => σ[i]? = some (some v)
  | .fx w, v => v = w
/-- what is new since H -/
def Fr (H : Hp) : Val → V → Prop
  | .ow _, v => ∀ p, v = .ref p → H p = none
  | _, _ => True
/-- the new lists among results -/
def Tmp (ws : List Val) (vs : List V) (a : Addr) : Prop := ∃ (i : Nat) (ds : List PyData), ws[i]? = some (.ow ds) ∧ vs[i]? = some (.ref a)
/-- results -/
inductive RRs (K : PySem.W.Frag) (H0 Hk H : Hp) (ρ : Env) (σ : L2.St) : List Val → List V → Prop
  | nil : RRs K H0 Hk H ρ σ [] []
  | cons {w : Val} {v : V} {ws : List Val} {vs : List V} : RR K Hk H ρ σ w v → Fr H0 w v → (∀ ds p, w = .ow ds → v = .ref p → ¬ Tmp ws vs p) → RRs K H0 Hk H ρ σ ws vs → RRs K H0 Hk H ρ σ (w :: ws) (v :: vs)
theorem RR.step {K : PySem.W.Frag} {Hk H Hk' H' : Hp} {ρ ρ' : Env} {σ : L2.St} {w : Val} {v : V} (h : RR K Hk H ρ σ w v) (s : Stp (OwnAt ρ σ) Hk H Hk' H') (o : ∀ a, OwnAt ρ' σ a → OwnAt ρ σ a) : RR K Hk' H' ρ' σ w v := by
  cases w with
  | sh d => exact dp_ex s.ext h
  | ow ds =>
    obtain ⟨p, vs, e, hp, hd, hk, no⟩ := h
    refine ⟨p, vs, e, s.frame p _ hp no, dpAll_ex s.ext hd, ?_, fun z => no (o p z)⟩
    cases q : Hk' p with
    | none => rfl
    | some u =>
      rcases s.fresh p (by rw [q]; exact fun z => nomatch z) with z | z | z
      · exact absurd hk z
      · exact absurd z no
      · rw [hp] at z; cases z
  | rf i => exact h
  | fx u => exact h
theorem Fr.back {H H' : Hp} {w : Val} {v : V} (h : Fr H' w v) (e : ∀ p, H' p = none → H p = none) : Fr H w v := by
  cases w with
  | ow ds => exact fun p q => e p (h p q)
  | _ => trivial

/-- an expression's meaning -/
abbrev DE := Env → Option (Val × Env)
abbrev DA := Env → Option (List Val × Env)
def tD (K : PySem.W.Frag) (f : DE) : TE := fun σ H Q => ∃ Hk ρ w ρ', RE K Hk H ρ σ ∧ f ρ = some (w, ρ') ∧
  ∀ Hk' H' v, RE K Hk' H' ρ' σ → Stp (OwnAt ρ σ) Hk H Hk' H' → (∀ a, OwnAt ρ' σ a → OwnAt ρ σ a) → RR K Hk' H' ρ' σ w v → Fr H w v → Q v H'
def tDA (K : PySem.W.Frag) (f : DA) : TA := fun σ H Q => ∃ Hk ρ w ρ', RE K Hk H ρ σ ∧ f ρ = some (w, ρ') ∧
  ∀ Hk' H' v, RE K Hk' H' ρ' σ → Stp (OwnAt ρ σ) Hk H Hk' H' → (∀ a, OwnAt ρ' σ a → OwnAt ρ σ a) → RRs K H Hk' H' ρ' σ w v → Q v H'
theorem pe_weak {X : Cx} {e : Expr} {t t' : TE} (h : PE X e t) (w : ∀ σ H Q, t' σ H Q → t σ H Q) : PE X e t' := ⟨fun pins s σ H Q I q => h.run pins s σ H Q I (w σ H Q q)⟩
theorem pt_weak {X : Cx} {e : Expr} {t t' : TT} (h : PT X e t) (w : ∀ σ H Q, t' σ H Q → t σ H Q) : PT X e t' := ⟨fun pins s σ H Q I q => h.run pins s σ H Q I (w σ H Q q)⟩
theorem pa_weak {X : Cx} {e : List Expr} {t t' : TA} (h : PA X e t) (w : ∀ σ H Q, t' σ H Q → t σ H Q) : PA X e t' := ⟨fun pos pins s σ H Q I q => h.run pos pins s σ H Q I (w σ H Q q)⟩
theorem ps_weak {X : Cx} {e : Stmt} {t t' : TS} (h : PS X e t) (w : ∀ D σ H, t' D σ H → t D σ H) : PS X e t' := ⟨fun pins s σ H D I q => h.run pins s σ H D I (w D σ H q)⟩
theorem pss_weak {X : Cx} {e : List Stmt} {t t' : TS} (h : PSs X e t) (w : ∀ D σ H, t' D σ H → t D σ H) : PSs X e t' := ⟨fun pins s σ H D I q => h.run pins s σ H D I (w D σ H q)⟩

def DEj (X : Cx) (e : Expr) (f : DE) : Prop := PE X e (tD X.K f)
def DAj (X : Cx) (es : List Expr) (f : DA) : Prop := PA X es (tDA X.K f)

end DL
end

section
set_option Elab.async false
set_option linter.all false
set_option maxRecDepth 100000
set_option maxHeartbeats 4000000
namespace DL
open PySem PySem.Spec PyProof.Rows L2 Evl

/-! ### arguments -/
def sNil : DA := fun ρ => some ([], ρ)
def sCons (f : DE) (g : DA) : DA := fun ρ => (f ρ).bind fun p => (g p.2).bind fun q => some (p.1 :: q.1, q.2)
theorem RRs.step {K : PySem.W.Frag} {H0 Hk H Hk' H' : Hp} {ρ ρ' : Env} {σ : L2.St} (s : Stp (OwnAt ρ σ) Hk H Hk' H') (o : ∀ a, OwnAt ρ' σ a → OwnAt ρ σ a) : ∀ {ws : List Val} {vs : List V}, RRs K H0 Hk H ρ σ ws vs → RRs K H0 Hk' H' ρ' σ ws vs
  | _, _, .nil => .nil
  | _, _, .cons a b n c => .cons (a.step s o) b n (RRs.step s o c)
theorem RRs.back {K : PySem.W.Frag} {H0 H1 Hk H : Hp} {ρ : Env} {σ : L2.St} (h : ∀ p, H1 p = none → H0 p = none) : ∀ {ws : List Val} {vs : List V}, RRs K H1 Hk H ρ σ ws vs → RRs K H0 Hk H ρ σ ws vs
  | _, _, .nil => .nil
  | _, _, .cons a b n c => .cons a (b.back h) n (RRs.back h c)
theorem RRs.tmp {K : PySem.W.Frag} {H0 Hk H : Hp} {ρ : Env} {σ : L2.St} : ∀ {ws : List Val} {vs : List V} {a : Addr}, RRs K H0 Hk H ρ σ ws vs → Tmp ws vs a → H0 a = none
  | _, _, _, .nil, ⟨i, ds, h, _⟩ => by simp at h
  | _, _, a, .cons r f _ t, ⟨0, ds, h, h2⟩ => by
    simp at h h2
    subst h; subst h2
    exact f a rfl
  | _, _, a, .cons r f _ t, ⟨i + 1, ds, h, h2⟩ => t.tmp ⟨i, ds, by simpa using h, by simpa using h2⟩
section
variable {K : PySem.W.Frag}
theorem tDA_nil {σ : L2.St} {H : Hp} {Q : List V → Hp → Prop} (h : tDA K sNil σ H Q) : tNil σ H Q := by
  obtain ⟨Hk, ρ, ws, ρ', re, e, q⟩ := h
  cases e
  exact q Hk H [] re Stp.refl (fun _ h => h) .nil
theorem tDA_cons {f : DE} {g : DA} {σ : L2.St} {H : Hp} {Q : List V → Hp → Prop} (h : tDA K (sCons f g) σ H Q) : tD K f σ H fun v H1 => tDA K g σ H1 fun vs H2 => Q (v :: vs) H2 := by
  obtain ⟨Hk, ρ, ws, ρ', re, e, q⟩ := h
  unfold sCons at e
  cases e1 : f ρ with
  | none => rw [e1] at e; cases e
  | some p =>
    obtain ⟨w, ρ1⟩ := p
    rw [e1] at e
    simp only [Option.bind_some] at e
    cases e2 : g ρ1 with
    | none => rw [e2] at e; cases e
    | some p2 =>
      obtain ⟨ws2, ρ2⟩ := p2
      rw [e2] at e
      simp only [Option.bind_some] at e
      cases e
      refine ⟨Hk, ρ, w, ρ1, re, e1, fun Hk1 H1 v re1 st1 o1 r1 f1 => ?_⟩
      refine ⟨Hk1, ρ1, ws2, ρ', re1, e2, fun Hk2 H2 vs re2 st2 o2 r2 => ?_⟩
      exact q Hk2 H2 (v :: vs) re2 (st1.trans st2 fun p z => .inl (o1 p z)) (fun a z => o1 a (o2 a z)) (.cons (r1.step st2 o2) f1 (fun ds p e1 e2 t => by
        subst e1
        obtain ⟨p', us, e3, hp, _⟩ := r1
        rw [e2] at e3; cases e3
        rw [r2.tmp t] at hp; cases hp) (r2.back st1.there))
theorem tD_one {f : DE} {σ : L2.St} {H : Hp} {Q : V → Hp → Prop} (h : tDA K (sCons f sNil) σ H fun vs H' => ∃ v, vs = [v] ∧ Q v H') : tD K f σ H Q := by
  obtain ⟨Hk, ρ, w, ρ', re, e, q⟩ := tDA_cons h
  refine ⟨Hk, ρ, w, ρ', re, e, fun Hk1 H1 v re1 st1 o1 r1 f1 => ?_⟩
  have := tDA_nil (q Hk1 H1 v re1 st1 o1 r1 f1)
  obtain ⟨v', e', q'⟩ := this
  cases e'
  exact q'
end
theorem da_nil {X : Cx} : DAj X [] sNil := pa_weak pa_nil fun _ _ _ h => tDA_nil h
theorem da_cons {X : Cx} {e : Expr} {es : List Expr} {f : DE} {g : DA} (ha : DEj X e f) (hr : DAj X es g) (hs : starEach (e :: es) X.env = (false, eval e X.env) :: starEach es X.env := by rfl) : DAj X (e :: es) (sCons f g) :=
  pa_weak (pa_cons ha hr hs) fun _ _ _ h => tDA_cons h

/-! ### leaves -/
def sVar (i : Nat) : DE := fun ρ => match ρ[i]? with
  | some (some (.sh d)) => some (.sh d, ρ)
  | some (some (.ow _)) => some (.rf i, ρ)
  | some (some (.fx v)) => some (.fx v, ρ)
  | _ => none
def sC (d : PyData) : DE := fun ρ => some (.sh d, ρ)
def sFx (v : V) : DE := fun ρ => some (.fx v, ρ)
section
variable {X : Cx}
theorem de_var {e : Expr} {i : Nat} (h : PE X e (tVar i)) : DEj X e (sVar i) := by
  refine pe_weak h fun σ H Q q => ?_
  obtain ⟨Hk, ρ, w, ρ', re, e, q⟩ := q
  unfold sVar at e
  split at e
  · rename_i d hd
    cases e
    obtain ⟨v, h1, h2⟩ := re.slot i _ hd
    exact ⟨v, h1, q Hk H v re Stp.refl (fun _ h => h) h2 trivial⟩
  · rename_i ds hd
    cases e
    obtain ⟨v, h1, h2⟩ := re.slot i _ hd
    exact ⟨v, h1, q Hk H v re Stp.refl (fun _ h => h) h1 trivial⟩
  · rename_i u hd
    cases e
    obtain ⟨v, h1, h2⟩ := re.slot i _ hd
    exact ⟨v, h1, q Hk H v re Stp.refl (fun _ h => h) h2 trivial⟩
  · cases e
theorem de_c {e : Expr} {d : PyData} {v : V} (h : PE X e (tC v)) (hd : ∀ H, Dp X.K H v d) : DEj X e (sC d) := by
  refine pe_weak h fun σ H Q q => ?_
  obtain ⟨Hk, ρ, w, ρ', re, e, q⟩ := q
  cases e
  exact q Hk H v re Stp.refl (fun _ h => h) (hd Hk) trivial
theorem de_int {i j pos} : DEj X (.Constant (.int i) j pos) (sC (.int i)) := de_c pe_int fun _ => .int i
theorem de_bl {b j pos} : DEj X (.Constant (.bool b) j pos) (sC (.bool b)) := de_c pe_bl fun _ => .bl b
theorem de_non {j pos} : DEj X (.Constant .none j pos) (sC .none) := de_c pe_non fun _ => .non
theorem de_str {x j pos} : DEj X (.Constant (.str x) j pos) (sC (.str x)) := de_c pe_str fun _ => .str x
theorem de_fx {e : Expr} {v : V} (h : PE X e (tC v)) : DEj X e (sFx v) := by
  refine pe_weak h fun σ H Q q => ?_
  obtain ⟨Hk, ρ, w, ρ', re, e, q⟩ := q
  cases e
  exact q Hk H v re Stp.refl (fun _ h => h) rfl trivial
end

/-! ### operations on values -/
abbrev VS := List Val → Env → Option (Val × Env)
/-- the rule r does on values what sem says -/
def OpOk (K : PySem.W.Frag) (r : List V → Hp → VK → Prop) (sem : VS) : Prop :=
  ∀ (H0 : Hp) (σ : L2.St) (Hk H : Hp) (ρ : Env) (ws : List Val) (vs : List V) (w : Val) (ρ' : Env), RE K Hk H ρ σ → RRs K H0 Hk H ρ σ ws vs → sem ws ρ = some (w, ρ') →
    ∀ Q : VK, (∀ Hk' H' v, RE K Hk' H' ρ' σ → Stp (fun a => OwnAt ρ σ a ∨ Tmp ws vs a) Hk H Hk' H' → (∀ a, OwnAt ρ' σ a → OwnAt ρ σ a) → RR K Hk' H' ρ' σ w v →
      (∀ p, (∃ ds, w = .ow ds) → v = .ref p → H p = none ∨ Tmp ws vs p) → Q v H') → r vs H Q
def sOp (sem : VS) (fa : DA) : DE := fun ρ => (fa ρ).bind fun p => sem p.1 p.2
theorem tD_op {K : PySem.W.Frag} {r : List V → Hp → VK → Prop} {sem : VS} (ok : OpOk K r sem) {fa : DA} {σ : L2.St} {H : Hp} {Q : VK} (h : tD K (sOp sem fa) σ H Q) : tDA K fa σ H fun vs H1 => r vs H1 Q := by
  obtain ⟨Hk, ρ, w, ρ', re, e, q⟩ := h
  unfold sOp at e
  cases e1 : fa ρ with
  | none => rw [e1] at e; cases e
  | some p =>
    obtain ⟨ws, ρ1⟩ := p
    rw [e1] at e
    simp only [Option.bind_some] at e
    refine ⟨Hk, ρ, ws, ρ1, re, e1, fun Hk1 H1 vs re1 st1 o1 r1 => ?_⟩
    refine ok H σ Hk1 H1 ρ1 ws vs w ρ' re1 r1 e Q fun Hk2 H2 v re2 st2 o2 r2 f2 => ?_
    refine q Hk2 H2 v re2 (st1.trans st2 fun p z => ?_) (fun a z => o1 a (o2 a z)) r2 ?_
    · rcases z with z | z
      · exact .inl (o1 p z)
      · exact .inr (r1.tmp z)
    · cases w with
      | ow ds =>
        intro p ep
        rcases f2 p ⟨ds, rfl⟩ ep with z | z
        · exact st1.there p z
        · exact r1.tmp z
      | _ => trivial
def r2L (r : R2) : List V → Hp → VK → Prop := fun vs H Q => ∃ x y, vs = [x, y] ∧ r x y H Q
def r1L (r : V → Hp → VK → Prop) : List V → Hp → VK → Prop := fun vs H Q => ∃ x, vs = [x] ∧ r x H Q
section
variable {X : Cx} {a b e : Expr} {f g : DE} {fa : DA} {pos : Pos} {sem : VS}
theorem t2_of {r : R2} {σ : L2.St} {H : Hp} {Q : VK} (h : tDA X.K (sCons f (sCons g sNil)) σ H fun vs H1 => r2L r vs H1 Q) : tOp r (tD X.K f) (tD X.K g) σ H Q := by
  obtain ⟨Hk, ρ, w, ρ', re, e, q⟩ := tDA_cons h
  refine ⟨Hk, ρ, w, ρ', re, e, fun Hk1 H1 v re1 st1 o1 r1 f1 => ?_⟩
  obtain ⟨Hk', ρ2, w', ρ'', re', e', q'⟩ := tDA_cons (q Hk1 H1 v re1 st1 o1 r1 f1)
  refine ⟨Hk', ρ2, w', ρ'', re', e', fun Hk2 H2 v' re2 st2 o2 r2 f2 => ?_⟩
  obtain ⟨x, y, ee, q3⟩ := tDA_nil (q' Hk2 H2 v' re2 st2 o2 r2 f2)
  cases ee
  exact q3
theorem t1_of {r : V → Hp → VK → Prop} {σ : L2.St} {H : Hp} {Q : VK} (h : tDA X.K (sCons f sNil) σ H fun vs H1 => r1L r vs H1 Q) : tUn r (tD X.K f) σ H Q := by
  obtain ⟨Hk, ρ, w, ρ', re, e, q⟩ := tDA_cons h
  refine ⟨Hk, ρ, w, ρ', re, e, fun Hk1 H1 v re1 st1 o1 r1 f1 => ?_⟩
  obtain ⟨x, ee, q3⟩ := tDA_nil (q Hk1 H1 v re1 st1 o1 r1 f1)
  cases ee
  exact q3
theorem de_bin {op : Operator} {r : R2} (ho : OpR X (binaryOp op) r) (ok : OpOk X.K (r2L r) sem) (ha : DEj X a f) (hb : DEj X b g) : DEj X (.BinOp a op b pos) (sOp sem (sCons f (sCons g sNil))) :=
  pe_weak (pe_op ho ha hb) fun _ _ _ h => t2_of (tD_op ok h)
theorem de_un {op : UnaryOp} {r : V → Hp → VK → Prop} (ho : UnR X (unaryOp op) r) (ok : OpOk X.K (r1L r) sem) (ha : DEj X a f) : DEj X (.UnaryOp op a pos) (sOp sem (sCons f sNil)) :=
  pe_weak (pe_un ho ha) fun _ _ _ h => t1_of (tD_op ok h)
theorem de_cmp {op : CmpOp} {r : R2} (ho : OpR X (compareOp op) r) (ok : OpOk X.K (r2L r) sem) (ha : DEj X a f) (hb : DEj X b g) (hm : behindInMarks op b = false := by rfl) : DEj X (.Compare a [op] [b] pos) (sOp sem (sCons f (sCons g sNil))) :=
  pe_weak (pe_cmpR ho ha hb hm) fun _ _ _ h => t2_of (tD_op ok h)
theorem de_ix {r : R2} (ho : IxR X r) (ok : OpOk X.K (r2L r) sem) (ha : DEj X a f) (hb : DEj X b g) (hs : PlainIx b := by intro _ _; rfl) : DEj X (.Subscript a b pos) (sOp sem (sCons f (sCons g sNil))) :=
  pe_weak (pe_ix ho ha hb hs) fun _ _ _ h => t2_of (tD_op ok h)
theorem tCB_of {r : List V → Hp → VK → Prop} (ok : OpOk X.K r sem) {σ : L2.St} {H : Hp} {Q : VK} (h : tD X.K (sOp sem fa) σ H Q) : tCB r (tDA X.K fa) σ H Q := tD_op ok h
theorem de_callB {es : List Expr} {x : Str} {p : Pos} {id : String} {r : List V → Hp → VK → Prop} (hc : CallR X (.builtin id) r) (ok : OpOk X.K r sem) (hg : Gl X x) (hm : X.mg x = none) (hv : bootBuiltins x = some (.builtin id)) (ha : DAj X (e :: es) fa) (hn : x ≠ "__name__" := by decide) (hdb : (x == ("__debug__" : Str)) = false := by decide)
    (he : starEach (e :: es) X.env = (false, eval e X.env) :: starEach es X.env := by rfl) (hpl : (backTo pos (starEach es X.env)).any (·.1) = false := by rfl) : DEj X (.Call (.Name x p) (e :: es) [] pos) (sOp sem fa) :=
  pe_weak (pe_callB hc hg hm hv ha hn hdb he hpl) fun _ _ _ h => tD_op ok h
theorem de_callTy {es : List Expr} {x : Str} {p : Pos} {T : String} {r : List V → Hp → VK → Prop} (hc : CallR X (.type T) r) (ok : OpOk X.K r sem) (hg : Gl X x) (hm : X.mg x = none) (hv : bootBuiltins x = some (.type T)) (ha : DAj X (e :: es) fa) (hn : x ≠ "__name__" := by decide) (hdb : (x == ("__debug__" : Str)) = false := by decide)
    (he : starEach (e :: es) X.env = (false, eval e X.env) :: starEach es X.env := by rfl) (hpl : (backTo pos (starEach es X.env)).any (·.1) = false := by rfl) : DEj X (.Call (.Name x p) (e :: es) [] pos) (sOp sem fa) :=
  pe_weak (pe_callTy hc hg hm hv ha hn hdb he hpl) fun _ _ _ h => tD_op ok h
theorem de_tup {es : List Expr} {k : Nat} {r : List V → Hp → VK → Prop} (hr : r = fun xs H1 Q => xs.length ≤ sizeLine ∧ ∀ p, H1 p = none → Q (.ref p) (upd H1 p (.tup xs))) (ok : OpOk X.K r sem) (ha : DAj X es fa) : DEj X (.Tuple es k pos) (sOp sem fa) :=
  pe_weak (pe_tup ha) fun _ _ _ h => by subst hr; exact tD_op ok h
theorem de_lst {es : List Expr} {r : List V → Hp → VK → Prop} (hr : r = fun xs H1 Q => xs.length ≤ sizeLine ∧ ∀ p, H1 p = none → Q (.ref p) (upd H1 p (.lst xs))) (ok : OpOk X.K r sem) (ha : DAj X es fa) : DEj X (.List es pos) (sOp sem fa) :=
  pe_weak (pe_lst ha) fun _ _ _ h => by subst hr; exact tD_op ok h
end

/-! ### making data stay -/
def stab : Val → Env → Option (PyData × Env)
  | .sh d, ρ => some (d, ρ)
  | .ow ds, ρ => some (.list ds, ρ)
  | .rf i, ρ => match ρ[i]? with
    | some (some (.ow ds)) => some (.list ds, ρ.set i (some (.sh (.list ds))))
    | some (some (.sh d)) => some (d, ρ)
    | _ => none
  | .fx _, _ => none
theorem own_set {ρ : Env} {σ : L2.St} {i : Nat} {d : PyData} {a : Addr} (h : OwnAt (ρ.set i (some (.sh d))) σ a) : OwnAt ρ σ a ∧ ∃ j ds, j ≠ i ∧ ρ[j]? = some (some (.ow ds)) ∧ σ[j]? = some (some (.ref a)) := by
  obtain ⟨j, ds, h1, h2⟩ := h
  have hj : j ≠ i := fun e => by
    subst e
    by_cases hl : j < ρ.length
    · rw [List.getElem?_set_self hl] at h1; cases h1
    · rw [List.getElem?_eq_none (by simpa using hl)] at h1; cases h1
  rw [List.getElem?_set_ne (Ne.symm hj)] at h1
  exact ⟨⟨j, ds, h1, h2⟩, j, ds, hj, h1, h2⟩
theorem upd_none {H : Hp} {p a : Addr} {o : HO} (h : H p = none) (e : Ex H H) : True := trivial
/-- a list that no slot owns stays from now on -/
theorem RE.frz {K : PySem.W.Frag} {Hk H : Hp} {ρ : Env} {σ : L2.St} {p : Addr} {vs : List V} (re : RE K Hk H ρ σ) (hp : H p = some (.lst vs)) (hk : Hk p = none) (no : ¬ OwnAt ρ σ p) : RE K (upd Hk p (.lst vs)) H ρ σ := by
  refine ⟨fun a o e => ?_, re.len, fun i w h => ?_, re.sep⟩
  · by_cases ha : a = p
    · subst ha; rw [upd_same] at e; cases e; exact hp
    · rw [upd_ne ha] at e; exact re.sub a o e
  · obtain ⟨v, h1, h2⟩ := re.slot i w h
    refine ⟨v, h1, ?_⟩
    cases w with
    | sh d => exact dp_ex (Ex.new hk) h2
    | ow ds =>
      obtain ⟨q, us, e, hq, hd, hn⟩ := h2
      refine ⟨q, us, e, hq, dpAll_ex (Ex.new hk) hd, ?_⟩
      rw [upd_ne]
      · exact hn
      · intro z
        subst z
        subst e
        exact no ⟨i, ds, h, h1⟩
    | rf j => exact h2
    | fx u => exact h2
theorem frz_stp {O : Addr → Prop} {Hk H : Hp} {p : Addr} {o : HO} (hk : Hk p = none) (hO : O p) : Stp O Hk H (upd Hk p o) H := by
  refine ⟨Ex.new hk, fun _ _ h _ => h, fun a h => ?_, fun _ h => h⟩
  by_cases ha : a = p
  · subst ha; exact .inr (.inl hO)
  · rw [upd_ne ha] at h; exact .inl h
theorem stab_ok {K : PySem.W.Frag} {Hk H : Hp} {ρ ρ' : Env} {σ : L2.St} {w : Val} {v : V} {d : PyData} (re : RE K Hk H ρ σ) (rr : RR K Hk H ρ σ w v) (e : stab w ρ = some (d, ρ')) :
    ∃ Hk', RE K Hk' H ρ' σ ∧ Stp (fun a => OwnAt ρ σ a ∨ Tmp [w] [v] a) Hk H Hk' H ∧ (∀ a, OwnAt ρ' σ a → OwnAt ρ σ a) ∧ Dp K Hk' v d := by
  cases w with
  | sh d' => cases e; exact ⟨Hk, re, Stp.refl, fun _ h => h, rr⟩
  | ow ds =>
    cases e
    obtain ⟨p, vs, e, hp, hd, hk, no⟩ := rr
    subst e
    exact ⟨upd Hk p (.lst vs), re.frz hp hk no, frz_stp hk (.inr ⟨0, ds, rfl, rfl⟩), fun _ h => h, .lst (sq_of upd_same) (dpAll_ex (Ex.new hk) hd)⟩
  | rf i =>
    simp only [stab] at e
    split at e
    · rename_i ds hi
      cases e
      obtain ⟨u, h1, p, vs, e, hp, hd, hk⟩ := re.slot i _ hi
      subst e
      have hv : v = .ref p := by
        have rr' : σ[i]? = some (some v) := rr
        rw [h1] at rr'; cases rr'; rfl
      subst hv
      have hl : i < ρ.length := (List.getElem?_eq_some_iff.mp hi).1
      have ho : OwnAt ρ σ p := ⟨i, ds, hi, h1⟩
      have hD : Dp K (upd Hk p (.lst vs)) (.ref p) (.list ds) := .lst (sq_of upd_same) (dpAll_ex (Ex.new hk) hd)
      refine ⟨upd Hk p (.lst vs), ⟨?_, by rw [List.length_set]; exact re.len, fun j w h => ?_, fun j k a b q h1 h2 h3 h4 => ?_⟩, frz_stp hk (.inl ho), fun a h => (own_set h).1, hD⟩
      · intro a o e
        by_cases ha : a = p
        · subst ha; rw [upd_same] at e; cases e; exact hp
        · rw [upd_ne ha] at e; exact re.sub a o e
      · by_cases hj : j = i
        · subst hj
          rw [List.getElem?_set_self hl] at h
          cases h
          exact ⟨_, h1, hD⟩
        · rw [List.getElem?_set_ne (Ne.symm hj)] at h
          obtain ⟨u, g1, g2⟩ := re.slot j w h
          refine ⟨u, g1, ?_⟩
          cases w with
          | sh d => exact dp_ex (Ex.new hk) g2
          | ow es =>
            obtain ⟨q, us, e, hq, hd', hn⟩ := g2
            refine ⟨q, us, e, hq, dpAll_ex (Ex.new hk) hd', ?_⟩
            rw [upd_ne]
            · exact hn
            · intro z
              subst z; subst e
              exact hj (re.sep j i es ds q h hi g1 h1)
          | rf _ => exact g2
          | fx _ => exact g2
      · have nj : ∀ {j : Nat} {a}, (ρ.set i (some (.sh (.list ds))))[j]? = some (some (.ow a)) → ρ[j]? = some (some (.ow a)) := fun {j a} h => by
          by_cases hj : j = i
          · subst hj; rw [List.getElem?_set_self hl] at h; cases h
          · rw [List.getElem?_set_ne (Ne.symm hj)] at h; exact h
        exact re.sep j k a b q (nj h1) (nj h2) h3 h4
    · rename_i d' hi
      cases e
      obtain ⟨u, h1, h2⟩ := re.slot i _ hi
      have hv : v = u := by
        have rr' : σ[i]? = some (some v) := rr
        rw [h1] at rr'; cases rr'; rfl
      subst hv
      exact ⟨Hk, re, Stp.refl, fun _ h => h, h2⟩
    · cases e
  | fx u => cases e
def sStab (f : DE) : DE := fun ρ => (f ρ).bind fun p => (stab p.1 p.2).bind fun q => some (.sh q.1, q.2)
theorem tmp1 {w : Val} {v : V} {a : Addr} (h : Tmp [w] [v] a) : (∃ ds, w = .ow ds) ∧ v = .ref a := by
  obtain ⟨i, ds, h1, h2⟩ := h
  cases i with
  | zero => simp at h1 h2; exact ⟨⟨ds, h1⟩, h2⟩
  | succ i => simp at h1
theorem fr_tmp {H : Hp} {w : Val} {v : V} {a : Addr} (f : Fr H w v) (h : Tmp [w] [v] a) : H a = none := by
  obtain ⟨⟨ds, rfl⟩, e⟩ := tmp1 h
  exact f a e
theorem de_stab {X : Cx} {e : Expr} {f : DE} (h : DEj X e f) : DEj X e (sStab f) := by
  refine pe_weak h fun σ H Q q => ?_
  obtain ⟨Hk, ρ, w, ρ', re, e, q⟩ := q
  unfold sStab at e
  cases e1 : f ρ with
  | none => rw [e1] at e; cases e
  | some p =>
    obtain ⟨w1, ρ1⟩ := p
    rw [e1] at e
    simp only [Option.bind_some] at e
    cases e2 : stab w1 ρ1 with
    | none => rw [e2] at e; cases e
    | some p2 =>
      obtain ⟨d, ρ2⟩ := p2
      rw [e2] at e
      cases e
      refine ⟨Hk, ρ, w1, ρ1, re, e1, fun Hk1 H1 v re1 st1 o1 r1 f1 => ?_⟩
      obtain ⟨Hk2, re2, st2, o2, hd⟩ := stab_ok re1 r1 e2
      refine q Hk2 H1 v re2 (st1.trans st2 fun p z => ?_) (fun a z => o1 a (o2 a z)) hd trivial
      rcases z with z | z
      · exact .inl (o1 p z)
      · exact .inr (fr_tmp f1 z)
/-! ### the items of a list, of a tuple -/
def lstOf : Val → Env → Option (List PyData)
  | .sh (.list ds), _ => some ds
  | .ow ds, _ => some ds
  | .rf i, ρ => match ρ[i]? with
    | some (some (.ow ds)) => some ds
    | some (some (.sh (.list ds))) => some ds
    | _ => none
  | _, _ => none
def tupOf : Val → Option (List PyData)
  | .sh (.tuple ds) => some ds
  | _ => none
theorem dpL {K : PySem.W.Frag} {H : Hp} {v : V} {ds : List PyData} (h : Dp K H v (.list ds)) : ∃ p vs, v = .ref p ∧ SqL K H p vs ∧ DpAll K H vs ds := by
  cases h with
  | lst a b => exact ⟨_, _, rfl, a, b⟩
theorem dpT {K : PySem.W.Frag} {H : Hp} {v : V} {ds : List PyData} (h : Dp K H v (.tuple ds)) : ∃ p vs, v = .ref p ∧ SqT K H p vs ∧ DpAll K H vs ds := by
  cases h with
  | tup a b => exact ⟨_, _, rfl, a, b⟩
theorem lstOf_ok {K : PySem.W.Frag} {Hk H : Hp} {ρ : Env} {σ : L2.St} {w : Val} {v : V} {ds : List PyData} (re : RE K Hk H ρ σ) (rr : RR K Hk H ρ σ w v) (e : lstOf w ρ = some ds) :
    ∃ p vs, v = .ref p ∧ SqL K H p vs ∧ DpAll K Hk vs ds := by
  cases w with
  | sh d =>
    cases d with
    | list es =>
      cases e
      obtain ⟨p, vs, e, a, b⟩ := dpL rr
      exact ⟨p, vs, e, ex_l re.sub a, b⟩
    | _ => cases e
  | ow es =>
    cases e
    obtain ⟨p, vs, e, hp, hd, _⟩ := rr
    exact ⟨p, vs, e, sq_of hp, hd⟩
  | rf i =>
    have rr' : σ[i]? = some (some v) := rr
    simp only [lstOf] at e
    split at e
    · rename_i es hi
      cases e
      obtain ⟨u, h1, p, vs, e, hp, hd, hk⟩ := re.slot i _ hi
      rw [h1] at rr'; cases rr'
      exact ⟨p, vs, e, sq_of hp, hd⟩
    · rename_i es hi
      cases e
      obtain ⟨u, h1, h2⟩ := re.slot i _ hi
      rw [h1] at rr'; cases rr'
      obtain ⟨p, vs, e, a, b⟩ := dpL h2
      exact ⟨p, vs, e, ex_l re.sub a, b⟩
    · cases e
  | fx u => cases e
theorem tupOf_ok {K : PySem.W.Frag} {Hk H : Hp} {ρ : Env} {σ : L2.St} {w : Val} {v : V} {ds : List PyData} (re : RE K Hk H ρ σ) (rr : RR K Hk H ρ σ w v) (e : tupOf w = some ds) :
    ∃ p vs, v = .ref p ∧ SqT K H p vs ∧ DpAll K Hk vs ds := by
  cases w with
  | sh d =>
    cases d with
    | tuple es =>
      cases e
      obtain ⟨p, vs, e, a, b⟩ := dpT rr
      exact ⟨p, vs, e, ex_t re.sub a, b⟩
    | _ => cases e
  | _ => cases e
end DL
end

section
set_option Elab.async false
set_option linter.all false
set_option maxRecDepth 100000
set_option maxHeartbeats 4000000
namespace DL
open PySem PySem.Spec PyProof.Rows L2 Evl

/-! ### kinds of operations -/
theorem ok_pure {K : PySem.W.Frag} {r : List V → Hp → VK → Prop} {sem : VS}
    (h : ∀ (H0 : Hp) (σ : L2.St) (Hk H : Hp) (ρ : Env) (ws : List Val) (vs : List V) (w : Val) (ρ' : Env), RE K Hk H ρ σ → RRs K H0 Hk H ρ σ ws vs → sem ws ρ = some (w, ρ') →
      ∃ d v, w = .sh d ∧ ρ' = ρ ∧ Dp K Hk v d ∧ ∀ Q : VK, Q v H → r vs H Q) : OpOk K r sem := by
  intro H0 σ Hk H ρ ws vs w ρ' re rr e Q q
  obtain ⟨d, v, rfl, rfl, hd, hq⟩ := h H0 σ Hk H ρ ws vs w ρ' re rr e
  exact hq Q (q Hk H v re Stp.refl (fun _ h => h) hd fun p z => by obtain ⟨ds, z⟩ := z; cases z)
theorem RE.more {K : PySem.W.Frag} {Hk H : Hp} {ρ : Env} {σ : L2.St} {p : Addr} {o : HO} (re : RE K Hk H ρ σ) (n : H p = none) : RE K Hk (upd H p o) ρ σ := by
  refine ⟨fun a u e => ?_, re.len, fun i w h => ?_, re.sep⟩
  · have := re.sub a u e
    rw [upd_ne (ne_of_none this n)]
    exact this
  · obtain ⟨v, h1, h2⟩ := re.slot i w h
    refine ⟨v, h1, ?_⟩
    cases w with
    | ow ds =>
      obtain ⟨q, us, e, hq, hd, hn⟩ := h2
      exact ⟨q, us, e, by rw [upd_ne (ne_of_none hq n)]; exact hq, hd, hn⟩
    | _ => exact h2
theorem RE.kmore {K : PySem.W.Frag} {Hk H : Hp} {ρ : Env} {σ : L2.St} {p : Addr} {o : HO} (re : RE K Hk H ρ σ) (n : H p = none) : RE K (upd Hk p o) (upd H p o) ρ σ := by
  have nk : Hk p = none := by
    cases q : Hk p with
    | none => rfl
    | some u => rw [re.sub p u q] at n; cases n
  refine ⟨fun a u e => ?_, re.len, fun i w h => ?_, re.sep⟩
  · by_cases ha : a = p
    · subst ha; rw [upd_same] at e ⊢; exact e
    · rw [upd_ne ha] at e ⊢; exact re.sub a u e
  · obtain ⟨v, h1, h2⟩ := re.slot i w h
    refine ⟨v, h1, ?_⟩
    cases w with
    | sh d => exact dp_ex (Ex.new nk) h2
    | ow ds =>
      obtain ⟨q, us, e, hq, hd, hn⟩ := h2
      have hne : q ≠ p := ne_of_none hq n
      exact ⟨q, us, e, by rw [upd_ne hne]; exact hq, dpAll_ex (Ex.new nk) hd, by rw [upd_ne hne]; exact hn⟩
    | rf i => exact h2
    | fx u => exact h2
theorem RE.knone {K : PySem.W.Frag} {Hk H : Hp} {ρ : Env} {σ : L2.St} {p : Addr} (re : RE K Hk H ρ σ) (n : H p = none) : Hk p = none := by
  cases q : Hk p with
  | none => rfl
  | some u => rw [re.sub p u q] at n; cases n
theorem RE.own_there {K : PySem.W.Frag} {Hk H : Hp} {ρ : Env} {σ : L2.St} {a : Addr} (re : RE K Hk H ρ σ) (h : OwnAt ρ σ a) : H a ≠ none := by
  obtain ⟨i, ds, h1, h2⟩ := h
  obtain ⟨v, g1, p, vs, e, hp, _⟩ := re.slot i _ h1
  rw [h2] at g1; cases g1; cases e
  rw [hp]; exact fun z => nomatch z
theorem stp_more {O : Addr → Prop} {Hk H : Hp} {p : Addr} {o : HO} (n : H p = none) : Stp O Hk H Hk (upd H p o) :=
  ⟨Ex.refl _, fun a u h _ => by rw [upd_ne (ne_of_none h n)]; exact h, fun _ h => .inl h, fun a h => by
    by_cases ha : a = p
    · subst ha; exact n
    · rw [upd_ne ha] at h; exact h⟩
theorem stp_kmore {O : Addr → Prop} {Hk H : Hp} {p : Addr} {o : HO} (n : H p = none) (nk : Hk p = none) : Stp O Hk H (upd Hk p o) (upd H p o) :=
  ⟨Ex.new nk, fun a u h _ => by rw [upd_ne (ne_of_none h n)]; exact h, fun a h => by
    by_cases ha : a = p
    · subst ha; exact .inr (.inr n)
    · rw [upd_ne ha] at h; exact .inl h, fun a h => by
    by_cases ha : a = p
    · subst ha; exact n
    · rw [upd_ne ha] at h; exact h⟩
/-- the operation makes a new list -/
theorem ok_new {K : PySem.W.Frag} {r : List V → Hp → VK → Prop} {sem : VS}
    (h : ∀ (H0 : Hp) (σ : L2.St) (Hk H : Hp) (ρ : Env) (ws : List Val) (vs : List V) (w : Val) (ρ' : Env), RE K Hk H ρ σ → RRs K H0 Hk H ρ σ ws vs → sem ws ρ = some (w, ρ') →
      ∃ ds us, w = .ow ds ∧ ρ' = ρ ∧ DpAll K Hk us ds ∧ ∀ Q : VK, (∀ p, H p = none → Q (.ref p) (upd H p (.lst us))) → r vs H Q) : OpOk K r sem := by
  intro H0 σ Hk H ρ ws vs w ρ' re rr e Q q
  obtain ⟨ds, us, rfl, rfl, hd, hq⟩ := h H0 σ Hk H ρ ws vs w ρ' re rr e
  refine hq Q fun p n => q Hk _ (.ref p) (re.more n) (stp_more n) (fun _ h => h) ⟨p, us, rfl, upd_same, hd, re.knone n, fun z => re.own_there z n⟩ fun p' _ z => ?_
  cases z
  exact .inl n
/-- the operation makes a new tuple -/
theorem ok_newT {K : PySem.W.Frag} {r : List V → Hp → VK → Prop} {sem : VS}
    (h : ∀ (H0 : Hp) (σ : L2.St) (Hk H : Hp) (ρ : Env) (ws : List Val) (vs : List V) (w : Val) (ρ' : Env), RE K Hk H ρ σ → RRs K H0 Hk H ρ σ ws vs → sem ws ρ = some (w, ρ') →
      ∃ ds us, w = .sh (.tuple ds) ∧ ρ' = ρ ∧ DpAll K Hk us ds ∧ ∀ Q : VK, (∀ p, H p = none → Q (.ref p) (upd H p (.tup us))) → r vs H Q) : OpOk K r sem := by
  intro H0 σ Hk H ρ ws vs w ρ' re rr e Q q
  obtain ⟨ds, us, rfl, rfl, hd, hq⟩ := h H0 σ Hk H ρ ws vs w ρ' re rr e
  refine hq Q fun p n => q (upd Hk p (.tup us)) _ (.ref p) (re.kmore n) (stp_kmore n (re.knone n)) (fun _ h => h) (.tup (st_of upd_same) (dpAll_ex (Ex.new (re.knone n)) hd)) fun p' z _ => by obtain ⟨ds, z⟩ := z; cases z

/-! ### ints -/
def vI2 (C : Int → Int → Prop) [∀ i j, Decidable (C i j)] (g : Int → Int → PyData) : VS
  | [.sh (.int i), .sh (.int j)], ρ => if C i j then some (.sh (g i j), ρ) else none
  | _, _ => none
theorem rrs2 {K : PySem.W.Frag} {H0 Hk H : Hp} {ρ : Env} {σ : L2.St} {x y : Val} {vs : List V} (h : RRs K H0 Hk H ρ σ [x, y] vs) : ∃ u v, vs = [u, v] ∧ RR K Hk H ρ σ x u ∧ RR K Hk H ρ σ y v := by
  cases h with
  | cons a _ _ t =>
    cases t with
    | cons b _ _ t => cases t; exact ⟨_, _, rfl, a, b⟩
theorem rrs1 {K : PySem.W.Frag} {H0 Hk H : Hp} {ρ : Env} {σ : L2.St} {x : Val} {vs : List V} (h : RRs K H0 Hk H ρ σ [x] vs) : ∃ u, vs = [u] ∧ RR K Hk H ρ σ x u := by
  cases h with
  | cons a _ _ t => cases t; exact ⟨_, rfl, a⟩
theorem rr_int {K : PySem.W.Frag} {Hk H : Hp} {ρ : Env} {σ : L2.St} {i : Int} {v : V} (h : RR K Hk H ρ σ (.sh (.int i)) v) : v = .int i := by
  have h' : Dp K Hk v (.int i) := h
  cases h'
  rfl
theorem rr_bool {K : PySem.W.Frag} {Hk H : Hp} {ρ : Env} {σ : L2.St} {b : Bool} {v : V} (h : RR K Hk H ρ σ (.sh (.bool b)) v) : v = .bl b := by
  have h' : Dp K Hk v (.bool b) := h
  cases h'
  rfl
theorem ok_I2 {K : PySem.W.Frag} {C C' : Int → Int → Prop} [∀ i j, Decidable (C i j)] {g : Int → Int → V} {h : Int → Int → PyData} (e : ∀ H i j, Dp K H (g i j) (h i j)) (c : ∀ i j, C i j → C' i j) : OpOk K (r2L (rI C' g)) (vI2 C h) :=
  ok_pure fun H0 σ Hk H ρ ws vs w ρ' re rr eq => by
    unfold vI2 at eq
    split at eq
    · rename_i i j
      split at eq
      · rename_i hc
        cases eq
        obtain ⟨u, v, rfl, a, b⟩ := rrs2 rr
        cases rr_int a
        cases rr_int b
        exact ⟨_, _, rfl, rfl, e Hk i j, fun Q q => ⟨_, _, rfl, i, j, rfl, rfl, c i j hc, q⟩⟩
      · cases eq
    · cases eq
theorem ok_I0 {K : PySem.W.Frag} {g : Int → Int → V} {h : Int → Int → PyData} (e : ∀ H i j, Dp K H (g i j) (h i j)) : OpOk K (r2L (rI0 g)) (vI2 (fun _ _ => True) h) :=
  ok_pure fun H0 σ Hk H ρ ws vs w ρ' re rr eq => by
    unfold vI2 at eq
    split at eq
    · rename_i i j
      rw [if_pos trivial] at eq
      cases eq
      obtain ⟨u, v, rfl, a, b⟩ := rrs2 rr
      cases rr_int a
      cases rr_int b
      exact ⟨_, _, rfl, rfl, e Hk i j, fun Q q => ⟨_, _, rfl, i, j, rfl, rfl, q⟩⟩
    · cases eq
def vI1 (g : Int → PyData) : VS
  | [.sh (.int i)], ρ => some (.sh (g i), ρ)
  | _, _ => none
theorem ok_I1 {K : PySem.W.Frag} {g : Int → V} {h : Int → PyData} (e : ∀ H i, Dp K H (g i) (h i)) : OpOk K (r1L (rU g)) (vI1 h) :=
  ok_pure fun H0 σ Hk H ρ ws vs w ρ' re rr eq => by
    unfold vI1 at eq
    split at eq
    · rename_i i
      cases eq
      obtain ⟨u, rfl, a⟩ := rrs1 rr
      cases rr_int a
      exact ⟨_, _, rfl, rfl, e Hk i, fun Q q => ⟨_, rfl, i, rfl, q⟩⟩
    · cases eq
/-- sizes: a product of two factors of together less than 130 million bits; a divisor other than 0 below 2 ^ 9000 -/
def CMulZ (i j : Int) : Prop := i.natAbs.log2 + j.natAbs.log2 < 130000000
instance (i j : Int) : Decidable (CMulZ i j) := inferInstanceAs (Decidable (_ < _))
def CDivZ (_ j : Int) : Prop := j ≠ 0 ∧ j.natAbs.log2 < 9000
instance (i j : Int) : Decidable (CDivZ i j) := inferInstanceAs (Decidable (_ ∧ _))
theorem CMulZ.ok {i j : Int} (h : CMulZ i j) : IntMulOk i j := by
  have b : ∀ x : Int, Builtin.Int.intBits x ≤ x.natAbs.log2 + 1 := fun x => by
    unfold Builtin.Int.intBits
    split <;> omega
  have h1 := b i
  have h2 := b j
  have h4 : i.natAbs.log2 + j.natAbs.log2 < 130000000 := h
  have eb : bitsLine = 134217728 := by decide
  intro z
  rw [Bool.and_eq_true] at z
  have z3 := of_decide_eq_true (show decide _ = true from z.2)
  rw [eb] at z3
  omega
section
variable {X : Cx} {a b : Expr} {f g : DE} {pos : Pos}
theorem op_mulZ : OpR X (binaryOp .Mult) (rI CMulZ fun i j => .int (i * j)) := opI fun _ _ _ _ _ _ _ c q => mul_int q c.ok
theorem op_fdivZ : OpR X (binaryOp .FloorDiv) (rI CDivZ fun i j => .int (i.fdiv j)) := opI fun _ _ _ _ _ _ _ c q => floordiv_int c.1 q (.inl (PyProof.noPylong_of_log2 c.2))
theorem iop_mulZ : OpR X (inplaceOp .Mult) (rI CMulZ fun i j => .int (i * j)) := opI fun _ _ _ _ _ _ _ c q => imul_int q c.ok
theorem iop_fdivZ : OpR X (inplaceOp .FloorDiv) (rI CDivZ fun i j => .int (i.fdiv j)) := opI fun _ _ _ _ _ _ _ c q => ifloordiv_int c.1 q (.inl (PyProof.noPylong_of_log2 c.2))
def vAdd : VS := vI2 (fun _ _ => True) fun i j => .int (i + j)
def vSub : VS := vI2 (fun _ _ => True) fun i j => .int (i - j)
def vMul : VS := vI2 CMulZ fun i j => .int (i * j)
def vDiv : VS := vI2 CDivZ fun i j => .int (i.fdiv j)
def vMod : VS := vI2 (fun _ j => j ≠ 0) fun i j => .int (i.fmod j)
def CPowZ (i j : Int) : Prop := 0 ≤ j ∧ j ≤ 1000000 ∧ i.natAbs < 2 ^ 64
instance (i j : Int) : Decidable (CPowZ i j) := inferInstanceAs (Decidable (_ ∧ _))
def vPow : VS := vI2 CPowZ fun i j => .int (i ^ j.toNat)
def vLt : VS := vI2 (fun _ _ => True) fun i j => .bool (decide (i < j))
def vLe : VS := vI2 (fun _ _ => True) fun i j => .bool (decide (i ≤ j))
def vGt : VS := vI2 (fun _ _ => True) fun i j => .bool (decide (j < i))
def vGe : VS := vI2 (fun _ _ => True) fun i j => .bool (decide (j ≤ i))
def vNeg : VS := vI1 fun i => .int (-i)
theorem de_add (ha : DEj X a f) (hb : DEj X b g) : DEj X (.BinOp a .Add b pos) (sOp vAdd (sCons f (sCons g sNil))) := de_bin op_add (ok_I0 fun _ _ _ => .int _) ha hb
theorem de_sub (ha : DEj X a f) (hb : DEj X b g) : DEj X (.BinOp a .Sub b pos) (sOp vSub (sCons f (sCons g sNil))) := de_bin op_sub (ok_I0 fun _ _ _ => .int _) ha hb
theorem de_mul (ha : DEj X a f) (hb : DEj X b g) : DEj X (.BinOp a .Mult b pos) (sOp vMul (sCons f (sCons g sNil))) := de_bin op_mulZ (ok_I2 (fun _ _ _ => .int _) fun _ _ h => h) ha hb
theorem de_div (ha : DEj X a f) (hb : DEj X b g) : DEj X (.BinOp a .FloorDiv b pos) (sOp vDiv (sCons f (sCons g sNil))) := de_bin op_fdivZ (ok_I2 (fun _ _ _ => .int _) fun _ _ h => h) ha hb
theorem de_mod (ha : DEj X a f) (hb : DEj X b g) : DEj X (.BinOp a .Mod b pos) (sOp vMod (sCons f (sCons g sNil))) := de_bin op_modN (ok_I2 (fun _ _ _ => .int _) fun _ _ h => h) ha hb
theorem de_pow (ha : DEj X a f) (hb : DEj X b g) : DEj X (.BinOp a .Pow b pos) (sOp vPow (sCons f (sCons g sNil))) := de_bin op_pow (ok_I2 (fun _ _ _ => .int _) fun _ _ h => h) ha hb
theorem de_lt (ha : DEj X a f) (hb : DEj X b g) : DEj X (.Compare a [.Lt] [b] pos) (sOp vLt (sCons f (sCons g sNil))) := de_cmp op_lt (ok_I0 fun _ _ _ => .bl _) ha hb (nomark _)
theorem de_le (ha : DEj X a f) (hb : DEj X b g) : DEj X (.Compare a [.LtE] [b] pos) (sOp vLe (sCons f (sCons g sNil))) := de_cmp op_le (ok_I0 fun _ _ _ => .bl _) ha hb (nomark _)
theorem de_gt (ha : DEj X a f) (hb : DEj X b g) : DEj X (.Compare a [.Gt] [b] pos) (sOp vGt (sCons f (sCons g sNil))) := de_cmp op_gt (ok_I0 fun _ _ _ => .bl _) ha hb (nomark _)
theorem de_ge (ha : DEj X a f) (hb : DEj X b g) : DEj X (.Compare a [.GtE] [b] pos) (sOp vGe (sCons f (sCons g sNil))) := de_cmp op_ge (ok_I0 fun _ _ _ => .bl _) ha hb (nomark _)
theorem de_neg (ha : DEj X a f) : DEj X (.UnaryOp .USub a pos) (sOp vNeg (sCons f sNil)) := de_un un_neg (ok_I1 fun _ _ => .int _) ha
end

/-! ### equality of data -/
/-- what a value is, as data, now -/
def datOf : Val → Env → Option PyData
  | .sh d, _ => some d
  | w, ρ => (lstOf w ρ).map .list
theorem datOf_ok {K : PySem.W.Frag} {Hk H : Hp} {ρ : Env} {σ : L2.St} {w : Val} {v : V} {d : PyData} (re : RE K Hk H ρ σ) (rr : RR K Hk H ρ σ w v) (e : datOf w ρ = some d) : Dp K H v d := by
  have key : ∀ {ds}, lstOf w ρ = some ds → Dp K H v (.list ds) := fun {ds} h => by
    obtain ⟨p, vs, rfl, a, b⟩ := lstOf_ok re rr h
    exact .lst a (dpAll_ex re.sub b)
  cases w with
  | sh d' => cases e; exact dp_ex re.sub rr
  | ow ds => cases e; exact key rfl
  | rf i =>
    obtain ⟨ds, h1, h2⟩ := Option.map_eq_some_iff.mp (show (lstOf (.rf i) ρ).map PyData.list = some d from e)
    subst h2
    exact key h1
  | fx u => cases e
def vEqD (neg : Bool) : VS
  | [x, y], ρ => (datOf x ρ).bind fun d => (datOf y ρ).bind fun e => if SeqAt.shaped d = true ∧ SeqAt.shaped e = true then some (.sh (.bool (if neg then !PyData.eqv d e else PyData.eqv d e)), ρ) else none
  | _, _ => none
theorem vEqD_inv {neg : Bool} {ws : List Val} {ρ ρ' : Env} {w : Val} (h : vEqD neg ws ρ = some (w, ρ')) : ∃ x y d e, ws = [x, y] ∧ datOf x ρ = some d ∧ datOf y ρ = some e ∧ SeqAt.shaped d = true ∧ SeqAt.shaped e = true ∧ w = .sh (.bool (if neg then !PyData.eqv d e else PyData.eqv d e)) ∧ ρ' = ρ := by
  unfold vEqD at h
  split at h
  · rename_i x y
    cases hx : datOf x ρ with
    | none => rw [hx] at h; cases h
    | some d =>
      rw [hx] at h
      simp only [Option.bind_some] at h
      cases hy : datOf y ρ with
      | none => rw [hy] at h; cases h
      | some e =>
        rw [hy] at h
        simp only [Option.bind_some] at h
        split at h
        · rename_i c
          cases h
          exact ⟨x, y, d, e, rfl, hx, hy, c.1, c.2, rfl, rfl⟩
        · cases h
  · cases h
theorem ok_eqD {K : PySem.W.Frag} : OpOk K (r2L (rEqD K)) (vEqD false) := ok_pure fun H0 σ Hk H ρ ws vs w ρ' re rr eq => by
  obtain ⟨x, y, d, e, rfl, hx, hy, s1, s2, rfl, rfl⟩ := vEqD_inv eq
  obtain ⟨u, v, rfl, a, b⟩ := rrs2 rr
  exact ⟨_, _, rfl, rfl, .bl _, fun Q q => ⟨_, _, rfl, d, e, datOf_ok re a hx, datOf_ok re b hy, s1, s2, q⟩⟩
theorem ok_neD {K : PySem.W.Frag} : OpOk K (r2L (rNeD K)) (vEqD true) := ok_pure fun H0 σ Hk H ρ ws vs w ρ' re rr eq => by
  obtain ⟨x, y, d, e, rfl, hx, hy, s1, s2, rfl, rfl⟩ := vEqD_inv eq
  obtain ⟨u, v, rfl, a, b⟩ := rrs2 rr
  exact ⟨_, _, rfl, rfl, .bl _, fun Q q => ⟨_, _, rfl, d, e, datOf_ok re a hx, datOf_ok re b hy, s1, s2, q⟩⟩
section
variable {X : Cx} {a b : Expr} {f g : DE} {pos : Pos}
theorem de_eq (hu : X.A.units + 64 < cLine) (ha : DEj X a f) (hb : DEj X b g) : DEj X (.Compare a [.Eq] [b] pos) (sOp (vEqD false) (sCons f (sCons g sNil))) := de_cmp (op_eqD hu) ok_eqD ha hb (nomark _)
theorem de_ne (hu : X.A.units + 64 < cLine) (ha : DEj X a f) (hb : DEj X b g) : DEj X (.Compare a [.NotEq] [b] pos) (sOp (vEqD true) (sCons f (sCons g sNil))) := de_cmp (op_neD hu) ok_neD ha hb (nomark _)
end

/-! ### lists and tuples -/
theorem dpAll_at {K : PySem.W.Frag} {H : Hp} {ds : List PyData} {vs : List V} {i : Int} {d : PyData} (h : DpAll K H vs ds) (e : atI ds i = some d) : ∃ v, atI vs i = some v ∧ Dp K H v d := by
  unfold atI at e ⊢
  rw [dpAll_len h]
  cases q : ixN ds.length i with
  | none => rw [q] at e; cases e
  | some j =>
    rw [q] at e
    simp only [Option.bind_some] at e ⊢
    exact dpAll_get h e
/-- an item -/
def vIx : VS
  | [o, .sh (.int i)], ρ => match lstOf o ρ with
    | some ds => (atI ds i).map fun d => (.sh d, ρ)
    | none => match tupOf o with
      | some ds => (atI ds i).map fun d => (.sh d, ρ)
      | none => none
  | _, _ => none
def rIxLT (K : PySem.W.Frag) : R2 := fun x y H Q => rIxL K x y H Q ∨ rIxT K x y H Q
theorem ok_ix {K : PySem.W.Frag} : OpOk K (r2L (rIxLT K)) vIx := ok_pure fun H0 σ Hk H ρ ws vs w ρ' re rr eq => by
  unfold vIx at eq
  split at eq
  · rename_i o i
    obtain ⟨u, v, rfl, a, b⟩ := rrs2 rr
    cases rr_int b
    split at eq
    · rename_i ds hl
      obtain ⟨d, h1, h2⟩ := Option.map_eq_some_iff.mp eq
      cases h2
      obtain ⟨p, us, rfl, hs, hd⟩ := lstOf_ok re a hl
      obtain ⟨z, h3, h4⟩ := dpAll_at hd h1
      exact ⟨_, _, rfl, rfl, h4, fun Q q => ⟨_, _, rfl, .inl ⟨p, us, i, z, rfl, rfl, hs, h3, q⟩⟩⟩
    · split at eq
      · rename_i ds hl
        obtain ⟨d, h1, h2⟩ := Option.map_eq_some_iff.mp eq
        cases h2
        obtain ⟨p, us, rfl, hs, hd⟩ := tupOf_ok re a hl
        obtain ⟨z, h3, h4⟩ := dpAll_at hd h1
        exact ⟨_, _, rfl, rfl, h4, fun Q q => ⟨_, _, rfl, .inr ⟨p, us, i, z, rfl, rfl, hs, h3, q⟩⟩⟩
      · cases eq
  · cases eq
theorem de_sub_ {X : Cx} {a b : Expr} {f g : DE} {pos : Pos} (ha : DEj X a f) (hb : DEj X b g) (hs : PlainIx b := by intro _ _; rfl) : DEj X (.Subscript a b pos) (sOp vIx (sCons f (sCons g sNil))) :=
  de_ix (ix_list.or ix_tup) ok_ix ha hb hs
/-- all data -/
def allSh : List Val → Option (List PyData)
  | [] => some []
  | .sh d :: r => (allSh r).map (d :: ·)
  | _ :: _ => none
theorem allSh_ok {K : PySem.W.Frag} {H0 Hk H : Hp} {ρ : Env} {σ : L2.St} : ∀ {ws : List Val} {vs : List V} {ds : List PyData}, RRs K H0 Hk H ρ σ ws vs → allSh ws = some ds → DpAll K Hk vs ds
  | [], _, _, h, e => by cases h; cases e; exact .nil
  | .sh d :: r, _, ds, h, e => by
    cases h with
    | cons a _ _ t =>
      obtain ⟨es, h1, h2⟩ := Option.map_eq_some_iff.mp (show (allSh r).map (d :: ·) = some ds from e)
      subst h2
      exact .cons a (allSh_ok t h1)
  | .ow _ :: _, _, _, _, e => by cases e
  | .rf _ :: _, _, _, _, e => by cases e
  | .fx _ :: _, _, _, _, e => by cases e
def vTup : VS := fun ws ρ => (allSh ws).bind fun ds => if ds.length ≤ 100000 then some (.sh (.tuple ds), ρ) else none
def vLst : VS := fun ws ρ => (allSh ws).bind fun ds => if ds.length ≤ 100000 then some (.ow ds, ρ) else none
theorem vTup_inv {ws : List Val} {ρ ρ' : Env} {w : Val} (h : vTup ws ρ = some (w, ρ')) : ∃ ds, allSh ws = some ds ∧ ds.length ≤ 100000 ∧ w = .sh (.tuple ds) ∧ ρ' = ρ := by
  unfold vTup at h
  cases e : allSh ws with
  | none => rw [e] at h; cases h
  | some ds =>
    rw [e] at h
    simp only [Option.bind_some] at h
    split at h
    · cases h; exact ⟨ds, rfl, by assumption, rfl, rfl⟩
    · cases h
theorem vLst_inv {ws : List Val} {ρ ρ' : Env} {w : Val} (h : vLst ws ρ = some (w, ρ')) : ∃ ds, allSh ws = some ds ∧ ds.length ≤ 100000 ∧ w = .ow ds ∧ ρ' = ρ := by
  unfold vLst at h
  cases e : allSh ws with
  | none => rw [e] at h; cases h
  | some ds =>
    rw [e] at h
    simp only [Option.bind_some] at h
    split at h
    · cases h; exact ⟨ds, rfl, by assumption, rfl, rfl⟩
    · cases h
section
variable {X : Cx} {es : List Expr} {fa : DA} {pos : Pos}
theorem de_tuple {k : Nat} (ha : DAj X es fa) : DEj X (.Tuple es k pos) (sOp vTup fa) := de_tup rfl (ok_newT fun H0 σ Hk H ρ ws vs w ρ' re rr eq => by
  obtain ⟨ds, h1, h2, rfl, rfl⟩ := vTup_inv eq
  have hd := allSh_ok rr h1
  exact ⟨ds, vs, rfl, rfl, hd, fun Q q => ⟨sz_of (by rw [dpAll_len hd]; exact h2), q⟩⟩) ha
theorem de_list (ha : DAj X es fa) : DEj X (.List es pos) (sOp vLst fa) := de_lst rfl (ok_new fun H0 σ Hk H ρ ws vs w ρ' re rr eq => by
  obtain ⟨ds, h1, h2, rfl, rfl⟩ := vLst_inv eq
  have hd := allSh_ok rr h1
  exact ⟨ds, vs, rfl, rfl, hd, fun Q q => ⟨sz_of (by rw [dpAll_len hd]; exact h2), q⟩⟩) ha
end
end DL
end

section
set_option Elab.async false
set_option linter.all false
set_option maxRecDepth 100000
set_option maxHeartbeats 4000000
namespace DL
open PySem PySem.Spec PyProof.Rows L2 Evl

/-! ### + and * of lists -/
def rCatQ (K : PySem.W.Frag) : R2 := fun x y H Q => ∃ l b xs zs, x = .ref l ∧ y = .ref b ∧ SqL K H l xs ∧ SqL K H b zs ∧ xs.length + zs.length ≤ sizeLine ∧ ∀ p, H p = none → Q (.ref p) (upd H p (.lst (xs ++ zs)))
theorem op_catQ {X : Cx} : OpR X (binaryOp .Add) (rCatQ X.K) := by
  intro pins s σ H x y v u Q I rx ry h
  obtain ⟨l, b, xs, zs, rfl, rfl, hL, hB, hz, q⟩ := h
  cases rx
  cases ry
  obtain ⟨its, r, pl, z1⟩ := I.list hL
  obtain ⟨its2, r2, pl2, z2⟩ := I.list hB
  have n1 := r.length
  have n2 := r2.length
  obtain ⟨⟨c1, d1, dat1, sl1⟩, ho, hc, m1, hd⟩ := pl.isList
  obtain ⟨⟨c2, d2, dat2, sl2⟩, ho2, hc2, m2, hd2⟩ := pl2.isList
  simp only at hc hd hc2 hd2
  subst hc hd hc2 hd2
  refine concat_meets ⟨_, ho, rfl⟩ ⟨_, ho2, rfl⟩ noFill_list_add seq_list_add PySem.F.slot_list_add PySem.F.entry_list_add (PySem.F.args_list_add_2 _ _) (list_addW l b its.toArray its2.toArray m1 m2 d1 d2 sl1 sl2 (by rw [List.size_toArray, List.size_toArray]; omega)) ⟨ho, ho2, ?_⟩
  rw [show its.toArray ++ its2.toArray = (its ++ its2).toArray by simp]
  exact ⟨.ref _, _, I.lnew (t' := s.toks) (r.append r2) (by rw [List.length_append]; omega), rfl, q _ I.fresh⟩
/-- a list times an int: the list made on the spot or one's own -/
def ownOf : Val → Env → Option (List PyData)
  | .ow ds, _ => some ds
  | .rf i, ρ => match ρ[i]? with
    | some (some (.ow ds)) => some ds
    | _ => none
  | _, _ => none
theorem ownOf_ok {K : PySem.W.Frag} {Hk H : Hp} {ρ : Env} {σ : L2.St} {w : Val} {v : V} {ds : List PyData} (re : RE K Hk H ρ σ) (rr : RR K Hk H ρ σ w v) (e : ownOf w ρ = some ds) :
    ∃ p vs, v = .ref p ∧ H p = some (.lst vs) ∧ DpAll K Hk vs ds ∧ Hk p = none := by
  cases w with
  | sh d => cases e
  | ow es =>
    cases e
    obtain ⟨p, vs, e, hp, hd, hk, _⟩ := rr
    exact ⟨p, vs, e, hp, hd, hk⟩
  | rf i =>
    have rr' : σ[i]? = some (some v) := rr
    simp only [ownOf] at e
    split at e
    · rename_i es hi
      cases e
      obtain ⟨u, h1, p, vs, e, hp, hd, hk⟩ := re.slot i _ hi
      rw [h1] at rr'; cases rr'
      exact ⟨p, vs, e, hp, hd, hk⟩
    · cases e
  | fx u => cases e
def vCat : VS
  | [x, y], ρ => (lstOf x ρ).bind fun ds => (lstOf y ρ).bind fun es => if ds.length + es.length ≤ 16000000 then some (.ow (ds ++ es), ρ) else none
  | _, _ => none
def vRep : VS
  | [x, .sh (.int k)], ρ => (ownOf x ρ).bind fun ds => if k < 16000000 ∧ -16000000 < k ∧ ds.length * k.toNat ≤ 16000000 then some (.ow (List.replicate k.toNat ds).flatten, ρ) else none
  | _, _ => none
theorem sz16 {n : Nat} (h : n ≤ 16000000) : n ≤ sizeLine := Nat.le_trans h (by decide)
theorem ok_cat {K : PySem.W.Frag} : OpOk K (r2L (rCatQ K)) vCat := ok_new fun H0 σ Hk H ρ ws vs w ρ' re rr eq => by
  unfold vCat at eq
  split at eq
  · rename_i x y
    obtain ⟨u, v, rfl, a, b⟩ := rrs2 rr
    cases hx : lstOf x ρ with
    | none => rw [hx] at eq; cases eq
    | some ds =>
      rw [hx] at eq
      simp only [Option.bind_some] at eq
      cases hy : lstOf y ρ with
      | none => rw [hy] at eq; cases eq
      | some es =>
        rw [hy] at eq
        simp only [Option.bind_some] at eq
        split at eq
        · rename_i hz
          cases eq
          obtain ⟨p, us, rfl, s1, d1⟩ := lstOf_ok re a hx
          obtain ⟨q, us2, rfl, s2, d2⟩ := lstOf_ok re b hy
          exact ⟨_, _, rfl, rfl, dpAll_app d1 d2, fun Q k => ⟨_, _, rfl, p, q, us, us2, rfl, rfl, s1, s2, by rw [dpAll_len d1, dpAll_len d2]; exact sz16 hz, k⟩⟩
        · cases eq
  · cases eq
theorem ok_rep {K : PySem.W.Frag} : OpOk K (r2L rRep) vRep := ok_new fun H0 σ Hk H ρ ws vs w ρ' re rr eq => by
  unfold vRep at eq
  split at eq
  · rename_i x k
    obtain ⟨u, v, rfl, a, b⟩ := rrs2 rr
    cases rr_int b
    cases hx : ownOf x ρ with
    | none => rw [hx] at eq; cases eq
    | some ds =>
      rw [hx] at eq
      simp only [Option.bind_some] at eq
      split at eq
      · rename_i hz
        cases eq
        obtain ⟨p, us, rfl, s1, d1, _⟩ := ownOf_ok re a hx
        exact ⟨_, _, rfl, rfl, dpAll_rep d1 _, fun Q q => ⟨_, _, rfl, p, k, us, rfl, rfl, s1, by omega, by omega, by rw [dpAll_len d1]; exact sz16 hz.2.2, q⟩⟩
      · cases eq
  · cases eq
section
variable {X : Cx} {a b : Expr} {f g : DE} {fa : DA} {pos : Pos}
theorem de_cat (ha : DEj X a f) (hb : DEj X b g) : DEj X (.BinOp a .Add b pos) (sOp vCat (sCons f (sCons g sNil))) := de_bin op_catQ ok_cat ha hb
theorem de_rep (ha : DEj X a f) (hb : DEj X b g) : DEj X (.BinOp a .Mult b pos) (sOp vRep (sCons f (sCons g sNil))) := de_bin op_rep ok_rep ha hb
end

/-! ### len, list, tuple, sum, any, all, int, abs, min, max -/
def vLen : VS
  | [x], ρ => match lstOf x ρ with
    | some ds => some (.sh (.int ds.length), ρ)
    | none => (tupOf x).map fun ds => (.sh (.int ds.length), ρ)
  | _, _ => none
def vList : VS
  | [x], ρ => match lstOf x ρ with
    | some ds => some (.ow ds, ρ)
    | none => (tupOf x).map fun ds => (.ow ds, ρ)
  | _, _ => none
def vTuple : VS
  | [x], ρ => match lstOf x ρ with
    | some ds => some (.sh (.tuple ds), ρ)
    | none => none
  | _, _ => none
def intsOf : List PyData → Option (List Int)
  | [] => some []
  | .int i :: r => (intsOf r).map (i :: ·)
  | _ :: _ => none
theorem intsOf_eq : ∀ {ds : List PyData} {ns : List Int}, intsOf ds = some ns → ds = ns.map .int
  | [], _, h => by cases h; rfl
  | .int i :: r, ns, h => by
    obtain ⟨ms, h1, h2⟩ := Option.map_eq_some_iff.mp (show (intsOf r).map (i :: ·) = some ns from h)
    subst h2
    rw [intsOf_eq h1]; rfl
  | .none :: _, _, h => by cases h
  | .bool _ :: _, _, h => by cases h
  | .str _ :: _, _, h => by cases h
  | .list _ :: _, _, h => by cases h
  | .tuple _ :: _, _, h => by cases h
  | .dict _ :: _, _, h => by cases h
theorem intsOf_map : ∀ ns : List Int, intsOf (ns.map .int) = some ns
  | [] => rfl
  | i :: r => by
    show (intsOf (r.map .int)).map (i :: ·) = _
    rw [intsOf_map r]; rfl
def boolsOf : List PyData → Option (List Bool)
  | [] => some []
  | .bool i :: r => (boolsOf r).map (i :: ·)
  | _ :: _ => none
theorem boolsOf_eq : ∀ {ds : List PyData} {ns : List Bool}, boolsOf ds = some ns → ds = ns.map .bool
  | [], _, h => by cases h; rfl
  | .bool i :: r, ns, h => by
    obtain ⟨ms, h1, h2⟩ := Option.map_eq_some_iff.mp (show (boolsOf r).map (i :: ·) = some ns from h)
    subst h2
    rw [boolsOf_eq h1]; rfl
  | .none :: _, _, h => by cases h
  | .int _ :: _, _, h => by cases h
  | .str _ :: _, _, h => by cases h
  | .list _ :: _, _, h => by cases h
  | .tuple _ :: _, _, h => by cases h
  | .dict _ :: _, _, h => by cases h
theorem boolsOf_map : ∀ ns : List Bool, boolsOf (ns.map .bool) = some ns
  | [] => rfl
  | i :: r => by
    show (boolsOf (r.map .bool)).map (i :: ·) = _
    rw [boolsOf_map r]; rfl
def vSum : VS
  | [x], ρ => (lstOf x ρ).bind fun ds => (intsOf ds).map fun ns => (.sh (.int ns.sum), ρ)
  | _, _ => none
def vAny : VS
  | [x], ρ => (lstOf x ρ).bind fun ds => (boolsOf ds).map fun bs => (.sh (.bool (bs.any id)), ρ)
  | _, _ => none
def vAll : VS
  | [x], ρ => (lstOf x ρ).bind fun ds => (boolsOf ds).map fun bs => (.sh (.bool (bs.all id)), ρ)
  | _, _ => none
def vInt : VS
  | [.sh (.int i)], ρ => some (.sh (.int i), ρ)
  | [.sh (.bool b)], ρ => some (.sh (.int (if b then 1 else 0)), ρ)
  | _, _ => none
def vBool : VS
  | [.sh (.int i)], ρ => some (.sh (.bool (i != 0)), ρ)
  | [.sh (.bool b)], ρ => some (.sh (.bool b), ρ)
  | _, _ => none
def vAbs : VS := vI1 fun i => .int (if i < 0 then -i else i)
def vMax : VS := vI2 (fun _ _ => True) fun i j => .int (if j > i then j else i)
def vMin : VS := vI2 (fun _ _ => True) fun i j => .int (if j < i then j else i)
def rLenQ (K : PySem.W.Frag) : List V → Hp → VK → Prop := fun xs H Q => ∃ p ys, xs = [.ref p] ∧ (SqL K H p ys ∨ SqT K H p ys) ∧ Q (.int ys.length) H
theorem ok_len {K : PySem.W.Frag} : OpOk K (rLenQ K) vLen := ok_pure fun H0 σ Hk H ρ ws vs w ρ' re rr eq => by
  unfold vLen at eq
  split at eq
  · rename_i x
    obtain ⟨u, rfl, a⟩ := rrs1 rr
    split at eq
    · rename_i ds hl
      cases eq
      obtain ⟨p, us, rfl, hs, hd⟩ := lstOf_ok re a hl
      exact ⟨_, .int us.length, rfl, rfl, by rw [dpAll_len hd]; exact .int _, fun Q q => ⟨p, us, rfl, .inl hs, q⟩⟩
    · obtain ⟨ds, hl, e⟩ := Option.map_eq_some_iff.mp eq
      cases e
      obtain ⟨p, us, rfl, hs, hd⟩ := tupOf_ok re a hl
      exact ⟨_, .int us.length, rfl, rfl, by rw [dpAll_len hd]; exact .int _, fun Q q => ⟨p, us, rfl, .inr hs, q⟩⟩
  · cases eq
def rListQ (K : PySem.W.Frag) : List V → Hp → VK → Prop := fun xs H Q => ∃ p ys, xs = [.ref p] ∧ (SqL K H p ys ∨ SqT K H p ys) ∧ ∀ l, H l = none → Q (.ref l) (upd H l (.lst ys))
theorem ok_list {K : PySem.W.Frag} : OpOk K (rListQ K) vList := ok_new fun H0 σ Hk H ρ ws vs w ρ' re rr eq => by
  unfold vList at eq
  split at eq
  · rename_i x
    obtain ⟨u, rfl, a⟩ := rrs1 rr
    split at eq
    · rename_i ds hl
      cases eq
      obtain ⟨p, us, rfl, hs, hd⟩ := lstOf_ok re a hl
      exact ⟨ds, us, rfl, rfl, hd, fun Q q => ⟨p, us, rfl, .inl hs, q⟩⟩
    · obtain ⟨ds, hl, e⟩ := Option.map_eq_some_iff.mp eq
      cases e
      obtain ⟨p, us, rfl, hs, hd⟩ := tupOf_ok re a hl
      exact ⟨ds, us, rfl, rfl, hd, fun Q q => ⟨p, us, rfl, .inr hs, q⟩⟩
  · cases eq
def rTupleQ (K : PySem.W.Frag) : List V → Hp → VK → Prop := fun xs H Q => ∃ p ys, xs = [.ref p] ∧ ((SqL K H p ys ∧ ∀ l, H l = none → Q (.ref l) (upd H l (.tup ys))) ∨ (SqT K H p ys ∧ Q (.ref p) H))
theorem ok_tuple {K : PySem.W.Frag} : OpOk K (rTupleQ K) vTuple := ok_newT fun H0 σ Hk H ρ ws vs w ρ' re rr eq => by
  unfold vTuple at eq
  split at eq
  · rename_i x
    obtain ⟨u, rfl, a⟩ := rrs1 rr
    split at eq
    · rename_i ds hl
      cases eq
      obtain ⟨p, us, rfl, hs, hd⟩ := lstOf_ok re a hl
      exact ⟨ds, us, rfl, rfl, hd, fun Q q => ⟨p, us, rfl, .inl ⟨hs, q⟩⟩⟩
    · cases eq
  · cases eq
theorem ok_sum {K : PySem.W.Frag} : OpOk K (rSum K) vSum := ok_pure fun H0 σ Hk H ρ ws vs w ρ' re rr eq => by
  unfold vSum at eq
  split at eq
  · rename_i x
    obtain ⟨u, rfl, a⟩ := rrs1 rr
    cases hx : lstOf x ρ with
    | none => rw [hx] at eq; cases eq
    | some ds =>
      rw [hx] at eq
      obtain ⟨ns, h1, e⟩ := Option.map_eq_some_iff.mp (show (intsOf ds).map _ = some _ from eq)
      cases e
      obtain ⟨p, us, rfl, hs, hd⟩ := lstOf_ok re a hx
      have := intsOf_eq h1
      subst this
      have := dpAll_ints hd
      subst this
      exact ⟨_, _, rfl, rfl, .int _, fun Q q => ⟨p, ns, rfl, hs, q⟩⟩
  · cases eq
theorem ok_any {K : PySem.W.Frag} : OpOk K (rAny K) vAny := ok_pure fun H0 σ Hk H ρ ws vs w ρ' re rr eq => by
  unfold vAny at eq
  split at eq
  · rename_i x
    obtain ⟨u, rfl, a⟩ := rrs1 rr
    cases hx : lstOf x ρ with
    | none => rw [hx] at eq; cases eq
    | some ds =>
      rw [hx] at eq
      obtain ⟨ns, h1, e⟩ := Option.map_eq_some_iff.mp (show (boolsOf ds).map _ = some _ from eq)
      cases e
      obtain ⟨p, us, rfl, hs, hd⟩ := lstOf_ok re a hx
      have := boolsOf_eq h1
      subst this
      have := dpAll_bools hd
      subst this
      exact ⟨_, _, rfl, rfl, .bl _, fun Q q => ⟨p, ns, rfl, hs, q⟩⟩
  · cases eq
theorem ok_all {K : PySem.W.Frag} : OpOk K (rAll K) vAll := ok_pure fun H0 σ Hk H ρ ws vs w ρ' re rr eq => by
  unfold vAll at eq
  split at eq
  · rename_i x
    obtain ⟨u, rfl, a⟩ := rrs1 rr
    cases hx : lstOf x ρ with
    | none => rw [hx] at eq; cases eq
    | some ds =>
      rw [hx] at eq
      obtain ⟨ns, h1, e⟩ := Option.map_eq_some_iff.mp (show (boolsOf ds).map _ = some _ from eq)
      cases e
      obtain ⟨p, us, rfl, hs, hd⟩ := lstOf_ok re a hx
      have := boolsOf_eq h1
      subst this
      have := dpAll_bools hd
      subst this
      exact ⟨_, _, rfl, rfl, .bl _, fun Q q => ⟨p, ns, rfl, hs, q⟩⟩
  · cases eq
def rIntQ : List V → Hp → VK → Prop := fun xs H Q => (∃ i, xs = [.int i] ∧ Q (.int i) H) ∨ ∃ k, xs = [.bl k] ∧ Q (.int (if k then 1 else 0)) H
theorem ok_int {K : PySem.W.Frag} : OpOk K rIntQ vInt := ok_pure fun H0 σ Hk H ρ ws vs w ρ' re rr eq => by
  unfold vInt at eq
  split at eq
  · rename_i i
    cases eq
    obtain ⟨u, rfl, a⟩ := rrs1 rr
    cases rr_int a
    exact ⟨_, _, rfl, rfl, .int _, fun Q q => .inl ⟨i, rfl, q⟩⟩
  · rename_i b
    cases eq
    obtain ⟨u, rfl, a⟩ := rrs1 rr
    cases rr_bool a
    exact ⟨_, _, rfl, rfl, .int _, fun Q q => .inr ⟨b, rfl, q⟩⟩
  · cases eq
def rBoolQ : List V → Hp → VK → Prop := fun xs H Q => (∃ i, xs = [.int i] ∧ Q (.bl (i != 0)) H) ∨ ∃ k, xs = [.bl k] ∧ Q (.bl k) H
theorem ok_bool {K : PySem.W.Frag} : OpOk K rBoolQ vBool := ok_pure fun H0 σ Hk H ρ ws vs w ρ' re rr eq => by
  unfold vBool at eq
  split at eq
  · rename_i i
    cases eq
    obtain ⟨u, rfl, a⟩ := rrs1 rr
    cases rr_int a
    exact ⟨_, _, rfl, rfl, .bl _, fun Q q => .inl ⟨i, rfl, q⟩⟩
  · rename_i b
    cases eq
    obtain ⟨u, rfl, a⟩ := rrs1 rr
    cases rr_bool a
    exact ⟨_, _, rfl, rfl, .bl _, fun Q q => .inr ⟨b, rfl, q⟩⟩
  · cases eq
theorem ok_i1L {K : PySem.W.Frag} {g : Int → V} {h : Int → PyData} (e : ∀ H i, Dp K H (g i) (h i)) : OpOk K (fun xs H Q => ∃ i, xs = [.int i] ∧ Q (g i) H) (vI1 h) := ok_pure fun H0 σ Hk H ρ ws vs w ρ' re rr eq => by
  unfold vI1 at eq
  split at eq
  · rename_i i
    cases eq
    obtain ⟨u, rfl, a⟩ := rrs1 rr
    cases rr_int a
    exact ⟨_, _, rfl, rfl, e Hk i, fun Q q => ⟨i, rfl, q⟩⟩
  · cases eq
theorem ok_i2L {K : PySem.W.Frag} {g : Int → Int → V} {h : Int → Int → PyData} (e : ∀ H i j, Dp K H (g i j) (h i j)) : OpOk K (fun xs H Q => ∃ i j, xs = [.int i, .int j] ∧ Q (g i j) H) (vI2 (fun _ _ => True) h) := ok_pure fun H0 σ Hk H ρ ws vs w ρ' re rr eq => by
  unfold vI2 at eq
  split at eq
  · rename_i i j
    rw [if_pos trivial] at eq
    cases eq
    obtain ⟨u, v, rfl, a, b⟩ := rrs2 rr
    cases rr_int a
    cases rr_int b
    exact ⟨_, _, rfl, rfl, e Hk i j, fun Q q => ⟨i, j, rfl, q⟩⟩
  · cases eq
/-- isinstance(x, T), T a built-in class -/
def tyD : PyData → String
  | .none => "NoneType"
  | .bool _ => "bool"
  | .int _ => "int"
  | .str _ => "str"
  | .list _ => "list"
  | .tuple _ => "tuple"
  | .dict _ => "dict"
def vIsi : VS
  | [x, .fx (.ty c)], ρ => (datOf x ρ).bind fun d => (kitB (tyD d) c).map fun b => (.sh (.bool b), ρ)
  | _, _ => none
theorem tyx_of {K : PySem.W.Frag} {H : Hp} {v : V} {d : PyData} (h : Dp K H v d) : TyX K H v (.type (tyD d)) := by
  cases h with
  | non => exact .base .non
  | bl b => exact .base (.bl b)
  | int i => exact .base (.int i)
  | str x => exact .base (.str x)
  | lst a _ =>
    rcases a with (a | ⟨o, a⟩) | ⟨o, its, n, hk, hc, _⟩
    · exact .base (.lst a)
    · exact .base (.frz a)
    · exact .kList hk hc
  | tup a _ =>
    rcases a with (a | ⟨o, a⟩) | ⟨o, its, n, hk, hc, _⟩
    · exact .base (.tup a)
    · exact .fTuple a
    · exact .kTuple hk hc
theorem ok_isi {K : PySem.W.Frag} : OpOk K (rIsi K) vIsi := ok_pure fun H0 σ Hk H ρ ws vs w ρ' re rr eq => by
  unfold vIsi at eq
  split at eq
  · rename_i x c
    obtain ⟨u, v, rfl, a, b⟩ := rrs2 rr
    have b' : v = .ty c := b
    subst b'
    cases hx : datOf x ρ with
    | none => rw [hx] at eq; cases eq
    | some d =>
      rw [hx] at eq
      obtain ⟨k, h1, e⟩ := Option.map_eq_some_iff.mp (show (kitB (tyD d) c).map _ = some _ from eq)
      cases e
      exact ⟨_, _, rfl, rfl, .bl _, fun Q q => ⟨u, .ty c, .type (tyD d), .type c, k, rfl, .ty c, tyx_of (datOf_ok re a hx), kit_ty h1, q⟩⟩
  · cases eq
section
variable {X : Cx} {e : Expr} {es : List Expr} {fa : DA} {p pos : Pos}
theorem de_len (hg : Gl X "len") (hm : X.mg "len" = none) (ha : DAj X (e :: es) fa)
    (he : starEach (e :: es) X.env = (false, eval e X.env) :: starEach es X.env := by rfl) (hpl : (backTo pos (starEach es X.env)).any (·.1) = false := by rfl) : DEj X (.Call (.Name "len" p) (e :: es) [] pos) (sOp vLen fa) :=
  de_callB call_len_seq ok_len hg hm boot_len ha (by decide) (by decide) he hpl
theorem de_sum (hc : X.calm = true) (hg : Gl X "sum") (hm : X.mg "sum" = none) (ha : DAj X (e :: es) fa)
    (he : starEach (e :: es) X.env = (false, eval e X.env) :: starEach es X.env := by rfl) (hpl : (backTo pos (starEach es X.env)).any (·.1) = false := by rfl) : DEj X (.Call (.Name "sum" p) (e :: es) [] pos) (sOp vSum fa) :=
  de_callB (cr_sum hc) ok_sum hg hm (by decide +kernel) ha (by decide) (by decide) he hpl
theorem de_any (hc : X.calm = true) (hg : Gl X "any") (hm : X.mg "any" = none) (ha : DAj X (e :: es) fa)
    (he : starEach (e :: es) X.env = (false, eval e X.env) :: starEach es X.env := by rfl) (hpl : (backTo pos (starEach es X.env)).any (·.1) = false := by rfl) : DEj X (.Call (.Name "any" p) (e :: es) [] pos) (sOp vAny fa) :=
  de_callB (cr_any hc) ok_any hg hm (by decide +kernel) ha (by decide) (by decide) he hpl
theorem de_all (hc : X.calm = true) (hg : Gl X "all") (hm : X.mg "all" = none) (ha : DAj X (e :: es) fa)
    (he : starEach (e :: es) X.env = (false, eval e X.env) :: starEach es X.env := by rfl) (hpl : (backTo pos (starEach es X.env)).any (·.1) = false := by rfl) : DEj X (.Call (.Name "all" p) (e :: es) [] pos) (sOp vAll fa) :=
  de_callB (cr_all hc) ok_all hg hm (by decide +kernel) ha (by decide) (by decide) he hpl
theorem de_abs (hg : Gl X "abs") (hm : X.mg "abs" = none) (ha : DAj X (e :: es) fa)
    (he : starEach (e :: es) X.env = (false, eval e X.env) :: starEach es X.env := by rfl) (hpl : (backTo pos (starEach es X.env)).any (·.1) = false := by rfl) : DEj X (.Call (.Name "abs" p) (e :: es) [] pos) (sOp vAbs fa) :=
  de_callB call_abs (ok_i1L fun _ _ => .int _) hg hm (by decide +kernel) ha (by decide) (by decide) he hpl
theorem de_max (hc : X.calm = true) (hg : Gl X "max") (hm : X.mg "max" = none) (ha : DAj X (e :: es) fa)
    (he : starEach (e :: es) X.env = (false, eval e X.env) :: starEach es X.env := by rfl) (hpl : (backTo pos (starEach es X.env)).any (·.1) = false := by rfl) : DEj X (.Call (.Name "max" p) (e :: es) [] pos) (sOp vMax fa) :=
  de_callB (call_max2 hc) (ok_i2L fun _ _ _ => .int _) hg hm (by decide +kernel) ha (by decide) (by decide) he hpl
theorem de_min (hc : X.calm = true) (hg : Gl X "min") (hm : X.mg "min" = none) (ha : DAj X (e :: es) fa)
    (he : starEach (e :: es) X.env = (false, eval e X.env) :: starEach es X.env := by rfl) (hpl : (backTo pos (starEach es X.env)).any (·.1) = false := by rfl) : DEj X (.Call (.Name "min" p) (e :: es) [] pos) (sOp vMin fa) :=
  de_callB (call_min2 hc) (ok_i2L fun _ _ _ => .int _) hg hm (by decide +kernel) ha (by decide) (by decide) he hpl
theorem de_toList (hg : Gl X "list") (hm : X.mg "list" = none) (ha : DAj X (e :: es) fa)
    (he : starEach (e :: es) X.env = (false, eval e X.env) :: starEach es X.env := by rfl) (hpl : (backTo pos (starEach es X.env)).any (·.1) = false := by rfl) : DEj X (.Call (.Name "list" p) (e :: es) [] pos) (sOp vList fa) :=
  de_callTy call_list_of ok_list hg hm (by decide +kernel) ha (by decide) (by decide) he hpl
theorem de_toTuple (hg : Gl X "tuple") (hm : X.mg "tuple" = none) (ha : DAj X (e :: es) fa)
    (he : starEach (e :: es) X.env = (false, eval e X.env) :: starEach es X.env := by rfl) (hpl : (backTo pos (starEach es X.env)).any (·.1) = false := by rfl) : DEj X (.Call (.Name "tuple" p) (e :: es) [] pos) (sOp vTuple fa) :=
  de_callTy call_tuple_of ok_tuple hg hm (by decide +kernel) ha (by decide) (by decide) he hpl
theorem de_toInt (hg : Gl X "int") (hm : X.mg "int" = none) (ha : DAj X (e :: es) fa)
    (he : starEach (e :: es) X.env = (false, eval e X.env) :: starEach es X.env := by rfl) (hpl : (backTo pos (starEach es X.env)).any (·.1) = false := by rfl) : DEj X (.Call (.Name "int" p) (e :: es) [] pos) (sOp vInt fa) :=
  de_callTy call_int1 ok_int hg hm (by decide +kernel) ha (by decide) (by decide) he hpl
theorem de_toBool (hg : Gl X "bool") (hm : X.mg "bool" = none) (ha : DAj X (e :: es) fa)
    (he : starEach (e :: es) X.env = (false, eval e X.env) :: starEach es X.env := by rfl) (hpl : (backTo pos (starEach es X.env)).any (·.1) = false := by rfl) : DEj X (.Call (.Name "bool" p) (e :: es) [] pos) (sOp vBool fa) :=
  de_callTy call_bool1 ok_bool hg hm (by decide +kernel) ha (by decide) (by decide) he hpl
theorem de_isi (hg : Gl X "isinstance") (hm : X.mg "isinstance" = none) (ha : DAj X (e :: es) fa)
    (he : starEach (e :: es) X.env = (false, eval e X.env) :: starEach es X.env := by rfl) (hpl : (backTo pos (starEach es X.env)).any (·.1) = false := by rfl) : DEj X (.Call (.Name "isinstance" p) (e :: es) [] pos) (sOp vIsi fa) :=
  de_callB call_isi ok_isi hg hm (by decide +kernel) ha (by decide) (by decide) he hpl
theorem de_ty {x T : String} (hg : Gl X (Str.ofString x)) (hm : X.mg (Str.ofString x) = none) (hv : bootBuiltins (Str.ofString x) = some (.type T)) (hn : Str.ofString x ≠ "__name__" := by decide) (hd : (Str.ofString x == ("__debug__" : Str)) = false := by decide) : DEj X (.Name (Str.ofString x) p) (sFx (.ty T)) :=
  de_fx (pe_bltn hg hm hv rfl hn hd)
end

/-! ### slices -/
def vRev : VS
  | [x], ρ => (lstOf x ρ).map fun ds => (.ow ds.reverse, ρ)
  | _, _ => none
theorem de_rev {X : Cx} {e : Expr} {f : DE} {k : Nat} {p1 p2 p3 pos : Pos} (he : DEj X e f) : DEj X (.Subscript e (.Slice none none (some (.UnaryOp .USub (.Constant (.int 1) k p1) p2)) p3) pos) (sOp vRev (sCons f sNil)) := by
  refine pe_weak (pe_revL he) fun σ H Q h => ?_
  have ok : OpOk X.K (r1L fun x H1 Q => ∃ a xs, x = .ref a ∧ SqL X.K H1 a xs ∧ ∀ p, H1 p = none → Q (.ref p) (upd H1 p (.lst xs.reverse))) vRev := ok_new fun H0 σ Hk H ρ ws vs w ρ' re rr eq => by
    unfold vRev at eq
    split at eq
    · rename_i x
      obtain ⟨u, rfl, a⟩ := rrs1 rr
      obtain ⟨ds, hl, e⟩ := Option.map_eq_some_iff.mp eq
      cases e
      obtain ⟨p, us, rfl, hs, hd⟩ := lstOf_ok re a hl
      exact ⟨_, _, rfl, rfl, dpAll_rev hd, fun Q q => ⟨_, rfl, p, us, rfl, hs, q⟩⟩
    · cases eq
  exact t1_of (tD_op ok h)
/-- a slice's part -/
def DOj (X : Cx) (e : Option Expr) (f : Env → Option (Option Int × Env)) : Prop := PO X e fun σ H Q => ∃ Hk ρ o ρ', RE X.K Hk H ρ σ ∧ f ρ = some (o, ρ') ∧
  ∀ Hk' H', RE X.K Hk' H' ρ' σ → Stp (OwnAt ρ σ) Hk H Hk' H' → (∀ a, OwnAt ρ' σ a → OwnAt ρ σ a) → Q o H'
def sNoP : Env → Option (Option Int × Env) := fun ρ => some (none, ρ)
def sPart (f : DE) : Env → Option (Option Int × Env) := fun ρ => match f ρ with
  | some (.sh (.int i), ρ') => some (some i, ρ')
  | _ => none
theorem po_weak {X : Cx} {e : Option Expr} {t t' : TO} (h : PO X e t) (w : ∀ σ H Q, t' σ H Q → t σ H Q) : PO X e t' := ⟨fun pins s σ H Q I q => h.run pins s σ H Q I (w σ H Q q)⟩
theorem do_none {X : Cx} : DOj X none sNoP := po_weak po_none fun σ H Q h => by
  obtain ⟨Hk, ρ, o, ρ', re, e, q⟩ := h
  cases e
  exact q Hk H re Stp.refl fun _ h => h
theorem do_some {X : Cx} {e : Expr} {f : DE} (he : DEj X e f) : DOj X (some e) (sPart f) := po_weak (po_some he) fun σ H Q h => by
  obtain ⟨Hk, ρ, o, ρ', re, e, q⟩ := h
  unfold sPart at e
  split at e
  · rename_i i ρ1 hf
    cases e
    refine ⟨Hk, ρ, _, _, re, hf, fun Hk' H' v re' st' o' r' f' => ⟨i, rr_int r', q Hk' H' re' st' o'⟩⟩
  · cases e
def cutD (ds : List PyData) (lo hi : Option Int) : List PyData := (ds.drop (HT.sIx ds.length 0 lo)).take (HT.sIx ds.length ds.length hi - HT.sIx ds.length 0 lo)
theorem dpAll_cut {K : PySem.W.Frag} {H : Hp} {ds : List PyData} {vs : List V} {lo hi : Option Int} (h : DpAll K H vs ds) : DpAll K H (cutV vs lo hi) (cutD ds lo hi) := by
  unfold cutV cutD
  rw [dpAll_len h]
  exact dpAll_take _ (dpAll_drop _ h)
/-- xs[a:b] of a list -/
def sSlice (f : DE) (l h : Env → Option (Option Int × Env)) : DE := fun ρ => (f ρ).bind fun p => (l p.2).bind fun a => (h a.2).bind fun b => (lstOf p.1 b.2).map fun ds => (.ow (cutD ds a.1 b.1), b.2)
theorem de_slice {X : Cx} {e : Expr} {lo hi : Option Expr} {f : DE} {l h : Env → Option (Option Int × Env)} {p2 pos : Pos} (he : DEj X e f) (hl : DOj X lo l) (hh : DOj X hi h) : DEj X (.Subscript e (.Slice lo hi none p2) pos) (sSlice f l h) := by
  refine pe_weak (pe_slice sl_list he hl hh) fun σ H Q q => ?_
  obtain ⟨Hk, ρ, w, ρ', re, e, q⟩ := q
  unfold sSlice at e
  cases e1 : f ρ with
  | none => rw [e1] at e; cases e
  | some p =>
    obtain ⟨w1, ρ1⟩ := p
    rw [e1] at e
    simp only [Option.bind_some] at e
    cases e2 : l ρ1 with
    | none => rw [e2] at e; cases e
    | some p =>
      obtain ⟨a, ρ2⟩ := p
      rw [e2] at e
      simp only [Option.bind_some] at e
      cases e3 : h ρ2 with
      | none => rw [e3] at e; cases e
      | some p =>
        obtain ⟨b, ρ3⟩ := p
        rw [e3] at e
        obtain ⟨ds, h1, h2⟩ := Option.map_eq_some_iff.mp (show (lstOf w1 ρ3).map _ = some _ from e)
        cases h2
        refine ⟨Hk, ρ, w1, ρ1, re, e1, fun Hk1 H1 v re1 st1 o1 r1 f1 => ?_⟩
        refine ⟨Hk1, ρ1, a, ρ2, re1, e2, fun Hk2 H2 re2 st2 o2 => ?_⟩
        refine ⟨Hk2, ρ2, b, ρ3, re2, e3, fun Hk3 H3 re3 st3 o3 => ?_⟩
        obtain ⟨p, us, ev, hs, hd⟩ := lstOf_ok re3 ((r1.step st2 o2).step st3 o3) h1
        have st := (st1.trans st2 fun p z => .inl (o1 p z)).trans st3 fun p z => .inl (o1 p (o2 p z))
        refine ⟨p, us, ev, hs, fun x n => ?_⟩
        refine q Hk3 _ (.ref x) (re3.more n) (st.trans (O' := fun _ => False) (stp_more n) fun _ z => z.elim) (fun a z => o1 a (o2 a (o3 a z))) ⟨x, _, rfl, upd_same, dpAll_cut hd, re3.knone n, fun z => re3.own_there z n⟩ fun y ey => ?_
        cases ey
        exact st.there _ n
end DL
end

section
set_option Elab.async false
set_option linter.all false
set_option maxRecDepth 100000
set_option maxHeartbeats 4000000
namespace DL
open PySem PySem.Spec PyProof.Rows L2 Evl

inductive Out where
  | nx (ρ : Env) | rt (w : Val) (ρ : Env) | bk (ρ : Env) | ct (ρ : Env)
abbrev DS := Env → Option Out
/-- z: the first slot keeps its object -/
structure SR (K : PySem.W.Frag) (z : Bool) (Hk H : Hp) (ρ : Env) (σ : L2.St) (Hk' H' : Hp) (ρ' : Env) (σ' : L2.St) : Prop where
  re : RE K Hk' H' ρ' σ'
  st : Stp (OwnAt ρ σ) Hk H Hk' H'
  ow : ∀ a, OwnAt ρ' σ' a → OwnAt ρ σ a ∨ H a = none
  kp : z = true → σ'[0]? = σ[0]?
theorem SR.refl {K : PySem.W.Frag} {z : Bool} {Hk H : Hp} {ρ : Env} {σ : L2.St} (re : RE K Hk H ρ σ) : SR K z Hk H ρ σ Hk H ρ σ := ⟨re, Stp.refl, fun _ h => .inl h, fun _ => rfl⟩
theorem SR.trans {K : PySem.W.Frag} {z : Bool} {Hk H Hk1 H1 Hk2 H2 : Hp} {ρ ρ1 ρ2 : Env} {σ σ1 σ2 : L2.St} (a : SR K z Hk H ρ σ Hk1 H1 ρ1 σ1) (b : SR K z Hk1 H1 ρ1 σ1 Hk2 H2 ρ2 σ2) : SR K z Hk H ρ σ Hk2 H2 ρ2 σ2 :=
  ⟨b.re, a.st.trans b.st a.ow, fun p h => (b.ow p h).elim (a.ow p) fun n => .inr (a.st.there p n), fun h => (b.kp h).trans (a.kp h)⟩
theorem SR.ex {K : PySem.W.Frag} {z : Bool} {Hk H Hk1 H1 : Hp} {ρ ρ1 : Env} {σ : L2.St} (re : RE K Hk1 H1 ρ1 σ) (st : Stp (OwnAt ρ σ) Hk H Hk1 H1) (o : ∀ a, OwnAt ρ1 σ a → OwnAt ρ σ a) : SR K z Hk H ρ σ Hk1 H1 ρ1 σ :=
  ⟨re, st, fun a h => .inl (o a h), fun _ => rfl⟩
def After (K : PySem.W.Frag) (z : Bool) (Hk H : Hp) (ρ : Env) (σ : L2.St) (D : Ends) : Out → Prop
  | .nx ρ' => ∀ Hk' H' σ', SR K z Hk H ρ σ Hk' H' ρ' σ' → D.nx σ' H'
  | .bk ρ' => ∀ Hk' H' σ', SR K z Hk H ρ σ Hk' H' ρ' σ' → D.bk σ' H'
  | .ct ρ' => ∀ Hk' H' σ', SR K z Hk H ρ σ Hk' H' ρ' σ' → D.ct σ' H'
  | .rt w ρ' => ∀ Hk' H' σ' v, SR K z Hk H ρ σ Hk' H' ρ' σ' → RR K Hk' H' ρ' σ' w v → (∀ ds p, w = .ow ds → v = .ref p → H p = none ∨ OwnAt ρ σ p) → D.rt v H'
theorem After.trans {K : PySem.W.Frag} {z : Bool} {Hk H Hk1 H1 : Hp} {ρ ρ1 : Env} {σ σ1 : L2.St} {D : Ends} {o : Out} (a : SR K z Hk H ρ σ Hk1 H1 ρ1 σ1) (h : After K z Hk H ρ σ D o) : After K z Hk1 H1 ρ1 σ1 D o := by
  cases o with
  | nx ρ' => exact fun Hk' H' σ' s => h Hk' H' σ' (a.trans s)
  | bk ρ' => exact fun Hk' H' σ' s => h Hk' H' σ' (a.trans s)
  | ct ρ' => exact fun Hk' H' σ' s => h Hk' H' σ' (a.trans s)
  | rt w ρ' =>
    intro Hk' H' σ' v s r f
    refine h Hk' H' σ' v (a.trans s) r fun ds p e1 e2 => ?_
    rcases f ds p e1 e2 with n | n
    · exact .inl (a.st.there p n)
    · exact (a.ow p n).symm
def tDS (K : PySem.W.Frag) (z : Bool) (f : DS) : TS := fun D σ H => ∃ Hk ρ o, RE K Hk H ρ σ ∧ f ρ = some o ∧ After K z Hk H ρ σ D o
def DSj (X : Cx) (z : Bool) (st : Stmt) (f : DS) : Prop := PS X st (tDS X.K z f)
def DBj (X : Cx) (z : Bool) (st : List Stmt) (f : DS) : Prop := PSs X st (tDS X.K z f)

def sNext : DS := fun ρ => some (.nx ρ)
def sSeq (f g : DS) : DS := fun ρ => (f ρ).bind fun o => match o with
  | .nx ρ' => g ρ'
  | o => some o
section
variable {X : Cx} {z : Bool} {st : Stmt} {rest : List Stmt} {f g : DS}
theorem tSeq_of {K : PySem.W.Frag} {D : Ends} {σ : L2.St} {H : Hp} (h : tDS K z (sSeq f g) D σ H) : tSeq (tDS K z f) (tDS K z g) D σ H := by
  obtain ⟨Hk, ρ, o, re, e, q⟩ := h
  unfold sSeq at e
  cases e1 : f ρ with
  | none => rw [e1] at e; cases e
  | some o1 =>
    rw [e1] at e
    simp only [Option.bind_some] at e
    cases o1 with
    | nx ρ1 => exact ⟨Hk, ρ, .nx ρ1, re, e1, fun Hk' H' σ' s => ⟨Hk', ρ1, o, s.re, e, q.trans s⟩⟩
    | rt w ρ1 => cases e; exact ⟨Hk, ρ, .rt w ρ1, re, e1, q⟩
    | bk ρ1 => cases e; exact ⟨Hk, ρ, .bk ρ1, re, e1, q⟩
    | ct ρ1 => cases e; exact ⟨Hk, ρ, .ct ρ1, re, e1, q⟩
theorem db_nil : DBj X z [] sNext := pss_weak pss_nil fun D σ H h => by
  obtain ⟨Hk, ρ, o, re, e, q⟩ := h
  cases e
  exact q Hk H σ (SR.refl re)
theorem db_cons (h1 : DSj X z st f) (h2 : DBj X z rest g) : DBj X z (st :: rest) (sSeq f g) := pss_weak (pss_cons h1 h2) fun D σ H h => tSeq_of h
theorem db_one (h1 : DSj X z st f) : DBj X z [st] f := pss_one h1
end

/-! ### tests -/
abbrev DT := Env → Option (Bool × Env)
def tDT (K : PySem.W.Frag) (f : DT) : TT := fun σ H Q => ∃ Hk ρ b ρ', RE K Hk H ρ σ ∧ f ρ = some (b, ρ') ∧
  ∀ Hk' H', RE K Hk' H' ρ' σ → Stp (OwnAt ρ σ) Hk H Hk' H' → (∀ a, OwnAt ρ' σ a → OwnAt ρ σ a) → Q b H'
def DTj (X : Cx) (e : Expr) (f : DT) : Prop := PT X e (tDT X.K f)
def DWj (X : Cx) (e : Expr) (f : DT) : Prop := PW X e (tDT X.K f)
/-- the truth of a result -/
def truOf : Val → Env → Option Bool
  | .sh .none, _ => some false
  | .sh (.bool b), _ => some b
  | .sh (.int i), _ => some (i != 0)
  | w, ρ => match lstOf w ρ with
    | some ds => some (!ds.isEmpty)
    | none => (tupOf w).map fun ds => !ds.isEmpty
def sTru (f : DE) : DT := fun ρ => (f ρ).bind fun p => (truOf p.1 p.2).map fun b => (b, p.2)
theorem isEmpty_len {α β : Type} {xs : List α} {ys : List β} (h : xs.length = ys.length) : xs.isEmpty = ys.isEmpty := by
  cases xs <;> cases ys <;> simp_all
theorem truOf_ok {K : PySem.W.Frag} {Hk H : Hp} {ρ : Env} {σ : L2.St} {w : Val} {v : V} {b : Bool} (re : RE K Hk H ρ σ) (rr : RR K Hk H ρ σ w v) (e : truOf w ρ = some b) : TruV K v H b := by
  have key : (match lstOf w ρ with | some ds => some (!ds.isEmpty) | none => (tupOf w).map fun ds => !ds.isEmpty) = some b → TruV K v H b := fun e => by
    split at e
    · rename_i ds hl
      cases e
      obtain ⟨p, us, rfl, hs, hd⟩ := lstOf_ok re rr hl
      exact .inl ⟨us, hs, by rw [isEmpty_len (dpAll_len hd)]⟩
    · obtain ⟨ds, hl, e⟩ := Option.map_eq_some_iff.mp e
      cases e
      obtain ⟨p, us, rfl, hs, hd⟩ := tupOf_ok re rr hl
      exact .inr (.inl ⟨us, hs, by rw [isEmpty_len (dpAll_len hd)]⟩)
  cases w with
  | sh d =>
    cases d with
    | none =>
      cases e
      have r : Dp K Hk v .none := rr
      cases r
      rfl
    | bool c => cases e; cases rr_bool rr; rfl
    | int i => cases e; cases rr_int rr; rfl
    | str x => cases e
    | list ds => exact key e
    | tuple ds => exact key e
    | dict kvs => cases e
  | ow ds => exact key e
  | rf i => exact key e
  | fx u => cases e
section
variable {X : Cx} {e a b : Expr} {rest : List Expr} {f : DE} {t u : DT} {pos : Pos}
theorem dt_tru (h : DEj X e f) (he : ∀ whole, isTrue e X.env whole = (do let v ← whole; standAt e.pos; holding [v] (truthy v)) := by intro _; rfl) : DTj X e (sTru f) := by
  refine pt_weak (pt_truth h he) fun σ H Q q => ?_
  obtain ⟨Hk, ρ, b, ρ', re, e, q⟩ := q
  unfold sTru at e
  cases e1 : f ρ with
  | none => rw [e1] at e; cases e
  | some p =>
    obtain ⟨w, ρ1⟩ := p
    rw [e1] at e
    obtain ⟨c, h1, h2⟩ := Option.map_eq_some_iff.mp (show (truOf w ρ1).map _ = some _ from e)
    cases h2
    exact ⟨Hk, ρ, w, _, re, e1, fun Hk' H' v re' st' o' r' f' => ⟨_, truOf_ok re' r' h1, q Hk' H' re' st' o'⟩⟩
/-- a comparison -/
def sTst (f : DE) : DT := fun ρ => match f ρ with
  | some (.sh (.bool b), ρ') => some (b, ρ')
  | _ => none
theorem tTest_of {K : PySem.W.Frag} {te : TE} (w : ∀ σ H Q, tD K f σ H Q → te σ H Q) {σ : L2.St} {H : Hp} {Q : Bool → Hp → Prop} (h : tDT K (sTst f) σ H Q) : tTest te σ H Q := by
  obtain ⟨Hk, ρ, b, ρ', re, e, q⟩ := h
  unfold sTst at e
  split at e
  · rename_i c ρ1 hf
    cases e
    exact w σ H _ ⟨Hk, ρ, _, _, re, hf, fun Hk' H' v re' st' o' r' f' => ⟨_, rr_bool r', q Hk' H' re' st' o'⟩⟩
  · cases e
theorem dt_cmp {g : DE} {sem : VS} {op : CmpOp} {r : R2} (ho : OpR X (compareOp op) r) (ok : OpOk X.K (r2L r) sem) (ha : DEj X a f) (hb : DEj X b g) (hm : behindInMarks op b = false) : DTj X (.Compare a [op] [b] pos) (sTst (sOp sem (sCons f (sCons g sNil)))) :=
  pt_weak (pt_cmpR ho ha hb hm) fun σ H Q h => tTest_of (fun _ _ _ q => t2_of (tD_op ok q)) h
theorem dt_lt {g : DE} (ha : DEj X a f) (hb : DEj X b g) : DTj X (.Compare a [.Lt] [b] pos) (sTst (sOp vLt (sCons f (sCons g sNil)))) := dt_cmp op_lt (ok_I0 fun _ _ _ => .bl _) ha hb (nomark _)
theorem dt_le {g : DE} (ha : DEj X a f) (hb : DEj X b g) : DTj X (.Compare a [.LtE] [b] pos) (sTst (sOp vLe (sCons f (sCons g sNil)))) := dt_cmp op_le (ok_I0 fun _ _ _ => .bl _) ha hb (nomark _)
theorem dt_gt {g : DE} (ha : DEj X a f) (hb : DEj X b g) : DTj X (.Compare a [.Gt] [b] pos) (sTst (sOp vGt (sCons f (sCons g sNil)))) := dt_cmp op_gt (ok_I0 fun _ _ _ => .bl _) ha hb (nomark _)
theorem dt_ge {g : DE} (ha : DEj X a f) (hb : DEj X b g) : DTj X (.Compare a [.GtE] [b] pos) (sTst (sOp vGe (sCons f (sCons g sNil)))) := dt_cmp op_ge (ok_I0 fun _ _ _ => .bl _) ha hb (nomark _)
theorem dt_eq {g : DE} (hu : X.A.units + 64 < cLine) (ha : DEj X a f) (hb : DEj X b g) : DTj X (.Compare a [.Eq] [b] pos) (sTst (sOp (vEqD false) (sCons f (sCons g sNil)))) := dt_cmp (op_eqD hu) ok_eqD ha hb (nomark _)
theorem dt_ne {g : DE} (hu : X.A.units + 64 < cLine) (ha : DEj X a f) (hb : DEj X b g) : DTj X (.Compare a [.NotEq] [b] pos) (sTst (sOp (vEqD true) (sCons f (sCons g sNil)))) := dt_cmp (op_neD hu) ok_neD ha hb (nomark _)
/-- x is None, x is not None -/
def vIsN (neg : Bool) : VS
  | [.sh .none, .sh .none], ρ => some (.sh (.bool (!neg)), ρ)
  | [_, .sh .none], ρ => some (.sh (.bool neg), ρ)
  | _, _ => none
theorem rr_non {K : PySem.W.Frag} {Hk H : Hp} {ρ : Env} {σ : L2.St} {v : V} (h : RR K Hk H ρ σ (.sh .none) v) : v = .non := by
  have h' : Dp K Hk v .none := h
  cases h'
  rfl
def sAnd (t u : DT) : DT := fun ρ => (t ρ).bind fun p => if p.1 = true then u p.2 else some (false, p.2)
def sOr (t u : DT) : DT := fun ρ => (t ρ).bind fun p => if p.1 = true then some (true, p.2) else u p.2
def sNot (t : DT) : DT := fun ρ => (t ρ).map fun p => (!p.1, p.2)
theorem tDT_go {K : PySem.W.Frag} {σ : L2.St} {Hk H : Hp} {ρ ρ' : Env} {b : Bool} {Q : Bool → Hp → Prop} (re : RE K Hk H ρ σ) (e : t ρ = some (b, ρ')) (q : ∀ Hk' H', RE K Hk' H' ρ' σ → Stp (OwnAt ρ σ) Hk H Hk' H' → (∀ a, OwnAt ρ' σ a → OwnAt ρ σ a) → Q b H') : tDT K t σ H Q := ⟨Hk, ρ, b, ρ', re, e, q⟩
theorem tAnd_of {K : PySem.W.Frag} {σ : L2.St} {H : Hp} {Q : Bool → Hp → Prop} (h : tDT K (sAnd t u) σ H Q) : tAnd (tDT K t) (tDT K u) σ H Q := by
  obtain ⟨Hk, ρ, b, ρ', re, e, q⟩ := h
  unfold sAnd at e
  cases e1 : t ρ with
  | none => rw [e1] at e; cases e
  | some p =>
    obtain ⟨c, ρ1⟩ := p
    rw [e1] at e
    simp only [Option.bind_some] at e
    refine ⟨Hk, ρ, c, ρ1, re, e1, fun Hk1 H1 re1 st1 o1 => ?_⟩
    cases c with
    | true => exact iteT ⟨Hk1, ρ1, b, ρ', re1, by simpa using e, fun Hk2 H2 re2 st2 o2 => q Hk2 H2 re2 (st1.trans st2 fun p z => .inl (o1 p z)) fun a z => o1 a (o2 a z)⟩
    | false => simp at e; obtain ⟨rfl, rfl⟩ := e; exact iteF (q Hk1 H1 re1 st1 o1)
theorem tOr_of {K : PySem.W.Frag} {σ : L2.St} {H : Hp} {Q : Bool → Hp → Prop} (h : tDT K (sOr t u) σ H Q) : tOr (tDT K t) (tDT K u) σ H Q := by
  obtain ⟨Hk, ρ, b, ρ', re, e, q⟩ := h
  unfold sOr at e
  cases e1 : t ρ with
  | none => rw [e1] at e; cases e
  | some p =>
    obtain ⟨c, ρ1⟩ := p
    rw [e1] at e
    simp only [Option.bind_some] at e
    refine ⟨Hk, ρ, c, ρ1, re, e1, fun Hk1 H1 re1 st1 o1 => ?_⟩
    cases c with
    | false => exact iteF ⟨Hk1, ρ1, b, ρ', re1, by simpa using e, fun Hk2 H2 re2 st2 o2 => q Hk2 H2 re2 (st1.trans st2 fun p z => .inl (o1 p z)) fun a z => o1 a (o2 a z)⟩
    | true => simp at e; obtain ⟨rfl, rfl⟩ := e; exact iteT (q Hk1 H1 re1 st1 o1)
theorem pw_weak {t t' : TT} (h : PW X e t) (w : ∀ σ H Q, t' σ H Q → t σ H Q) : PW X e t' := ⟨fun wh pins s σ H Q I q => h.run wh pins s σ H Q I (w σ H Q q)⟩
theorem dw_and1 (ha : DTj X a t) : DWj X (.BoolOp .And [a] pos) t := pw_and1 ha
theorem dw_or1 (ha : DTj X a t) : DWj X (.BoolOp .Or [a] pos) t := pw_or1 ha
theorem dw_and (ha : DTj X a t) (hb : DWj X (.BoolOp .And (b :: rest) pos) u) : DWj X (.BoolOp .And (a :: b :: rest) pos) (sAnd t u) := pw_weak (pw_and ha hb) fun _ _ _ h => tAnd_of h
theorem dw_or (ha : DTj X a t) (hb : DWj X (.BoolOp .Or (b :: rest) pos) u) : DWj X (.BoolOp .Or (a :: b :: rest) pos) (sOr t u) := pw_weak (pw_or ha hb) fun _ _ _ h => tOr_of h
theorem dt_w (h : DWj X e t) : DTj X e t := PW.pt h
theorem dt_not (ha : DTj X a t) : DTj X (.UnaryOp .Not a pos) (sNot t) := pt_weak (pt_not ha) fun σ H Q h => by
  obtain ⟨Hk, ρ, b, ρ', re, e, q⟩ := h
  obtain ⟨p, h1, h2⟩ := Option.map_eq_some_iff.mp (show (t ρ).map _ = some _ from e)
  cases h2
  exact ⟨Hk, ρ, p.1, p.2, re, h1, q⟩
/-- values by truth values -/
def sAndV (f g : DE) : DE := fun ρ => match f ρ with
  | some (.sh (.bool true), ρ1) => g ρ1
  | some (.sh (.bool false), ρ1) => some (.sh (.bool false), ρ1)
  | _ => none
def sOrV (f g : DE) : DE := fun ρ => match f ρ with
  | some (.sh (.bool false), ρ1) => g ρ1
  | some (.sh (.bool true), ρ1) => some (.sh (.bool true), ρ1)
  | _ => none
def sNotV (f : DE) : DE := fun ρ => match f ρ with
  | some (.sh (.bool b), ρ1) => some (.sh (.bool (!b)), ρ1)
  | _ => none
theorem Fr.mono {H H1 : Hp} {w : Val} {v : V} (h : Fr H1 w v) (e : ∀ p, H1 p = none → H p = none) : Fr H w v := h.back e
theorem de_one {op} (h : DEj X a f) : DEj X (.BoolOp op [a] pos) f := pe_one h
theorem de_and {g : DE} (ha : DEj X a f) (hb : DEj X (.BoolOp .And (b :: rest) pos) g) : DEj X (.BoolOp .And (a :: b :: rest) pos) (sAndV f g) := pe_weak (pe_and ha hb) fun σ H Q h => by
  obtain ⟨Hk, ρ, w, ρ', re, e, q⟩ := h
  unfold sAndV at e
  split at e
  · rename_i ρ1 hf
    exact ⟨Hk, ρ, _, _, re, hf, fun Hk1 H1 v re1 st1 o1 r1 _ => ⟨true, rr_bool r1, iteT ⟨Hk1, ρ1, w, ρ', re1, e, fun Hk2 H2 v2 re2 st2 o2 r2 f2 => q Hk2 H2 v2 re2 (st1.trans st2 fun p z => .inl (o1 p z)) (fun a z => o1 a (o2 a z)) r2 (f2.back st1.there)⟩⟩⟩
  · rename_i ρ1 hf
    cases e
    exact ⟨Hk, ρ, _, _, re, hf, fun Hk1 H1 v re1 st1 o1 r1 _ => ⟨false, rr_bool r1, iteF (q Hk1 H1 _ re1 st1 o1 (.bl false) trivial)⟩⟩
  · cases e
theorem de_or {g : DE} (ha : DEj X a f) (hb : DEj X (.BoolOp .Or (b :: rest) pos) g) : DEj X (.BoolOp .Or (a :: b :: rest) pos) (sOrV f g) := pe_weak (pe_or ha hb) fun σ H Q h => by
  obtain ⟨Hk, ρ, w, ρ', re, e, q⟩ := h
  unfold sOrV at e
  split at e
  · rename_i ρ1 hf
    exact ⟨Hk, ρ, _, _, re, hf, fun Hk1 H1 v re1 st1 o1 r1 _ => ⟨false, rr_bool r1, iteF ⟨Hk1, ρ1, w, ρ', re1, e, fun Hk2 H2 v2 re2 st2 o2 r2 f2 => q Hk2 H2 v2 re2 (st1.trans st2 fun p z => .inl (o1 p z)) (fun a z => o1 a (o2 a z)) r2 (f2.back st1.there)⟩⟩⟩
  · rename_i ρ1 hf
    cases e
    exact ⟨Hk, ρ, _, _, re, hf, fun Hk1 H1 v re1 st1 o1 r1 _ => ⟨true, rr_bool r1, iteT (q Hk1 H1 _ re1 st1 o1 (.bl true) trivial)⟩⟩
  · cases e
theorem de_not (ha : DEj X a f) : DEj X (.UnaryOp .Not a pos) (sNotV f) := pe_weak (pe_not ha) fun σ H Q h => by
  obtain ⟨Hk, ρ, w, ρ', re, e, q⟩ := h
  unfold sNotV at e
  split at e
  · rename_i b ρ1 hf
    cases e
    exact ⟨Hk, ρ, _, _, re, hf, fun Hk1 H1 v re1 st1 o1 r1 _ => ⟨b, rr_bool r1, q Hk1 H1 _ re1 st1 o1 (.bl _) trivial⟩⟩
  · cases e
def sIfE (t : DT) (f g : DE) : DE := fun ρ => (t ρ).bind fun p => if p.1 = true then f p.2 else g p.2
theorem de_ifExp {c : Expr} {g : DE} (hc : DTj X c t) (ha : DEj X a f) (hb : DEj X b g) : DEj X (.IfExp c a b pos) (sIfE t f g) := pe_weak (pe_ifExp hc ha hb) fun σ H Q h => by
  obtain ⟨Hk, ρ, w, ρ', re, e, q⟩ := h
  unfold sIfE at e
  cases e1 : t ρ with
  | none => rw [e1] at e; cases e
  | some p =>
    obtain ⟨k, ρ1⟩ := p
    rw [e1] at e
    simp only [Option.bind_some] at e
    refine ⟨Hk, ρ, k, ρ1, re, e1, fun Hk1 H1 re1 st1 o1 => ?_⟩
    cases k with
    | true => exact iteT ⟨Hk1, ρ1, w, ρ', re1, by simpa using e, fun Hk2 H2 v2 re2 st2 o2 r2 f2 => q Hk2 H2 v2 re2 (st1.trans st2 fun p z => .inl (o1 p z)) (fun a z => o1 a (o2 a z)) r2 (f2.back st1.there)⟩
    | false => exact iteF ⟨Hk1, ρ1, w, ρ', re1, by simpa using e, fun Hk2 H2 v2 re2 st2 o2 r2 f2 => q Hk2 H2 v2 re2 (st1.trans st2 fun p z => .inl (o1 p z)) (fun a z => o1 a (o2 a z)) r2 (f2.back st1.there)⟩
end

/-! ### storing into a slot -/
theorem set_get {α : Type} {l : List α} {i j : Nat} {x y : α} (h : (l.set i x)[j]? = some y) : (j = i ∧ i < l.length ∧ x = y) ∨ (j ≠ i ∧ l[j]? = some y) := by
  by_cases hj : j = i
  · subst hj
    by_cases hl : j < l.length
    · rw [List.getElem?_set_self hl] at h; cases h; exact .inl ⟨rfl, hl, rfl⟩
    · rw [List.getElem?_eq_none (by simpa using hl)] at h; cases h
  · rw [List.getElem?_set_ne (Ne.symm hj)] at h
    exact .inr ⟨hj, h⟩
def noRf : Val → Bool
  | .rf _ => false
  | _ => true
theorem RE.put {K : PySem.W.Frag} {Hk H : Hp} {ρ : Env} {σ : L2.St} {w : Val} {v : V} (re : RE K Hk H ρ σ) (rr : RR K Hk H ρ σ w v) (hw : noRf w = true) (i : Nat) :
    RE K Hk H (ρ.set i (some w)) (σ.set i (some v)) ∧ ∀ a, OwnAt (ρ.set i (some w)) (σ.set i (some v)) a → OwnAt ρ σ a ∨ ∃ ds, w = .ow ds ∧ v = .ref a := by
  have ln := re.len
  have own : ∀ {j : Nat} {ds a}, (ρ.set i (some w))[j]? = some (some (.ow ds)) → (σ.set i (some v))[j]? = some (some (.ref a)) → (j = i ∧ w = .ow ds ∧ v = .ref a) ∨ (j ≠ i ∧ ρ[j]? = some (some (.ow ds)) ∧ σ[j]? = some (some (.ref a))) := fun {j ds a} h1 h2 => by
    rcases set_get h1 with ⟨e1, l1, e2⟩ | ⟨n1, e1⟩
    · rcases set_get h2 with ⟨_, _, e4⟩ | ⟨n2, _⟩
      · exact .inl ⟨e1, Option.some.inj e2, Option.some.inj e4⟩
      · exact absurd e1 n2
    · rcases set_get h2 with ⟨e3, _, _⟩ | ⟨_, e4⟩
      · exact absurd e3 n1
      · exact .inr ⟨n1, e1, e4⟩
  refine ⟨⟨re.sub, by rw [List.length_set, List.length_set]; exact ln, fun j u h => ?_, fun j k ds es p h1 h2 h3 h4 => ?_⟩, fun a h => ?_⟩
  · rcases set_get h with ⟨rfl, hl, e⟩ | ⟨n, e⟩
    · obtain rfl := Option.some.inj e
      refine ⟨v, by rw [List.getElem?_set_self (by omega)], ?_⟩
      cases w with
      | sh d => exact rr
      | ow ds =>
        obtain ⟨p, vs, e, hp, hd, hk, no⟩ := rr
        exact ⟨p, vs, e, hp, hd, hk⟩
      | rf k => cases hw
      | fx u => exact rr
    · obtain ⟨x, g1, g2⟩ := re.slot j u e
      exact ⟨x, by rw [List.getElem?_set_ne (Ne.symm n)]; exact g1, g2⟩
  · have fresh : ∀ {ds}, w = .ow ds → v = .ref p → ¬ OwnAt ρ σ p := fun {ds} e1 e2 => by
      subst e1
      obtain ⟨q, vs, e, _, _, _, no⟩ := rr
      rw [e2] at e; cases e
      exact no
    rcases own h1 h3 with ⟨rfl, e1, e2⟩ | ⟨n1, g1, g2⟩
    · rcases own h2 h4 with ⟨rfl, _, _⟩ | ⟨n2, g3, g4⟩
      · rfl
      · exact absurd ⟨k, es, g3, g4⟩ (fresh e1 e2)
    · rcases own h2 h4 with ⟨rfl, e1, e2⟩ | ⟨n2, g3, g4⟩
      · exact absurd ⟨j, ds, g1, g2⟩ (fresh e1 e2)
      · exact re.sep j k ds es p g1 g3 g2 g4
  · obtain ⟨j, ds, h1, h2⟩ := h
    rcases own h1 h2 with ⟨_, e1, e2⟩ | ⟨_, g1, g2⟩
    · exact .inr ⟨ds, e1, e2⟩
    · exact .inl ⟨j, ds, g1, g2⟩
/-- x = e -/
def sSet (i : Nat) (f : DE) : DS := fun ρ => (f ρ).bind fun p => if noRf p.1 = true then some (.nx (p.2.set i (some p.1))) else none
theorem kp_set {z : Bool} {σ : L2.St} {i : Nat} {v : Option V} (hz : z = true → i ≠ 0) : z = true → (σ.set i v)[0]? = σ[0]? := fun h => List.getElem?_set_ne (hz h)
theorem tSet_of {K : PySem.W.Frag} {z : Bool} {i : Nat} {f : DE} (hz : z = true → i ≠ 0) {te : TE} (w : ∀ σ H Q, tD K f σ H Q → te σ H Q) {D : Ends} {σ : L2.St} {H : Hp} (h : tDS K z (sSet i f) D σ H) : tAsg te (gName i) D σ H := by
  obtain ⟨Hk, ρ, o, re, e, q⟩ := h
  unfold sSet at e
  cases e1 : f ρ with
  | none => rw [e1] at e; cases e
  | some p =>
    obtain ⟨w1, ρ1⟩ := p
    rw [e1] at e
    simp only [Option.bind_some] at e
    split at e
    · rename_i hw
      cases e
      refine w σ H _ ⟨Hk, ρ, w1, ρ1, re, e1, fun Hk' H' v re' st' o' r' f' => ?_⟩
      obtain ⟨re2, ow2⟩ := re'.put r' hw i
      refine q Hk' H' (σ.set i (some v)) ⟨re2, st', fun a h => ?_, kp_set hz⟩
      rcases ow2 a h with z | ⟨ds, rfl, ev⟩
      · exact .inl (o' a z)
      · exact .inr (f' a ev)
    · cases e
section
variable {X : Cx} {z : Bool} {i : Nat} {x : Str} {e : Expr} {f : DE} {pos pos' : Pos}
theorem ds_set (hN : X.N.Nodup) (hi : X.N[i]? = some x) (hx : Loc X.env.scope x) (he : DEj X e f) (hz : z = true → i ≠ 0) (hs : swapsWith e (some (.Name x pos')) pos.line X.env = pure false := by rfl) (hf : X.fn x = true ∨ X.env.scope.names.lookup x = some .local := by first | exact .inl rfl | exact .inr rfl | assumption) :
    DSj X z (.Assign [.Name x pos'] e pos) (sSet i f) := ps_weak (ps_set hN hi hx he hs hf) fun D σ H h => tSet_of hz (fun _ _ _ q => q) h
end

/-! ### return -/
def sRet (f : DE) : DS := fun ρ => (f ρ).bind fun p => match p.1 with
  | .rf i => match p.2[i]? with
    | some (some (.ow ds)) => some (.rt (.ow ds) (p.2.set i none))
    | some (some (.sh d)) => some (.rt (.sh d) p.2)
    | _ => none
  | w => some (.rt w p.2)
theorem RE.drop {K : PySem.W.Frag} {Hk H : Hp} {ρ : Env} {σ : L2.St} (re : RE K Hk H ρ σ) (i : Nat) : RE K Hk H (ρ.set i none) σ ∧ ∀ a, OwnAt (ρ.set i none) σ a → ∃ j ds, j ≠ i ∧ ρ[j]? = some (some (.ow ds)) ∧ σ[j]? = some (some (.ref a)) := by
  have nj : ∀ {j : Nat} {w}, (ρ.set i none)[j]? = some (some w) → j ≠ i ∧ ρ[j]? = some (some w) := fun {j w} h => by
    rcases set_get h with ⟨_, _, e⟩ | e
    · cases e
    · exact e
  exact ⟨⟨re.sub, by rw [List.length_set]; exact re.len, fun j w h => re.slot j w (nj h).2, fun j k ds es p h1 h2 h3 h4 => re.sep j k ds es p (nj h1).2 (nj h2).2 h3 h4⟩, fun a ⟨j, ds, h1, h2⟩ => ⟨j, ds, (nj h1).1, (nj h1).2, h2⟩⟩
theorem ds_ret {X : Cx} {z : Bool} {e : Expr} {f : DE} {pos : Pos} (he : DEj X e f) : DSj X z (.Return (some e) pos) (sRet f) := ps_weak (ps_ret he) fun D σ H h => by
  obtain ⟨Hk, ρ, o, re, e, q⟩ := h
  unfold sRet at e
  cases e1 : f ρ with
  | none => rw [e1] at e; cases e
  | some p =>
    obtain ⟨w1, ρ1⟩ := p
    rw [e1] at e
    simp only [Option.bind_some] at e
    have plain : (∀ i, w1 ≠ .rf i) → o = .rt w1 ρ1 → tRet (tD X.K f) D σ H := fun _ eo => by
      subst eo
      refine ⟨Hk, ρ, w1, ρ1, re, e1, fun Hk' H' v re' st' o' r' f' => q Hk' H' σ v (SR.ex re' st' o') r' fun ds p ew ev => ?_⟩
      subst ew
      exact .inl (f' p ev)
    cases w1 with
    | rf i =>
      simp only at e
      split at e
      · rename_i ds hi
        cases e
        refine ⟨Hk, ρ, .rf i, ρ1, re, e1, fun Hk' H' v re' st' o' r' f' => ?_⟩
        obtain ⟨u, h1, p, vs, ev, hp, hd, hk⟩ := re'.slot i _ hi
        have r2 : σ[i]? = some (some v) := r'
        rw [h1] at r2
        cases r2
        obtain ⟨re2, ow2⟩ := re'.drop i
        subst ev
        refine q Hk' H' σ (.ref p) ⟨re2, st', fun a h => ?_, fun _ => rfl⟩ ⟨p, vs, rfl, hp, hd, hk, fun h => ?_⟩ fun ds' p' _ e2 => ?_
        · obtain ⟨j, es, _, g1, g2⟩ := ow2 a h
          exact .inl (o' a ⟨j, es, g1, g2⟩)
        · obtain ⟨j, es, n, g1, g2⟩ := ow2 p h
          exact n (re'.sep j i es ds p g1 hi g2 h1)
        · cases e2
          exact .inr (o' p ⟨i, ds, hi, h1⟩)
      · rename_i d hi
        cases e
        refine ⟨Hk, ρ, .rf i, ρ1, re, e1, fun Hk' H' v re' st' o' r' f' => ?_⟩
        obtain ⟨u, h1, h2⟩ := re'.slot i _ hi
        have r2 : σ[i]? = some (some v) := r'
        rw [h1] at r2
        cases r2
        exact q Hk' H' σ _ (SR.ex re' st' o') h2 fun ds p ew _ => by cases ew
      · cases e
    | sh d => exact plain (fun _ z => nomatch z) (by cases e; rfl)
    | ow ds => exact plain (fun _ z => nomatch z) (by cases e; rfl)
    | fx u => exact plain (fun _ z => nomatch z) (by cases e; rfl)
def sRetN : DS := fun ρ => some (.rt (.sh .none) ρ)
theorem ds_retN {X : Cx} {z : Bool} {pos : Pos} : DSj X z (.Return none pos) sRetN := ps_weak ps_retN fun D σ H h => by
  obtain ⟨Hk, ρ, o, re, e, q⟩ := h
  cases e
  exact q Hk H σ .non (SR.refl re) .non fun _ _ z => nomatch z

/-! ### if, break, continue, pass -/
def sIf (t : DT) (f g : DS) : DS := fun ρ => (t ρ).bind fun p => if p.1 = true then f p.2 else g p.2
theorem ds_if {X : Cx} {z : Bool} {c : Expr} {a b : List Stmt} {t : DT} {f g : DS} {pos : Pos} (hc : DTj X c t) (ha : DBj X z a f) (hb : DBj X z b g) : DSj X z (.If c a b pos) (sIf t f g) := ps_weak (ps_if hc ha hb) fun D σ H h => by
  obtain ⟨Hk, ρ, o, re, e, q⟩ := h
  unfold sIf at e
  cases e1 : t ρ with
  | none => rw [e1] at e; cases e
  | some p =>
    obtain ⟨k, ρ1⟩ := p
    rw [e1] at e
    simp only [Option.bind_some] at e
    refine ⟨Hk, ρ, k, ρ1, re, e1, fun Hk1 H1 re1 st1 o1 => ?_⟩
    cases k with
    | true => exact iteT ⟨Hk1, ρ1, o, re1, by simpa using e, q.trans (SR.ex re1 st1 o1)⟩
    | false => exact iteF ⟨Hk1, ρ1, o, re1, by simpa using e, q.trans (SR.ex re1 st1 o1)⟩
def sBreak : DS := fun ρ => some (.bk ρ)
def sCont : DS := fun ρ => some (.ct ρ)
theorem ds_break {X : Cx} {z : Bool} {pos : Pos} : DSj X z (.Break pos) sBreak := ps_weak ps_break fun D σ H h => by
  obtain ⟨Hk, ρ, o, re, e, q⟩ := h
  cases e
  exact q Hk H σ (SR.refl re)
theorem ds_cont {X : Cx} {z : Bool} {pos : Pos} : DSj X z (.Continue pos) sCont := ps_weak ps_continue fun D σ H h => by
  obtain ⟨Hk, ρ, o, re, e, q⟩ := h
  cases e
  exact q Hk H σ (SR.refl re)
theorem ds_pass {X : Cx} {z : Bool} {pos : Pos} : DSj X z (.Pass pos) sNext := ps_weak ps_pass fun D σ H h => by
  obtain ⟨Hk, ρ, o, re, e, q⟩ := h
  cases e
  exact q Hk H σ (SR.refl re)
end DL
end

section
set_option Elab.async false
set_option linter.all false
set_option maxRecDepth 100000
set_option maxHeartbeats 4000000
namespace DL
open PySem PySem.Spec PyProof.Rows L2 Evl

/-! ### targets -/
theorem wipe_get {σ : L2.St} {j : Nat} : ∀ {vs : List Nat}, (wipe σ vs)[j]? = if j ∈ vs then (if j < σ.length then some none else none) else σ[j]?
  | [] => by simp [wipe]
  | v :: vs => by
    show ((wipe σ vs).set v none)[j]? = _
    by_cases hj : j = v
    · subst hj
      by_cases hl : j < σ.length
      · rw [List.getElem?_set_self (by rw [wipe_length]; exact hl)]
        simp [hl]
      · rw [List.getElem?_eq_none (by rw [List.length_set, wipe_length]; omega)]
        simp [hl]
    · rw [List.getElem?_set_ne (Ne.symm hj), wipe_get (vs := vs)]
      simp [hj]
theorem wipe_set {σ : L2.St} {i : Nat} {v : Option V} {vs : List Nat} (h : i ∈ vs) : wipe (σ.set i v) vs = wipe σ vs := by
  apply List.ext_getElem?
  intro j
  rw [wipe_get, wipe_get, List.length_set]
  by_cases hj : j ∈ vs
  · rw [if_pos hj, if_pos hj]
  · rw [if_neg hj, if_neg hj, List.getElem?_set_ne (fun e => hj (by rw [← e]; exact h))]
abbrev DG := PyData → Env → Option Env
structure GR (K : PySem.W.Frag) (z : Bool) (ix : List Nat) (Hk H : Hp) (ρ : Env) (σ : L2.St) (ρ' : Env) (σ' : L2.St) : Prop where
  re : RE K Hk H ρ' σ'
  ow : ∀ a, OwnAt ρ' σ' a → OwnAt ρ σ a
  kp : z = true → σ'[0]? = σ[0]?
  wp : ∀ vs, (∀ i ∈ ix, i ∈ vs) → wipe σ' vs = wipe σ vs
theorem GR.sr {K : PySem.W.Frag} {z : Bool} {ix : List Nat} {Hk H : Hp} {ρ ρ' : Env} {σ σ' : L2.St} (g : GR K z ix Hk H ρ σ ρ' σ') : SR K z Hk H ρ σ Hk H ρ' σ' := ⟨g.re, Stp.refl, fun a h => .inl (g.ow a h), g.kp⟩
def tDG (K : PySem.W.Frag) (z : Bool) (ix : List Nat) (t : DG) : TG := fun v σ H Q => ∃ Hk ρ d ρ', RE K Hk H ρ σ ∧ Dp K Hk v d ∧ t d ρ = some ρ' ∧ ∀ σ', GR K z ix Hk H ρ σ ρ' σ' → Q σ' H
def DGj (X : Cx) (z : Bool) (ix : List Nat) (e : Expr) (t : DG) : Prop := PG X e (tDG X.K z ix t)
theorem pg_weak {X : Cx} {e : Expr} {t t' : TG} (h : PG X e t) (w : ∀ v σ H Q, t' v σ H Q → t v σ H Q) : PG X e t' := ⟨fun pins s σ H v u Q I r q => h.run pins s σ H v u Q I r (w v σ H Q q)⟩
def gN (i : Nat) : DG := fun d ρ => some (ρ.set i (some (.sh d)))
section
variable {X : Cx} {z : Bool} {pos : Pos}
theorem dg_name {i : Nat} {x : Str} (hN : X.N.Nodup) (hi : X.N[i]? = some x) (hx : Loc X.env.scope x) (hz : z = true → i ≠ 0) (hf : X.fn x = true ∨ X.env.scope.names.lookup x = some .local := by first | exact .inl rfl | exact .inr rfl | assumption) : DGj X z [i] (.Name x pos) (gN i) :=
  pg_weak (pg_name hN hi hx hf) fun v σ H Q h => by
    obtain ⟨Hk, ρ, d, ρ', re, hd, e, q⟩ := h
    cases e
    obtain ⟨re2, ow2⟩ := re.put (w := .sh d) hd rfl i
    refine q _ ⟨re2, fun a h => ?_, kp_set hz, fun vs hv => wipe_set (hv i (by simp))⟩
    rcases ow2 a h with g | ⟨_, e, _⟩
    · exact g
    · cases e
end
/-- several targets -/
def gTs : List DG → List PyData → Env → Option Env
  | [], [], ρ => some ρ
  | t :: ts, d :: ds, ρ => (t d ρ).bind fun ρ1 => gTs ts ds ρ1
  | _, _, _ => none
def tDGs (K : PySem.W.Frag) (z : Bool) (ix : List Nat) (ts : List DG) : TGs := fun vs σ H Q => ∃ Hk ρ ds ρ', RE K Hk H ρ σ ∧ DpAll K Hk vs ds ∧ gTs ts ds ρ = some ρ' ∧ ∀ σ', GR K z ix Hk H ρ σ ρ' σ' → Q σ' H
def DGsj (X : Cx) (z : Bool) (ix : List Nat) (es : List Expr) (ts : List DG) : Prop := PGs X es (tDGs X.K z ix ts)
theorem pgs_weak {X : Cx} {e : List Expr} {t t' : TGs} (h : PGs X e t) (w : ∀ v σ H Q, t' v σ H Q → t v σ H Q) : PGs X e t' := ⟨fun pins s σ H v u Q I r q => h.run pins s σ H v u Q I r (w v σ H Q q)⟩
theorem dgs_nil {X : Cx} {z : Bool} : DGsj X z [] [] [] := pgs_weak pgs_nil fun vs σ H Q h => by
  obtain ⟨Hk, ρ, ds, ρ', re, hd, e, q⟩ := h
  cases ds with
  | nil =>
    cases hd
    cases e
    exact ⟨rfl, q σ ⟨re, fun _ h => h, fun _ => rfl, fun _ _ => rfl⟩⟩
  | cons _ _ => cases e
theorem dgs_cons {X : Cx} {z : Bool} {i1 i2 : List Nat} {e : Expr} {es : List Expr} {t : DG} {ts : List DG} (h1 : DGj X z i1 e t) (h2 : DGsj X z i2 es ts)
    (hs : (assignEach (e :: es) X.env).map (·.2) = assign e X.env :: (assignEach es X.env).map (·.2) := by rfl) : DGsj X z (i1 ++ i2) (e :: es) (t :: ts) := pgs_weak (pgs_cons h1 h2 hs) fun vs σ H Q h => by
  obtain ⟨Hk, ρ, ds, ρ', re, hd, e, q⟩ := h
  cases ds with
  | nil => cases e
  | cons d ds =>
    cases hd with
    | cons a b =>
      have e : (t d ρ).bind (fun ρ1 => gTs ts ds ρ1) = some ρ' := e
      cases e1 : t d ρ with
      | none => rw [e1] at e; cases e
      | some ρ1 =>
        rw [e1] at e
        refine ⟨_, _, rfl, Hk, ρ, d, ρ1, re, a, e1, fun σ1 g1 => ⟨Hk, ρ1, ds, ρ', g1.re, b, e, fun σ2 g2 => q σ2 ⟨g2.re, fun a h => g1.ow a (g2.ow a h), fun h => (g2.kp h).trans (g1.kp h), fun vs hv => ?_⟩⟩⟩
        rw [g2.wp vs fun i hi => hv i (List.mem_append_right _ hi), g1.wp vs fun i hi => hv i (List.mem_append_left _ hi)]
def gTu (n : Nat) (ts : List DG) : DG := fun d ρ => match d with
  | .tuple ds => if ds.length = n then gTs ts ds ρ else none
  | _ => none
theorem dg_tup {X : Cx} {z : Bool} {ix : List Nat} {es : List Expr} {ts : List DG} {k n : Nat} {pos : Pos} (hc : X.calm = true) (h : DGsj X z ix es ts)
    (hn : (assignEach es X.env).length = n := by rfl) (hst : (assignEach es X.env).findIdx? (·.1) = none := by rfl) : DGj X z ix (.Tuple es k pos) (gTu n ts) := pg_weak (pg_tup hc h hn hst) fun v σ H Q h => by
  obtain ⟨Hk, ρ, d, ρ', re, hd, e, q⟩ := h
  unfold gTu at e
  split at e
  · rename_i ds
    split at e
    · rename_i hl
      obtain ⟨p, us, rfl, hs, hd⟩ := dpT hd
      exact ⟨p, us, rfl, ex_t re.sub hs, by rw [dpAll_len hd]; exact hl, Hk, ρ, ds, ρ', re, hd, e, q⟩
    · cases e
  · cases e
/-- a, b = e -/
def sAsgT (f : DE) (t : DG) : DS := fun ρ => match f ρ with
  | some (.sh d, ρ1) => (t d ρ1).map .nx
  | _ => none
theorem ds_asgT {X : Cx} {z : Bool} {ix : List Nat} {tg e : Expr} {f : DE} {t : DG} {pos : Pos} (he : DEj X e f) (hg : DGj X z ix tg t) (hs : swapsWithSole [tg] e pos.line X.env = pure false := by rfl) (hw : swappedStores [tg] e X.env = pure none := by rfl)
    (h1 : (assignEach [tg] X.env).map (·.2) = [assign tg X.env] := by rfl) : DSj X z (.Assign [tg] e pos) (sAsgT f t) := ps_weak (ps_asg he hg hs hw h1) fun D σ H h => by
  obtain ⟨Hk, ρ, o, re, e, q⟩ := h
  unfold sAsgT at e
  split at e
  · rename_i d ρ1 hf
    obtain ⟨ρ2, h3, h4⟩ := Option.map_eq_some_iff.mp e
    cases h4
    exact ⟨Hk, ρ, _, _, re, hf, fun Hk' H' v re' st' o' r' f' => ⟨Hk', ρ1, d, ρ2, re', r', h3, fun σ' g => q Hk' H' σ' ((SR.ex re' st' o').trans g.sr)⟩⟩
  · cases e
/-- a, b = x, y: two plain local names -/
def sPar (i j : Nat) (fa : DA) : DS := fun ρ => match fa ρ with
  | some ([w1, w2], ρ1) => if noRf w1 = true ∧ noRf w2 = true then some (.nx ((ρ1.set i (some w1)).set j (some w2))) else none
  | _ => none
theorem RR.put {K : PySem.W.Frag} {Hk H : Hp} {ρ : Env} {σ : L2.St} {w w2 : Val} {v v2 : V} {i : Nat} (r2 : RR K Hk H ρ σ w2 v2) (hw2 : noRf w2 = true) (d : ∀ ds es p, w = .ow ds → w2 = .ow es → v = .ref p → v2 ≠ .ref p) (o : ∀ a, OwnAt (ρ.set i (some w)) (σ.set i (some v)) a → OwnAt ρ σ a ∨ ∃ ds, w = .ow ds ∧ v = .ref a) : RR K Hk H (ρ.set i (some w)) (σ.set i (some v)) w2 v2 := by
  cases w2 with
  | sh d => exact r2
  | ow ds =>
    obtain ⟨p, vs, e, hp, hd, hk, no⟩ := r2
    refine ⟨p, vs, e, hp, hd, hk, fun h => ?_⟩
    rcases o p h with z | ⟨es, e1, e2⟩
    · exact no z
    · exact d es ds p e1 rfl e2 e
  | rf i => cases hw2
  | fx u => exact r2
theorem tDA_cons2 {K : PySem.W.Frag} {fa fb : DE} {σ : L2.St} {H : Hp} {Q : List V → Hp → Prop} (h : tDA K (sCons fa (sCons fb sNil)) σ H Q) : tCons (tD K fa) (tCons (tD K fb) tNil) σ H Q := by
  obtain ⟨Hk, ρ, w, ρ', re, e, q⟩ := tDA_cons h
  refine ⟨Hk, ρ, w, ρ', re, e, fun Hk1 H1 v re1 st1 o1 r1 f1 => ?_⟩
  obtain ⟨Hk', ρ2, w', ρ'', re', e', q'⟩ := tDA_cons (q Hk1 H1 v re1 st1 o1 r1 f1)
  exact ⟨Hk', ρ2, w', ρ'', re', e', fun Hk2 H2 v' re2 st2 o2 r2 f2 => tDA_nil (q' Hk2 H2 v' re2 st2 o2 r2 f2)⟩
theorem ds_par {X : Cx} {z : Bool} {i j : Nat} {x y : Str} {a b : Expr} {fa fb : DE} {px py pt pos : Pos} {kt k2 pt2} (hc : X.calm = true) (hN : X.N.Nodup) (hi : X.N[i]? = some x) (hj : X.N[j]? = some y) (hij : i ≠ j)
    (hx : X.env.scope.names.lookup x = some .local) (hy : X.env.scope.names.lookup y = some .local) (ha : DEj X a fa) (hb : DEj X b fb) (hzi : z = true → i ≠ 0) (hzj : z = true → j ≠ 0)
    (hs1 : starEach [a, b] X.env = (false, eval a X.env) :: starEach [b] X.env := by rfl) (hs2 : starEach [b] X.env = (false, eval b X.env) :: starEach [] X.env := by rfl)
    (hw : swappedStores [.Tuple [.Name x px, .Name y py] kt pt] (.Tuple [a, b] k2 pt2) X.env = pure (some [x, y]) := by rfl)
    (hs : swapsWithSole [.Tuple [.Name x px, .Name y py] kt pt] (.Tuple [a, b] k2 pt2) pos.line X.env = pure false := by rfl) :
    DSj X z (.Assign [.Tuple [.Name x px, .Name y py] kt pt] (.Tuple [a, b] k2 pt2) pos) (sPar i j (sCons fa (sCons fb sNil))) := by
  refine ps_weak (ps_par hc hN hi hj hij hx hy (pa_cons ha (pa_cons hb pa_nil hs2) hs1) hw hs) fun D σ H h => ?_
  obtain ⟨Hk, ρ, o, re, e, q⟩ := h
  unfold sPar at e
  split at e
  · rename_i w1 w2 ρ1 hf
    split at e
    · rename_i hw
      cases e
      have key : tDA X.K (sCons fa (sCons fb sNil)) σ H fun vs H1 => ∃ v w, vs = [v, w] ∧ D.nx ((σ.set i (some v)).set j (some w)) H1 := by
        refine ⟨Hk, ρ, _, _, re, hf, fun Hk' H' vs re' st' o' r' => ?_⟩
        cases r' with
        | cons a1 f1 n1 t1 =>
          cases t1 with
          | cons a2 f2 n2 t2 =>
            cases t2
            refine ⟨_, _, rfl, ?_⟩
            obtain ⟨re2, ow2⟩ := re'.put a1 hw.1 i
            have a3 := a2.put hw.2 (fun ds es p e1 e2 e3 e4 => n1 ds p e1 e3 ⟨0, es, by rw [e2]; rfl, by rw [e4]; rfl⟩) ow2
            obtain ⟨re3, ow3⟩ := re2.put a3 hw.2 j
            refine q Hk' H' _ ⟨re3, st', fun p h => ?_, fun h => (kp_set hzj h).trans (kp_set hzi h)⟩
            rcases ow3 p h with g | ⟨es, e1, e2⟩
            · rcases ow2 p g with g | ⟨es, e1, e2⟩
              · exact .inl (o' p g)
              · subst e1; exact .inr (f1 p e2)
            · subst e1; exact .inr (f2 p e2)
      exact tDA_cons2 key
    · cases e
  · cases e

/-! ### x op= e -/
def sAug (i : Nat) (sem : VS) (f : DE) : DS := fun ρ => match ρ[i]? with
  | some (some (.sh d)) => (f ρ).bind fun p => (sem [.sh d, p.1] p.2).bind fun q => if noRf q.1 = true then some (.nx (q.2.set i (some q.1))) else none
  | _ => none
theorem ds_aug {X : Cx} {z : Bool} {i : Nat} {x : Str} {e : Expr} {f : DE} {sem : VS} {op : Operator} {r : R2} {pos pos' : Pos} (ho : OpR X (inplaceOp op) r) (ok : OpOk X.K (r2L r) sem) (hN : X.N.Nodup) (hi : X.N[i]? = some x) (hx : Loc X.env.scope x) (he : DEj X e f) (hz : z = true → i ≠ 0)
    (hf : X.fn x = true ∨ X.env.scope.names.lookup x = some .local := by first | exact .inl rfl | exact .inr rfl | assumption) : DSj X z (.AugAssign (.Name x pos') op e pos) (sAug i sem f) := by
  have hp : PIp X op r := ho
  refine ps_weak (ps_aug hN hi hx he hp hf) fun D σ H h => ?_
  obtain ⟨Hk, ρ, o, re, e, q⟩ := h
  unfold sAug at e
  split at e
  · rename_i d hd
    obtain ⟨v, h1, h2⟩ := re.slot i _ hd
    cases e1 : f ρ with
    | none => rw [e1] at e; cases e
    | some p =>
      obtain ⟨w1, ρ1⟩ := p
      rw [e1] at e
      simp only [Option.bind_some] at e
      cases e2 : sem [.sh d, w1] ρ1 with
      | none => rw [e2] at e; cases e
      | some p2 =>
        obtain ⟨w2, ρ2⟩ := p2
        rw [e2] at e
        simp only [Option.bind_some] at e
        split at e
        · rename_i hw
          cases e
          refine ⟨v, h1, Hk, ρ, w1, ρ1, re, e1, fun Hk1 H1 v1 re1 st1 o1 r1 f1 => ?_⟩
          have rr : RRs X.K H Hk1 H1 ρ1 σ [.sh d, w1] [v, v1] := .cons (dp_ex st1.ext h2) trivial (fun _ _ z => nomatch z) (.cons r1 f1 (fun _ _ _ _ => fun ⟨_, _, z, _⟩ => by simp at z) .nil)
          obtain ⟨a, b, ee, q3⟩ := ok H σ Hk1 H1 ρ1 _ _ w2 ρ2 re1 rr e2 (fun z H2 => D.nx (σ.set i (some z)) H2) fun Hk2 H2 v2 re2 st2 o2 r2 f2 => by
            obtain ⟨re3, ow3⟩ := re2.put r2 hw i
            refine q Hk2 H2 _ ⟨re3, st1.trans st2 fun p z => ?_, fun p h => ?_, kp_set hz⟩
            · rcases z with z | z
              · exact .inl (o1 p z)
              · exact .inr (rr.tmp z)
            · rcases ow3 p h with g | ⟨ds, e1, e2⟩
              · exact .inl (o1 p (o2 p g))
              · rcases f2 p ⟨ds, e1⟩ e2 with n | n
                · exact .inr (st1.there p n)
                · exact .inr (rr.tmp n)
          cases ee
          exact q3
        · cases e
  · cases e
section
variable {X : Cx} {z : Bool} {i : Nat} {x : Str} {e : Expr} {f : DE} {pos pos' : Pos}
theorem ds_iadd (hN : X.N.Nodup) (hi : X.N[i]? = some x) (hx : Loc X.env.scope x) (he : DEj X e f) (hz : z = true → i ≠ 0) (hf : X.fn x = true ∨ X.env.scope.names.lookup x = some .local := by first | exact .inl rfl | exact .inr rfl | assumption) : DSj X z (.AugAssign (.Name x pos') .Add e pos) (sAug i vAdd f) := ds_aug iop_add (ok_I0 fun _ _ _ => .int _) hN hi hx he hz hf
theorem ds_isub (hN : X.N.Nodup) (hi : X.N[i]? = some x) (hx : Loc X.env.scope x) (he : DEj X e f) (hz : z = true → i ≠ 0) (hf : X.fn x = true ∨ X.env.scope.names.lookup x = some .local := by first | exact .inl rfl | exact .inr rfl | assumption) : DSj X z (.AugAssign (.Name x pos') .Sub e pos) (sAug i vSub f) := ds_aug iop_sub (ok_I0 fun _ _ _ => .int _) hN hi hx he hz hf
theorem ds_imul (hN : X.N.Nodup) (hi : X.N[i]? = some x) (hx : Loc X.env.scope x) (he : DEj X e f) (hz : z = true → i ≠ 0) (hf : X.fn x = true ∨ X.env.scope.names.lookup x = some .local := by first | exact .inl rfl | exact .inr rfl | assumption) : DSj X z (.AugAssign (.Name x pos') .Mult e pos) (sAug i vMul f) := ds_aug iop_mulZ (ok_I2 (fun _ _ _ => .int _) fun _ _ h => h) hN hi hx he hz hf
theorem ds_idiv (hN : X.N.Nodup) (hi : X.N[i]? = some x) (hx : Loc X.env.scope x) (he : DEj X e f) (hz : z = true → i ≠ 0) (hf : X.fn x = true ∨ X.env.scope.names.lookup x = some .local := by first | exact .inl rfl | exact .inr rfl | assumption) : DSj X z (.AugAssign (.Name x pos') .FloorDiv e pos) (sAug i vDiv f) := ds_aug iop_fdivZ (ok_I2 (fun _ _ _ => .int _) fun _ _ h => h) hN hi hx he hz hf
end

/-! ### changing a list of one's own -/
theorem RE.mut {K : PySem.W.Frag} {Hk H : Hp} {ρ : Env} {σ : L2.St} {j : Nat} {p : Addr} {ds es : List PyData} {us : List V} (re : RE K Hk H ρ σ) (hj : ρ[j]? = some (some (.ow ds))) (hp : σ[j]? = some (some (.ref p))) (hd : DpAll K Hk us es) :
    RE K Hk (upd H p (.lst us)) (ρ.set j (some (.ow es))) σ ∧ Stp (OwnAt ρ σ) Hk H Hk (upd H p (.lst us)) ∧ (∀ a, OwnAt (ρ.set j (some (.ow es))) σ a → OwnAt ρ σ a) := by
  obtain ⟨v, h1, q, vs, ev, hq, _, hk⟩ := re.slot j _ hj
  rw [hp] at h1; cases h1
  cases ev
  have ho : OwnAt ρ σ p := ⟨j, ds, hj, hp⟩
  have back : ∀ {k : Nat} {fs}, (ρ.set j (some (.ow es)))[k]? = some (some (.ow fs)) → ∃ gs, ρ[k]? = some (some (.ow gs)) := fun {k fs} h => by
    rcases set_get h with ⟨rfl, _, _⟩ | ⟨_, e⟩
    · exact ⟨ds, hj⟩
    · exact ⟨fs, e⟩
  refine ⟨⟨fun a o e => ?_, by rw [List.length_set]; exact re.len, fun k w h => ?_, fun k l a b x g1 g2 g3 g4 => ?_⟩, ⟨Ex.refl _, fun a o e n => ?_, fun _ h => .inl h, fun a h => ?_⟩, fun a ⟨k, fs, g1, g2⟩ => ?_⟩
  · rw [upd_ne (ne_of_none e hk)]
    exact re.sub a o e
  · rcases set_get h with ⟨rfl, hl, e⟩ | ⟨n, e⟩
    · cases e
      exact ⟨_, hp, p, us, rfl, upd_same, hd, hk⟩
    · obtain ⟨x, g1, g2⟩ := re.slot k w e
      refine ⟨x, g1, ?_⟩
      cases w with
      | ow fs =>
        obtain ⟨y, us', ey, hy, hd', hk'⟩ := g2
        refine ⟨y, us', ey, ?_, hd', hk'⟩
        rw [upd_ne]
        · exact hy
        · intro z
          subst z; subst ey
          exact n (re.sep k j fs ds y e hj g1 hp)
      | _ => exact g2
  · obtain ⟨gs, g1'⟩ := back g1
    obtain ⟨gs', g2'⟩ := back g2
    exact re.sep k l gs gs' x g1' g2' g3 g4
  · rw [upd_ne (fun z => n (by rw [z]; exact ho))]
    exact e
  · by_cases ha : a = p
    · subst ha; rw [upd_same] at h; cases h
    · rw [upd_ne ha] at h; exact h
  · obtain ⟨gs, g1'⟩ := back g1
    exact ⟨k, gs, g1', g2⟩
/-- xs[i] = e -/
def sSetIx (j : Nat) (f g : DE) : DS := fun ρ => match f ρ with
  | some (.sh d, ρ1) => match ρ1[j]? with
    | some (some (.ow _)) => match g ρ1 with
      | some (.sh (.int i), ρ2) => match ρ2[j]? with
        | some (some (.ow ds)) => (ixN ds.length i).map fun k => .nx (ρ2.set j (some (.ow (ds.set k d))))
        | _ => none
      | _ => none
    | _ => none
  | _ => none
theorem ds_setIx {X : Cx} {z : Bool} {j : Nat} {o i e : Expr} {f g : DE} {tpos pos : Pos} (he : DEj X e f) (ho : PE X o (tVar j)) (hi : DEj X i g)
    (ha : ∀ v, assign (.Subscript o i tpos) X.env v = (do
      let ov ← holding [v] (eval o X.env)
      let iv ← holding [v, ov] (eval i X.env)
      standAt tpos
      holding [v, ov, iv] (setItem ov iv v)
      release [v, ov, iv] []) := by intro _; rfl)
    (hs : swapsWithSole [.Subscript o i tpos] e pos.line X.env = pure false := by rfl) (hw : swappedStores [.Subscript o i tpos] e X.env = pure none := by rfl)
    (h1 : (assignEach [.Subscript o i tpos] X.env).map (·.2) = [assign (.Subscript o i tpos) X.env] := by rfl) : DSj X z (.Assign [.Subscript o i tpos] e pos) (sSetIx j f g) := ps_weak (ps_asg he (pg_sub ho hi set_list ha) hs hw h1) fun D σ H h => by
  obtain ⟨Hk, ρ, out, re, e, q⟩ := h
  unfold sSetIx at e
  split at e
  · rename_i d ρ1 hf
    split at e
    · rename_i ds0 hj0
      split at e
      · rename_i k ρ2 hg
        split at e
        · rename_i ds hj
          obtain ⟨n, h3, h4⟩ := Option.map_eq_some_iff.mp e
          cases h4
          refine ⟨Hk, ρ, _, _, re, hf, fun Hk1 H1 v re1 st1 o1 r1 _ => ?_⟩
          obtain ⟨u0, hp0, p, _, ev0, _⟩ := re1.slot j _ hj0
          subst ev0
          refine ⟨.ref p, hp0, Hk1, ρ1, _, _, re1, hg, fun Hk2 H2 iv re2 st2 o2 r2 _ => ?_⟩
          cases rr_int r2
          obtain ⟨u, g1, p', vs, ev, hq, hd, hk⟩ := re2.slot j _ hj
          rw [hp0] at g1; cases g1
          cases ev
          have hd' : DpAll X.K Hk2 (vs.set n v) (ds.set n d) := dpAll_set n hd (dp_ex st2.ext r1)
          obtain ⟨re3, st3, o3⟩ := re2.mut hj hp0 hd'
          refine ⟨p, vs, k, n, rfl, rfl, hq, by rw [dpAll_len hd]; exact h3, ?_⟩
          exact q Hk2 _ σ ((SR.ex re1 st1 o1).trans ((SR.ex re2 st2 o2).trans (SR.ex re3 st3 o3)))
        · cases e
      · cases e
    · cases e
  · cases e
/-- xs[i] op= e -/
def rGetQ (K : PySem.W.Frag) : V → V → Hp → VK → Prop := fun x y H Q => ∃ p xs i v, x = .ref p ∧ y = .int i ∧ SqL K H p xs ∧ atI xs i = some v ∧ Q v H
theorem pget_list {X : Cx} : PGet X (rGetQ X.K) := by
  intro pins s σ H o i ov iv Q I ro ri h
  obtain ⟨p, xs, k, z, rfl, rfl, hq, he, q⟩ := h
  cases ro
  obtain ⟨t, rfl⟩ := ri
  obtain ⟨its, r, pl, hz⟩ := I.list hq
  obtain ⟨j, h1, h2, h3, h4, h5⟩ := atI_get he
  obtain ⟨w, ew, rw'⟩ := r.get h2
  have hl := r.length
  have hn := line63
  by_cases h0 : 0 ≤ k
  · have hj : k.toNat = j := by
      rw [seqIndex_of h0 h5] at h1
      exact Option.some.inj h1
    exact wpAny_getItem_list pl.isList h0 (by omega) (by rw [hj]; simpa using ew) ⟨z, H, I, rw', q⟩
  · have hj : (k + (its.toArray.size : Int)).toNat = j := by
      rw [seqIndex_neg (by omega) h4] at h1
      rw [List.size_toArray, ← hl]
      exact Option.some.inj h1
    exact wpAny_getItem_list_neg pl.isList (by omega) (by rw [List.size_toArray] <;> omega) (by omega) (by rw [hj]; simpa using ew) ⟨z, H, I, rw', q⟩
def sAugIx (j : Nat) (sem : VS) (f g : DE) : DS := fun ρ => match ρ[j]? with
  | some (some (.ow _)) => match g ρ with
    | some (.sh (.int i), ρ1) => match ρ1[j]? with
      | some (some (.ow ds)) => match atI ds i with
        | some d => match f ρ1 with
          | some (w, ρ2) => match sem [.sh d, w] ρ2 with
            | some (.sh d', ρ3) => match ρ3[j]? with
              | some (some (.ow es)) => (ixN es.length i).map fun k => .nx (ρ3.set j (some (.ow (es.set k d'))))
              | _ => none
            | _ => none
          | _ => none
        | _ => none
      | _ => none
    | _ => none
  | _ => none
theorem ds_augIx {X : Cx} {z : Bool} {j : Nat} {o i e : Expr} {f g : DE} {sem : VS} {op : Operator} {r : R2} {tpos pos : Pos} (hop : OpR X (inplaceOp op) r) (ok : OpOk X.K (r2L r) sem) (ho : PE X o (tVar j)) (hi : DEj X i g) (he : DEj X e f)
    (ha : ∀ ov iv new, augStore i ov iv new = (do holding [new, ov, iv] (setItem ov iv new); release [new, ov, iv] []; pure .next) := by intros; rfl) : DSj X z (.AugAssign (.Subscript o i tpos) op e pos) (sAugIx j sem f g) := by
  have hp : PIp X op r := hop
  refine ps_weak (ps_augS ho hi pget_list he hp set_list ha) fun D σ H h => ?_
  obtain ⟨Hk, ρ, out, re, e, q⟩ := h
  unfold sAugIx at e
  split at e
  · rename_i ds0 hj0
    split at e
    · rename_i k ρ1 hg
      split at e
      · rename_i ds hj
        split at e
        · rename_i d had
          split at e
          · rename_i w ρ2 hf
            split at e
            · rename_i d' ρ3 hsm
              split at e
              · rename_i es hj3
                obtain ⟨n, h3, h4⟩ := Option.map_eq_some_iff.mp e
                cases h4
                obtain ⟨u0, hp0, p, _, ev0, _⟩ := re.slot j _ hj0
                subst ev0
                refine ⟨.ref p, hp0, Hk, ρ, _, _, re, hg, fun Hk1 H1 iv re1 st1 o1 r1 _ => ?_⟩
                cases rr_int r1
                obtain ⟨u, g1, p', vs, ev, hq, hd, hk⟩ := re1.slot j _ hj
                rw [hp0] at g1; cases g1
                cases ev
                obtain ⟨x, hx, hxd⟩ := dpAll_at hd had
                refine ⟨p, vs, k, x, rfl, rfl, sq_of hq, hx, ?_⟩
                refine ⟨Hk1, ρ1, w, ρ2, re1, hf, fun Hk2 H2 y re2 st2 o2 r2 f2 => ?_⟩
                have rr : RRs X.K H1 Hk2 H2 ρ2 σ [.sh d, w] [x, y] := .cons (dp_ex st2.ext hxd) trivial (fun _ _ z => nomatch z) (.cons r2 f2 (fun _ _ _ _ => fun ⟨_, _, z, _⟩ => by simp at z) .nil)
                obtain ⟨a, b, ee, q3⟩ := ok H1 σ Hk2 H2 ρ2 _ _ (.sh d') ρ3 re2 rr hsm (fun zv H3 => rSetL (.ref p) (.int k) zv H3 fun H6 => D.nx σ H6) fun Hk3 H3 v3 re3 st3 o3 r3 _ => by
                  obtain ⟨u, g1, p', vs3, ev, hq3, hd3, hk3⟩ := re3.slot j _ hj3
                  rw [hp0] at g1; cases g1
                  cases ev
                  obtain ⟨re4, st4, o4⟩ := re3.mut hj3 hp0 (dpAll_set n hd3 r3)
                  refine ⟨p, vs3, k, n, rfl, rfl, hq3, by rw [dpAll_len hd3]; exact h3, ?_⟩
                  have s3 : SR X.K z Hk1 H1 ρ1 σ Hk3 H3 ρ3 σ := ⟨re3, st2.trans st3 fun p z => by
                    rcases z with z | z
                    · exact .inl (o2 p z)
                    · exact .inr (rr.tmp z), fun a h => .inl (o2 a (o3 a h)), fun _ => rfl⟩
                  exact q Hk3 _ σ ((SR.ex re1 st1 o1).trans (s3.trans (SR.ex re4 st4 o4)))
                cases ee
                exact q3
              · cases e
            · cases e
          · cases e
        · cases e
      · cases e
    · cases e
  · cases e
/-- xs.append(e), xs.extend(..), xs.pop(..) of a list of one's own, as statements and values -/
def sMt (j : Nat) (sem : List PyData → List Val → Option (Val × List PyData)) (fa : DA) : DE := fun ρ => match ρ[j]? with
  | some (some (.ow _)) => match fa ρ with
    | some (ws, ρ1) => match ρ1[j]? with
      | some (some (.ow ds)) => (sem ds ws).map fun p => (p.1, ρ1.set j (some (.ow p.2)))
      | _ => none
    | _ => none
  | _ => none
/-- a method of a list by values: the items, the arguments; what it gives is data -/
def MtOk (K : PySem.W.Frag) (r : V → List V → Hp → VK → Prop) (sem : List PyData → List Val → Option (Val × List PyData)) : Prop :=
  ∀ (H0 Hk H : Hp) (ρ : Env) (σ : L2.St) (p : Addr) (us : List V) (ds : List PyData) (ws : List Val) (vs : List V) (w : Val) (es : List PyData), RE K Hk H ρ σ → H p = some (.lst us) → DpAll K Hk us ds → RRs K H0 Hk H ρ σ ws vs → sem ds ws = some (w, es) →
    ∃ d v us', w = .sh d ∧ Dp K Hk v d ∧ DpAll K Hk us' es ∧ ∀ Q : VK, Q v (upd H p (.lst us')) → r (.ref p) vs H Q
theorem de_mtG {X : Cx} {j : Nat} {e : Expr} {r : V → List V → Hp → VK → Prop} {sem : List PyData → List Val → Option (Val × List PyData)} {fa : DA} (ok : MtOk X.K r sem) (h : PE X e (tBM X.K "list" r (tVar j) (tDA X.K fa))) : DEj X e (sMt j sem fa) := pe_weak h fun σ H Q h => by
  obtain ⟨Hk, ρ, w, ρ', re, e, q⟩ := h
  unfold sMt at e
  split at e
  · rename_i ds0 hj0
    split at e
    · rename_i ws ρ1 hf
      split at e
      · rename_i ds hj
        obtain ⟨⟨w1, es⟩, h3, h4⟩ := Option.map_eq_some_iff.mp e
        cases h4
        obtain ⟨u0, hp0, p, vs0, ev0, hq0, _⟩ := re.slot j _ hj0
        subst ev0
        refine ⟨.ref p, hp0, .inl ⟨rfl, _, sq_of hq0⟩, Hk, ρ, ws, ρ1, re, hf, fun Hk1 H1 vs re1 st1 o1 r1 => ?_⟩
        obtain ⟨u, g1, p', us, ev, hq, hd, hk⟩ := re1.slot j _ hj
        rw [hp0] at g1; cases g1
        cases ev
        obtain ⟨d, v, us', rfl, hv, hd', hr⟩ := ok H Hk1 H1 ρ1 σ p us ds ws vs w1 es re1 hq hd r1 h3
        refine hr Q ?_
        obtain ⟨re2, st2, o2⟩ := re1.mut hj hp0 hd'
        exact q Hk1 _ v re2 (st1.trans st2 fun p z => .inl (o1 p z)) (fun a z => o1 a (o2 a z)) hv trivial
      · cases e
    · cases e
  · cases e
def mAppend : List PyData → List Val → Option (Val × List PyData)
  | ds, [.sh d] => if ds.length < 16000000 then some (.sh .none, ds ++ [d]) else none
  | _, _ => none
def mPopAt : List PyData → List Val → Option (Val × List PyData)
  | ds, [.sh (.int i)] => (ixN ds.length i).bind fun k => (ds[k]?).map fun d => (.sh d, ds.eraseIdx k)
  | _, _ => none
def mPop : List PyData → List Val → Option (Val × List PyData)
  | ds, [] => (ds[ds.length - 1]?).map fun d => (.sh d, ds.dropLast)
  | _, _ => none
theorem sz16l {n : Nat} (h : n < 16000000) : n < sizeLine := Nat.lt_of_lt_of_le h (by decide)
theorem mt_ok_append {K : PySem.W.Frag} : MtOk K rAppend mAppend := by
  intro H0 Hk H ρ σ p us ds ws vs w es re hp hd rr e
  unfold mAppend at e
  split at e
  · rename_i ds d
    split at e
    · rename_i hl
      cases e
      obtain ⟨v, rfl, a⟩ := rrs1 rr
      exact ⟨_, .non, us ++ [v], rfl, .non, dpAll_app hd (.cons a .nil), fun Q q => ⟨p, us, v, rfl, rfl, hp, by rw [dpAll_len hd]; exact sz16l hl, q⟩⟩
    · cases e
  · cases e
theorem dpAll_dropLast {K : PySem.W.Frag} {H : Hp} {ds : List PyData} {vs : List V} (h : DpAll K H vs ds) : DpAll K H vs.dropLast ds.dropLast := by
  rw [List.dropLast_eq_take, List.dropLast_eq_take, dpAll_len h]
  exact dpAll_take _ h
section
variable {X : Cx} {j : Nat} {o e : Expr} {es : List Expr} {fa : DA} {apos cpos : Pos}
theorem de_append (ho : PE X o (tVar j)) (ha : DAj X (e :: es) fa)
    (hbase : attributeBase o "append" X.env (eval o X.env) = eval o X.env := by rfl)
    (hfew : ((backTo cpos (starEach (e :: es) X.env)).all (fun x => !x.1) && (backToKw cpos (keywordEach [] X.env)).all (fun x => x.1.isSome)
      && decide ((e :: es).length + ([] : List Keyword).length + (if ([] : List Keyword).isEmpty then 0 else 1) < 30)) = true := by rfl)
    (hline : (apos.endLine == cpos.line) = true := by rfl) (hs : starEach (e :: es) X.env = (false, eval e X.env) :: starEach es X.env := by rfl) (hplain : (backTo cpos (starEach es X.env)).any (·.1) = false := by rfl) :
    DEj X (.Call (.Attribute o "append" apos) (e :: es) [] cpos) (sMt j mAppend fa) :=
  de_mtG mt_ok_append (pe_bm PySem.F.plainAttrs_list PySem.F.slot_list_append PySem.F.type_list_append mt_append ho ha hbase hfew hline hs hplain)
/-- an expression as a statement -/
def sExp (f : DE) : DS := fun ρ => (f ρ).map fun p => .nx p.2
theorem ds_expr {z : Bool} {f : DE} {pos : Pos} (he : DEj X e f) (hs : swapsWith e none pos.line X.env = pure false := by rfl) : DSj X z (.Expr e pos) (sExp f) := ps_weak (ps_expr he hs) fun D σ H h => by
  obtain ⟨Hk, ρ, o, re, e, q⟩ := h
  obtain ⟨⟨w, ρ1⟩, h3, h4⟩ := Option.map_eq_some_iff.mp (show (f ρ).map _ = some _ from e)
  cases h4
  exact ⟨Hk, ρ, w, ρ1, re, h3, fun Hk1 H1 v re1 st1 o1 _ _ => q Hk1 H1 σ (SR.ex re1 st1 o1)⟩
end
end DL
end

section
set_option Elab.async false
set_option linter.all false
set_option maxRecDepth 100000
set_option maxHeartbeats 4000000
namespace DL
open PySem PySem.Spec PyProof.Rows L2 Evl

/-! ### what is walked -/
/-- an item as it comes: data that stands, or a new tuple -/
def YD (K : PySem.W.Frag) (Hk H : Hp) (x : V) (H' : Hp) (d : PyData) : Prop := (H' = H ∧ Dp K Hk x d) ∨ ∃ T us es, x = .ref T ∧ H T = none ∧ H' = upd H T (.tup us) ∧ DpAll K Hk us es ∧ d = .tuple es
structure WalkD (K : PySem.W.Frag) (J : It) (Hk : Hp) (ds : List PyData) : Prop where
  goes : ∀ (i : Nat) H, i < ds.length → Ex Hk H → J.go i H
  stops : ∀ H, Ex Hk H → J.stop ds.length H
  yields : ∀ (i : Nat) H x H' d, ds[i]? = some d → Ex Hk H → J.yld i H x H' → YD K Hk H x H' d
abbrev DI := Env → Option (List PyData × Env)
def tDI (K : PySem.W.Frag) (f : DI) : TI := fun σ H R => ∃ Hk ρ ds ρ', RE K Hk H ρ σ ∧ f ρ = some (ds, ρ') ∧
  ∀ Hk' H' J, RE K Hk' H' ρ' σ → Stp (OwnAt ρ σ) Hk H Hk' H' → (∀ a, OwnAt ρ' σ a → OwnAt ρ σ a) → WalkD K J Hk' ds → R J H'
def DIj (X : Cx) (tg e : Expr) (f : DI) : Prop := PI X tg e (tDI X.K f)
theorem pi_weak {X : Cx} {tg e : Expr} {t t' : TI} (h : PI X tg e t) (w : ∀ σ H R, t' σ H R → t σ H R) : PI X tg e t' := ⟨fun pins s σ H R I q => h.run pins s σ H R I (w σ H R q)⟩
/-- the items of a list or a tuple, from now on unchanged -/
def sItems (f : DE) : DI := fun ρ => (f ρ).bind fun p => (stab p.1 p.2).bind fun q => match q.1 with
  | .list ds => some (ds, q.2)
  | .tuple ds => some (ds, q.2)
  | _ => none
theorem di_seq {X : Cx} {tg e : Expr} {f : DE} (he : DEj X e f) : DIj X tg e (sItems f) := by
  have h0 := de_stab he
  refine ⟨fun pins s σ H R I h => ?_⟩
  obtain ⟨Hk, ρ, ds, ρ', re, e1, q⟩ := h
  unfold sItems at e1
  cases e2 : f ρ with
  | none => rw [e2] at e1; cases e1
  | some p =>
    obtain ⟨w1, ρ1⟩ := p
    rw [e2] at e1
    simp only [Option.bind_some] at e1
    cases e3 : stab w1 ρ1 with
    | none => rw [e3] at e1; cases e1
    | some p2 =>
      obtain ⟨d, ρ2⟩ := p2
      rw [e3] at e1
      simp only [Option.bind_some] at e1
      have es : sStab f ρ = some (.sh d, ρ2) := by
        unfold sStab
        rw [e2]
        simp only [Option.bind_some]
        rw [e3]
        rfl
      split at e1
      · rename_i ds'
        cases e1
        refine (pi_list h0).run pins s σ H R I ⟨Hk, ρ, _, _, re, es, fun Hk1 H1 v re1 st1 o1 r1 _ => ?_⟩
        obtain ⟨p, us, rfl, hs, hd⟩ := dpL r1
        refine ⟨p, rfl, ⟨us, ex_l re1.sub hs⟩, q Hk1 H1 _ re1 st1 o1 ⟨fun i H hi ex => ?_, fun H ex => ⟨us, ex_l ex hs, by rw [dpAll_len hd]; exact Nat.le_refl _⟩, fun i H x H' d hi ex y => ?_⟩⟩
        · have hi' : i < us.length := by rw [dpAll_len hd]; exact hi
          exact ⟨us, us[i], ex_l ex hs, by simp [hi']⟩
        · obtain ⟨v, h1, h2⟩ := dpAll_get hd hi
          have h3 := y.2 us (ex_l ex hs)
          rw [h1] at h3
          cases h3
          exact .inl ⟨y.1, h2⟩
      · rename_i ds'
        cases e1
        refine (pi_tup h0).run pins s σ H R I ⟨Hk, ρ, _, _, re, es, fun Hk1 H1 v re1 st1 o1 r1 _ => ?_⟩
        obtain ⟨p, us, rfl, hs, hd⟩ := dpT r1
        refine ⟨p, rfl, ⟨us, ex_t re1.sub hs⟩, q Hk1 H1 _ re1 st1 o1 ⟨fun i H hi ex => ?_, fun H ex => ⟨us, ex_t ex hs, by rw [dpAll_len hd]; exact Nat.le_refl _⟩, fun i H x H' d hi ex y => ?_⟩⟩
        · have hi' : i < us.length := by rw [dpAll_len hd]; exact hi
          exact ⟨us, us[i], ex_t ex hs, by simp [hi']⟩
        · obtain ⟨v, h1, h2⟩ := dpAll_get hd hi
          have h3 := y.2 us (ex_t ex hs)
          rw [h1] at h3
          cases h3
          exact .inl ⟨y.1, h2⟩
      · cases e1
/-- ranges -/
def rngD (lo : Int) (n : Nat) : List PyData := (List.range n).map fun i => .int (lo + (i : Nat))
def sRng (fa : DA) : DI := fun ρ => match fa ρ with
  | some ([.sh (.int j)], ρ1) => if -(2 ^ 62) ≤ j ∧ j < 2 ^ 62 then some (rngD 0 j.toNat, ρ1) else none
  | some ([.sh (.int i), .sh (.int j)], ρ1) => if -(2 ^ 62) ≤ i ∧ i < 2 ^ 62 ∧ -(2 ^ 62) ≤ j ∧ j < 2 ^ 62 then some (rngD i (j - i).toNat, ρ1) else none
  | _ => none
theorem walkD_rng {K : PySem.W.Frag} {Hk : Hp} {lo : Int} {n : Nat} : WalkD K (Itr lo n) Hk (rngD lo n) := by
  have ln : (rngD lo n).length = n := by simp [rngD]
  refine ⟨fun i H hi _ => by rw [ln] at hi; exact hi, fun H _ => by rw [ln]; exact Nat.le_refl _, fun i H x H' d hi _ y => ?_⟩
  refine .inl ⟨y.1, ?_⟩
  have hl : i < n := by
    have := (List.getElem?_eq_some_iff.mp hi).1
    rw [ln] at this; exact this
  have e : d = .int (lo + (i : Nat)) := by
    unfold rngD at hi
    rw [List.getElem?_map, List.getElem?_range hl] at hi
    exact (Option.some.inj hi).symm
  rw [e, y.2]
  exact .int _
section
variable {X : Cx} {tg a b : Expr} {f g : DE} {p pos : Pos}
theorem di_rng1 (hg : Gl X "range") (hm : X.mg "range" = none) (ha : DEj X a f) (hs1 : starEach [a] X.env = (false, eval a X.env) :: starEach [] X.env := by rfl) (hs : starEach [a] X.env = [(false, eval a X.env)] := by rfl) : DIj X tg (.Call (.Name "range" p) [a] [] pos) (sRng (sCons f sNil)) :=
  pi_weak (pi_range1 hg hm (da_cons ha da_nil hs1) hs) fun σ H R h => by
    obtain ⟨Hk, ρ, ds, ρ', re, e, q⟩ := h
    have shape : ∀ ws ρ1, sCons f sNil ρ = some (ws, ρ1) → ∃ w, ws = [w] := fun ws ρ1 e => by
      unfold sCons sNil at e
      cases e1 : f ρ with
      | none => rw [e1] at e; cases e
      | some x => rw [e1] at e; simp at e; exact ⟨_, e.1.symm⟩
    unfold sRng at e
    split at e
    · rename_i j ρ1 hf
      split at e
      · rename_i hb
        cases e
        refine ⟨Hk, ρ, _, _, re, hf, fun Hk1 H1 vs re1 st1 o1 r1 => ?_⟩
        obtain ⟨v, rfl, a⟩ := rrs1 r1
        cases rr_int a
        exact ⟨j, rfl, hb.1, hb.2, q Hk1 H1 _ re1 st1 o1 walkD_rng⟩
      · cases e
    · rename_i hf
      obtain ⟨w, hw⟩ := shape _ _ hf
      cases hw
    · cases e
theorem di_rng2 (hg : Gl X "range") (hm : X.mg "range" = none) (ha : DEj X a f) (hb : DEj X b g) (hs1 : starEach [a, b] X.env = (false, eval a X.env) :: starEach [b] X.env := by rfl) (hs2 : starEach [b] X.env = (false, eval b X.env) :: starEach [] X.env := by rfl)
    (hs : starEach [a, b] X.env = [(false, eval a X.env), (false, eval b X.env)] := by rfl) (hs3 : starEach [b] X.env = [(false, eval b X.env)] := by rfl) : DIj X tg (.Call (.Name "range" p) [a, b] [] pos) (sRng (sCons f (sCons g sNil))) :=
  pi_weak (pi_range2 hg hm (da_cons ha (da_cons hb da_nil hs2) hs1) hs hs3) fun σ H R h => by
    obtain ⟨Hk, ρ, ds, ρ', re, e, q⟩ := h
    have shape : ∀ ws ρ1, sCons f (sCons g sNil) ρ = some (ws, ρ1) → ∃ w w2, ws = [w, w2] := fun ws ρ1 e => by
      unfold sCons sNil at e
      cases e1 : f ρ with
      | none => rw [e1] at e; cases e
      | some x =>
        rw [e1] at e
        simp only [Option.bind_some] at e
        cases e2 : g x.2 with
        | none => rw [e2] at e; cases e
        | some y => rw [e2] at e; simp at e; exact ⟨_, _, e.1.symm⟩
    unfold sRng at e
    split at e
    · rename_i hf
      obtain ⟨w, w2, hw⟩ := shape _ _ hf
      cases hw
    · rename_i i j ρ1 hf
      split at e
      · rename_i hb
        cases e
        refine ⟨Hk, ρ, _, _, re, hf, fun Hk1 H1 vs re1 st1 o1 r1 => ?_⟩
        obtain ⟨v, u, rfl, a, b⟩ := rrs2 r1
        cases rr_int a
        cases rr_int b
        exact ⟨i, j, rfl, hb, q Hk1 H1 _ re1 st1 o1 walkD_rng⟩
      · cases e
    · cases e
end
/-- range with a written step of -1 -/
def rngN (hi : Int) (n : Nat) (c : Int) : List PyData := (List.range n).map fun i => .int (hi + (i : Nat) * c)
def sRngN (fa : DA) : DI := fun ρ => match fa ρ with
  | some ([.sh (.int i), .sh (.int j), .sh (.int c)], ρ1) => if c = -1 ∧ -(2 ^ 62) ≤ i ∧ i < 2 ^ 62 ∧ -(2 ^ 62) ≤ j ∧ j < 2 ^ 62 then some (rngN i (i - j).toNat (-1), ρ1) else none
  | _ => none
theorem walkD_rngN {K : PySem.W.Frag} {Hk : Hp} {lo c : Int} {n : Nat} : WalkD K (Itc lo c n) Hk (rngN lo n c) := by
  have ln : (rngN lo n c).length = n := by simp [rngN]
  refine ⟨fun i H hi _ => by rw [ln] at hi; exact hi, fun H _ => by rw [ln]; exact Nat.le_refl _, fun i H x H' d hi _ y => ?_⟩
  refine .inl ⟨y.1, ?_⟩
  have hl : i < n := by
    have := (List.getElem?_eq_some_iff.mp hi).1
    rw [ln] at this; exact this
  have e : d = .int (lo + (i : Nat) * c) := by
    unfold rngN at hi
    rw [List.getElem?_map, List.getElem?_range hl] at hi
    exact (Option.some.inj hi).symm
  rw [e, y.2]
  exact .int _
theorem rrs3 {K : PySem.W.Frag} {H0 Hk H : Hp} {ρ : Env} {σ : L2.St} {x y w : Val} {vs : List V} (h : RRs K H0 Hk H ρ σ [x, y, w] vs) : ∃ u v t, vs = [u, v, t] ∧ RR K Hk H ρ σ x u ∧ RR K Hk H ρ σ y v ∧ RR K Hk H ρ σ w t := by
  cases h with
  | cons a _ _ t =>
    obtain ⟨u, v, rfl, b, c⟩ := rrs2 t
    exact ⟨_, _, _, rfl, a, b, c⟩
theorem di_rng3 {X : Cx} {tg a b c : Expr} {f g h : DE} {p pos : Pos} (hg : Gl X "range") (hm : X.mg "range" = none) (ha : DEj X a f) (hb : DEj X b g) (hc : DEj X c h)
    (hs1 : starEach [a, b, c] X.env = (false, eval a X.env) :: starEach [b, c] X.env := by rfl) (hs2 : starEach [b, c] X.env = (false, eval b X.env) :: starEach [c] X.env := by rfl) (hs3 : starEach [c] X.env = (false, eval c X.env) :: starEach [] X.env := by rfl)
    (hp : ∀ {ta : TA}, PA X [a, b, c] ta → PI X tg (.Call (.Name "range" p) [a, b, c] [] pos) (iRng3 ta)) : DIj X tg (.Call (.Name "range" p) [a, b, c] [] pos) (sRngN (sCons f (sCons g (sCons h sNil)))) :=
  pi_weak (hp (da_cons ha (da_cons hb (da_cons hc da_nil hs3) hs2) hs1)) fun σ H R h => by
    obtain ⟨Hk, ρ, ds, ρ', re, e, q⟩ := h
    unfold sRngN at e
    split at e
    · rename_i i j c ρ1 hf
      split at e
      · rename_i hb
        cases e
        obtain ⟨rfl, b1, b2, b3, b4⟩ := hb
        refine ⟨Hk, ρ, _, _, re, hf, fun Hk1 H1 vs re1 st1 o1 r1 => ?_⟩
        obtain ⟨v, u, t, rfl, a1, a2, a3⟩ := rrs3 r1
        cases rr_int a1
        cases rr_int a2
        cases rr_int a3
        exact ⟨i, j, -1, _, rfl, RgC.neg b1 b2 b3 b4, q Hk1 H1 _ re1 st1 o1 walkD_rngN⟩
      · cases e
    · cases e

/-! ### for -/
def forL (t : DG) (body : DS) : List PyData → Env → Option Out
  | [], ρ => some (.nx ρ)
  | d :: ds, ρ => (t d ρ).bind fun ρ1 => (body ρ1).bind fun o => match o with
    | .nx ρ2 => forL t body ds ρ2
    | .ct ρ2 => forL t body ds ρ2
    | .bk ρ2 => some (.nx ρ2)
    | .rt w ρ2 => some (.rt w ρ2)
def sFor (it : DI) (t : DG) (body : DS) : DS := fun ρ => (it ρ).bind fun p => forL t body p.1 p.2
theorem SR.of_tup {K : PySem.W.Frag} {z : Bool} {Hk H : Hp} {ρ : Env} {σ : L2.St} {T : Addr} {us : List V} (re : RE K Hk H ρ σ) (n : H T = none) : SR K z Hk H ρ σ (upd Hk T (.tup us)) (upd H T (.tup us)) ρ σ := SR.ex (re.kmore n) (stp_kmore n (re.knone n)) fun _ h => h
/-- an item comes: the heap behind, the item as data -/
theorem YD.step {K : PySem.W.Frag} {z : Bool} {Hk0 Hk H H' : Hp} {ρ : Env} {σ : L2.St} {x : V} {d : PyData} (y : YD K Hk0 H x H' d) (e : Ex Hk0 Hk) (re : RE K Hk H ρ σ) : ∃ Hk', SR K z Hk H ρ σ Hk' H' ρ σ ∧ Dp K Hk' x d := by
  rcases y with ⟨rfl, h⟩ | ⟨T, us, es, rfl, n, rfl, h, rfl⟩
  · exact ⟨Hk, SR.refl re, dp_ex e h⟩
  · exact ⟨_, SR.of_tup re n, .tup (st_of upd_same) (dpAll_ex (e.trans (Ex.new (re.knone n))) h)⟩
theorem ds_for {X : Cx} {z : Bool} {ix : List Nat} {tg iter : Expr} {body : List Stmt} {it : DI} {t : DG} {f : DS} {pos : Pos} (hp : PassesOwn (model X.prog X.w) X.A X.env X.xe) (hc : X.calm = true) (hi : DIj X tg iter it) (hg : DGj X z ix tg t) (hb : DBj X z body f)
    (hs : ∀ x, foldedSetIterable iter X.env x = pure x := by intro _; rfl) : DSj X z (.For tg iter body [] pos) (sFor it t f) := ps_weak (ps_for hp hc hi hg hb hs) fun D σ H h => by
  obtain ⟨Hk, ρ, o, re, e, q⟩ := h
  unfold sFor at e
  cases e1 : it ρ with
  | none => rw [e1] at e; cases e
  | some p =>
    obtain ⟨ds, ρ1⟩ := p
    rw [e1] at e
    simp only [Option.bind_some] at e
    refine ⟨Hk, ρ, ds, ρ1, re, e1, fun Hk1 H1 J re1 st1 o1 W => ?_⟩
    have q1 : After X.K z Hk1 H1 ρ1 σ D o := q.trans (SR.ex re1 st1 o1)
    refine ⟨fun i m σ2 H2 => m = ds.length - i ∧ i ≤ ds.length ∧ ∃ Hk2 ρ2, SR X.K z Hk1 H1 ρ1 σ Hk2 H2 ρ2 σ2 ∧ forL t f (ds.drop i) ρ2 = some o, ⟨ds.length, by simp, Nat.zero_le _, Hk1, ρ1, SR.refl re1, by simpa using e⟩, ?_⟩
    rintro i m σ2 H2 ⟨rfl, hi, Hk2, ρ2, s2, e2⟩
    have ex2 : Ex Hk1 H2 := s2.st.ext.trans s2.re.sub
    by_cases hlt : i < ds.length
    · refine .inr ⟨W.goes i H2 hlt ex2, fun σ' H' => ∃ Hk' ρ', SR X.K z Hk1 H1 ρ1 σ Hk' H' ρ' σ' ∧ forL t f (ds.drop (i + 1)) ρ' = some o, fun σ' H' ⟨Hk', ρ', s', e'⟩ => ⟨ds.length - (i + 1), by omega, rfl, hlt, Hk', ρ', s', e'⟩, fun x H' y => ?_⟩
      have hd : ds[i]? = some ds[i] := by simp [hlt]
      obtain ⟨Hk3, s3, hx⟩ := (W.yields i H2 x H' _ hd ex2 y).step (z := z) s2.st.ext s2.re
      rw [List.drop_eq_getElem_cons hlt] at e2
      have e2 : (t ds[i] ρ2).bind (fun ρ1 => (f ρ1).bind fun o => match o with
        | .nx ρ2 => forL t f (ds.drop (i + 1)) ρ2
        | .ct ρ2 => forL t f (ds.drop (i + 1)) ρ2
        | .bk ρ2 => some (.nx ρ2)
        | .rt w ρ2 => some (.rt w ρ2)) = some o := e2
      cases et : t ds[i] ρ2 with
      | none => rw [et] at e2; cases e2
      | some ρ3 =>
        rw [et] at e2
        simp only [Option.bind_some] at e2
        cases eb : f ρ3 with
        | none => rw [eb] at e2; cases e2
        | some ob =>
          rw [eb] at e2
          simp only [Option.bind_some] at e2
          refine ⟨Hk3, ρ2, ds[i], ρ3, s3.re, hx, et, fun σ4 g4 => ⟨Hk3, ρ3, ob, g4.re, eb, ?_⟩⟩
          have s4 := (s2.trans s3).trans g4.sr
          cases ob with
          | nx ρ5 => exact fun Hk5 H5 σ5 s5 => ⟨Hk5, ρ5, s4.trans s5, e2⟩
          | ct ρ5 => exact fun Hk5 H5 σ5 s5 => ⟨Hk5, ρ5, s4.trans s5, e2⟩
          | bk ρ5 => cases e2; exact q1.trans s4
          | rt w ρ5 => cases e2; exact q1.trans s4
    · have ei : i = ds.length := by omega
      subst ei
      rw [List.drop_length] at e2
      cases e2
      exact .inl ⟨W.stops H2 ex2, q1 Hk2 H2 σ2 s2⟩

/-! ### while -/
def whileN (t : DT) (body : DS) : Nat → Env → Option Out
  | 0, _ => none
  | n + 1, ρ => (t ρ).bind fun p => if p.1 = true then (body p.2).bind fun o => match o with
    | .nx ρ2 => whileN t body n ρ2
    | .ct ρ2 => whileN t body n ρ2
    | .bk ρ2 => some (.nx ρ2)
    | .rt w ρ2 => some (.rt w ρ2) else some (.nx p.2)
def sWhile (μ : Env → Nat) (t : DT) (body : DS) : DS := fun ρ => whileN t body (μ ρ) ρ
theorem ds_while {X : Cx} {z : Bool} {c : Expr} {body : List Stmt} {t : DT} {f : DS} {pos : Pos} (μ : Env → Nat) (hp : PassesOwn (model X.prog X.w) X.A X.env X.xe) (hc : DTj X c t) (hb : DBj X z body f) : DSj X z (.While c body [] pos) (sWhile μ t f) := ps_weak (ps_while hp hc hb) fun D σ H h => by
  obtain ⟨Hk, ρ, o, re, e, q⟩ := h
  refine ⟨fun m σ2 H2 => ∃ Hk2 ρ2, SR X.K z Hk H ρ σ Hk2 H2 ρ2 σ2 ∧ whileN t f m ρ2 = some o, ⟨μ ρ, Hk, ρ, SR.refl re, e⟩, ?_⟩
  rintro m σ2 H2 ⟨Hk2, ρ2, s2, e2⟩
  cases m with
  | zero => cases e2
  | succ m =>
    have e2 : (t ρ2).bind (fun p => if p.1 = true then (f p.2).bind fun o => match o with
      | .nx ρ2 => whileN t f m ρ2
      | .ct ρ2 => whileN t f m ρ2
      | .bk ρ2 => some (.nx ρ2)
      | .rt w ρ2 => some (.rt w ρ2) else some (.nx p.2)) = some o := e2
    cases et : t ρ2 with
    | none => rw [et] at e2; cases e2
    | some p =>
      obtain ⟨b, ρ3⟩ := p
      rw [et] at e2
      simp only [Option.bind_some] at e2
      refine ⟨Hk2, ρ2, b, ρ3, s2.re, et, fun Hk3 H3 re3 st3 o3 => ?_⟩
      have s3 := s2.trans (SR.ex re3 st3 o3)
      cases b with
      | false => simp at e2; subst e2; exact iteF (q Hk3 H3 σ2 s3)
      | true =>
        rw [if_pos rfl] at e2
        cases eb : f ρ3 with
        | none => rw [eb] at e2; cases e2
        | some ob =>
          rw [eb] at e2
          simp only [Option.bind_some] at e2
          refine iteT ⟨fun σ' H' => ∃ Hk' ρ', SR X.K z Hk H ρ σ Hk' H' ρ' σ' ∧ whileN t f m ρ' = some o, fun σ' H' h => ⟨m, Nat.lt_succ_self _, h⟩, Hk3, ρ3, ob, re3, eb, ?_⟩
          cases ob with
          | nx ρ5 => exact fun Hk5 H5 σ5 s5 => ⟨Hk5, ρ5, s3.trans s5, e2⟩
          | ct ρ5 => exact fun Hk5 H5 σ5 s5 => ⟨Hk5, ρ5, s3.trans s5, e2⟩
          | bk ρ5 => cases e2; exact q.trans s3
          | rt w ρ5 => cases e2; exact q.trans s3
end DL
end

section
set_option Elab.async false
set_option linter.all false
set_option maxRecDepth 100000
set_option maxHeartbeats 4000000
namespace DL
open PySem PySem.Spec PyProof.Rows L2 Evl

/-! ### list comprehensions -/
def wipeE (ρ : Env) : List Nat → Env
  | [] => ρ
  | v :: vs => (wipeE ρ vs).set v none
def backE (ρ1 ρ2 : Env) : List Nat → Env
  | [] => ρ2
  | v :: vs => (backE ρ1 ρ2 vs).set v (ρ1.getD v none)
theorem wipeE_len (ρ : Env) : ∀ vs, (wipeE ρ vs).length = ρ.length
  | [] => rfl
  | v :: vs => by show ((wipeE ρ vs).set v none).length = _; rw [List.length_set, wipeE_len ρ vs]
theorem backE_len (ρ1 ρ2 : Env) : ∀ vs, (backE ρ1 ρ2 vs).length = ρ2.length
  | [] => rfl
  | v :: vs => by show ((backE ρ1 ρ2 vs).set v _).length = _; rw [List.length_set, backE_len ρ1 ρ2 vs]
theorem wipeE_get {ρ : Env} {j : Nat} {w : Val} : ∀ {vs : List Nat}, (wipeE ρ vs)[j]? = some (some w) → j ∉ vs ∧ ρ[j]? = some (some w)
  | [], h => ⟨by simp, h⟩
  | v :: vs, h => by
    rcases set_get (show ((wipeE ρ vs).set v none)[j]? = _ from h) with ⟨_, _, e⟩ | ⟨n, e⟩
    · cases e
    · obtain ⟨h1, h2⟩ := wipeE_get e
      exact ⟨by simp [n, h1], h2⟩
theorem backE_get {ρ1 ρ2 : Env} {j : Nat} {w : Val} : ∀ {vs : List Nat}, (backE ρ1 ρ2 vs)[j]? = some (some w) → (j ∈ vs ∧ ρ1[j]? = some (some w)) ∨ (j ∉ vs ∧ ρ2[j]? = some (some w))
  | [], h => .inr ⟨by simp, h⟩
  | v :: vs, h => by
    rcases set_get (show ((backE ρ1 ρ2 vs).set v _)[j]? = _ from h) with ⟨e1, _, e⟩ | ⟨n, e⟩
    · subst e1
      refine .inl ⟨by simp, ?_⟩
      rw [List.getD_eq_getElem?_getD] at e
      cases q : ρ1[j]? with
      | none => rw [q] at e; cases e
      | some o => rw [q] at e; simp at e; rw [e]
    · rcases backE_get e with ⟨h1, h2⟩ | ⟨h1, h2⟩
      · exact .inl ⟨by simp [h1], h2⟩
      · exact .inr ⟨by simp [n, h1], h2⟩
theorem wipe_some' {σ : L2.St} {j : Nat} {v : V} {vs : List Nat} (h : j ∉ vs) : (wipe σ vs)[j]? = σ[j]? := by rw [wipe_get, if_neg h]
theorem RE.wiped {K : PySem.W.Frag} {Hk H : Hp} {ρ : Env} {σ : L2.St} (re : RE K Hk H ρ σ) (vs : List Nat) : RE K Hk H (wipeE ρ vs) (wipe σ vs) ∧ ∀ a, OwnAt (wipeE ρ vs) (wipe σ vs) a → ∃ j ds, j ∉ vs ∧ ρ[j]? = some (some (.ow ds)) ∧ σ[j]? = some (some (.ref a)) := by
  have sg : ∀ {j : Nat}, j ∉ vs → (wipe σ vs)[j]? = σ[j]? := fun {j} h => by rw [wipe_get, if_neg h]
  refine ⟨⟨re.sub, by rw [wipeE_len, wipe_length]; exact re.len, fun j w h => ?_, fun j k ds es p h1 h2 h3 h4 => ?_⟩, fun a ⟨j, ds, h1, h2⟩ => ?_⟩
  · obtain ⟨n, e⟩ := wipeE_get h
    rw [sg n]
    exact re.slot j w e
  · obtain ⟨n1, e1⟩ := wipeE_get h1
    obtain ⟨n2, e2⟩ := wipeE_get h2
    rw [sg n1] at h3
    rw [sg n2] at h4
    exact re.sep j k ds es p e1 e2 h3 h4
  · obtain ⟨n, e⟩ := wipeE_get h1
    rw [sg n] at h2
    exact ⟨j, ds, n, e, h2⟩
/-- back in the def: the block's own names are what they were -/
theorem RE.backed {K : PySem.W.Frag} {Hk H Hk' H' : Hp} {ρ1 ρ2 : Env} {σ : L2.St} {vs : List Nat} (re : RE K Hk H ρ1 σ) (re2 : RE K Hk' H' ρ2 (wipe σ vs)) (st : Stp (OwnAt (wipeE ρ1 vs) (wipe σ vs)) Hk H Hk' H')
    (o : ∀ a, OwnAt ρ2 (wipe σ vs) a → OwnAt (wipeE ρ1 vs) (wipe σ vs) a) (ln : ρ2.length = ρ1.length) : RE K Hk' H' (backE ρ1 ρ2 vs) σ ∧ ∀ a, OwnAt (backE ρ1 ρ2 vs) σ a → OwnAt ρ1 σ a := by
  have sg : ∀ {j : Nat}, j ∉ vs → (wipe σ vs)[j]? = σ[j]? := fun {j} h => by rw [wipe_get, if_neg h]
  have wo := (re.wiped vs).2
  -- an address of a hidden slot is not among the open ones
  have hid : ∀ {j : Nat} {ds p}, j ∈ vs → ρ1[j]? = some (some (.ow ds)) → σ[j]? = some (some (.ref p)) → ¬ OwnAt (wipeE ρ1 vs) (wipe σ vs) p := fun {j ds p} hj h1 h2 h => by
    obtain ⟨k, es, n, g1, g2⟩ := wo p h
    have := re.sep j k ds es p h1 g1 h2 g2
    subst this
    exact n hj
  refine ⟨⟨re2.sub, by rw [backE_len, ln]; exact re.len, fun j w h => ?_, fun j k ds es p h1 h2 h3 h4 => ?_⟩, fun a ⟨j, ds, h1, h2⟩ => ?_⟩
  · rcases backE_get h with ⟨hj, e⟩ | ⟨hj, e⟩
    · obtain ⟨v, g1, g2⟩ := re.slot j w e
      refine ⟨v, g1, ?_⟩
      cases w with
      | sh d => exact dp_ex st.ext g2
      | ow ds =>
        obtain ⟨p, us, ev, hp, hd, hk⟩ := g2
        subst ev
        have no := hid hj e g1
        refine ⟨p, us, rfl, st.frame p _ hp no, dpAll_ex st.ext hd, ?_⟩
        cases q : Hk' p with
        | none => rfl
        | some u =>
          rcases st.fresh p (by rw [q]; exact fun z => nomatch z) with z | z | z
          · exact absurd hk z
          · exact absurd z no
          · rw [hp] at z; cases z
      | rf i => exact g2
      | fx u => exact g2
    · obtain ⟨v, g1, g2⟩ := re2.slot j w e
      rw [sg hj] at g1
      exact ⟨v, g1, g2⟩
  · rcases backE_get h1 with ⟨hj, e1⟩ | ⟨hj, e1⟩
    · rcases backE_get h2 with ⟨hk, e2⟩ | ⟨hk, e2⟩
      · exact re.sep j k ds es p e1 e2 h3 h4
      · exact absurd (o p ⟨k, es, e2, by rw [sg hk]; exact h4⟩) (hid hj e1 h3)
    · rcases backE_get h2 with ⟨hk, e2⟩ | ⟨hk, e2⟩
      · exact absurd (o p ⟨j, ds, e1, by rw [sg hj]; exact h3⟩) (hid hk e2 h4)
      · exact re2.sep j k ds es p e1 e2 (by rw [sg hj]; exact h3) (by rw [sg hk]; exact h4)
  · rcases backE_get h1 with ⟨hj, e1⟩ | ⟨hj, e1⟩
    · exact ⟨j, ds, e1, h2⟩
    · obtain ⟨k, es, _, g1, g2⟩ := wo a (o a ⟨j, ds, e1, by rw [sg hj]; exact h2⟩)
      exact ⟨k, es, g1, g2⟩
def lcL (t : DG) (c : DT) (f : DE) (vs : List Nat) : List PyData → List PyData → Env → Option (List PyData × Env)
  | [], acc, ρ => some (acc, ρ)
  | d :: ds, acc, ρ => (t d ρ).bind fun ρ1 => (c ρ1).bind fun p => if p.1 = true then (match f p.2 with
    | some (.sh e, ρ3) => lcL t c f vs ds (acc ++ [e]) (wipeE ρ3 vs)
    | _ => none) else lcL t c f vs ds acc (wipeE p.2 vs)
def sComp (it : DI) (t : DG) (c : DT) (f : DE) (vs : List Nat) : DE := fun ρ => (it ρ).bind fun p => if p.1.length ≤ 16000000 then (lcL t c f vs p.1 [] (wipeE p.2 vs)).map fun q => (.ow q.1, backE p.2 q.2 vs) else none
def sYes : DT := fun ρ => some (true, ρ)
def DTsj (X : Cx) (ifs : List Expr) (c : DT) : Prop := PTs X ifs (tDT X.K c)
theorem pts_weak {X : Cx} {e : List Expr} {t t' : TT} (h : PTs X e t) (w : ∀ σ H Q, t' σ H Q → t σ H Q) : PTs X e t' := ⟨fun pins s σ H Q I q => h.run pins s σ H Q I (w σ H Q q)⟩
theorem dts_nil {X : Cx} : DTsj X [] sYes := pts_weak pts_nil fun σ H Q h => by
  obtain ⟨Hk, ρ, b, ρ', re, e, q⟩ := h
  cases e
  exact q Hk H re Stp.refl fun _ h => h
theorem dts_one {X : Cx} {e : Expr} {c : DT} (h : DTj X e c) : DTsj X [e] c := pts_one h
theorem env_len {K : PySem.W.Frag} {Hk H Hk' H' : Hp} {ρ ρ' : Env} {σ σ' : L2.St} (a : RE K Hk H ρ σ) (b : RE K Hk' H' ρ' σ') (e : σ.length = σ'.length) : ρ.length = ρ'.length := by rw [a.len, b.len, e]
theorem wipe_idem (σ : L2.St) (vs : List Nat) : wipe (wipe σ vs) vs = wipe σ vs := by
  apply List.ext_getElem?
  intro j
  rw [wipe_get, wipe_length]
  by_cases hj : j ∈ vs
  · rw [if_pos hj, wipe_get, if_pos hj]
  · rw [if_neg hj]
theorem RE.grow {K : PySem.W.Frag} {Hk H : Hp} {ρ : Env} {σ : L2.St} {D : Addr} {o : HO} (re : RE K Hk H ρ σ) (hk : Hk D = none) (no : ¬ OwnAt ρ σ D) : RE K Hk (upd H D o) ρ σ := by
  refine ⟨fun a u e => ?_, re.len, fun i w h => ?_, re.sep⟩
  · rw [upd_ne (ne_of_none e hk)]
    exact re.sub a u e
  · obtain ⟨v, h1, h2⟩ := re.slot i w h
    refine ⟨v, h1, ?_⟩
    cases w with
    | ow ds =>
      obtain ⟨q, us, e, hq, hd, hn⟩ := h2
      refine ⟨q, us, e, ?_, hd, hn⟩
      rw [upd_ne]
      · exact hq
      · intro z
        subst z; subst e
        exact no ⟨i, ds, h, h1⟩
    | _ => exact h2
theorem tLc_of {K : PySem.W.Frag} {it : DI} {t : DG} {c : DT} {f : DE} {vs ix : List Nat} (hix : ∀ i ∈ ix, i ∈ vs) {σ : L2.St} {H : Hp} {Q : VK} (h : tD K (sComp it t c f vs) σ H Q) : tLc (tDI K it) (tDG K false ix t) (tDT K c) (tD K f) vs σ H Q := by
  obtain ⟨Hk, ρ, w, ρ', re, e, q⟩ := h
  unfold sComp at e
  cases e1 : it ρ with
  | none => rw [e1] at e; cases e
  | some p =>
    obtain ⟨ds, ρ1⟩ := p
    rw [e1] at e
    simp only [Option.bind_some] at e
    split at e
    · rename_i hlen
      obtain ⟨⟨fin, ρf⟩, h3, h4⟩ := Option.map_eq_some_iff.mp e
      cases h4
      refine ⟨Hk, ρ, ds, ρ1, re, e1, fun Hk1 H1 J re1 st1 o1 W => fun D hD => ?_⟩
      obtain ⟨rw1, ow1⟩ := re1.wiped vs
      have hkD := re1.knone hD
      -- the walk's state
      let Inv' : Nat → Hp → Prop := fun i H2 => ∃ Hk2 ρ2 acc av, RE K Hk2 H2 ρ2 (wipe σ vs) ∧ Stp (OwnAt (wipeE ρ1 vs) (wipe σ vs)) Hk1 H1 Hk2 H2 ∧ (∀ a, OwnAt ρ2 (wipe σ vs) a → OwnAt (wipeE ρ1 vs) (wipe σ vs) a) ∧
        H2 D = some (.lst av) ∧ DpAll K Hk2 av acc ∧ Hk2 D = none ∧ acc.length ≤ i ∧ lcL t c f vs (ds.drop i) acc ρ2 = some (fin, ρf)
      have notD : ∀ {ρ2 : Env} {Hk2 H2 : Hp}, (∀ a, OwnAt ρ2 (wipe σ vs) a → OwnAt (wipeE ρ1 vs) (wipe σ vs) a) → ¬ OwnAt ρ2 (wipe σ vs) D := fun {ρ2 _ _} o h => rw1.own_there (o D h) hD
      refine ⟨fun i m H2 => m = ds.length - i ∧ i ≤ ds.length ∧ Inv' i H2, ⟨ds.length, by simp, Nat.zero_le _, Hk1, wipeE ρ1 vs, [], [], rw1.more hD, stp_more hD, fun _ h => h, upd_same, .nil, hkD, Nat.le_refl _, by simpa using h3⟩, ?_⟩
      rintro i m H2 ⟨rfl, hi, Hk2, ρ2, acc, av, re2, st2, o2, hDv, hda, hk2, hal, e2⟩
      have ex2 : Ex Hk1 H2 := st2.ext.trans re2.sub
      by_cases hlt : i < ds.length
      · refine .inr ⟨W.goes i H2 hlt ex2, fun H' => Inv' (i + 1) H', fun H' h => ⟨ds.length - (i + 1), by omega, rfl, hlt, h⟩, fun x H' y => ?_⟩
        have hd : ds[i]? = some ds[i] := by simp [hlt]
        obtain ⟨Hk3, s3, hx⟩ := (W.yields i H2 x H' _ hd ex2 y).step (z := false) st2.ext re2
        rw [List.drop_eq_getElem_cons hlt] at e2
        have e2 : (t ds[i] ρ2).bind (fun ρ1 => (c ρ1).bind fun p => if p.1 = true then (match f p.2 with
          | some (.sh e, ρ3) => lcL t c f vs (ds.drop (i + 1)) (acc ++ [e]) (wipeE ρ3 vs)
          | _ => none) else lcL t c f vs (ds.drop (i + 1)) acc (wipeE p.2 vs)) = some (fin, ρf) := e2
        cases et : t ds[i] ρ2 with
        | none => rw [et] at e2; cases e2
        | some ρ3 =>
          rw [et] at e2
          simp only [Option.bind_some] at e2
          cases ec : c ρ3 with
          | none => rw [ec] at e2; cases e2
          | some p =>
            obtain ⟨b, ρ4⟩ := p
            rw [ec] at e2
            simp only [Option.bind_some] at e2
            have nD2 : ¬ OwnAt ρ2 (wipe σ vs) D := notD (Hk2 := Hk2) (H2 := H2) o2
            have hD3 : H' D = some (.lst av) := s3.st.frame D _ hDv nD2
            have stay : ∀ {O : Addr → Prop} {Ha Hb Hc Hd : Hp} {av : List V}, Stp O Ha Hb Hc Hd → Hb D = some (.lst av) → Ha D = none → ¬ O D → Hc D = none := fun {O Ha Hb Hc Hd av} s h1 h2 h3 => by
              cases qq : Hc D with
              | none => rfl
              | some u =>
                rcases s.fresh D (by rw [qq]; exact fun z => nomatch z) with z | z | z
                · exact absurd h2 z
                · exact absurd z h3
                · rw [h1] at z; cases z
            have hk3 : Hk3 D = none := stay s3.st hDv hk2 nD2
            refine ⟨Hk3, ρ2, ds[i], ρ3, s3.re, hx, et, fun σ4 g4 => ⟨by rw [g4.wp vs hix]; exact wipe_idem σ vs, ?_⟩⟩
            have nD3 : ¬ OwnAt ρ3 σ4 D := fun h => nD2 (g4.ow D h)
            refine ⟨Hk3, ρ3, b, ρ4, g4.re, ec, fun Hk5 H5 re5 st5 o5 => ?_⟩
            have hD5 : H5 D = some (.lst av) := st5.frame D _ hD3 nD3
            have hk5 : Hk5 D = none := stay st5 hD3 hk3 nD3
            have nD5 : ¬ OwnAt ρ4 σ4 D := fun h => nD3 (o5 D h)
            have st25 : Stp (OwnAt ρ2 (wipe σ vs)) Hk2 H2 Hk5 H5 := s3.st.trans st5 fun a h => .inl (g4.ow a h)
            have ww : wipe σ4 vs = wipe σ vs := by rw [g4.wp vs hix]; exact wipe_idem σ vs
            have wown : ∀ {ρx : Env} {Ha Hb : Hp}, RE K Ha Hb ρx σ4 → (∀ a, OwnAt ρx σ4 a → OwnAt ρ2 (wipe σ vs) a) → RE K Ha Hb (wipeE ρx vs) (wipe σ vs) ∧ ∀ a, OwnAt (wipeE ρx vs) (wipe σ vs) a → OwnAt (wipeE ρ1 vs) (wipe σ vs) a := fun {ρx Ha Hb} rx ox => by
              obtain ⟨r1, w1⟩ := rx.wiped vs
              rw [ww] at r1 w1
              exact ⟨r1, fun a h => o2 a (ox a (by obtain ⟨j, es, _, g1, g2⟩ := w1 a h; exact ⟨j, es, g1, g2⟩))⟩
            cases b with
            | false =>
              refine iteF ?_
              obtain ⟨r6, o6⟩ := wown re5 fun a h => g4.ow a (o5 a h)
              exact ⟨Hk5, _, acc, av, r6, st2.trans st25 fun a h => .inl (o2 a h), o6, hD5, dpAll_ex st25.ext hda, hk5, Nat.le_succ_of_le hal, by simpa using e2⟩
            | true =>
              rw [if_pos rfl] at e2
              refine iteT ?_
              split at e2
              · rename_i e' ρ5 hf
                refine ⟨Hk5, ρ4, _, _, re5, hf, fun Hk6 H6 v re6 st6 o6 r6 _ => ?_⟩
                have hD6 : H6 D = some (.lst av) := st6.frame D _ hD5 nD5
                have hk6 : Hk6 D = none := stay st6 hD5 hk5 nD5
                have st26 : Stp (OwnAt ρ2 (wipe σ vs)) Hk2 H2 Hk6 H6 := st25.trans st6 fun a h => .inl (g4.ow a (o5 a h))
                obtain ⟨r7, o7⟩ := wown re6 fun a h => g4.ow a (o5 a (o6 a h))
                have hda6 := dpAll_ex st26.ext hda
                refine ⟨av, hD6, ?_, Hk6, _, acc ++ [e'], av ++ [v], ?_, ?_, o7, upd_same, dpAll_app hda6 (.cons r6 .nil), hk6, by simp; omega, by simpa using e2⟩
                · rw [dpAll_len hda6]
                  exact sz16l (by omega)
                · -- the list grows: what the slots hold stays
                  have nD7 : ¬ OwnAt (wipeE ρ5 vs) (wipe σ vs) D := notD (Hk2 := Hk2) (H2 := H2) o7
                  exact r7.grow hk6 nD7
                · have sf : Stp (OwnAt (wipeE ρ1 vs) (wipe σ vs)) Hk1 H1 Hk6 H6 := st2.trans st26 fun a h => .inl (o2 a h)
                  exact ⟨sf.ext, fun a o h n => by rw [upd_ne (ne_of_none h hD)]; exact sf.frame a o h n, sf.fresh, fun a h => by
                    by_cases ha : a = D
                    · subst ha; exact hD
                    · rw [upd_ne ha] at h; exact sf.there a h⟩
              · cases e2
      · have ei : i = ds.length := by omega
        subst ei
        rw [List.drop_length] at e2
        cases e2
        obtain ⟨r3, o3⟩ := re1.backed re2 st2 o2 (by rw [re2.len, wipe_length, re1.len])
        refine .inl ⟨W.stops H2 ex2, ?_⟩
        refine q Hk2 H2 (.ref D) r3 (st1.trans st2 fun a h => ?_) (fun a h => o1 a (o3 a h)) ⟨D, av, rfl, hDv, hda, hk2, fun h => ?_⟩ fun p ep => ?_
        · obtain ⟨j, es, _, g1, g2⟩ := ow1 a h
          exact .inl (o1 a ⟨j, es, g1, g2⟩)
        · exact re1.own_there (o3 D h) hD
        · cases ep
          exact st1.there _ hD
    · cases e
end DL
end

section
set_option Elab.async false
set_option linter.all false
set_option maxRecDepth 100000
set_option maxHeartbeats 4000000
namespace DL
open PySem PySem.Spec PyProof.Rows L2 Evl

section
variable {X : Cx}
theorem de_comp {elt tg iter : Expr} {ifs : List Expr} {scope : Scope} {own : List (Str × Nat)} {pos : Pos} {it : DI} {t : DG} {c : DT} {f : DE} {ix : List Nat} (hc : X.calm = true) (hN : X.N.Nodup) (hi : DIj X tg iter it) (ok : BlkOk X.N X.env.scope scope own) (hix : ∀ i ∈ ix, i ∈ own.map (·.2))
    (hg : ∀ (s : Shared) (H : Hp) (C : Addr) (cl : List (Str × Addr)) (fp : List Addr), DGj (X.blk s H scope (compEnvC scope cl C X.env) fp) false ix tg t) (ht : ∀ (s : Shared) (H : Hp) (C : Addr) (cl : List (Str × Addr)) (fp : List Addr), DTsj (X.blk s H scope (compEnvC scope cl C X.env) fp) ifs c)
    (he : ∀ (s : Shared) (H : Hp) (C : Addr) (cl : List (Str × Addr)) (fp : List Addr), DEj (X.blk s H scope (compEnvC scope cl C X.env) fp) elt f) (hs : ∀ x, foldedSetIterable iter X.env x = pure x := by intro _; rfl) :
    DEj X (.ListComp elt [⟨tg, iter, ifs, 0⟩] scope pos) (sComp it t c f (own.map (·.2))) :=
  pe_weak (pe_lc (g := tDG X.K false ix t) (tt := tDT X.K c) (te := tD X.K f) hc hN hi ok hg ht he hs) fun _ _ _ h => tLc_of hix h
/-- y = [.. for ..] -/
theorem ds_setComp {z : Bool} {i : Nat} {y : Str} {py : Pos} {elt tg iter : Expr} {ifs : List Expr} {scope : Scope} {own : List (Str × Nat)} {pos spos : Pos} {it : DI} {t : DG} {c : DT} {f : DE} {ix : List Nat} (hc : X.calm = true) (hN : X.N.Nodup) (hy : X.N[i]? = some y) (hyl : X.env.scope.names.lookup y = some .local) (hz : z = true → i ≠ 0)
    (hsw : swapsWith (.ListComp elt [⟨tg, iter, ifs, 0⟩] scope pos) (some (.Name y py)) spos.line X.env = pure true) (hi : DIj X tg iter it) (ok : BlkOk X.N X.env.scope scope own) (hix : ∀ i ∈ ix, i ∈ own.map (·.2))
    (hg : ∀ (s : Shared) (H : Hp) (C : Addr) (cl : List (Str × Addr)) (fp : List Addr), DGj (X.blk s H scope (compEnvC scope cl C X.env) fp) false ix tg t) (ht : ∀ (s : Shared) (H : Hp) (C : Addr) (cl : List (Str × Addr)) (fp : List Addr), DTsj (X.blk s H scope (compEnvC scope cl C X.env) fp) ifs c)
    (he : ∀ (s : Shared) (H : Hp) (C : Addr) (cl : List (Str × Addr)) (fp : List Addr), DEj (X.blk s H scope (compEnvC scope cl C X.env) fp) elt f) (hs : ∀ x, foldedSetIterable iter X.env x = pure x := by intro _; rfl) :
    DSj X z (.Assign [.Name y py] (.ListComp elt [⟨tg, iter, ifs, 0⟩] scope pos) spos) (sSet i (sComp it t c f (own.map (·.2)))) :=
  ps_weak (ps_setLc (g := tDG X.K false ix t) (tt := tDT X.K c) (te := tD X.K f) hc hN hy hyl hsw hi ok hg ht he hs) fun _ _ _ h => tSet_of hz (fun _ _ _ q => tLc_of hix q) h
end

/-! ### defs: promises that know that no repr is under way -/
structure FnG (P : Program) (w : World) (K : PySem.W.Frag) (mg : Str → Option Value) (base : Heap) (CX : CXT) (k : Nat) (f : Addr) (fd : FuncData) (ps : List Str) (sp : Sp) : Prop where
  many : ∀ vs H Q E, sp vs H Q E → vs.length = ps.length
  goes : ∀ (A : Around) (outer : List PySem.Env) (s : Shared) (H : Hp) (args : Args) (us : List Value) (vs : List V) (Q : VK) (E : XK), Room k A → A.guards = some [] → Env0 P w K mg base A outer s H → BindsTo s fd args (ps.zip us) →
    Vals vs us → sp vs H Q E → codeAny (model P w) A (.call (.ref f) args) (CR CX outer P w H s Q E) s
theorem FnG.of {P : Program} {w : World} {K : PySem.W.Frag} {mg : Str → Option Value} {base : Heap} {CX : CXT} {k : Nat} {f : Addr} {fd : FuncData} {ps : List Str} {sp : Sp} (F : FnOk P w K mg base CX k f fd ps sp) : FnG P w K mg base CX k f fd ps sp :=
  ⟨F.len, fun A outer s H args us vs Q E hr _ e0 hb hv q => F.run A outer s H args us vs Q E hr e0 hb hv q⟩
theorem FnG.mono {P : Program} {w : World} {K : PySem.W.Frag} {mg : Str → Option Value} {base : Heap} {CX : CXT} {j k : Nat} {f : Addr} {fd : FuncData} {ps : List Str} {sp : Sp} (F : FnG P w K mg base CX j f fd ps sp) (h : j ≤ k) : FnG P w K mg base CX k f fd ps sp :=
  ⟨F.many, fun A outer s H args us vs Q E hr g e0 hb hv q => F.goes A outer s H args us vs Q E (hr.mono h) g e0 hb hv q⟩
theorem FnG.imp {P : Program} {w : World} {K : PySem.W.Frag} {mg : Str → Option Value} {base : Heap} {CX : CXT} {k : Nat} {f : Addr} {fd : FuncData} {ps : List Str} {sp sp' : Sp} (F : FnG P w K mg base CX k f fd ps sp) (i : ∀ vs H Q E, sp' vs H Q E → sp vs H Q E) : FnG P w K mg base CX k f fd ps sp' :=
  ⟨fun vs H Q E q => F.many vs H Q E (i _ _ _ _ q), fun A outer s H args us vs Q E hr g e0 hb hv q => F.goes A outer s H args us vs Q E hr g e0 hb hv (i _ _ _ _ q)⟩
/-- the call of such a def by its name -/
theorem pe_callG {X : Cx} {CX : CXT} {k : Nat} {f : Addr} {fd : FuncData} {ps : List Str} {sp : Sp} {E : XK} {x : Str} {p pos : Pos} {e : Expr} {es : List Expr} {t : TA} (F : FnG X.prog X.w X.K X.mg X.base CX k f fd ps sp) (hr : Room k X.A) (hG : X.A.guards = some []) (hg : Gl X x) (hm : X.mg x = some (.ref f)) (hk : PySem.W.keepIn X.K (.ref f) = true)
    (hb : Binds X.K fd ps []) (hx : Passes CX X E) (ha : PA X (e :: es) t) (hdb : (x == ("__debug__" : Str)) = false := by decide) (he : starEach (e :: es) X.env = (false, eval e X.env) :: starEach es X.env := by rfl) (hpl : (backTo pos (starEach es X.env)).any (·.1) = false := by rfl) :
    PE X (.Call (.Name x p) (e :: es) [] pos) (tCall sp [] E t) := by
  constructor
  intro pins s σ H Q I h
  apply wpAny_Call_Name_kw
  apply ld_glob I hg hm _ hdb
  apply PySem.W.callWith_K (h₀ := X.base) I.ok.mod.kin hk _ he hpl
  refine thn (ha.run pos pins s σ H _ I h) ?_
  rintro us s1 ⟨vs, H1, I1, r, q⟩
  refine ⟨I1.kIn, ?_⟩
  rw [List.append_nil] at q
  have n1 : us.length = ps.length := by rw [← r.length]; exact F.many _ _ _ _ q
  have bd := hb s1 us I1.kIn (by rw [List.append_nil]; exact n1)
  rw [List.append_nil] at bd
  refine wpAny_call (codeAny_mono (F.goes X.A X.stack s1 H1 ⟨us, []⟩ us vs Q E hr hG I1.env0 bd r q) ?_)
  intro res s2 hres
  match res, hres with
  | .error er, hres => exact hx pins σ H1 s1 er s2 I1 hres
  | .ok (.ret u), hres => exact I1.after hres
  | .ok .next, hres => exact hres.elim
  | .ok .brk, hres => exact hres.elim
  | .ok .cont, hres => exact hres.elim
/-- a def's promise by its body -/
theorem fnG_of {CX : CXT} {P : Program} {w : World} {K : PySem.W.Frag} {mg : Str → Option Value} {base : Heap} {k : Nat} {x qual : Str} {st : Stmt} {f : Addr} {fd : FuncData} {N ps : List Str} {sp : Sp} (F : Fun K x qual st f fd) (S : FnScope N ps (defScope st))
    (many : ∀ vs H Q E, sp vs H Q E → vs.length = ps.length)
    (body : ∀ (cdv : Value) (A : Around) (outer : List PySem.Env) (s : Shared) (H : Hp) (vs : List V) (Q : VK) (E : XK), Room k (A.deeper (envOfC qual (defScope st) s.heap.objs.size f cdv)) → A.guards = some [] → sp vs H Q E →
      ∃ t, PSs (cxOf CX P w K mg base N qual (defScope st) f cdv A outer s H E) (defBody st) t ∧ t { nx := fun _ H' => Q .non H', rt := Q } (start N vs) H) : FnG P w K mg base CX (k + 1) f fd ps sp := by
  obtain ⟨oc, od, kV, doc, pm, an, cdv, ct, osl, rfl, lk, hcd⟩ := F.ex
  constructor
  · exact many
  intro A outer s H args us vs Q E hr hG e0 hb r hsp
  have l1 := many _ _ _ _ hsp
  have kin := e0.mod.kin.keeps fun b o e => (e0.bs b o e).1
  have nolim := e0.mod.nolimit.keeps fun b o e => (e0.bs b o e).1
  have kinds : ∀ y ∈ ps.zip us, (defScope st).names.lookup y.1 = some .local ∨ ((defScope st).names.lookup y.1 = some .cell ∧ ((cellsFrom (s.heap.objs.size + 1) (defScope st).names []).lookup y.1).isSome = true) := by
    rintro ⟨n, v⟩ hy
    refine (S.par n (List.of_mem_zip hy).1).imp id fun q => ?_
    exact ⟨q, PySem.W.cellsFrom_some _ _ _ (.inl q)⟩
  apply codeAny_call_function hr.depth (kin _ _ lk) rfl S.co S.gen rfl (PySem.W.codeRec_of kin hcd)
  apply hb
  apply wpAny_newFunctionEnv_cells S.kind kinds
  rintro env rfl s1 xx
  refine ⟨nolim.keeps xx.toInCall.keep, codeAny_func ?_⟩
  obtain ⟨t, ht, q⟩ := body cdv A outer s H vs Q E (hr.deeper _) hG hsp
  have I := inv_start (CX := CX) (E := E) (f := f) (cd := cdv) (qual := qual) S hr.hd e0 l1 r xx
  refine wpAny_mono (ht.run [] s1 (start N vs) H _ I q) ?_ fun e s' hs => hs
  intro fl s' hs
  match fl, hs with
  | .ret u, ⟨v, σ', H', J, rv, q⟩ => exact ⟨v, H', J.os, J.bare, J.base, J.hok, rv, q⟩
  | .next, ⟨σ', H', J, q⟩ => exact ⟨.non, H', J.os, J.bare, J.base, J.hok, rfl, q⟩
  | .brk, ⟨_, _, _, q⟩ => exact q.elim
  | .cont, ⟨_, _, _, q⟩ => exact q.elim
/-- nothing is raised: the body in the context that lets nothing out -/
theorem fnG_ok {P : Program} {w : World} {K : PySem.W.Frag} {mg : Str → Option Value} {base : Heap} {k : Nat} {x qual : Str} {st : Stmt} {f : Addr} {fd : FuncData} {N ps : List Str} {sp : Sp} (F : Fun K x qual st f fd) (S : FnScope N ps (defScope st))
    (many : ∀ vs H Q E, sp vs H Q E → vs.length = ps.length)
    (body : ∀ (cdv : Value) (A : Around) (outer : List PySem.Env) (s : Shared) (H : Hp) (vs : List V) (Q : VK) (E : XK), Room k (A.deeper (envOfC qual (defScope st) s.heap.objs.size f cdv)) → A.guards = some [] → sp vs H Q E →
      ∃ t, PSs (cxOf CX0 P w K mg base N qual (defScope st) f cdv A outer s H E).nox (defBody st) t ∧ t { nx := fun _ H' => Q .non H', rt := Q } (start N vs) H) : FnG P w K mg base CX0 (k + 1) f fd ps sp :=
  fnG_of F S many fun cdv A outer s H vs Q E hr hG h => by
    obtain ⟨t, h1, h2⟩ := body cdv A outer s H vs Q E hr hG h
    exact ⟨t, h1.nox, h2⟩

/-! ### promises over data -/
def spD (K : PySem.W.Frag) (F : List PyData → Option PyData) : Sp := fun vs H Q _ => ∃ Hk ds d, Ex Hk H ∧ DpAll K Hk vs ds ∧ F ds = some d ∧ ∀ Hk' H' v, Ex Hk' H' → Stp (fun _ => False) Hk H Hk' H' → Dp K Hk' v d → Q v H'
/-- what is handed back is a new list -/
def spL (K : PySem.W.Frag) (F : List PyData → Option (List PyData)) : Sp := fun vs H Q _ => ∃ Hk ds es, Ex Hk H ∧ DpAll K Hk vs ds ∧ F ds = some es ∧
  ∀ Hk' H' p us, Ex Hk' H' → Stp (fun _ => False) Hk H Hk' H' → H p = none → H' p = some (.lst us) → DpAll K Hk' us es → Hk' p = none → Q (.ref p) H'
theorem RE.call {K : PySem.W.Frag} {Hk H Hk' H' : Hp} {ρ : Env} {σ : L2.St} {O : Addr → Prop} (re : RE K Hk H ρ σ) (ex : Ex Hk' H') (st : Stp O Hk H Hk' H') (hO : ∀ a, OwnAt ρ σ a → ¬ O a) : RE K Hk' H' ρ σ := by
  refine ⟨ex, re.len, fun i w h => ?_, re.sep⟩
  obtain ⟨v, h1, h2⟩ := re.slot i w h
  refine ⟨v, h1, ?_⟩
  cases w with
  | sh d => exact dp_ex st.ext h2
  | ow ds =>
    obtain ⟨p, us, e, hp, hd, hk⟩ := h2
    subst e
    have no := hO p ⟨i, ds, h, h1⟩
    refine ⟨p, us, rfl, st.frame p _ hp no, dpAll_ex st.ext hd, ?_⟩
    cases q : Hk' p with
    | none => rfl
    | some u =>
      rcases st.fresh p (by rw [q]; exact fun z => nomatch z) with z | z | z
      · exact absurd hk z
      · exact absurd z no
      · rw [hp] at z; cases z
  | rf i => exact h2
  | fx u => exact h2
def vCall (F : List PyData → Option PyData) : VS := fun ws ρ => (allSh ws).bind fun ds => (F ds).map fun d => (.sh d, ρ)
def vCallL (F : List PyData → Option (List PyData)) : VS := fun ws ρ => (allSh ws).bind fun ds => (F ds).map fun es => (.ow es, ρ)
def rSp (sp : Sp) (E : XK) : List V → Hp → VK → Prop := fun vs H Q => sp vs H Q E
theorem ok_call {K : PySem.W.Frag} {F : List PyData → Option PyData} {E : XK} : OpOk K (rSp (spD K F) E) (vCall F) := by
  intro H0 σ Hk H ρ ws vs w ρ' re rr e Q q
  unfold vCall at e
  cases e1 : allSh ws with
  | none => rw [e1] at e; cases e
  | some ds =>
    rw [e1] at e
    obtain ⟨d, h1, h2⟩ := Option.map_eq_some_iff.mp (show (F ds).map _ = some _ from e)
    cases h2
    refine ⟨Hk, ds, d, re.sub, allSh_ok rr e1, h1, fun Hk' H' v ex st hd => ?_⟩
    exact q Hk' H' v (re.call ex st fun _ _ z => z) (st.mono fun _ z => z.elim) (fun _ h => h) hd fun p z => by obtain ⟨es, z⟩ := z; cases z
theorem ok_callL {K : PySem.W.Frag} {F : List PyData → Option (List PyData)} {E : XK} : OpOk K (rSp (spL K F) E) (vCallL F) := by
  intro H0 σ Hk H ρ ws vs w ρ' re rr e Q q
  unfold vCallL at e
  cases e1 : allSh ws with
  | none => rw [e1] at e; cases e
  | some ds =>
    rw [e1] at e
    obtain ⟨es, h1, h2⟩ := Option.map_eq_some_iff.mp (show (F ds).map _ = some _ from e)
    cases h2
    refine ⟨Hk, ds, es, re.sub, allSh_ok rr e1, h1, fun Hk' H' p us ex st n hp hd hk => ?_⟩
    exact q Hk' H' (.ref p) (re.call ex st fun _ _ z => z) (st.mono fun _ z => z.elim) (fun _ h => h) ⟨p, us, rfl, hp, hd, hk, fun h => re.own_there h n⟩ fun p' _ z => by cases z; exact .inl n
/-- a def whose first argument is a list that it may change -/
def spB (K : PySem.W.Frag) (F : List PyData → List PyData → Option (PyData × List PyData)) : Sp := fun vs H Q _ => ∃ Hk p us ds vs' es d ds', vs = .ref p :: vs' ∧ Ex Hk H ∧ H p = some (.lst us) ∧ Hk p = none ∧ DpAll K Hk us ds ∧ DpAll K Hk vs' es ∧ F ds es = some (d, ds') ∧
  ∀ Hk' H' v us', Ex Hk' H' → Stp (fun a => a = p) Hk H Hk' H' → H' p = some (.lst us') → DpAll K Hk' us' ds' → Hk' p = none → Dp K Hk' v d → Q v H'
def vCallB (F : List PyData → List PyData → Option (PyData × List PyData)) : VS := fun ws ρ => match ws with
  | .rf i :: rest => match ρ[i]? with
    | some (some (.ow ds)) => (allSh rest).bind fun es => (F ds es).map fun p => (.sh p.1, ρ.set i (some (.ow p.2)))
    | _ => none
  | _ => none
theorem ok_callB {K : PySem.W.Frag} {F : List PyData → List PyData → Option (PyData × List PyData)} {E : XK} : OpOk K (rSp (spB K F) E) (vCallB F) := by
  intro H0 σ Hk H ρ ws vs w ρ' re rr e Q q
  unfold vCallB at e
  split at e
  · rename_i i rest
    split at e
    · rename_i ds hi
      cases e1 : allSh rest with
      | none => rw [e1] at e; cases e
      | some es =>
        rw [e1] at e
        obtain ⟨⟨d, ds'⟩, h1, h2⟩ := Option.map_eq_some_iff.mp (show (F ds es).map _ = some _ from e)
        cases h2
        cases rr with
        | @cons _ v0 _ vs0 a f n t =>
          obtain ⟨u, g1, p, us, ev, hp, hd, hk⟩ := re.slot i _ hi
          have a' : σ[i]? = some (some v0) := a
          rw [g1] at a'
          cases a'
          subst ev
          have ho : OwnAt ρ σ p := ⟨i, ds, hi, g1⟩
          refine ⟨Hk, p, us, ds, vs0, es, d, ds', rfl, re.sub, hp, hk, hd, allSh_ok t e1, h1, fun Hk' H' v us' ex st hp' hd' hk' hv => ?_⟩
          have own : ∀ a, OwnAt (ρ.set i (some (.ow ds'))) σ a → OwnAt ρ σ a := fun a ⟨j, fs, k1, k2⟩ => by
            rcases set_get k1 with ⟨rfl, _, _⟩ | ⟨_, k3⟩
            · exact ⟨j, ds, hi, k2⟩
            · exact ⟨j, fs, k3, k2⟩
          refine q Hk' H' v ⟨ex, by rw [List.length_set]; exact re.len, fun j x h => ?_, fun j k fs gs y k1 k2 k3 k4 => ?_⟩ (st.mono fun a z => .inl (by rw [z]; exact ho)) own hv fun p z => by obtain ⟨es, z⟩ := z; cases z
          · rcases set_get h with ⟨rfl, _, e⟩ | ⟨nj, e⟩
            · cases e
              exact ⟨_, g1, p, us', rfl, hp', hd', hk'⟩
            · obtain ⟨y, l1, l2⟩ := re.slot j x e
              refine ⟨y, l1, ?_⟩
              cases x with
              | sh d => exact dp_ex st.ext l2
              | ow fs =>
                obtain ⟨b, ub, eb, hb, hdb, hkb⟩ := l2
                subst eb
                have nb : b ≠ p := fun z => nj (re.sep j i fs ds p e hi (by rw [← z]; exact l1) g1)
                refine ⟨b, ub, rfl, st.frame b _ hb nb, dpAll_ex st.ext hdb, ?_⟩
                cases qb : Hk' b with
                | none => rfl
                | some u =>
                  rcases st.fresh b (by rw [qb]; exact fun z => nomatch z) with z | z | z
                  · exact absurd hkb z
                  · exact absurd z nb
                  · rw [hb] at z; cases z
              | rf _ => exact l2
              | fx _ => exact l2
          · have back : ∀ {j : Nat} {fs}, (ρ.set i (some (.ow ds')))[j]? = some (some (.ow fs)) → ∃ gs, ρ[j]? = some (some (.ow gs)) := fun {j fs} h => by
              rcases set_get h with ⟨rfl, _, _⟩ | ⟨_, e⟩
              · exact ⟨ds, hi⟩
              · exact ⟨fs, e⟩
            obtain ⟨_, b1⟩ := back k1
            obtain ⟨_, b2⟩ := back k2
            exact re.sep j k _ _ y b1 b2 k3 k4
    · cases e
  · cases e
section
variable {X : Cx} {k : Nat} {f : Addr} {fd : FuncData} {ps : List Str} {x : Str} {p pos : Pos} {e : Expr} {es : List Expr} {fa : DA}
theorem tCall_of {sp : Sp} {E : XK} {sem : VS} (ok : OpOk X.K (rSp sp E) sem) {σ : L2.St} {H : Hp} {Q : VK} (h : tD X.K (sOp sem fa) σ H Q) : tCall sp [] E (tDA X.K fa) σ H Q := by
  have := tD_op ok h
  unfold tCall
  simpa [rSp] using this
theorem de_callG {sp : Sp} {sem : VS} (ok : ∀ E, OpOk X.K (rSp sp E) sem) (F : FnG X.prog X.w X.K X.mg X.base CX0 k f fd ps sp) (hr : Room k X.A) (hG : X.A.guards = some []) (hg : Gl X x) (hm : X.mg x = some (.ref f)) (hk : PySem.W.keepIn X.K (.ref f) = true)
    (hb : Binds X.K fd ps []) (ha : DAj X (e :: es) fa) (hdb : (x == ("__debug__" : Str)) = false := by decide) (he : starEach (e :: es) X.env = (false, eval e X.env) :: starEach es X.env := by rfl) (hpl : (backTo pos (starEach es X.env)).any (·.1) = false := by rfl) :
    DEj X (.Call (.Name x p) (e :: es) [] pos) (sOp sem fa) := pe_weak (pe_callG F hr hG hg hm hk hb pass0 ha hdb he hpl) fun _ _ _ h => tCall_of (ok _) h
theorem de_call {F' : List PyData → Option PyData} (F : FnG X.prog X.w X.K X.mg X.base CX0 k f fd ps (spD X.K F')) (hr : Room k X.A) (hG : X.A.guards = some []) (hg : Gl X x) (hm : X.mg x = some (.ref f)) (hk : PySem.W.keepIn X.K (.ref f) = true)
    (hb : Binds X.K fd ps []) (ha : DAj X (e :: es) fa) (hdb : (x == ("__debug__" : Str)) = false := by decide) (he : starEach (e :: es) X.env = (false, eval e X.env) :: starEach es X.env := by rfl) (hpl : (backTo pos (starEach es X.env)).any (·.1) = false := by rfl) :
    DEj X (.Call (.Name x p) (e :: es) [] pos) (sOp (vCall F') fa) := de_callG (fun _ => ok_call) F hr hG hg hm hk hb ha hdb he hpl
theorem de_callL {F' : List PyData → Option (List PyData)} (F : FnG X.prog X.w X.K X.mg X.base CX0 k f fd ps (spL X.K F')) (hr : Room k X.A) (hG : X.A.guards = some []) (hg : Gl X x) (hm : X.mg x = some (.ref f)) (hk : PySem.W.keepIn X.K (.ref f) = true)
    (hb : Binds X.K fd ps []) (ha : DAj X (e :: es) fa) (hdb : (x == ("__debug__" : Str)) = false := by decide) (he : starEach (e :: es) X.env = (false, eval e X.env) :: starEach es X.env := by rfl) (hpl : (backTo pos (starEach es X.env)).any (·.1) = false := by rfl) :
    DEj X (.Call (.Name x p) (e :: es) [] pos) (sOp (vCallL F') fa) := de_callG (fun _ => ok_callL) F hr hG hg hm hk hb ha hdb he hpl
theorem de_callD {F' : List PyData → List PyData → Option (PyData × List PyData)} (F : FnG X.prog X.w X.K X.mg X.base CX0 k f fd ps (spB X.K F')) (hr : Room k X.A) (hG : X.A.guards = some []) (hg : Gl X x) (hm : X.mg x = some (.ref f)) (hk : PySem.W.keepIn X.K (.ref f) = true)
    (hb : Binds X.K fd ps []) (ha : DAj X (e :: es) fa) (hdb : (x == ("__debug__" : Str)) = false := by decide) (he : starEach (e :: es) X.env = (false, eval e X.env) :: starEach es X.env := by rfl) (hpl : (backTo pos (starEach es X.env)).any (·.1) = false := by rfl) :
    DEj X (.Call (.Name x p) (e :: es) [] pos) (sOp (vCallB F') fa) := de_callG (fun _ => ok_callB) F hr hG hg hm hk hb ha hdb he hpl
end

/-! ### a body's end -/
def startE (n : Nat) (ds : List PyData) : Env := ds.map (fun d => some (.sh d)) ++ List.replicate (n - ds.length) none
theorem start_re {K : PySem.W.Frag} {Hk H : Hp} {N : List Str} {vs : List V} {ds : List PyData} (ex : Ex Hk H) (hd : DpAll K Hk vs ds) : RE K Hk H (startE N.length ds) (start N vs) ∧ ∀ a, ¬ OwnAt (startE N.length ds) (start N vs) a := by
  have ln := dpAll_len hd
  have get : ∀ {i : Nat} {w : Val}, (startE N.length ds)[i]? = some (some w) → ∃ d, ds[i]? = some d ∧ w = .sh d := fun {i w} h => by
    unfold startE at h
    by_cases hi : i < ds.length
    · rw [List.getElem?_append_left (by simpa using hi), List.getElem?_map] at h
      cases q : ds[i]? with
      | none => rw [q] at h; cases h
      | some d => rw [q] at h; cases h; exact ⟨d, rfl, rfl⟩
    · rw [List.getElem?_append_right (by simpa using hi), List.getElem?_replicate] at h
      split at h <;> cases h
  refine ⟨⟨ex, by simp [startE, L2.start, ln], fun i w h => ?_, fun i j a b p h _ _ _ => ?_⟩, fun a ⟨i, es, h, _⟩ => ?_⟩
  · obtain ⟨d, h1, rfl⟩ := get h
    obtain ⟨v, h2, h3⟩ := dpAll_get hd h1
    refine ⟨v, ?_, h3⟩
    unfold L2.start
    have hi : i < vs.length := (List.getElem?_eq_some_iff.mp h2).1
    rw [List.getElem?_append_left (by simpa using hi), List.getElem?_map, h2]
    rfl
  · obtain ⟨d, _, e⟩ := get h
    cases e
  · obtain ⟨d, _, e⟩ := get h
    cases e
/-- what a body hands back is the data d -/
def Gives (o : Option Out) (d : PyData) : Prop := (∃ ρ, o = some (.rt (.sh d) ρ)) ∨ (∃ es ρ, o = some (.rt (.ow es) ρ) ∧ d = .list es) ∨ (∃ ρ, o = some (.nx ρ) ∧ d = .none)
theorem body_D {K : PySem.W.Frag} {F : List PyData → Option PyData} {f : DS} {N : List Str} {vs : List V} {H : Hp} {Q : VK} {E : XK} (h : spD K F vs H Q E) (run : ∀ ds d, F ds = some d → Gives (f (startE N.length ds)) d) :
    tDS K false f { nx := fun _ H' => Q .non H', rt := Q } (start N vs) H := by
  obtain ⟨Hk, ds, d, ex, hd, e, q⟩ := h
  obtain ⟨re, no⟩ := start_re (N := N) ex hd
  have st0 : ∀ {Hk' H'}, Stp (OwnAt (startE N.length ds) (start N vs)) Hk H Hk' H' → Stp (fun _ => False) Hk H Hk' H' := fun s => s.mono fun a z => no a z
  rcases run ds d e with ⟨ρ, er⟩ | ⟨es, ρ, er, rfl⟩ | ⟨ρ, er, rfl⟩
  · exact ⟨Hk, _, _, re, er, fun Hk' H' σ' v s r _ => q Hk' H' v s.re.sub (st0 s.st) r⟩
  · refine ⟨Hk, _, _, re, er, fun Hk' H' σ' v s r fr => ?_⟩
    obtain ⟨p, us, rfl, hp, hd', hk, nop⟩ := r
    have n0 : H p = none := (fr es p rfl rfl).elim id fun z => absurd z (no p)
    have re2 := s.re.frz hp hk nop
    refine q (upd Hk' p (.lst us)) H' (.ref p) re2.sub ((st0 s.st).trans (O' := fun a => a = p) (frz_stp hk rfl) fun a z => .inr (by rw [z]; exact n0)) (.lst (sq_of upd_same) (dpAll_ex (Ex.new hk) hd'))
  · exact ⟨Hk, _, _, re, er, fun Hk' H' σ' s => q Hk' H' .non s.re.sub (st0 s.st) .non⟩
theorem body_L {K : PySem.W.Frag} {F : List PyData → Option (List PyData)} {f : DS} {N : List Str} {vs : List V} {H : Hp} {Q : VK} {E : XK} (h : spL K F vs H Q E) (run : ∀ ds es, F ds = some es → ∃ ρ, f (startE N.length ds) = some (.rt (.ow es) ρ)) :
    tDS K false f { nx := fun _ H' => Q .non H', rt := Q } (start N vs) H := by
  obtain ⟨Hk, ds, es, ex, hd, e, q⟩ := h
  obtain ⟨re, no⟩ := start_re (N := N) ex hd
  obtain ⟨ρ, er⟩ := run ds es e
  refine ⟨Hk, _, _, re, er, fun Hk' H' σ' v s r fr => ?_⟩
  obtain ⟨p, us, rfl, hp, hd', hk, nop⟩ := r
  have n0 : H p = none := (fr es p rfl rfl).elim id fun z => absurd z (no p)
  exact q Hk' H' p us s.re.sub (s.st.mono fun a z => no a z) n0 hp hd' hk
def startB (n : Nat) (ds : List PyData) (es : List PyData) : Env := some (.ow ds) :: startE (n - 1) es
theorem body_B {K : PySem.W.Frag} {F : List PyData → List PyData → Option (PyData × List PyData)} {f : DS} {x : Str} {N : List Str} {vs : List V} {H : Hp} {Q : VK} {E : XK} (h : spB K F vs H Q E)
    (run : ∀ ds es d ds', F ds es = some (d, ds') → ∃ ρ w, f (startB (x :: N).length ds es) = some (.rt w ρ) ∧ ρ[0]? = some (some (.ow ds')) ∧ (w = .sh d ∨ ∃ fs, w = .ow fs ∧ d = .list fs)) :
    tDS K true f { nx := fun _ H' => Q .non H', rt := Q } (start (x :: N) vs) H := by
  obtain ⟨Hk, p, us, ds, vs', es, d, ds', rfl, ex, hp, hk, hd, hd2, e, q⟩ := h
  obtain ⟨re, no⟩ := start_re (N := N) ex hd2
  obtain ⟨ρ, w, er, e0, hw⟩ := run ds es d ds' e
  have eσ : start (x :: N) (.ref p :: vs') = some (.ref p) :: start N vs' := by
    unfold L2.start
    simp
  have own0 : ∀ a, OwnAt (startB (x :: N).length ds es) (start (x :: N) (.ref p :: vs')) a → a = p := fun a ⟨i, fs, h1, h2⟩ => by
    rw [eσ] at h2
    cases i with
    | zero => simp at h2; exact h2.symm
    | succ i => exact absurd ⟨i, fs, by simpa [startB] using h1, by simpa using h2⟩ (no a)
  have re0 : RE K Hk H (startB (x :: N).length ds es) (start (x :: N) (.ref p :: vs')) := by
    rw [eσ]
    refine ⟨ex, by simpa [startB] using re.len, fun i w h => ?_, fun i j a b y h1 h2 h3 h4 => ?_⟩
    · cases i with
      | zero => simp [startB] at h; subst h; exact ⟨_, rfl, p, us, rfl, hp, hd, hk⟩
      | succ i =>
        obtain ⟨v, g1, g2⟩ := re.slot i w (by simpa [startB] using h)
        exact ⟨v, by simpa using g1, g2⟩
    · have z : ∀ {i : Nat} {a}, (startB (x :: N).length ds es)[i]? = some (some (.ow a)) → i = 0 := fun {i a} h => by
        cases i with
        | zero => rfl
        | succ i =>
          have h' : (startE N.length es)[i]? = some (some (.ow a)) := by simpa [startB] using h
          obtain ⟨v, g1, y, uy, ey, _⟩ := re.slot i _ h'
          subst ey
          exact absurd ⟨i, a, h', g1⟩ (no y)
      rw [z h1, z h2]
  refine ⟨Hk, _, _, re0, er, fun Hk' H' σ' v s r fr => ?_⟩
  have hs0 : σ'[0]? = some (some (.ref p)) := by rw [s.kp rfl, eσ]; rfl
  obtain ⟨u, g1, p', us', ev, hp', hd', hk'⟩ := s.re.slot 0 _ e0
  rw [hs0] at g1; cases g1
  cases ev
  rcases hw with rfl | ⟨fs, rfl, rfl⟩
  · exact q Hk' H' v us' s.re.sub (s.st.mono own0) hp' hd' hk' r
  · obtain ⟨y, uy, rfl, hy, hdy, hky, noy⟩ := r
    have ne : y ≠ p := fun z => noy (by rw [z]; exact ⟨0, ds', e0, hs0⟩)
    have n0 : H y = none := (fr fs y rfl rfl).elim id fun z => absurd (own0 y z) ne
    have re2 := s.re.frz hy hky noy
    exact q (upd Hk' y (.lst uy)) H' (.ref y) us' re2.sub ((s.st.mono own0).trans (O' := fun a => a = y) (frz_stp hky rfl) fun a z => .inr (by rw [z]; exact n0)) hp' (dpAll_ex (Ex.new hky) hd') (by rw [upd_ne (Ne.symm ne)]; exact hk') (.lst (sq_of upd_same) (dpAll_ex (Ex.new hky) hdy))
end DL
end

section
set_option Elab.async false
set_option linter.all false
set_option maxRecDepth 100000
set_option maxHeartbeats 4000000
namespace DL
open PySem PySem.Spec PyProof.Rows L2 Evl

/-! ### repr -/
def rReprQ (K : PySem.W.Frag) : List V → Hp → VK → Prop := fun xs H Q => ∃ (x : V) (d : PyData), xs = [x] ∧ Dp K H x d ∧ (∃ a, x = .ref a) ∧ d.showable = true ∧ d.hasDict = false ∧ d.depth ≤ 64 ∧ d.shown.length ≤ sizeLine ∧ Q (.str d.shown) H
theorem call_reprQ {X : Cx} (hG : X.A.guards = some []) (hu : X.A.units + 65 < cLine) : CallR X (.builtin "repr") (rReprQ X.K) := by
  rintro pins s σ H xs us Q I r ⟨x, d, rfl, hd, ⟨a, rfl⟩, h1, h2, h3, h4, q⟩
  obtain ⟨u, rfl, ru⟩ := vals1 r
  obtain ⟨as, rds⟩ := Dp.reads I d _ u hd ru
  cases ru
  refine repr_of_reads' rds h1 (fun e => by rw [h2] at e; cases e) hG (by omega) (fun _ _ e => e) (fun h' t tk kp => ?_) h4
  exact ⟨.str d.shown, H, I.kept kp, ⟨t, rfl⟩, q⟩
def okShow (d : PyData) : Bool := (d.showable && !d.hasDict) && (decide (d.depth ≤ 64) && (d.leavesShort 100 && decide (102 * d.bulk + 100 ≤ 16000000)))
def isSeq : PyData → Bool
  | .list _ => true
  | .tuple _ => true
  | _ => false
def vRepr : VS
  | [x], ρ => (datOf x ρ).bind fun d => if okShow d = true ∧ isSeq d = true then some (.sh (.str d.shown), ρ) else none
  | _, _ => none
theorem okShow_spec {d : PyData} (h : okShow d = true) : d.showable = true ∧ d.hasDict = false ∧ d.depth ≤ 64 ∧ d.shown.length ≤ sizeLine := by
  unfold okShow at h
  simp only [Bool.and_eq_true, Bool.not_eq_true', decide_eq_true_eq] at h
  obtain ⟨⟨h1, h2⟩, h3, h4, h5⟩ := h
  refine ⟨h1, h2, h3, Nat.le_trans (PyData.shown_le_bulk 100 (by decide) d h4) (sz16 (by omega))⟩
theorem ok_repr {K : PySem.W.Frag} : OpOk K (rReprQ K) vRepr := ok_pure fun H0 σ Hk H ρ ws vs w ρ' re rr eq => by
  unfold vRepr at eq
  split at eq
  · rename_i x
    obtain ⟨u, rfl, a⟩ := rrs1 rr
    cases hx : datOf x ρ with
    | none => rw [hx] at eq; cases eq
    | some d =>
      rw [hx] at eq
      simp only [Option.bind_some] at eq
      split at eq
      · rename_i c
        cases eq
        have hd := datOf_ok re a hx
        obtain ⟨h1, h2, h3, h4⟩ := okShow_spec c.1
        refine ⟨_, .str d.shown, rfl, rfl, .str _, fun Q q => ⟨u, d, rfl, hd, ?_, h1, h2, h3, h4, q⟩⟩
        cases hd with
        | lst _ _ => exact ⟨_, rfl⟩
        | tup _ _ => exact ⟨_, rfl⟩
        | non => cases c.2
        | bl _ => cases c.2
        | int _ => cases c.2
        | str _ => cases c.2
      · cases eq
  · cases eq
theorem de_repr {X : Cx} {e : Expr} {es : List Expr} {fa : DA} {p pos : Pos} (hG : X.A.guards = some []) (hu : X.A.units + 65 < cLine) (hg : Gl X "repr") (hm : X.mg "repr" = none) (ha : DAj X (e :: es) fa)
    (he : starEach (e :: es) X.env = (false, eval e X.env) :: starEach es X.env := by rfl) (hpl : (backTo pos (starEach es X.env)).any (·.1) = false := by rfl) : DEj X (.Call (.Name "repr" p) (e :: es) [] pos) (sOp vRepr fa) :=
  de_callB (call_reprQ hG hu) ok_repr hg hm (by decide +kernel) ha (by decide) (by decide) he hpl

/-! ### == and != of texts -/
def vEqS (neg : Bool) : VS
  | [.sh (.str a), .sh (.str b)], ρ => some (.sh (.bool (if neg then !decide (a = b) else decide (a = b))), ρ)
  | _, _ => none
theorem rr_str {K : PySem.W.Frag} {Hk H : Hp} {ρ : Env} {σ : L2.St} {x : Str} {v : V} (h : RR K Hk H ρ σ (.sh (.str x)) v) : v = .str x := by
  have h' : Dp K Hk v (.str x) := h
  cases h'
  rfl
theorem decV {a b : Str} : decide (V.str a = V.str b) = decide (a = b) := by
  by_cases e : a = b
  · subst e; simp
  · rw [decide_eq_false e, decide_eq_false (fun z => e (V.str.inj z))]
theorem ok_eqS {K : PySem.W.Frag} : OpOk K (r2L rEq) (vEqS false) := ok_pure fun H0 σ Hk H ρ ws vs w ρ' re rr eq => by
  unfold vEqS at eq
  split at eq
  · cases eq
    obtain ⟨u, v, rfl, a, b⟩ := rrs2 rr
    cases rr_str a
    cases rr_str b
    exact ⟨_, _, rfl, rfl, .bl _, fun Q q => ⟨_, _, rfl, rfl, by rw [decV]; exact q⟩⟩
  · cases eq
theorem ok_neS {K : PySem.W.Frag} : OpOk K (r2L rNe) (vEqS true) := ok_pure fun H0 σ Hk H ρ ws vs w ρ' re rr eq => by
  unfold vEqS at eq
  split at eq
  · cases eq
    obtain ⟨u, v, rfl, a, b⟩ := rrs2 rr
    cases rr_str a
    cases rr_str b
    exact ⟨_, _, rfl, rfl, .bl _, fun Q q => ⟨_, _, rfl, rfl, by rw [decV]; exact q⟩⟩
  · cases eq
section
variable {X : Cx} {a b : Expr} {f g : DE} {pos : Pos}
theorem de_eqS (ha : DEj X a f) (hb : DEj X b g) : DEj X (.Compare a [.Eq] [b] pos) (sOp (vEqS false) (sCons f (sCons g sNil))) := de_cmp op_eq ok_eqS ha hb (nomark _)
theorem dt_eqS (ha : DEj X a f) (hb : DEj X b g) : DTj X (.Compare a [.Eq] [b] pos) (sTst (sOp (vEqS false) (sCons f (sCons g sNil)))) := dt_cmp op_eq ok_eqS ha hb (nomark _)
theorem dt_neS (ha : DEj X a f) (hb : DEj X b g) : DTj X (.Compare a [.NotEq] [b] pos) (sTst (sOp (vEqS true) (sCons f (sCons g sNil)))) := dt_cmp op_ne ok_neS ha hb (nomark _)
end

/-! ### the law's own call, with such a promise -/
theorem only_one {o : Obj} {xs : List V} {a : Addr} : Only (fun b => if b = a then some (.frz o (.lst xs)) else none) := fun b => by
  by_cases e : b = a
  · exact .inr ⟨o, xs, by simp [e]⟩
  · exact .inl (by simp [e])
section
variable {P : Program} {w : World} {K : PySem.W.Frag} {mg mb : Str → Option Value} {CX : CXT} {k : Nat} {fa a : Addr} {fd : FuncData} {x : Str} {sp : Sp} {s₁ : Shared} {vs : List Value} {ns : List Int}
/-- from a heap in which at most the script is known -/
theorem law_from (KX : K.In s₁.heap) (h1 : s₁.heap.Ns mainGlobals mg) (h2 : s₁.heap.Ns builtinsNs mb) (h3 : ∀ x : Str, x ≠ "__name__" → mb x = bootBuiltins x) (h4 : s₁.heap.NoLimit) (h5 : s₁.gens = #[])
    (h6 : s₁.heap.get? a = some { cls := .type "list", data := .seq vs.toArray }) (hr : Room k callerA) (F : ∀ base : Heap, K.In base → base.Ns mainGlobals mg → FnG P w K mg base CX k fa fd [x] sp)
    (hbind : ∀ (s : Shared) (u : Value), BindsTo s fd ⟨[u], []⟩ [(x, u)]) (hCX : ∀ H e s', CX [] H s₁ (fun _ _ _ => False) e s' → False)
    (H : Hp) (hO : Only H) (ok : HOk P w H s₁.heap) (hA : ∀ b, H b ≠ none → b = a) (hK : H a ≠ none → K.lookup a = none) (hs : sp [.ref a] H (fun v _ => v = .bl true) fun _ _ _ => False) :
    codeAny (model P w) callerA (.call (.ref fa) ⟨[.ref a], []⟩) (fun r s' => r = .ok (.ret (.bool true)) ∧ OldK s₁.heap s'.heap ∧ s'.os = s₁.os ∧ AllBare s'.gens) s₁ := by
  have none_of : ∀ {b : Addr}, b ≠ a → H b = none := fun {b} nb => Classical.byContradiction fun z => nb (hA b z)
  have dict_free : ∀ {b : Addr} {o : Obj} {es : Array DictEntry} {ep : Nat}, s₁.heap.get? b = some o → o.data = .dict es ep → H b = none := fun {b o es ep} e d => by
    refine none_of fun z => ?_
    rw [z, h6] at e
    cases Option.some.inj e
    exact nomatch (show Data.seq vs.toArray _ = Data.dict es ep from d)
  have ns_hid : ∀ {b : Addr} {m : Str → Option Value}, s₁.heap.Ns b m → (hidT s₁.heap H).Ns b m := by
    rintro b m ⟨o, es, ep, e, d, r⟩
    exact ⟨o, es, ep, hidT_get e (dict_free e d), d, r⟩
  have kin : K.In (hidT s₁.heap H) := fun b o e => by
    refine hidT_get (KX b o e) ?_
    by_cases nb : b = a
    · subst nb
      refine Classical.byContradiction fun z => ?_
      rw [hK z] at e
      cases e
    · exact none_of nb
  obtain ⟨mc, l1, l2⟩ := h4
  have md : Mod K mg (hidT s₁.heap H) := ⟨kin, ns_hid h1, ⟨mb, ns_hid h2, h3⟩, mc, ns_hid l1, l2⟩
  have env0 : Env0 P w K mg (hidT s₁.heap H) callerA [] s₁ H := ⟨rfl, md, fun b o e => of_hidT e, Nat.le_of_eq (hidT_size _ _), trivial, (fun b hb => absurd hb (by simp [frs])), ok, .of_eq h5⟩
  refine codeAny_mono ((F _ kin (ns_hid h1)).goes callerA [] s₁ H ⟨[.ref a], []⟩ [.ref a] [.ref a] _ _ hr rfl env0 (hbind s₁ (.ref a)) (.cons rfl .nil) hs) ?_
  intro res s2 hres
  match res, hres with
  | .error er, hres => exact (hCX H er s2 hres).elim
  | .ok .next, hres => exact hres.elim
  | .ok .brk, hres => exact hres.elim
  | .ok .cont, hres => exact hres.elim
  | .ok (.ret u), ⟨v, H2, os, bare, un, ok2, rv, q⟩ =>
    cases (show v = .bl true from q)
    cases (show u = Value.bool true from rv)
    refine ⟨rfl, OldK.of_keep fun b o e => ?_, os, bare⟩
    cases hb : H b with
    | none => exact un.keep b o e hb (by simp [frs]) (by simp)
    | some u =>
      rcases hO b with z | ⟨ob, xs, z⟩
      · rw [hb] at z; cases z
      · have z2 := un.frzs b ob _ z
        have e1 := (ok b _ z).1
        rw [e] at e1
        cases e1
        exact (ok2 b _ z2).1
theorem law_callG (KX : K.In s₁.heap) (h1 : s₁.heap.Ns mainGlobals mg) (h2 : s₁.heap.Ns builtinsNs mb) (h3 : ∀ x : Str, x ≠ "__name__" → mb x = bootBuiltins x) (h4 : s₁.heap.NoLimit) (h5 : s₁.gens = #[])
    (h6 : s₁.heap.get? a = some { cls := .type "list", data := .seq vs.toArray }) (hi : IntsAre vs ns) (hl : ns.length ≤ sizeLine) (hr : Room k callerA) (F : ∀ base : Heap, K.In base → base.Ns mainGlobals mg → FnG P w K mg base CX k fa fd [x] sp)
    (hbind : ∀ (s : Shared) (u : Value), BindsTo s fd ⟨[u], []⟩ [(x, u)]) (hsp : ∀ H : Hp, Only H → SqL K H a (ns.map V.int) → sp [.ref a] H (fun v _ => v = .bl true) fun _ _ _ => False) (hCX : ∀ H e s', CX [] H s₁ (fun _ _ _ => False) e s' → False) :
    codeAny (model P w) callerA (.call (.ref fa) ⟨[.ref a], []⟩) (fun r s' => r = .ok (.ret (.bool true)) ∧ OldK s₁.heap s'.heap ∧ s'.os = s₁.os ∧ AllBare s'.gens) s₁ := by
  have rv := vals_ints hi
  have n1 := hi.length
  have go := law_from KX h1 h2 h3 h4 h5 h6 hr F hbind hCX
  cases hk : K.lookup a with
  | some o =>
    have e := KX a o hk
    rw [h6] at e
    cases Option.some.inj e
    refine go (fun _ => none) (fun _ => .inl rfl) (fun b u z => by cases z) (fun b z => absurd rfl z) (fun z => absurd rfl z) (hsp _ (fun _ => .inl rfl) (.inr ⟨_, vs.toArray, _, hk, rfl, rfl, rfl, ?_, ?_⟩))
    · rw [List.size_toArray, n1]; exact hl
    · simpa using rv
  | none =>
    refine go (fun b => if b = a then some (.frz { cls := .type "list", data := .seq vs.toArray } (.lst (ns.map V.int))) else none) only_one (fun b u z => ?_) (fun b z => ?_) (fun _ => hk) (hsp _ only_one (.inl (.inr ⟨_, if_pos rfl⟩)))
    · by_cases nb : b = a
      · subst nb
        have z := (if_pos rfl).symm.trans z
        cases Option.some.inj z
        exact ⟨h6, by rw [List.length_map]; exact hl, vs, _, rv, h6⟩
      · have z := (if_neg nb).symm.trans z
        cases z
    · exact Classical.byContradiction fun nb => z (if_neg nb)
end
theorem walk_ofG {l : PySem.W.OpenLaw} {n k : Nat} {q : Program} {loose : List Str} {XP : (Str → Option Value) → Heap → Prop} {YP : World → Heap → Prop} {d : DefRec} {K : Params → PySem.W.Frag} {sp : PySem.W.Frag → Sp} {x : Str}
    (h1 : l.most = some n) (h2 : n ≤ sizeLine) (h3 : d.params.defaults = []) (hr : Room k callerA) (hY : ∀ (w : World) (h : Heap), YP w h → (K w.params).In h)
    (F : ∀ (w : World) (mg : Str → Option Value) (fa : Addr) (h : Heap), (K w.params).In h → h.Ns mainGlobals mg → mg d.name = some (.ref fa) → ∃ fd : FuncData, (∀ (s : Shared) (u : Value), BindsTo s fd ⟨[u], []⟩ [(x, u)]) ∧
      ∀ base : Heap, (K w.params).In base → base.Ns mainGlobals mg → FnG l.prog w (K w.params) mg base CX0 k fa fd [x] (sp (K w.params)))
    (hsp : ∀ (K : PySem.W.Frag) (H : Hp) (a : Addr) (ns : List Int), ns.length ≤ n → Only H → SqL K H a (ns.map V.int) → sp K [.ref a] H (fun v _ => v = .bl true) fun _ _ _ => False) :
    PySem.W.WalkO q loose XP YP l.row.toRowW d [] (fun f vs => PySem.call f vs) := by
  apply Att.attach_call h1 h3
  intro w s₀ s₁ mg mb fa o pm cd doc a vs ns G Y ho hd hcd hmg hobj hints hlen hg
  have kin := hY w _ Y
  obtain ⟨fd, hb, hF⟩ := F w mg fa _ kin G.T.g hmg
  exact law_callG kin G.T.g G.T.b G.T.builtins G.T.nolimit hg hobj hints (Nat.le_trans hlen h2) hr hF hb (fun H hO hS => hsp _ H a ns hlen hO hS) fun _ _ _ z => z
end DL
end

section
set_option Elab.async false
set_option linter.all false
set_option maxRecDepth 100000
set_option maxHeartbeats 4000000
namespace DL
open PySem PySem.Spec PyProof.Rows L2 Evl

/-! ### enumerate, zip -/
def sEnum (f : DE) : DI := fun ρ => (f ρ).bind fun p => (stab p.1 p.2).bind fun q => match q.1 with
  | .list ds => some ((List.range ds.length).map fun i => .tuple [.int (i : Nat), ds.getD i .none], q.2)
  | _ => none
theorem getD_get {ds : List PyData} {i : Nat} {d : PyData} (h : ds[i]? = some d) : ds.getD i .none = d := by rw [List.getD_eq_getElem?_getD, h]; rfl
theorem di_enum {X : Cx} {e : Expr} {f : DE} {p pos tpos : Pos} {elts : List Expr} {kk : Nat} (hg : Gl X "enumerate") (hm : X.mg "enumerate" = none) (he : DEj X e f) (h1 : starEach [e] X.env = (false, eval e X.env) :: starEach [] X.env := by rfl) (hs : starEach [e] X.env = [(false, eval e X.env)] := by rfl) :
    DIj X (.Tuple elts kk tpos) (.Call (.Name "enumerate" p) [e] [] pos) (sEnum f) := by
  have h0 := de_stab he
  refine pi_weak (pi_enum hg hm (da_cons h0 da_nil h1) hs) fun σ H R h => ?_
  obtain ⟨Hk, ρ, ds, ρ', re, e1, q⟩ := h
  unfold sEnum at e1
  cases e2 : f ρ with
  | none => rw [e2] at e1; cases e1
  | some pr =>
    obtain ⟨w1, ρ1⟩ := pr
    rw [e2] at e1
    simp only [Option.bind_some] at e1
    cases e3 : stab w1 ρ1 with
    | none => rw [e3] at e1; cases e1
    | some p2 =>
      obtain ⟨d, ρ2⟩ := p2
      rw [e3] at e1
      simp only [Option.bind_some] at e1
      have es : sCons (sStab f) sNil ρ = some ([.sh d], ρ2) := by
        unfold sCons sStab sNil
        rw [e2]
        simp only [Option.bind_some]
        rw [e3]
        rfl
      split at e1
      · rename_i ds'
        cases e1
        refine ⟨Hk, ρ, _, _, re, es, fun Hk1 H1 vs re1 st1 o1 r1 => ?_⟩
        obtain ⟨v, rfl, a⟩ := rrs1 r1
        obtain ⟨pa, us, rfl, hs, hd⟩ := dpL a
        refine ⟨pa, us, rfl, ex_l re1.sub hs, q Hk1 H1 _ re1 st1 o1 ⟨fun i H hi ex => ?_, fun H ex => ⟨us, ex_l ex hs, by simp [dpAll_len hd]⟩, fun i H x H' d hi ex y => ?_⟩⟩
        · have hi' : i < us.length := by rw [dpAll_len hd]; simpa using hi
          exact ⟨us, us[i], ex_l ex hs, by simp [hi']⟩
        · obtain ⟨T, x0, ex0, nT, eH, hx⟩ := y
          have hl : i < ds'.length := by
            have := (List.getElem?_eq_some_iff.mp hi).1
            simpa using this
          have hdi : ds'[i]? = some ds'[i] := by simp [hl]
          rw [List.getElem?_map, List.getElem?_range hl] at hi
          simp only [Option.map_some, Option.some.injEq] at hi
          obtain ⟨v, g1, g2⟩ := dpAll_get hd hdi
          have g3 := hx us (ex_l ex hs)
          rw [g1] at g3
          cases g3
          refine .inr ⟨T, _, _, ex0, nT, eH, .cons (.int _) (.cons g2 .nil), ?_⟩
          rw [← hi, getD_get hdi]
      · cases e1
def zipD (xs ys : List PyData) : List PyData := (List.range (min xs.length ys.length)).map fun i => .tuple [xs.getD i .none, ys.getD i .none]
/-- two lists, or two tuples -/
def sZip (f g : DE) : DI := fun ρ => match sStab f ρ with
  | some (.sh a, ρ1) => match sStab g ρ1 with
    | some (.sh b, ρ2) => match a, b with
      | .list xs, .list ys => some (zipD xs ys, ρ2)
      | .tuple xs, .tuple ys => some (zipD xs ys, ρ2)
      | _, _ => none
    | _ => none
  | _ => none
theorem di_zip {X : Cx} {e e2 : Expr} {f g : DE} {p pos tpos : Pos} {elts : List Expr} {kk : Nat} (hg : Gl X "zip") (hm : X.mg "zip" = none) (he : DEj X e f) (he2 : DEj X e2 g)
    (h1 : starEach [e, e2] X.env = (false, eval e X.env) :: starEach [e2] X.env := by rfl) (h2 : starEach [e2] X.env = (false, eval e2 X.env) :: starEach [] X.env := by rfl) (hpl : (backTo pos (starEach [e2] X.env)).any (·.1) = false := by rfl) :
    DIj X (.Tuple elts kk tpos) (.Call (.Name "zip" p) [e, e2] [] pos) (sZip f g) := by
  have a0 := de_stab he
  have b0 := de_stab he2
  refine pi_weak (RZ.pi_zipA hg hm (da_cons a0 (da_cons b0 da_nil h2) h1) h1 hpl) fun σ H R h => ?_
  obtain ⟨Hk, ρ, ds, ρ', re, e1, q⟩ := h
  unfold sZip at e1
  split at e1
  · rename_i a ρ1 hf
    split at e1
    · rename_i b ρ2 hgs
      have es : sCons (sStab f) (sCons (sStab g) sNil) ρ = some ([.sh a, .sh b], ρ2) := by
        unfold sCons sNil
        rw [hf]
        simp only [Option.bind_some]
        rw [hgs]
        rfl
      have fin : ∀ {us vs : List V} {xs ys : List PyData} {Hk1 : Hp}, DpAll X.K Hk1 us xs → DpAll X.K Hk1 vs ys → ∀ {i : Nat} {H x H' d} {J : It}, (zipD xs ys)[i]? = some d →
          (∃ T x0 y0, x = .ref T ∧ H T = none ∧ H' = upd H T (.tup [x0, y0]) ∧ us[i]? = some x0 ∧ vs[i]? = some y0) → YD X.K Hk1 H x H' d := by
        rintro us vs xs ys Hk1 hd1 hd2 i H x H' d J hi ⟨T, x0, y0, e1, e2, e3, e4, e5⟩
        have hl : i < min xs.length ys.length := by
          have := (List.getElem?_eq_some_iff.mp hi).1
          simpa [zipD] using this
        unfold zipD at hi
        rw [List.getElem?_map, List.getElem?_range hl] at hi
        simp only [Option.map_some, Option.some.injEq] at hi
        have hx : xs[i]? = some (xs[i]'(by omega)) := by simp [show i < xs.length by omega]
        have hy : ys[i]? = some (ys[i]'(by omega)) := by simp [show i < ys.length by omega]
        obtain ⟨v1, g1, g2⟩ := dpAll_get hd1 hx
        obtain ⟨v2, g3, g4⟩ := dpAll_get hd2 hy
        rw [e4] at g1; cases g1
        rw [e5] at g3; cases g3
        exact .inr ⟨T, _, _, e1, e2, e3, .cons g2 (.cons g4 .nil), by rw [← hi, getD_get hx, getD_get hy]⟩
      split at e1
      · rename_i xs ys
        cases e1
        refine ⟨Hk, ρ, _, _, re, es, fun Hk1 H1 vs re1 st1 o1 r1 => ?_⟩
        obtain ⟨v, u, rfl, a1, b1⟩ := rrs2 r1
        obtain ⟨pa, us, rfl, hs1, hd1⟩ := dpL a1
        obtain ⟨pb, ws, rfl, hs2, hd2⟩ := dpL b1
        have l1 := dpAll_len hd1
        have l2 := dpAll_len hd2
        have ln : (zipD xs ys).length = min us.length ws.length := by simp [zipD, l1, l2]
        have W := walk_zip (K := X.K) (a := pa) (b := pb) (xs := us) (ys := ws) ln
        refine ⟨pa, pb, us, ws, rfl, .inl ⟨ex_l re1.sub hs1, ex_l re1.sub hs2, q Hk1 H1 _ re1 st1 o1 ⟨fun i H hi ex => W.goes i H hi ⟨ex_l ex hs1, ex_l ex hs2⟩, fun H ex => W.stops H ⟨ex_l ex hs1, ex_l ex hs2⟩, fun i H x H' d hi ex y => ?_⟩⟩⟩
        have hl := (List.getElem?_eq_some_iff.mp hi).1
        exact fin hd1 hd2 (J := Itz X.K pa pb) hi (W.yields i H x H' hl ⟨ex_l ex hs1, ex_l ex hs2⟩ y)
      · rename_i xs ys
        cases e1
        refine ⟨Hk, ρ, _, _, re, es, fun Hk1 H1 vs re1 st1 o1 r1 => ?_⟩
        obtain ⟨v, u, rfl, a1, b1⟩ := rrs2 r1
        obtain ⟨pa, us, rfl, hs1, hd1⟩ := dpT a1
        obtain ⟨pb, ws, rfl, hs2, hd2⟩ := dpT b1
        have l1 := dpAll_len hd1
        have l2 := dpAll_len hd2
        have ln : (zipD xs ys).length = min us.length ws.length := by simp [zipD, l1, l2]
        refine ⟨pa, pb, us, ws, rfl, .inr ⟨ex_t re1.sub hs1, ex_t re1.sub hs2, q Hk1 H1 _ re1 st1 o1 ⟨fun i H hi ex => ?_, fun H ex => ?_, fun i H x H' d hi ex y => ?_⟩⟩⟩
        · rw [ln] at hi
          have h1 : i < us.length := by omega
          have h2 : i < ws.length := by omega
          exact ⟨us, ws, us[i], ws[i], ex_t ex hs1, ex_t ex hs2, by simp [h1], by simp [h2]⟩
        · exact ⟨us, ws, ex_t ex hs1, ex_t ex hs2, by omega⟩
        · obtain ⟨T, x0, y0, g1, g2, g3, g4, g5⟩ := y
          exact fin hd1 hd2 (J := RZ.ItzT X.K pa pb) hi ⟨T, x0, y0, g1, g2, g3, g4 us (ex_t ex hs1), g5 ws (ex_t ex hs2)⟩
      · cases e1
    · cases e1
  · cases e1
theorem unit65 {k : Nat} {A : Around} (h : Room k A) : A.units + 65 < cLine := by
  have := h.un
  omega
end DL
end

section
set_option Elab.async false
set_option linter.all false
set_option maxRecDepth 100000
set_option maxHeartbeats 4000000
namespace DL
open PySem PySem.Spec PyProof.Rows L2 Evl

/-! ### meanings by simp -/
section
variable {f g h : DE} {fa : DA} {s t : DS} {c d : DT} {ρ : Env} {i j k : Nat} {sem : VS}
@[simp] theorem x_sNil : sNil ρ = some ([], ρ) := rfl
@[simp] theorem x_sCons : sCons f fa ρ = (f ρ).bind fun p => (fa p.2).bind fun q => some (p.1 :: q.1, q.2) := rfl
@[simp] theorem x_sC {e : PyData} : sC e ρ = some (.sh e, ρ) := rfl
@[simp] theorem x_sFx {v : V} : sFx v ρ = some (.fx v, ρ) := rfl
theorem x_sVar : sVar i ρ = (match ρ[i]? with
  | some (some (.sh d)) => some (.sh d, ρ)
  | some (some (.ow _)) => some (.rf i, ρ)
  | some (some (.fx v)) => some (.fx v, ρ)
  | _ => none) := rfl
@[simp] theorem x_sOp : sOp sem fa ρ = (fa ρ).bind fun p => sem p.1 p.2 := rfl
@[simp] theorem x_sStab : sStab f ρ = (f ρ).bind fun p => (stab p.1 p.2).bind fun q => some (.sh q.1, q.2) := rfl
@[simp] theorem x_stab_sh {e : PyData} : stab (.sh e) ρ = some (e, ρ) := rfl
@[simp] theorem x_stab_ow {es : List PyData} : stab (.ow es) ρ = some (.list es, ρ) := rfl
@[simp] theorem x_stab_rf : stab (.rf i) ρ = (match ρ[i]? with
    | some (some (.ow ds)) => some (.list ds, ρ.set i (some (.sh (.list ds))))
    | some (some (.sh d)) => some (d, ρ)
    | _ => none) := rfl
@[simp] theorem x_lst_sh {es : List PyData} : lstOf (.sh (.list es)) ρ = some es := rfl
@[simp] theorem x_lst_ow {es : List PyData} : lstOf (.ow es) ρ = some es := rfl
@[simp] theorem x_lst_rf : lstOf (.rf i) ρ = (match ρ[i]? with
    | some (some (.ow ds)) => some ds
    | some (some (.sh (.list ds))) => some ds
    | _ => none) := rfl
@[simp] theorem x_lst_tup {es : List PyData} : lstOf (.sh (.tuple es)) ρ = none := rfl
@[simp] theorem x_tup {es : List PyData} : tupOf (.sh (.tuple es)) = some es := rfl
@[simp] theorem x_dat_sh {e : PyData} : datOf (.sh e) ρ = some e := rfl
@[simp] theorem x_dat_ow {es : List PyData} : datOf (.ow es) ρ = some (.list es) := rfl
@[simp] theorem x_dat_rf : datOf (.rf i) ρ = (lstOf (.rf i) ρ).map .list := rfl
@[simp] theorem x_add {a b : Int} : vAdd [.sh (.int a), .sh (.int b)] ρ = some (.sh (.int (a + b)), ρ) := by simp [vAdd, vI2]
@[simp] theorem x_sub {a b : Int} : vSub [.sh (.int a), .sh (.int b)] ρ = some (.sh (.int (a - b)), ρ) := by simp [vSub, vI2]
@[simp] theorem x_mul {a b : Int} : vMul [.sh (.int a), .sh (.int b)] ρ = if CMulZ a b then some (.sh (.int (a * b)), ρ) else none := rfl
@[simp] theorem x_div {a b : Int} : vDiv [.sh (.int a), .sh (.int b)] ρ = if CDivZ a b then some (.sh (.int (a.fdiv b)), ρ) else none := rfl
@[simp] theorem x_mod {a b : Int} : vMod [.sh (.int a), .sh (.int b)] ρ = if b ≠ 0 then some (.sh (.int (a.fmod b)), ρ) else none := rfl
@[simp] theorem x_pow {a b : Int} : vPow [.sh (.int a), .sh (.int b)] ρ = if CPowZ a b then some (.sh (.int (a ^ b.toNat)), ρ) else none := rfl
@[simp] theorem x_lt {a b : Int} : vLt [.sh (.int a), .sh (.int b)] ρ = some (.sh (.bool (decide (a < b))), ρ) := by simp [vLt, vI2]
@[simp] theorem x_le {a b : Int} : vLe [.sh (.int a), .sh (.int b)] ρ = some (.sh (.bool (decide (a ≤ b))), ρ) := by simp [vLe, vI2]
@[simp] theorem x_gt {a b : Int} : vGt [.sh (.int a), .sh (.int b)] ρ = some (.sh (.bool (decide (b < a))), ρ) := by simp [vGt, vI2]
@[simp] theorem x_ge {a b : Int} : vGe [.sh (.int a), .sh (.int b)] ρ = some (.sh (.bool (decide (b ≤ a))), ρ) := by simp [vGe, vI2]
@[simp] theorem x_neg {a : Int} : vNeg [.sh (.int a)] ρ = some (.sh (.int (-a)), ρ) := rfl
@[simp] theorem x_abs {a : Int} : vAbs [.sh (.int a)] ρ = some (.sh (.int (if a < 0 then -a else a)), ρ) := rfl
@[simp] theorem x_max {a b : Int} : vMax [.sh (.int a), .sh (.int b)] ρ = some (.sh (.int (if b > a then b else a)), ρ) := by simp [vMax, vI2]
@[simp] theorem x_min {a b : Int} : vMin [.sh (.int a), .sh (.int b)] ρ = some (.sh (.int (if b < a then b else a)), ρ) := by simp [vMin, vI2]
@[simp] theorem x_int {a : Int} : vInt [.sh (.int a)] ρ = some (.sh (.int a), ρ) := rfl
@[simp] theorem x_intb {b : Bool} : vInt [.sh (.bool b)] ρ = some (.sh (.int (if b then 1 else 0)), ρ) := rfl
@[simp] theorem x_bool {a : Int} : vBool [.sh (.int a)] ρ = some (.sh (.bool (a != 0)), ρ) := rfl
@[simp] theorem x_boolb {b : Bool} : vBool [.sh (.bool b)] ρ = some (.sh (.bool b), ρ) := rfl
theorem shaped_int (i : Int) : SeqAt.shaped (.int i) = true := rfl
@[simp] theorem x_eqI {a b : Int} : vEqD false [.sh (.int a), .sh (.int b)] ρ = some (.sh (.bool (a == b)), ρ) := by simp [vEqD, shaped_int, PyData.eqv]
@[simp] theorem x_neI {a b : Int} : vEqD true [.sh (.int a), .sh (.int b)] ρ = some (.sh (.bool (!(a == b))), ρ) := by simp [vEqD, shaped_int, PyData.eqv]
@[simp] theorem x_eqS {a b : Str} : vEqS false [.sh (.str a), .sh (.str b)] ρ = some (.sh (.bool (decide (a = b))), ρ) := rfl
@[simp] theorem x_neS {a b : Str} : vEqS true [.sh (.str a), .sh (.str b)] ρ = some (.sh (.bool (!decide (a = b))), ρ) := rfl
@[simp] theorem x_ix {o : Val} {a : Int} : vIx [o, .sh (.int a)] ρ = (match lstOf o ρ with
    | some ds => (atI ds a).map fun d => (.sh d, ρ)
    | none => match tupOf o with
      | some ds => (atI ds a).map fun d => (.sh d, ρ)
      | none => none) := rfl
@[simp] theorem x_len {o : Val} : vLen [o] ρ = (match lstOf o ρ with
    | some ds => some (.sh (.int ds.length), ρ)
    | none => (tupOf o).map fun ds => (.sh (.int ds.length), ρ)) := rfl
@[simp] theorem x_list {o : Val} : vList [o] ρ = (match lstOf o ρ with
    | some ds => some (.ow ds, ρ)
    | none => (tupOf o).map fun ds => (.ow ds, ρ)) := rfl
@[simp] theorem x_tuple {o : Val} : vTuple [o] ρ = (match lstOf o ρ with
    | some ds => some (.sh (.tuple ds), ρ)
    | none => none) := rfl
@[simp] theorem x_sum {o : Val} : vSum [o] ρ = (lstOf o ρ).bind fun ds => (intsOf ds).map fun ns => (.sh (.int ns.sum), ρ) := rfl
@[simp] theorem x_any {o : Val} : vAny [o] ρ = (lstOf o ρ).bind fun ds => (boolsOf ds).map fun bs => (.sh (.bool (bs.any id)), ρ) := rfl
@[simp] theorem x_all {o : Val} : vAll [o] ρ = (lstOf o ρ).bind fun ds => (boolsOf ds).map fun bs => (.sh (.bool (bs.all id)), ρ) := rfl
@[simp] theorem x_rev {o : Val} : vRev [o] ρ = (lstOf o ρ).map fun ds => (.ow ds.reverse, ρ) := rfl
@[simp] theorem x_cat {x y : Val} : vCat [x, y] ρ = (lstOf x ρ).bind fun ds => (lstOf y ρ).bind fun es => if ds.length + es.length ≤ 16000000 then some (.ow (ds ++ es), ρ) else none := rfl
@[simp] theorem x_isi {x : Val} {c : String} : vIsi [x, .fx (.ty c)] ρ = (datOf x ρ).bind fun d => (kitB (tyD d) c).map fun b => (.sh (.bool b), ρ) := rfl
@[simp] theorem x_repr {x : Val} : vRepr [x] ρ = (datOf x ρ).bind fun d => if okShow d = true ∧ isSeq d = true then some (.sh (.str d.shown), ρ) else none := rfl
@[simp] theorem x_allSh0 : allSh [] = some [] := rfl
@[simp] theorem x_allSh1 {e : PyData} {r : List Val} : allSh (.sh e :: r) = (allSh r).map (e :: ·) := rfl
@[simp] theorem x_vTup {ws : List Val} : vTup ws ρ = (allSh ws).bind fun ds => if ds.length ≤ 100000 then some (.sh (.tuple ds), ρ) else none := rfl
@[simp] theorem x_vLst {ws : List Val} : vLst ws ρ = (allSh ws).bind fun ds => if ds.length ≤ 100000 then some (.ow ds, ρ) else none := rfl
@[simp] theorem x_vCall {F : List PyData → Option PyData} {ws : List Val} : vCall F ws ρ = (allSh ws).bind fun ds => (F ds).map fun d => (.sh d, ρ) := rfl
@[simp] theorem x_vCallL {F : List PyData → Option (List PyData)} {ws : List Val} : vCallL F ws ρ = (allSh ws).bind fun ds => (F ds).map fun d => (.ow d, ρ) := rfl
@[simp] theorem x_vCallB {F : List PyData → List PyData → Option (PyData × List PyData)} {ws : List Val} : vCallB F (.rf i :: ws) ρ = (match ρ[i]? with
    | some (some (.ow ds)) => (allSh ws).bind fun es => (F ds es).map fun p => (.sh p.1, ρ.set i (some (.ow p.2)))
    | _ => none) := rfl
@[simp] theorem x_sSlice {l hh : Env → Option (Option Int × Env)} : sSlice f l hh ρ = (f ρ).bind fun p => (l p.2).bind fun a => (hh a.2).bind fun b => (lstOf p.1 b.2).map fun ds => (.ow (cutD ds a.1 b.1), b.2) := rfl
@[simp] theorem x_sNoP : sNoP ρ = some (none, ρ) := rfl
@[simp] theorem x_sPart : sPart f ρ = (match f ρ with
  | some (.sh (.int i), ρ') => some (some i, ρ')
  | _ => none) := rfl
@[simp] theorem x_sIfE : sIfE c f g ρ = (c ρ).bind fun p => if p.1 = true then f p.2 else g p.2 := rfl
@[simp] theorem x_sTru : sTru f ρ = (f ρ).bind fun p => (truOf p.1 p.2).map fun b => (b, p.2) := rfl
@[simp] theorem x_tru_b {b : Bool} : truOf (.sh (.bool b)) ρ = some b := rfl
@[simp] theorem x_tru_i {a : Int} : truOf (.sh (.int a)) ρ = some (a != 0) := rfl
@[simp] theorem x_tru_ow {es : List PyData} : truOf (.ow es) ρ = some (!es.isEmpty) := rfl
@[simp] theorem x_tru_l {es : List PyData} : truOf (.sh (.list es)) ρ = some (!es.isEmpty) := rfl
@[simp] theorem x_tru_t {es : List PyData} : truOf (.sh (.tuple es)) ρ = some (!es.isEmpty) := rfl
@[simp] theorem x_tru_rf : truOf (.rf i) ρ = (match lstOf (.rf i) ρ with
    | some ds => some (!ds.isEmpty)
    | none => none) := by
  cases h : lstOf (.rf i) ρ <;> simp only [truOf, h] <;> rfl
@[simp] theorem x_sTst : sTst f ρ = (match f ρ with
  | some (.sh (.bool b), ρ') => some (b, ρ')
  | _ => none) := rfl
@[simp] theorem x_sAnd : sAnd c d ρ = (c ρ).bind fun p => if p.1 = true then d p.2 else some (false, p.2) := rfl
@[simp] theorem x_sOr : sOr c d ρ = (c ρ).bind fun p => if p.1 = true then some (true, p.2) else d p.2 := rfl
@[simp] theorem x_sNot : sNot c ρ = (c ρ).map fun p => (!p.1, p.2) := rfl
@[simp] theorem x_sAndV : sAndV f g ρ = (match f ρ with
  | some (.sh (.bool true), ρ1) => g ρ1
  | some (.sh (.bool false), ρ1) => some (.sh (.bool false), ρ1)
  | _ => none) := rfl
@[simp] theorem x_sOrV : sOrV f g ρ = (match f ρ with
  | some (.sh (.bool false), ρ1) => g ρ1
  | some (.sh (.bool true), ρ1) => some (.sh (.bool true), ρ1)
  | _ => none) := rfl
@[simp] theorem x_sNotV : sNotV f ρ = (match f ρ with
  | some (.sh (.bool b), ρ1) => some (.sh (.bool (!b)), ρ1)
  | _ => none) := rfl
@[simp] theorem x_sNext : sNext ρ = some (.nx ρ) := rfl
theorem x_sSeq : sSeq s t ρ = (s ρ).bind fun o => match o with
  | .nx ρ' => t ρ'
  | o => some o := rfl
theorem x_seq {ρ' : Env} (h : s ρ = some (.nx ρ')) : sSeq s t ρ = t ρ' := by rw [x_sSeq, h]; rfl
theorem x_seq_rt {w : Val} {ρ' : Env} (h : s ρ = some (.rt w ρ')) : sSeq s t ρ = some (.rt w ρ') := by rw [x_sSeq, h]; rfl
theorem x_seq_bk {ρ' : Env} (h : s ρ = some (.bk ρ')) : sSeq s t ρ = some (.bk ρ') := by rw [x_sSeq, h]; rfl
theorem x_seq_ct {ρ' : Env} (h : s ρ = some (.ct ρ')) : sSeq s t ρ = some (.ct ρ') := by rw [x_sSeq, h]; rfl
@[simp] theorem x_noRf_sh {e : PyData} : noRf (.sh e) = true := rfl
@[simp] theorem x_noRf_ow {es : List PyData} : noRf (.ow es) = true := rfl
@[simp] theorem x_noRf_fx {v : V} : noRf (.fx v) = true := rfl
@[simp] theorem x_sSet : sSet i f ρ = (f ρ).bind fun p => if noRf p.1 = true then some (.nx (p.2.set i (some p.1))) else none := rfl
@[simp] theorem x_sRet : sRet f ρ = (f ρ).bind fun p => match p.1 with
  | .rf i => match p.2[i]? with
    | some (some (.ow ds)) => some (.rt (.ow ds) (p.2.set i none))
    | some (some (.sh d)) => some (.rt (.sh d) p.2)
    | _ => none
  | w => some (.rt w p.2) := rfl
@[simp] theorem x_sIf : sIf c s t ρ = (c ρ).bind fun p => if p.1 = true then s p.2 else t p.2 := rfl
@[simp] theorem x_sBreak : sBreak ρ = some (.bk ρ) := rfl
@[simp] theorem x_sCont : sCont ρ = some (.ct ρ) := rfl
@[simp] theorem x_gN {e : PyData} : gN i e ρ = some (ρ.set i (some (.sh e))) := rfl
@[simp] theorem x_gTs0 : gTs [] [] ρ = some ρ := rfl
@[simp] theorem x_gTs1 {tt : DG} {ts : List DG} {e : PyData} {es : List PyData} : gTs (tt :: ts) (e :: es) ρ = (tt e ρ).bind fun ρ1 => gTs ts es ρ1 := rfl
@[simp] theorem x_gTu {n : Nat} {ts : List DG} {es : List PyData} : gTu n ts (.tuple es) ρ = if es.length = n then gTs ts es ρ else none := rfl
@[simp] theorem x_sAsgT {tt : DG} : sAsgT f tt ρ = (match f ρ with
  | some (.sh d, ρ1) => (tt d ρ1).map .nx
  | _ => none) := rfl
@[simp] theorem x_sPar : sPar i j fa ρ = (match fa ρ with
  | some ([w1, w2], ρ1) => if noRf w1 = true ∧ noRf w2 = true then some (.nx ((ρ1.set i (some w1)).set j (some w2))) else none
  | _ => none) := rfl
@[simp] theorem x_sAug : sAug i sem f ρ = (match ρ[i]? with
  | some (some (.sh d)) => (f ρ).bind fun p => (sem [.sh d, p.1] p.2).bind fun q => if noRf q.1 = true then some (.nx (q.2.set i (some q.1))) else none
  | _ => none) := rfl
@[simp] theorem x_sSetIx : sSetIx j f g ρ = (match f ρ with
  | some (.sh d, ρ1) => match ρ1[j]? with
    | some (some (.ow _)) => match g ρ1 with
      | some (.sh (.int i), ρ2) => match ρ2[j]? with
        | some (some (.ow ds)) => (ixN ds.length i).map fun k => .nx (ρ2.set j (some (.ow (ds.set k d))))
        | _ => none
      | _ => none
    | _ => none
  | _ => none) := rfl
@[simp] theorem x_sAugIx : sAugIx j sem f g ρ = (match ρ[j]? with
  | some (some (.ow _)) => match g ρ with
    | some (.sh (.int i), ρ1) => match ρ1[j]? with
      | some (some (.ow ds)) => match atI ds i with
        | some d => match f ρ1 with
          | some (w, ρ2) => match sem [.sh d, w] ρ2 with
            | some (.sh d', ρ3) => match ρ3[j]? with
              | some (some (.ow es)) => (ixN es.length i).map fun k => .nx (ρ3.set j (some (.ow (es.set k d'))))
              | _ => none
            | _ => none
          | _ => none
        | _ => none
      | _ => none
    | _ => none
  | _ => none) := rfl
@[simp] theorem x_sMt {m : List PyData → List Val → Option (Val × List PyData)} : sMt j m fa ρ = (match ρ[j]? with
  | some (some (.ow _)) => match fa ρ with
    | some (ws, ρ1) => match ρ1[j]? with
      | some (some (.ow ds)) => (m ds ws).map fun p => (p.1, ρ1.set j (some (.ow p.2)))
      | _ => none
    | _ => none
  | _ => none) := rfl
@[simp] theorem x_mAppend {ds : List PyData} {e : PyData} : mAppend ds [.sh e] = if ds.length < 16000000 then some (.sh .none, ds ++ [e]) else none := rfl
@[simp] theorem x_sExp : sExp f ρ = (f ρ).map fun p => .nx p.2 := rfl
@[simp] theorem x_sFor {it : DI} {tt : DG} : sFor it tt s ρ = (it ρ).bind fun p => forL tt s p.1 p.2 := rfl
@[simp] theorem x_sItems : sItems f ρ = (f ρ).bind fun p => (stab p.1 p.2).bind fun q => match q.1 with
  | .list ds => some (ds, q.2)
  | .tuple ds => some (ds, q.2)
  | _ => none := rfl
@[simp] theorem x_sRng : sRng fa ρ = (match fa ρ with
  | some ([.sh (.int j)], ρ1) => if -(2 ^ 62) ≤ j ∧ j < 2 ^ 62 then some (rngD 0 j.toNat, ρ1) else none
  | some ([.sh (.int i), .sh (.int j)], ρ1) => if -(2 ^ 62) ≤ i ∧ i < 2 ^ 62 ∧ -(2 ^ 62) ≤ j ∧ j < 2 ^ 62 then some (rngD i (j - i).toNat, ρ1) else none
  | _ => none) := rfl
@[simp] theorem x_sRngN : sRngN fa ρ = (match fa ρ with
  | some ([.sh (.int i), .sh (.int j), .sh (.int c)], ρ1) => if c = -1 ∧ -(2 ^ 62) ≤ i ∧ i < 2 ^ 62 ∧ -(2 ^ 62) ≤ j ∧ j < 2 ^ 62 then some (rngN i (i - j).toNat (-1), ρ1) else none
  | _ => none) := rfl
@[simp] theorem x_sEnum : sEnum f ρ = (f ρ).bind fun p => (stab p.1 p.2).bind fun q => match q.1 with
  | .list ds => some ((List.range ds.length).map fun i => .tuple [.int (i : Nat), ds.getD i .none], q.2)
  | _ => none := rfl
@[simp] theorem x_sYes : sYes ρ = some (true, ρ) := rfl
end

/-! ### loops -/
theorem rngD_len (lo : Int) (n : Nat) : (rngD lo n).length = n := by simp [rngD]
theorem rngD_get {lo : Int} {n i : Nat} (h : i < n) : (rngD lo n)[i]? = some (.int (lo + (i : Nat))) := by
  unfold rngD
  rw [List.getElem?_map, List.getElem?_range h]; rfl
/-- a for by an invariant over its turns; each turn goes on -/
theorem forL_inv {t : DG} {s : DS} (P : Nat → Env → Prop) : ∀ (ds : List PyData) (k : Nat) (ρ : Env), P k ρ →
    (∀ (i : Nat) (d : PyData) (ρ : Env), ds[i]? = some d → P (k + i) ρ → ∃ ρ1 ρ2, t d ρ = some ρ1 ∧ (s ρ1 = some (.nx ρ2) ∨ s ρ1 = some (.ct ρ2)) ∧ P (k + i + 1) ρ2) → ∃ ρ', forL t s ds ρ = some (.nx ρ') ∧ P (k + ds.length) ρ'
  | [], k, ρ, h, _ => ⟨ρ, rfl, h⟩
  | d :: ds, k, ρ, h, hs => by
    obtain ⟨ρ1, ρ2, e1, e2, p2⟩ := hs 0 d ρ rfl h
    obtain ⟨ρ', e3, p3⟩ := forL_inv P ds (k + 1) ρ2 p2 fun i x ρx hx px => by
      obtain ⟨a, b, c1, c2, c3⟩ := hs (i + 1) x ρx (by simpa using hx) (by rw [show k + (i + 1) = k + 1 + i by omega]; exact px)
      exact ⟨a, b, c1, c2, by rw [show k + 1 + i + 1 = k + (i + 1) + 1 by omega]; exact c3⟩
    refine ⟨ρ', ?_, by rw [List.length_cons, show k + (ds.length + 1) = k + 1 + ds.length by omega]; exact p3⟩
    show (t d ρ).bind _ = _
    rw [e1]
    simp only [Option.bind_some]
    rcases e2 with e2 | e2
    · rw [e2]; exact e3
    · rw [e2]; exact e3
theorem forL_st {t : DG} {s : DS} (st : Nat → Env) : ∀ (ds : List PyData) (k : Nat),
    (∀ (i : Nat) (d : PyData), ds[i]? = some d → ∃ ρ1, t d (st (k + i)) = some ρ1 ∧ s ρ1 = some (.nx (st (k + i + 1)))) → forL t s ds (st k) = some (.nx (st (k + ds.length))) := fun ds k h => by
  obtain ⟨ρ', e, p⟩ := forL_inv (fun i ρ => ρ = st i) ds k (st k) rfl fun i d ρ hd e => by
    subst e
    obtain ⟨ρ1, e1, e2⟩ := h i d hd
    exact ⟨ρ1, _, e1, .inl e2, rfl⟩
  rw [e, p]
/-- a search that returns or goes on -/
theorem forL_nil {t : DG} {s : DS} {ρ : Env} : forL t s [] ρ = some (.nx ρ) := rfl
theorem forL_cons {t : DG} {s : DS} {ρ ρ1 : Env} {d : PyData} {ds : List PyData} (h : t d ρ = some ρ1) : forL t s (d :: ds) ρ = (s ρ1).bind fun o => match o with
    | .nx ρ2 => forL t s ds ρ2
    | .ct ρ2 => forL t s ds ρ2
    | .bk ρ2 => some (.nx ρ2)
    | .rt w ρ2 => some (.rt w ρ2) := by
  show (t d ρ).bind _ = _
  rw [h]; rfl
/-- a comprehension that changes no slot -/
theorem lcL_map {t : DG} {f : DE} {vs : List Nat} {ρ : Env} (g : PyData → PyData) : ∀ (ds acc : List PyData), (∀ d ∈ ds, ∃ ρ1 ρ2, t d ρ = some ρ1 ∧ f ρ1 = some (.sh (g d), ρ2) ∧ wipeE ρ2 vs = ρ) → lcL t sYes f vs ds acc ρ = some (acc ++ ds.map g, ρ)
  | [], acc, _ => by simp [lcL]
  | d :: ds, acc, h => by
    obtain ⟨ρ1, ρ2, e1, e2, e3⟩ := h d (by simp)
    show (t d ρ).bind _ = _
    rw [e1]
    simp only [Option.bind_some, x_sYes, if_true]
    rw [e2]
    simp only [e3]
    rw [lcL_map g ds (acc ++ [g d]) fun x hx => h x (by simp [hx])]
    simp
theorem lcL_filter {t : DG} {c : DT} {f : DE} {vs : List Nat} {ρ : Env} (p : PyData → Bool) (g : PyData → PyData) : ∀ (ds acc : List PyData), (∀ d ∈ ds, ∃ ρ1 ρ2, t d ρ = some ρ1 ∧ c ρ1 = some (p d, ρ2) ∧ (p d = false → wipeE ρ2 vs = ρ) ∧ (p d = true → ∃ ρ3, f ρ2 = some (.sh (g d), ρ3) ∧ wipeE ρ3 vs = ρ)) →
    lcL t c f vs ds acc ρ = some (acc ++ (ds.filter p).map g, ρ)
  | [], acc, _ => by simp [lcL]
  | d :: ds, acc, h => by
    obtain ⟨ρ1, ρ2, e1, e2, e3, e4⟩ := h d (by simp)
    show (t d ρ).bind _ = _
    rw [e1]
    simp only [Option.bind_some]
    rw [e2]
    simp only [Option.bind_some]
    cases hp : p d with
    | false =>
      rw [if_neg Bool.false_ne_true]
      rw [e3 hp, lcL_filter p g ds acc fun x hx => h x (by simp [hx])]
      simp [hp]
    | true =>
      rw [if_pos rfl]
      obtain ⟨ρ3, e5, e6⟩ := e4 hp
      simp only [e5]
      rw [e6, lcL_filter p g ds (acc ++ [g d]) fun x hx => h x (by simp [hx])]
      simp [hp]
/-- one whose elements change slots: an invariant -/
theorem lcL_inv {t : DG} {f : DE} {vs : List Nat} (P : List PyData → Env → Prop) : ∀ (ds acc : List PyData) (ρ : Env), P acc ρ → (∀ (pre : List PyData) (d : PyData) (ρ : Env), d ∈ ds → P pre ρ → ∃ ρ1 e ρ2, t d ρ = some ρ1 ∧ f ρ1 = some (.sh e, ρ2) ∧ P (pre ++ [e]) (wipeE ρ2 vs)) →
    ∃ fin ρ', lcL t sYes f vs ds acc ρ = some (fin, ρ') ∧ P fin ρ' ∧ fin.length = acc.length + ds.length
  | [], acc, ρ, h, _ => ⟨acc, ρ, rfl, h, rfl⟩
  | d :: ds, acc, ρ, h, hs => by
    obtain ⟨ρ1, e, ρ2, e1, e2, p⟩ := hs acc d ρ (by simp) h
    obtain ⟨fin, ρ', e3, p3, l⟩ := lcL_inv P ds (acc ++ [e]) (wipeE ρ2 vs) p fun pre x ρ hx => hs pre x ρ (by simp [hx])
    refine ⟨fin, ρ', ?_, p3, by simp at l ⊢; omega⟩
    show (t d ρ).bind _ = _
    rw [e1]
    simp only [Option.bind_some, x_sYes, if_true]
    rw [e2]
    exact e3
theorem backE_wipe {ρ : Env} : ∀ {vs : List Nat}, backE ρ (wipeE ρ vs) vs = ρ := fun {vs} => by
  have ln : (backE ρ (wipeE ρ vs) vs).length = ρ.length := by rw [backE_len, wipeE_len]
  have key : ∀ (us : List Nat) (j : Nat), j ∉ us → (backE ρ (wipeE ρ vs) us)[j]? = (wipeE ρ vs)[j]? := by
    intro us
    induction us with
    | nil => intro j _; rfl
    | cons u us ih =>
      intro j hj
      show ((backE ρ (wipeE ρ vs) us).set u _)[j]? = _
      rw [List.getElem?_set_ne (fun e => hj (by simp [e])), ih j fun h => hj (by simp [h])]
  have keyw : ∀ (us : List Nat) (j : Nat), j ∉ us → (wipeE ρ us)[j]? = ρ[j]? := by
    intro us
    induction us with
    | nil => intro j _; rfl
    | cons u us ih =>
      intro j hj
      show ((wipeE ρ us).set u none)[j]? = _
      rw [List.getElem?_set_ne (fun e => hj (by simp [e])), ih j fun h => hj (by simp [h])]
  have key2 : ∀ (us : List Nat) (j : Nat), j ∈ us → j < ρ.length → (backE ρ (wipeE ρ vs) us)[j]? = ρ[j]? := by
    intro us
    induction us with
    | nil => intro j h; cases h
    | cons u us ih =>
      intro j hj hl
      show ((backE ρ (wipeE ρ vs) us).set u _)[j]? = _
      by_cases e : j = u
      · subst e
        rw [List.getElem?_set_self (by rw [backE_len, wipeE_len]; exact hl), List.getD_eq_getElem?_getD]
        simp [hl]
      · rw [List.getElem?_set_ne (Ne.symm e)]
        exact ih j (by simpa [e] using hj) hl
  apply List.ext_getElem?
  intro j
  by_cases hj : j ∈ vs
  · by_cases hl : j < ρ.length
    · exact key2 vs j hj hl
    · rw [List.getElem?_eq_none (by omega), List.getElem?_eq_none (by omega)]
  · rw [key vs j hj, keyw vs j hj]
theorem sComp_map {it : DI} {t : DG} {f : DE} {vs : List Nat} {ρ ρ1 : Env} {ds : List PyData} (g : PyData → PyData) (h1 : it ρ = some (ds, ρ1)) (h2 : ds.length ≤ 16000000)
    (h : ∀ d ∈ ds, ∃ ρ2 ρ3, t d (wipeE ρ1 vs) = some ρ2 ∧ f ρ2 = some (.sh (g d), ρ3) ∧ wipeE ρ3 vs = wipeE ρ1 vs) : sComp it t sYes f vs ρ = some (.ow (ds.map g), ρ1) := by
  unfold sComp
  rw [h1]
  simp only [Option.bind_some]
  rw [if_pos h2, lcL_map g ds [] h]
  simp [backE_wipe]
/-- over a range -/
theorem sComp_rng {it : DI} {t : DG} {f : DE} {vs : List Nat} {ρ ρ1 : Env} {lo : Int} {n : Nat} (g : Int → PyData) (h1 : it ρ = some (rngD lo n, ρ1)) (h2 : n ≤ 16000000)
    (h : ∀ i : Nat, i < n → ∃ ρ2 ρ3, t (.int (lo + i)) (wipeE ρ1 vs) = some ρ2 ∧ f ρ2 = some (.sh (g (lo + i)), ρ3) ∧ wipeE ρ3 vs = wipeE ρ1 vs) : sComp it t sYes f vs ρ = some (.ow ((List.range n).map fun i => g (lo + (i : Nat))), ρ1) := by
  have := sComp_map (it := it) (t := t) (f := f) (vs := vs) (ρ := ρ) (ρ1 := ρ1) (ds := rngD lo n) (fun d => match d with | .int i => g i | d => d) h1 (by rw [rngD_len]; exact h2) fun d hd => by
    simp only [rngD, List.mem_map, List.mem_range] at hd
    obtain ⟨i, hi, rfl⟩ := hd
    exact h i hi
  rw [this]
  simp [rngD, Function.comp_def]
end DL
end

section
set_option Elab.async false
set_option linter.all false
set_option maxRecDepth 100000
set_option maxHeartbeats 4000000
namespace DL
open PySem PySem.Spec PyProof.Rows L2 Evl
/-! ### a def's own meaning as a function on data -/
def endD : Option Out → Option PyData
  | some (.rt (.sh d) _) => some d
  | some (.rt (.ow es) _) => some (.list es)
  | some (.nx _) => some .none
  | _ => none
def runD (f : DS) (n np : Nat) (ds : List PyData) : Option PyData := if ds.length = np then endD (f (startE n ds)) else none
theorem runD_gives {f : DS} {n np : Nat} {ds : List PyData} {d : PyData} (h : runD f n np ds = some d) : Gives (f (startE n ds)) d := by
  unfold runD at h
  split at h
  · cases e : f (startE n ds) with
    | none => rw [e] at h; cases h
    | some o =>
      rw [e] at h
      cases o with
      | nx ρ => cases h; exact .inr (.inr ⟨ρ, rfl, rfl⟩)
      | bk ρ => cases h
      | ct ρ => cases h
      | rt w ρ =>
        cases w with
        | sh d => cases h; exact .inl ⟨ρ, rfl⟩
        | ow es => cases h; exact .inr (.inl ⟨es, ρ, rfl, rfl⟩)
        | rf i => cases h
        | fx v => cases h
  · cases h
theorem many_D {K : PySem.W.Frag} {f : DS} {n np : Nat} (vs : List V) (H : Hp) (Q : VK) (E : XK) (h : spD K (runD f n np) vs H Q E) : vs.length = np := by
  obtain ⟨Hk, ds, d, _, hd, e, _⟩ := h
  unfold runD at e
  split at e
  · rename_i hl; rw [dpAll_len hd]; exact hl
  · cases e
def endL : Option Out → Option (List PyData)
  | some (.rt (.ow es) _) => some es
  | _ => none
def runL (f : DS) (n np : Nat) (ds : List PyData) : Option (List PyData) := if ds.length = np then endL (f (startE n ds)) else none
theorem runL_gives {f : DS} {n np : Nat} {ds es : List PyData} (h : runL f n np ds = some es) : ∃ ρ, f (startE n ds) = some (.rt (.ow es) ρ) := by
  unfold runL at h
  split at h
  · unfold endL at h
    split at h
    · rename_i ρ e
      cases h
      exact ⟨ρ, e⟩
    · cases h
  · cases h
theorem many_L {K : PySem.W.Frag} {f : DS} {n np : Nat} (vs : List V) (H : Hp) (Q : VK) (E : XK) (h : spL K (runL f n np) vs H Q E) : vs.length = np := by
  obtain ⟨Hk, ds, d, _, hd, e, _⟩ := h
  unfold runL at e
  split at e
  · rename_i hl; rw [dpAll_len hd]; exact hl
  · cases e
def endB : Option Out → Option (PyData × List PyData)
  | some (.rt w ρ) => match w, (ρ[0]? : Option (Option Val)) with
    | .sh d, some (some (.ow ds)) => some (d, ds)
    | .ow es, some (some (.ow ds)) => some (.list es, ds)
    | _, _ => none
  | _ => none
def runB (f : DS) (n np : Nat) (ds es : List PyData) : Option (PyData × List PyData) := if es.length + 1 = np then endB (f (startB n ds es)) else none
theorem runB_gives {f : DS} {n np : Nat} {ds es ds' : List PyData} {d : PyData} (h : runB f n np ds es = some (d, ds')) : ∃ ρ w, f (startB n ds es) = some (.rt w ρ) ∧ ρ[0]? = some (some (.ow ds')) ∧ (w = .sh d ∨ ∃ fs, w = .ow fs ∧ d = .list fs) := by
  unfold runB at h
  split at h
  · unfold endB at h
    split at h
    · rename_i w ρ e
      split at h
      · rename_i h0; cases h; exact ⟨ρ, _, e, h0, .inl rfl⟩
      · rename_i es0 ds0 h0; cases h; exact ⟨ρ, _, e, h0, .inr ⟨es0, rfl, rfl⟩⟩
      · cases h
    · cases h
  · cases h
theorem many_B {K : PySem.W.Frag} {f : DS} {n np : Nat} (vs : List V) (H : Hp) (Q : VK) (E : XK) (h : spB K (runB f n np) vs H Q E) : vs.length = np := by
  obtain ⟨Hk, p, us, ds, vs', es, d, ds', rfl, _, _, _, _, hd, e, _⟩ := h
  unfold runB at e
  split at e
  · rename_i hl; rw [List.length_cons, dpAll_len hd]; exact hl
  · cases e
theorem dpAll_ofInts {K : PySem.W.Frag} {Hk : Hp} : ∀ (ns : List Int), DpAll K Hk (ns.map V.int) (ns.map PyData.int)
  | [] => .nil
  | n :: ns => .cons (.int n) (dpAll_ofInts ns)
/-- the law's own promise -/
theorem law_spD {K : PySem.W.Frag} {F : List PyData → Option PyData} {H : Hp} {a : Addr} {ns : List Int} (hS : SqL K H a (ns.map V.int)) (h : F [.list (ns.map .int)] = some (.bool true)) : spD K F [.ref a] H (fun v _ => v = .bl true) fun _ _ _ => False := by
  refine ⟨H, _, _, fun _ _ h => h, .cons (.lst hS (dpAll_ofInts ns)) .nil, h, fun Hk' H' v _ _ hd => ?_⟩
  cases hd
  rfl
end DL
end

section
set_option Elab.async false
set_option linter.all false
/-! Determinants over a commutative ring, by the first column; rows as functions. -/
namespace Det
open Lean.Grind
section
variable {R : Type} [CommRing R]

def sm : Nat → (Nat → R) → R
  | 0, _ => 0
  | n + 1, f => sm n f + f n
theorem sm_congr {n : Nat} {f g : Nat → R} (h : ∀ i, i < n → f i = g i) : sm n f = sm n g := by
  induction n with
  | zero => rfl
  | succ n ih =>
    show sm n f + f n = sm n g + g n
    rw [ih fun i hi => h i (by omega), h n (by omega)]
theorem sm_zero {n : Nat} {f : Nat → R} (h : ∀ i, i < n → f i = 0) : sm n f = 0 := by
  induction n with
  | zero => rfl
  | succ n ih =>
    show sm n f + f n = 0
    rw [ih fun i hi => h i (by omega), h n (by omega)]
    grind
theorem sm_add {n : Nat} {f g : Nat → R} : sm n (fun i => f i + g i) = sm n f + sm n g := by
  induction n with
  | zero => show (0 : R) = 0 + 0; grind
  | succ n ih => show sm n _ + _ = (sm n f + f n) + (sm n g + g n); rw [ih]; grind
theorem sm_mul {n : Nat} {f : Nat → R} {a : R} : sm n (fun i => a * f i) = a * sm n f := by
  induction n with
  | zero => show (0 : R) = a * 0; grind
  | succ n ih => show sm n _ + _ = a * (sm n f + f n); rw [ih]; grind
theorem sm_mul_r {n : Nat} {f : Nat → R} {a : R} : sm n (fun i => f i * a) = sm n f * a := by
  induction n with
  | zero => show (0 : R) = 0 * a; grind
  | succ n ih => show sm n _ + _ = (sm n f + f n) * a; rw [ih]; grind
theorem sm_comm {m n : Nat} {f : Nat → Nat → R} : sm m (fun i => sm n (f i)) = sm n (fun j => sm m fun i => f i j) := by
  induction m with
  | zero => show (0 : R) = sm n fun j => 0; rw [sm_zero fun _ _ => rfl]
  | succ m ih =>
    show sm m (fun i => sm n (f i)) + sm n (f m) = sm n fun j => sm m (fun i => f i j) + f m j
    rw [ih, sm_add]
/-- one place alone -/
theorem sm_one {n k : Nat} {f : Nat → R} (hk : k < n) (h : ∀ i, i < n → i ≠ k → f i = 0) : sm n f = f k := by
  induction n with
  | zero => omega
  | succ n ih =>
    show sm n f + f n = f k
    by_cases e : k = n
    · subst e
      rw [sm_zero fun i hi => h i (by omega) (by omega)]
      grind
    · rw [ih (by omega) fun i hi ne => h i (by omega) ne, h n (by omega) (Ne.symm e)]
      grind
/-- two places that cancel -/
theorem sm_two {n k l : Nat} {f : Nat → R} (hk : k < l) (hl : l < n) (h : ∀ i, i < n → i ≠ k → i ≠ l → f i = 0) (e : f k + f l = 0) : sm n f = 0 := by
  induction n with
  | zero => omega
  | succ n ih =>
    show sm n f + f n = 0
    by_cases e1 : l = n
    · subst e1
      rw [sm_one hk fun i hi ne => h i (by omega) ne (by omega)]
      exact e
    · rw [ih (by omega) fun i hi n1 n2 => h i (by omega) n1 n2, h n (by omega) (by omega) (Ne.symm e1)]
      grind
/-- a sum from the front -/
theorem sm_front {n : Nat} {f : Nat → R} : sm (n + 1) f = f 0 + sm n fun i => f (i + 1) := by
  induction n with
  | zero => show (0 : R) + f 0 = f 0 + 0; grind
  | succ n ih =>
    show sm (n + 1) f + f (n + 1) = f 0 + (sm n (fun i => f (i + 1)) + f (n + 1))
    rw [ih]; grind

abbrev Mat (R : Type) := Nat → Nat → R
def skip (i r : Nat) : Nat := if r < i then r else r + 1
def minor (A : Mat R) (i : Nat) : Mat R := fun r c => A (skip i r) (c + 1)
def sg (i : Nat) : R := if i % 2 = 0 then 1 else -1
theorem sg_succ (i : Nat) : (sg (i + 1) : R) = - sg i := by
  unfold sg
  by_cases h : i % 2 = 0
  · rw [if_pos h, if_neg (by omega)]
  · rw [if_neg h, if_pos (by omega)]; grind
theorem sg_mul (i : Nat) : (sg i : R) * sg i = 1 := by
  unfold sg
  split <;> grind
def det : Nat → Mat R → R
  | 0, _ => 1
  | n + 1, A => sm (n + 1) fun i => sg i * A i 0 * det n (minor A i)
theorem det_congr : ∀ {n : Nat} {A B : Mat R}, (∀ i j, i < n → j < n → A i j = B i j) → det n A = det n B
  | 0, _, _, _ => rfl
  | n + 1, A, B, h => by
    show sm (n + 1) _ = sm (n + 1) _
    refine sm_congr fun i hi => ?_
    rw [h i 0 hi (by omega), det_congr (A := minor A i) (B := minor B i) fun r c hr hc => ?_]
    unfold minor
    refine h _ _ ?_ (by omega)
    unfold skip
    split <;> omega
def setRow (A : Mat R) (k : Nat) (v : Nat → R) : Mat R := fun i => if i = k then v else A i
theorem setRow_same {A : Mat R} {k : Nat} {v : Nat → R} : setRow A k v k = v := by unfold setRow; rw [if_pos rfl]
theorem setRow_ne {A : Mat R} {k i : Nat} {v : Nat → R} (h : i ≠ k) : setRow A k v i = A i := by unfold setRow; rw [if_neg h]
theorem setRow_self {A : Mat R} {k : Nat} : setRow A k (A k) = A := by
  funext i
  by_cases h : i = k
  · subst h; rw [setRow_same]
  · rw [setRow_ne h]
theorem skip_ne (i r : Nat) : skip i r ≠ i := by unfold skip; split <;> omega
/-- the place of row k in the minor without row i -/
def sq (i k : Nat) : Nat := if k < i then k else k - 1
theorem skip_sq {i k : Nat} (h : k ≠ i) : skip i (sq i k) = k := by
  unfold skip sq
  by_cases h1 : k < i
  · rw [if_pos h1, if_pos h1]
  · rw [if_neg h1, if_neg (by omega)]; omega
theorem skip_eq {i k r : Nat} (h : k ≠ i) : skip i r = k ↔ r = sq i k := by
  unfold skip sq
  split <;> split <;> omega
theorem minor_own {A : Mat R} {k : Nat} {v : Nat → R} : minor (setRow A k v) k = minor A k := by
  funext r c
  show setRow A k v (skip k r) (c + 1) = A (skip k r) (c + 1)
  rw [setRow_ne (skip_ne k r)]
theorem minor_set {A : Mat R} {i k : Nat} {v : Nat → R} (h : k ≠ i) : minor (setRow A k v) i = setRow (minor A i) (sq i k) fun c => v (c + 1) := by
  funext r c
  show setRow A k v (skip i r) (c + 1) = _
  by_cases e : r = sq i k
  · rw [(skip_eq h).mpr e, setRow_same, e, setRow_same]
  · rw [setRow_ne (fun z => e ((skip_eq h).mp z)), setRow_ne e]; rfl
theorem sq_lt {i k n : Nat} (h : k ≠ i) (hi : i < n + 1) (hk : k < n + 1) : sq i k < n := by unfold sq; split <;> omega
/-- linear in each row -/
theorem det_lin : ∀ {n : Nat} {A : Mat R} {k : Nat} {a b : R} {u v : Nat → R}, k < n → det n (setRow A k fun j => a * u j + b * v j) = a * det n (setRow A k u) + b * det n (setRow A k v)
  | 0, _, _, _, _, _, _, h => by omega
  | n + 1, A, k, a, b, u, v, h => by
    show sm (n + 1) _ = a * sm (n + 1) _ + b * sm (n + 1) _
    rw [← sm_mul, ← sm_mul, ← sm_add]
    refine sm_congr fun i hi => ?_
    by_cases e : k = i
    · subst e
      rw [minor_own, minor_own, minor_own, setRow_same, setRow_same, setRow_same]
      grind
    · have e' : i ≠ k := fun z => e z.symm
      rw [minor_set e, minor_set e, minor_set e, setRow_ne e', setRow_ne e', setRow_ne e', det_lin (n := n) (A := minor A i) (k := sq i k) (a := a) (b := b) (u := fun c => u (c + 1)) (v := fun c => v (c + 1)) (sq_lt e hi h)]
      grind
theorem det_add {n : Nat} {A : Mat R} {k : Nat} {u v : Nat → R} (h : k < n) : det n (setRow A k fun j => u j + v j) = det n (setRow A k u) + det n (setRow A k v) := by
  have := det_lin (A := A) (a := 1) (b := 1) (u := u) (v := v) h
  rw [show (fun j => (1 : R) * u j + 1 * v j) = fun j => u j + v j by funext j; grind] at this
  rw [this]; grind
theorem det_smul {n : Nat} {A : Mat R} {k : Nat} {a : R} {u : Nat → R} (h : k < n) : det n (setRow A k fun j => a * u j) = a * det n (setRow A k u) := by
  have := det_lin (A := A) (a := a) (b := 0) (u := u) (v := u) h
  rw [show (fun j => a * u j + 0 * u j) = fun j => a * u j by funext j; grind] at this
  rw [this]; grind
theorem det_row0 {n : Nat} {A : Mat R} {k : Nat} (h : k < n) (z : ∀ j, j < n → A k j = 0) : det n A = 0 := by
  have := det_smul (A := A) (k := k) (a := 0) (u := fun _ => (0 : R)) h
  rw [det_congr (A := A) (B := setRow A k fun j => 0 * (fun _ => (0 : R)) j) fun i j hi hj => ?_, this]
  · grind
  · by_cases e : i = k
    · subst e; rw [setRow_same, z j hj]; grind
    · rw [setRow_ne e]
/-- two equal rows, one behind the other -/
theorem det_adj : ∀ {n : Nat} {A : Mat R} {k : Nat}, k + 1 < n → A k = A (k + 1) → det n A = 0
  | 0, _, _, h, _ => by omega
  | n + 1, A, k, h, e => by
    refine sm_two (k := k) (l := k + 1) (by omega) h (fun i hi n1 n2 => ?_) ?_
    · have z : det n (minor A i) = 0 := by
        refine det_adj (k := sq i k) ?_ ?_
        · unfold sq; split <;> omega
        · funext c
          show A (skip i (sq i k)) (c + 1) = A (skip i (sq i k + 1)) (c + 1)
          rw [skip_sq (Ne.symm n1)]
          have : sq i k + 1 = sq i (k + 1) := by unfold sq; split <;> split <;> omega
          rw [this, skip_sq (Ne.symm n2), e]
      show sg i * A i 0 * det n (minor A i) = 0
      rw [z]; grind
    · have m : minor A k = minor A (k + 1) := by
        funext r c
        show A (skip k r) (c + 1) = A (skip (k + 1) r) (c + 1)
        unfold skip
        by_cases h1 : r < k
        · rw [if_pos h1, if_pos (by omega)]
        · by_cases h2 : r = k
          · subst h2; rw [if_neg (by omega), if_pos (by omega), e]
          · rw [if_neg h1, if_neg (by omega)]
      show sg k * A k 0 * det n (minor A k) + sg (k + 1) * A (k + 1) 0 * det n (minor A (k + 1)) = 0
      rw [sg_succ, m, e]; grind
def swapR (A : Mat R) (k l : Nat) : Mat R := setRow (setRow A k (A l)) l (A k)
theorem setRow_comm {A : Mat R} {k l : Nat} {u v : Nat → R} (h : k ≠ l) : setRow (setRow A k u) l v = setRow (setRow A l v) k u := by
  funext i
  by_cases h1 : i = k
  · subst h1; rw [setRow_ne h, setRow_same, setRow_same]
  · by_cases h2 : i = l
    · subst h2; rw [setRow_same, setRow_ne h1, setRow_same]
    · rw [setRow_ne h2, setRow_ne h1, setRow_ne h1, setRow_ne h2]
theorem setRow_set {A : Mat R} {k : Nat} {u v : Nat → R} : setRow (setRow A k u) k v = setRow A k v := by
  funext i
  by_cases h1 : i = k
  · subst h1; rw [setRow_same, setRow_same]
  · rw [setRow_ne h1, setRow_ne h1, setRow_ne h1]
/-- from vanishing on equal rows: exchanging two rows changes the sign -/
theorem swap_of {n k l : Nat} (hk : k < n) (hl : l < n) (hkl : k ≠ l) (z : ∀ (A : Mat R), A k = A l → det n A = 0) (A : Mat R) : det n (swapR A k l) = - det n A := by
  -- rows u = A k, v = A l; at both places u + v
  have h0 := z (setRow (setRow A k fun j => A k j + A l j) l fun j => A k j + A l j) (by rw [setRow_ne hkl, setRow_same, setRow_same])
  rw [det_add hl, setRow_comm hkl, det_add hk, setRow_comm hkl (u := fun j => A k j + A l j), det_add hk] at h0
  have h1 := z (setRow (setRow A l (A k)) k (A k)) (by rw [setRow_same, setRow_ne (Ne.symm hkl), setRow_same])
  have h2 := z (setRow (setRow A l (A l)) k (A l)) (by rw [setRow_same, setRow_ne (Ne.symm hkl), setRow_same])
  rw [h1, h2] at h0
  have h3 : setRow (setRow A l (A l)) k (A k) = A := by rw [setRow_self, setRow_self]
  have h4 : setRow (setRow A l (A k)) k (A l) = swapR A k l := by unfold swapR; rw [setRow_comm hkl]
  rw [h3, h4] at h0
  grind
/-- two equal rows anywhere -/
theorem det_eqr {n : Nat} : ∀ (d : Nat) {A : Mat R} {k : Nat}, k + 1 + d < n → A k = A (k + 1 + d) → det n A = 0
  | 0, A, k, h, e => det_adj h e
  | d + 1, A, k, h, e => by
    have h1 : k + 1 + d + 1 < n := by omega
    have h2 : k + 1 + d < n := by omega
    have h3 : k + 1 + d ≠ k + 1 + d + 1 := by omega
    have s := swap_of h2 h1 h3 (fun B hB => det_adj (k := k + 1 + d) h1 hB) A
    have z := det_eqr d (A := swapR A (k + 1 + d) (k + 1 + d + 1)) (k := k) h2 (by
      unfold swapR
      rw [setRow_ne (show k ≠ k + 1 + d + 1 by omega), setRow_ne (show k ≠ k + 1 + d by omega), setRow_ne (show k + 1 + d ≠ k + 1 + d + 1 by omega), setRow_same]
      exact e)
    rw [z] at s
    grind
theorem det_eq2 {n : Nat} {A : Mat R} {k l : Nat} (hk : k < n) (hl : l < n) (hkl : k ≠ l) (e : A k = A l) : det n A = 0 := by
  by_cases h : k < l
  · exact det_eqr (l - k - 1) (k := k) (by omega) (by rw [show k + 1 + (l - k - 1) = l by omega]; exact e)
  · exact det_eqr (k - l - 1) (k := l) (by omega) (by rw [show l + 1 + (k - l - 1) = k by omega]; exact e.symm)
theorem det_swap {n : Nat} {A : Mat R} {k l : Nat} (hk : k < n) (hl : l < n) (hkl : k ≠ l) : det n (swapR A k l) = - det n A := swap_of hk hl hkl (fun B hB => det_eq2 hk hl hkl hB) A
theorem det_eq2' {n : Nat} {A : Mat R} {k l : Nat} (hk : k < n) (hl : l < n) (hkl : k ≠ l) (e : ∀ j, j < n → A k j = A l j) : det n A = 0 := by
  rw [det_congr (A := A) (B := setRow A k (A l)) fun i j hi hj => ?_]
  · exact det_eq2 hk hl hkl (by rw [setRow_same, setRow_ne (Ne.symm hkl)])
  · by_cases h : i = k
    · subst h; rw [setRow_same, e j hj]
    · rw [setRow_ne h]
/-- a row that is a sum of multiples of the others and one more: only the last counts -/
theorem det_comb {n k : Nat} {A : Mat R} {v w : Nat → R} {c : Nat → R} (hk : k < n) : ∀ m : Nat, m ≤ n → (∀ j, j < n → v j = sm m (fun l => if l = k then 0 else c l * A l j) + w j) → det n (setRow A k v) = det n (setRow A k w)
  | 0, _, h => det_congr fun i j hi hj => by
    by_cases e : i = k
    · subst e; rw [setRow_same, setRow_same, h j hj]; show (0 : R) + w j = w j; grind
    · rw [setRow_ne e, setRow_ne e]
  | m + 1, hm, h => by
    by_cases e : m = k
    · refine det_comb (c := c) hk m (by omega) fun j hj => ?_
      rw [h j hj]
      show sm m _ + (if m = k then 0 else c m * A m j) + w j = _
      rw [if_pos e]; grind
    · have s1 : det n (setRow A k v) = det n (setRow A k fun j => 1 * (v j - c m * A m j) + c m * A m j) := det_congr fun i j hi hj => by
        by_cases e : i = k
        · subst e; rw [setRow_same, setRow_same]; grind
        · rw [setRow_ne e, setRow_ne e]
      rw [s1, det_lin hk, det_eq2 (A := setRow A k (A m)) hk (by omega) (Ne.symm e) (by rw [setRow_same, setRow_ne e])]
      have := det_comb (A := A) (w := w) (c := c) (v := fun j => v j - c m * A m j) hk m (by omega) fun j hj => by
        rw [h j hj]
        show sm m _ + (if m = k then 0 else c m * A m j) + w j - c m * A m j = _
        rw [if_neg e]; grind
      rw [this]; grind
end
end Det
end

section
set_option Elab.async false
set_option linter.all false
/-! Uniqueness, products, blocks. -/
namespace Det
open Lean.Grind
section
variable {R : Type} [CommRing R]
def uv (j : Nat) : Nat → R := fun c => if c = j then 1 else 0
def one : Mat R := fun i => uv i
theorem sm_uv {n j : Nat} {f : Nat → R} (h : j < n) : sm n (fun c => f c * uv j c) = f j := by
  rw [sm_one (k := j) h fun i hi ne => by unfold uv; rw [if_neg ne]; grind]
  unfold uv; rw [if_pos rfl]; grind
/-- what a row with a zero block does -/
theorem det_block : ∀ {k n : Nat} {A : Mat R}, (∀ i j, k ≤ i → i < k + n → j < k → A i j = 0) →
    det (k + n) A = det k A * det n (fun i j => A (k + i) (k + j))
  | 0, n, A, _ => by
    rw [show 0 + n = n by omega]
    show _ = (1 : R) * _
    rw [det_congr (A := fun i j => A (0 + i) (0 + j)) (B := A) fun i j _ _ => by rw [Nat.zero_add, Nat.zero_add]]
    grind
  | k + 1, n, A, h => by
    rw [show k + 1 + n = (k + n) + 1 by omega]
    show sm (k + n + 1) _ = sm (k + 1) _ * _
    have split : ∀ (m : Nat) (f : Nat → R), (∀ i, k + 1 ≤ i → i < k + 1 + m → f i = 0) → sm (k + 1 + m) f = sm (k + 1) f := by
      intro m f z
      induction m with
      | zero => rfl
      | succ m ih =>
        show sm (k + 1 + m) f + f (k + 1 + m) = _
        rw [ih fun i h1 h2 => z i h1 (by omega), z (k + 1 + m) (by omega) (by omega)]
        grind
    rw [show k + n + 1 = k + 1 + n by omega, split n _ fun i h1 h2 => by rw [h i 0 h1 (by omega) (by omega)]; grind, ← sm_mul_r]
    refine sm_congr fun i hi => ?_
    rw [det_block (k := k) (n := n) (A := minor A i) fun r c h1 h2 h3 => ?_]
    · rw [det_congr (n := n) (A := fun r c => minor A i (k + r) (k + c)) (B := fun r c => A (k + 1 + r) (k + 1 + c)) fun r c hr hc => ?_]
      · grind
      · show A (skip i (k + r)) (k + c + 1) = A (k + 1 + r) (k + 1 + c)
        unfold skip
        rw [if_neg (by omega), show k + r + 1 = k + 1 + r by omega, show k + c + 1 = k + 1 + c by omega]
    · show A (skip i r) (c + 1) = 0
      unfold skip
      rw [if_neg (by omega)]
      exact h _ _ (by omega) (by omega) (by omega)
/-- a zero column behind the block -/
theorem det_zcol : ∀ {k n : Nat} {A : Mat R}, k < n → (∀ i j, k ≤ i → i < n → j ≤ k → A i j = 0) → det n A = 0
  | _, 0, _, h, _ => by omega
  | 0, n + 1, A, _, h => by
    show sm (n + 1) _ = 0
    exact sm_zero fun i hi => by rw [h i 0 (by omega) hi (by omega)]; grind
  | k + 1, n + 1, A, hk, h => by
    show sm (n + 1) _ = 0
    refine sm_zero fun i hi => ?_
    by_cases e : k + 1 ≤ i
    · rw [h i 0 e hi (by omega)]; grind
    · rw [det_zcol (k := k) (n := n) (A := minor A i) (by omega) fun r c h1 h2 h3 => ?_]
      · grind
      · show A (skip i r) (c + 1) = 0
        unfold skip
        rw [if_neg (by omega)]
        exact h _ _ (by omega) (by omega) (by omega)
/-- nothing above the diagonal -/
def pr : Nat → (Nat → R) → R
  | 0, _ => 1
  | n + 1, f => f 0 * pr n fun i => f (i + 1)
theorem det_tri : ∀ {n : Nat} {A : Mat R}, (∀ i j, i < n → j < n → i < j → A i j = 0) → det n A = pr n fun i => A i i
  | 0, _, _ => rfl
  | n + 1, A, h => by
    show sm (n + 1) _ = A 0 0 * pr n _
    rw [sm_one (k := 0) (by omega) fun i hi ne => ?_]
    · rw [det_tri (n := n) (A := minor A 0) fun i j hi hj hij => ?_]
      · show (sg 0 : R) * A 0 0 * pr n (fun i => A (skip 0 i) (i + 1)) = _
        rw [show (sg 0 : R) = 1 from rfl, show (fun i => A (skip 0 i) (i + 1)) = fun i => A (i + 1) (i + 1) from funext fun i => by unfold skip; rw [if_neg (by omega)]]
        grind
      · show A (skip 0 i) (j + 1) = 0
        unfold skip; rw [if_neg (by omega)]
        exact h _ _ (by omega) (by omega) (by omega)
    · cases n with
      | zero => omega
      | succ n =>
        rw [det_row0 (A := minor A i) (k := 0) (by omega) fun j hj => ?_]
        · grind
        · show A (skip i 0) (j + 1) = 0
          unfold skip; rw [if_pos (by omega)]
          exact h _ _ (by omega) (by omega) (by omega)
theorem pr_const {n : Nat} {a : R} : pr n (fun _ => a) = a ^ n := by
  induction n with
  | zero => show (1 : R) = a ^ 0; grind
  | succ n ih => show a * pr n (fun _ => a) = a ^ (n + 1); rw [ih]; grind
theorem pr_congr {n : Nat} {f g : Nat → R} (h : ∀ i, i < n → f i = g i) : pr n f = pr n g := by
  induction n generalizing f g with
  | zero => rfl
  | succ n ih => show f 0 * _ = g 0 * _; rw [h 0 (by omega), ih fun i hi => h (i + 1) (by omega)]
theorem det_scal {n : Nat} {a : R} : det n (fun i j => if j = i then a else 0) = a ^ n := by
  rw [det_tri fun i j _ _ h => if_neg (by omega), ← pr_const (n := n)]
  exact pr_congr fun i _ => if_pos rfl
theorem pr_one {n : Nat} : pr n (fun _ => (1 : R)) = 1 := by
  induction n with
  | zero => rfl
  | succ n ih => show (1 : R) * pr n (fun _ => (1 : R)) = 1; rw [ih]; grind
theorem det_one {n : Nat} : det n (one : Mat R) = 1 := by
  rw [det_tri fun i j _ _ h => by show uv i j = (0 : R); unfold uv; exact if_neg (by omega), ← pr_one (n := n)]
  exact pr_congr fun i _ => by show uv i i = (1 : R); unfold uv; exact if_pos rfl

/-! forms that are linear in each row and vanish at equal rows -/
structure Alt (n : Nat) (f : Mat R → R) : Prop where
  cong : ∀ {A B : Mat R}, (∀ i j, i < n → j < n → A i j = B i j) → f A = f B
  lin : ∀ {A : Mat R} {k : Nat} {a b : R} {u v : Nat → R}, k < n → f (setRow A k fun j => a * u j + b * v j) = a * f (setRow A k u) + b * f (setRow A k v)
  eq2 : ∀ {A : Mat R} {k l : Nat}, k < n → l < n → k ≠ l → A k = A l → f A = 0
theorem alt_det {n : Nat} : Alt n (det n (R := R)) := ⟨det_congr, det_lin, det_eq2⟩
theorem Alt.add {n : Nat} {f : Mat R → R} (F : Alt n f) {A : Mat R} {k : Nat} {u v : Nat → R} (h : k < n) : f (setRow A k fun j => u j + v j) = f (setRow A k u) + f (setRow A k v) := by
  have := F.lin (A := A) (a := 1) (b := 1) (u := u) (v := v) h
  rw [show (fun j => (1 : R) * u j + 1 * v j) = fun j => u j + v j by funext j; grind] at this
  rw [this]; grind
theorem Alt.swap {n : Nat} {f : Mat R → R} (F : Alt n f) {k l : Nat} (hk : k < n) (hl : l < n) (hkl : k ≠ l) (A : Mat R) : f (swapR A k l) = - f A := by
  have h0 := F.eq2 (A := setRow (setRow A k fun j => A k j + A l j) l fun j => A k j + A l j) hk hl hkl (by rw [setRow_ne hkl, setRow_same, setRow_same])
  rw [F.add hl, setRow_comm hkl, F.add hk, setRow_comm hkl (u := fun j => A k j + A l j), F.add hk] at h0
  have h1 := F.eq2 (A := setRow (setRow A l (A k)) k (A k)) hk hl hkl (by rw [setRow_same, setRow_ne (Ne.symm hkl), setRow_same])
  have h2 := F.eq2 (A := setRow (setRow A l (A l)) k (A l)) hk hl hkl (by rw [setRow_same, setRow_ne (Ne.symm hkl), setRow_same])
  rw [h1, h2] at h0
  have h3 : setRow (setRow A l (A l)) k (A k) = A := by rw [setRow_self, setRow_self]
  have h4 : setRow (setRow A l (A k)) k (A l) = swapR A k l := by unfold swapR; rw [setRow_comm hkl]
  rw [h3, h4] at h0
  grind
/-- a row told by its entries -/
theorem Alt.expand {n : Nat} {f : Mat R → R} (F : Alt n f) {A : Mat R} {k : Nat} (hk : k < n) (v : Nat → R) :
    f (setRow A k v) = sm n fun j => v j * f (setRow A k (uv j)) := by
  have key : ∀ m, m ≤ n → f (setRow A k fun c => if c < m then v c else 0) = sm m fun j => v j * f (setRow A k (uv j)) := by
    intro m
    induction m with
    | zero =>
      intro _
      have := F.lin (A := A) (k := k) (a := 0) (b := 0) (u := fun _ => (0 : R)) (v := fun _ => (0 : R)) hk
      show f (setRow A k fun c => if c < 0 then v c else 0) = 0
      rw [show (fun c => if c < 0 then v c else (0 : R)) = fun j => (0 : R) * (fun _ => (0 : R)) j + 0 * (fun _ => (0 : R)) j from funext fun c => by rw [if_neg (by omega)]; grind, this]
      grind
    | succ m ih =>
      intro hm
      have := F.lin (A := A) (k := k) (a := 1) (b := v m) (u := fun c => if c < m then v c else 0) (v := uv m) hk
      rw [show (fun j => (1 : R) * (fun c => if c < m then v c else 0) j + v m * uv m j) = fun c => if c < m + 1 then v c else 0 from funext fun c => by
        unfold uv
        by_cases e : c = m
        · subst e; rw [if_pos (by omega : c < c + 1), if_pos rfl]; show 1 * (if c < c then v c else 0) + v c * 1 = v c; rw [if_neg (by omega)]; grind
        · rw [if_neg e]
          by_cases e2 : c < m
          · rw [if_pos (by omega : c < m + 1)]; show 1 * (if c < m then v c else 0) + v m * 0 = v c; rw [if_pos e2]; grind
          · rw [if_neg (by omega : ¬ c < m + 1)]; show 1 * (if c < m then v c else 0) + v m * 0 = 0; rw [if_neg e2]; grind] at this
      rw [this, ih (by omega)]
      show _ = sm m _ + _
      grind
  rw [← key n (Nat.le_refl n)]
  refine F.cong fun i j hi hj => ?_
  by_cases e : i = k
  · subst e; rw [setRow_same, setRow_same, if_pos hj]
  · rw [setRow_ne e, setRow_ne e]
/-- how many rows are not yet in place -/
def off (n : Nat) (s : Nat → Nat) : Nat := (List.range n).countP fun i => s i ≠ i
theorem off_lt {n i : Nat} {s t : Nat → Nat} (hi : i < n) (h1 : s i ≠ i) (h2 : t i = i) (h : ∀ j, j < n → s j = j → t j = j) : off n t < off n s := by
  unfold off
  induction n with
  | zero => omega
  | succ n ih =>
    rw [List.range_succ, List.countP_append, List.countP_append]
    by_cases e : i = n
    · subst e
      have le : (List.range i).countP (fun i => t i ≠ i) ≤ (List.range i).countP (fun i => s i ≠ i) := by
        refine List.countP_mono_left fun x hx hh => ?_
        simp only [ne_eq, decide_not, Bool.not_eq_true', decide_eq_false_iff_not] at hh ⊢
        exact fun z => hh (h x (by have := List.mem_range.mp hx; omega) z)
      simp only [List.countP_cons, List.countP_nil]
      rw [if_neg (by simp [h2]), if_pos (by simp [h1])]
      simp only [ne_eq, decide_not] at le ⊢
      omega
    · have := ih (by omega) fun j hj => h j (by omega)
      have le : [n].countP (fun i => t i ≠ i) ≤ [n].countP (fun i => s i ≠ i) := by
        refine List.countP_mono_left fun x hx hh => ?_
        simp only [ne_eq, decide_not, Bool.not_eq_true', decide_eq_false_iff_not, List.mem_singleton] at hh hx ⊢
        exact fun z => hh (h x (by omega) z)
      omega
/-- at unit rows -/
theorem Alt.units {n : Nat} {f : Mat R → R} (F : Alt n f) : ∀ (m : Nat) (s : Nat → Nat), (∀ i, i < n → s i < n) → off n s ≤ m → f (fun i => uv (s i)) = det n (fun i => uv (s i)) * f one := by
  intro m
  induction m with
  | zero =>
    intro s hs hm
    have all : ∀ i, i < n → s i = i := fun i hi => by
      apply Classical.byContradiction
      intro hne
      have : 0 < off n s := List.countP_pos_iff.mpr ⟨i, List.mem_range.mpr hi, by simpa using hne⟩
      omega
    rw [F.cong (A := fun i => uv (s i)) (B := one) fun i j hi hj => by show uv (s i) j = uv i j; rw [all i hi],
      det_congr (A := fun i => uv (s i)) (B := one) fun i j hi hj => by show uv (s i) j = uv i j; rw [all i hi], det_one]
    grind
  | succ m ih =>
    intro s hs hm
    by_cases all : ∀ i, i < n → s i = i
    · rw [F.cong (A := fun i => uv (s i)) (B := one) fun i j hi hj => by show uv (s i) j = uv i j; rw [all i hi],
        det_congr (A := fun i => uv (s i)) (B := one) fun i j hi hj => by show uv (s i) j = uv i j; rw [all i hi], det_one]
      grind
    · obtain ⟨i, h⟩ := Classical.not_forall.mp all
      obtain ⟨hi, hne⟩ := Classical.not_imp.mp h
      by_cases e : s (s i) = s i
      · rw [F.eq2 (A := fun i => uv (s i)) hi (hs i hi) (Ne.symm hne) (by show uv (s i) = uv (s (s i)); rw [e]),
          det_eq2 (A := fun i => uv (s i)) hi (hs i hi) (Ne.symm hne) (by show uv (s i) = uv (s (s i)); rw [e])]
        grind
      · let t : Nat → Nat := fun x => if x = s i then s i else if x = i then s (s i) else s x
        have ht : swapR (fun i => (uv (s i) : Nat → R)) i (s i) = fun x => uv (t x) := by
          funext x
          show _ = uv (if x = s i then s i else if x = i then s (s i) else s x)
          unfold swapR
          by_cases e1 : x = s i
          · subst e1; rw [setRow_same, if_pos rfl]
          · rw [setRow_ne e1, if_neg e1]
            by_cases e2 : x = i
            · rw [e2, setRow_same, if_pos rfl]
            · rw [setRow_ne e2, if_neg e2]
        have h1 := F.swap hi (hs i hi) (Ne.symm hne) (fun i => uv (s i))
        have h2 := det_swap (A := fun i => (uv (s i) : Nat → R)) hi (hs i hi) (Ne.symm hne)
        rw [ht] at h1 h2
        have h3 := ih t (fun x hx => by
          show (if x = s i then s i else if x = i then s (s i) else s x) < n
          split
          · exact hs i hi
          · split
            · exact hs _ (hs i hi)
            · exact hs x hx) (by
          have := off_lt (n := n) (i := s i) (s := s) (t := t) (hs i hi) e (if_pos rfl) (fun j hj hsj => by
            show (if j = s i then s i else if j = i then s (s i) else s j) = j
            by_cases e1 : j = s i
            · rw [if_pos e1, e1]
            · rw [if_neg e1]
              by_cases e2 : j = i
              · exact absurd (e2 ▸ hsj) hne
              · rw [if_neg e2, hsj])
          omega)
        rw [h1, h2] at h3
        grind
theorem Alt.det {n : Nat} {f : Mat R → R} (F : Alt n f) (A : Mat R) : f A = Det.det n A * f one := by
  have key : ∀ (m : Nat), m ≤ n → ∀ (A : Mat R) (s : Nat → Nat), (∀ i, i < n → s i < n) → (∀ i, m ≤ i → i < n → A i = uv (s i)) → f A = Det.det n A * f one := by
    intro m
    induction m with
    | zero =>
      intro _ A s hs h
      rw [F.cong (A := A) (B := fun i => uv (s i)) fun i j hi hj => by rw [h i (by omega) hi],
        det_congr (A := A) (B := fun i => uv (s i)) fun i j hi hj => by rw [h i (by omega) hi]]
      exact F.units _ s hs (Nat.le_refl _)
    | succ m ih =>
      intro hm A s hs h
      have e1 := F.expand (A := A) (k := m) (by omega) (A m)
      have e2 := (alt_det (R := R) (n := n)).expand (A := A) (k := m) (by omega) (A m)
      rw [setRow_self] at e1 e2
      rw [e1, e2, ← sm_mul_r]
      refine sm_congr fun j hj => ?_
      rw [ih (by omega) (setRow A m (uv j)) (fun i => if i = m then j else s i) (fun i hi => by show (if i = m then j else s i) < n; split; exact hj; exact hs i hi) fun i h1 h2 => ?_]
      · grind
      · by_cases e : i = m
        · subst e; rw [setRow_same, if_pos rfl]
        · rw [setRow_ne e, if_neg e]; exact h i (by omega) h2
  by_cases hn : n = 0
  · subst hn
    rw [F.cong (A := A) (B := one) fun i j hi hj => by omega]
    show _ = (1 : R) * _
    grind
  · exact key n (Nat.le_refl n) A (fun _ => 0) (fun _ _ => by omega) fun i h1 h2 => by omega

def mmul (n : Nat) (A B : Mat R) : Mat R := fun i j => sm n fun k => A i k * B k j
theorem mmul_set {n : Nat} {A B : Mat R} {k : Nat} {v : Nat → R} : mmul n (setRow A k v) B = setRow (mmul n A B) k fun j => sm n fun l => v l * B l j := by
  funext i j
  by_cases e : i = k
  · subst e; rw [setRow_same]; show sm n (fun l => setRow A i v i l * B l j) = _; rw [setRow_same]
  · rw [setRow_ne e]; show sm n (fun l => setRow A k v i l * B l j) = _; rw [setRow_ne e]; rfl
theorem alt_mul {n : Nat} (B : Mat R) : Alt n fun A => Det.det n (mmul n A B) where
  cong h := det_congr fun i j hi hj => sm_congr fun k hk => by rw [h i k hi hk]
  lin {A k a b u v} hk := by
    show Det.det n (mmul n _ B) = a * Det.det n (mmul n _ B) + b * Det.det n (mmul n _ B)
    rw [mmul_set, mmul_set, mmul_set, ← det_lin hk]
    congr 2
    funext j
    show sm n (fun l => (a * u l + b * v l) * B l j) = a * sm n (fun l => u l * B l j) + b * sm n (fun l => v l * B l j)
    rw [← sm_mul, ← sm_mul, ← sm_add]
    exact sm_congr fun l _ => by grind
  eq2 {A k l} hk hl hkl h := det_eq2 hk hl hkl (by funext j; show sm n _ = sm n _; rw [h])
theorem mmul_one {n : Nat} {B : Mat R} {i j : Nat} (hi : i < n) : mmul n one B i j = B i j := by
  show sm n (fun k => uv i k * B k j) = _
  rw [sm_one (k := i) hi fun k hk ne => by unfold uv; rw [if_neg ne]; grind]
  unfold uv; rw [if_pos rfl]; grind
theorem det_mul {n : Nat} (A B : Mat R) : det n (mmul n A B) = det n A * det n B := by
  have h := (alt_mul (n := n) B).det A
  rw [show det n (mmul n one B) = det n B from det_congr fun i j hi hj => mmul_one hi] at h
  exact h
theorem mmul_assoc {n : Nat} (A B C : Mat R) : mmul n (mmul n A B) C = mmul n A (mmul n B C) := by
  funext i j
  show sm n (fun k => sm n (fun l => A i l * B l k) * C k j) = sm n fun l => A i l * sm n fun k => B l k * C k j
  rw [show (fun k => sm n (fun l => A i l * B l k) * C k j) = fun k => sm n fun l => A i l * (B l k * C k j) from funext fun k => by rw [← sm_mul_r]; exact sm_congr fun l _ => by grind, sm_comm]
  exact sm_congr fun l _ => by rw [sm_mul]
end
end Det
end

section
set_option Elab.async false
set_option linter.all false
/-! Power series over the integers; the derivation; Newton's sums. -/
namespace Det
open Lean.Grind
@[ext] structure PS where
  c : Nat → Int
namespace PS
def mulF : (Nat → Int) → (Nat → Int) → Nat → Int
  | f, g, 0 => f 0 * g 0
  | f, g, k + 1 => f 0 * g (k + 1) + mulF (fun i => f (i + 1)) g k
theorem mulF_back : ∀ (k : Nat) (f g : Nat → Int), mulF f g (k + 1) = mulF f (fun i => g (i + 1)) k + f (k + 1) * g 0
  | 0, f, g => rfl
  | k + 1, f, g => by
    show f 0 * g (k + 2) + mulF (fun i => f (i + 1)) g (k + 1) = (f 0 * g (k + 2) + mulF (fun i => f (i + 1)) (fun i => g (i + 1)) k) + f (k + 2) * g 0
    rw [mulF_back k (fun i => f (i + 1)) g]
    grind
theorem mulF_comm : ∀ (k : Nat) (f g : Nat → Int), mulF f g k = mulF g f k
  | 0, f, g => Int.mul_comm _ _
  | k + 1, f, g => by
    rw [mulF_back k g f]
    show f 0 * g (k + 1) + mulF (fun i => f (i + 1)) g k = _
    rw [mulF_comm k (fun i => f (i + 1)) g]
    grind
theorem mulF_add_r : ∀ (k : Nat) (f g h : Nat → Int), mulF f (fun i => g i + h i) k = mulF f g k + mulF f h k
  | 0, f, g, h => Int.mul_add _ _ _
  | k + 1, f, g, h => by
    show f 0 * (g (k + 1) + h (k + 1)) + mulF _ _ k = (f 0 * g (k + 1) + mulF _ g k) + (f 0 * h (k + 1) + mulF _ h k)
    rw [mulF_add_r k]
    grind
theorem mulF_add_l (k : Nat) (f g h : Nat → Int) : mulF (fun i => f i + g i) h k = mulF f h k + mulF g h k := by
  rw [mulF_comm, mulF_add_r, mulF_comm k h f, mulF_comm k h g]
theorem mulF_smul_l : ∀ (k : Nat) (a : Int) (f g : Nat → Int), mulF (fun i => a * f i) g k = a * mulF f g k
  | 0, a, f, g => by show a * f 0 * g 0 = a * (f 0 * g 0); grind
  | k + 1, a, f, g => by
    show a * f 0 * g (k + 1) + mulF (fun i => a * f (i + 1)) g k = a * (f 0 * g (k + 1) + mulF (fun i => f (i + 1)) g k)
    rw [mulF_smul_l k a (fun i => f (i + 1))]
    grind
theorem mulF_assoc : ∀ (k : Nat) (f g h : Nat → Int), mulF (mulF f g) h k = mulF f (mulF g h) k
  | 0, f, g, h => Int.mul_assoc _ _ _
  | k + 1, f, g, h => by
    show f 0 * g 0 * h (k + 1) + mulF (fun i => mulF f g (i + 1)) h k = f 0 * (g 0 * h (k + 1) + mulF (fun i => g (i + 1)) h k) + mulF (fun i => f (i + 1)) (mulF g h) k
    rw [← mulF_assoc k]
    rw [show (fun i => mulF f g (i + 1)) = fun i => f 0 * g (i + 1) + mulF (fun i => f (i + 1)) g i from rfl]
    rw [mulF_add_l k (fun i => f 0 * g (i + 1)), mulF_smul_l k (f 0) (fun i => g (i + 1))]
    grind
def cst (a : Int) : PS := ⟨fun k => if k = 0 then a else 0⟩
instance : Add PS := ⟨fun f g => ⟨fun k => f.c k + g.c k⟩⟩
instance : Mul PS := ⟨fun f g => ⟨mulF f.c g.c⟩⟩
instance : Neg PS := ⟨fun f => ⟨fun k => - f.c k⟩⟩
instance : Sub PS := ⟨fun f g => ⟨fun k => f.c k - g.c k⟩⟩
instance (n : Nat) : OfNat PS n := ⟨cst n⟩
instance : NatCast PS := ⟨fun n => cst n⟩
instance : IntCast PS := ⟨fun n => cst n⟩
theorem add_c (f g : PS) (k : Nat) : (f + g).c k = f.c k + g.c k := rfl
theorem neg_c (f : PS) (k : Nat) : (- f).c k = - f.c k := rfl
theorem mul_c (f g : PS) (k : Nat) : (f * g).c k = mulF f.c g.c k := rfl
theorem mulF_zero : ∀ (k : Nat) (g : Nat → Int), mulF (fun _ => 0) g k = 0
  | 0, g => Int.zero_mul _
  | k + 1, g => by show 0 * g (k + 1) + mulF (fun _ => 0) g k = 0; rw [mulF_zero k]; grind
theorem mulF_cst (k : Nat) (a : Int) (g : Nat → Int) : mulF (cst a).c g k = a * g k := by
  cases k with
  | zero => rfl
  | succ k => show a * g (k + 1) + mulF (fun _ => 0) g k = a * g (k + 1); rw [mulF_zero]; grind
theorem zero_c (k : Nat) : (0 : PS).c k = 0 := by show (if k = 0 then (0 : Int) else 0) = 0; split <;> rfl
theorem cst_mul (a : Int) (g : PS) (k : Nat) : (cst a * g).c k = a * g.c k := mulF_cst k a g.c
theorem one_c (k : Nat) : (1 : PS).c k = if k = 0 then 1 else 0 := rfl
def npow (f : PS) : Nat → PS
  | 0 => 1
  | n + 1 => npow f n * f
instance : HPow PS Nat PS := ⟨npow⟩
instance : SMul Nat PS := ⟨fun n f => ⟨fun k => n * f.c k⟩⟩
instance : SMul Int PS := ⟨fun n f => ⟨fun k => n * f.c k⟩⟩
theorem pmul_comm (f g : PS) : f * g = g * f := PS.ext (funext fun k => mulF_comm k _ _)
theorem pone_mul (f : PS) : 1 * f = f := PS.ext (funext fun k => by show mulF (cst 1).c f.c k = f.c k; rw [mulF_cst]; grind)
theorem pmul_add (f g h : PS) : f * (g + h) = f * g + f * h := PS.ext (funext fun k => mulF_add_r k _ _ _)
theorem pzero_mul (f : PS) : 0 * f = 0 := PS.ext (funext fun k => by show mulF (cst 0).c f.c k = (0 : PS).c k; rw [mulF_cst, zero_c]; grind)
instance : CommRing PS where
  nsmul := inferInstance
  zsmul := inferInstance
  add_zero f := PS.ext (funext fun k => by rw [add_c, zero_c]; grind)
  add_comm f g := PS.ext (funext fun k => Int.add_comm _ _)
  add_assoc f g h := PS.ext (funext fun k => Int.add_assoc _ _ _)
  mul_assoc f g h := PS.ext (funext fun k => mulF_assoc k _ _ _)
  mul_one f := by rw [pmul_comm, pone_mul]
  one_mul f := pone_mul f
  left_distrib f g h := pmul_add f g h
  right_distrib f g h := by rw [pmul_comm, pmul_add, pmul_comm h f, pmul_comm h g]
  zero_mul f := pzero_mul f
  mul_zero f := by rw [pmul_comm, pzero_mul]
  pow_zero f := rfl
  pow_succ f n := rfl
  neg_add_cancel f := PS.ext (funext fun k => by rw [add_c, neg_c, zero_c]; grind)
  sub_eq_add_neg f g := PS.ext (funext fun k => Int.sub_eq_add_neg)
  neg_zsmul i f := PS.ext (funext fun k => by show -i * f.c k = -(i * f.c k); grind)
  zsmul_natCast_eq_nsmul n f := rfl
  intCast_ofNat n := rfl
  intCast_neg i := PS.ext (funext fun k => by show (if k = 0 then -i else 0) = -(if k = 0 then i else 0); split <;> simp)
  mul_comm f g := pmul_comm f g
  ofNat_succ n := PS.ext (funext fun k => by
    show (if k = 0 then ((n + 1 : Nat) : Int) else 0) = (if k = 0 then (n : Int) else 0) + (if k = 0 then 1 else 0)
    split <;> simp)
  nsmul_eq_natCast_mul n f := PS.ext (funext fun k => by show (n : Int) * f.c k = mulF (cst n).c f.c k; rw [mulF_cst])
theorem sm_c {n : Nat} {f : Nat → PS} {k : Nat} : (sm n f).c k = sm n fun i => (f i).c k := by
  induction n with
  | zero => exact zero_c k
  | succ n ih => show (sm n f + f n).c k = sm n _ + _; rw [add_c, ih]
/-- a + b t -/
def aff (a b : Int) : PS := ⟨fun k => if k = 0 then a else if k = 1 then b else 0⟩
theorem aff_mul0 (a b : Int) (g : PS) : (aff a b * g).c 0 = a * g.c 0 := rfl
theorem aff_mul (a b : Int) (g : PS) (k : Nat) : (aff a b * g).c (k + 1) = a * g.c (k + 1) + b * g.c k := by
  show a * g.c (k + 1) + mulF (fun i => (aff a b).c (i + 1)) g.c k = _
  rw [show (fun i => (aff a b).c (i + 1)) = (cst b).c from funext fun i => by
    show (if i + 1 = 0 then a else if i + 1 = 1 then b else 0) = if i = 0 then b else 0
    rw [if_neg (by omega)]
    by_cases h : i = 0
    · rw [if_pos (by omega), if_pos h]
    · rw [if_neg (by omega), if_neg h], mulF_cst]
/-- t times the derivative -/
def dv (f : PS) : PS := ⟨fun k => k * f.c k⟩
theorem dv_mulF : ∀ (k : Nat) (f g : Nat → Int), (k : Int) * mulF f g k = mulF (fun i => (i : Int) * f i) g k + mulF f (fun i => (i : Int) * g i) k
  | 0, f, g => by show (0 : Int) * _ = (0 * f 0) * g 0 + f 0 * (0 * g 0); grind
  | k + 1, f, g => by
    show ((k + 1 : Nat) : Int) * (f 0 * g (k + 1) + mulF (fun i => f (i + 1)) g k) = (((0 : Nat) : Int) * f 0 * g (k + 1) + mulF (fun i => ((i + 1 : Nat) : Int) * f (i + 1)) g k) + (f 0 * (((k + 1 : Nat) : Int) * g (k + 1)) + mulF (fun i => f (i + 1)) (fun i => (i : Int) * g i) k)
    have ih := dv_mulF k (fun i => f (i + 1)) g
    rw [show (fun (i : Nat) => ((i + 1 : Nat) : Int) * f (i + 1)) = fun (i : Nat) => (i : Int) * f (i + 1) + f (i + 1) from funext fun i => by rw [Int.natCast_add]; grind, mulF_add_l k (fun (i : Nat) => (i : Int) * f (i + 1))]
    rw [Int.natCast_add]
    grind
theorem dv_mul (f g : PS) : dv (f * g) = dv f * g + f * dv g := PS.ext (funext fun k => dv_mulF k f.c g.c)
theorem dv_add (f g : PS) : dv (f + g) = dv f + dv g := PS.ext (funext fun k => Int.mul_add _ _ _)
theorem dv_zero : dv 0 = 0 := PS.ext (funext fun k => by show (k : Int) * (0 : PS).c k = (0 : PS).c k; rw [zero_c]; grind)
theorem dv_cst (a : Int) : dv (cst a) = 0 := PS.ext (funext fun k => by
  show (k : Int) * (if k = 0 then a else 0) = (0 : PS).c k
  rw [zero_c]
  by_cases h : k = 0
  · rw [if_pos h, h]; show (0 : Int) * a = 0; grind
  · rw [if_neg h]; grind)
theorem dv_sm {n : Nat} {f : Nat → PS} : dv (sm n f) = sm n fun i => dv (f i) := by
  induction n with
  | zero => exact dv_zero
  | succ n ih => show dv (sm n f + f n) = sm n _ + _; rw [dv_add, ih]
theorem dv_sg (i : Nat) : dv (sg i) = 0 := by
  unfold sg
  split
  · exact dv_cst 1
  · exact PS.ext (funext fun k => by
      show (k : Int) * -(if k = 0 then 1 else 0) = (0 : PS).c k
      rw [zero_c]
      by_cases h : k = 0
      · rw [if_pos h, h]; rfl
      · rw [if_neg h]; grind)
end PS
open PS
section
variable {R : Type} [CommRing R]
/-- one place taken out of a sum -/
theorem sm_skip {n i : Nat} {f : Nat → R} (hi : i ≤ n) : sm (n + 1) f = f i + sm n fun r => f (skip i r) := by
  induction n with
  | zero =>
    have : i = 0 := by omega
    subst this
    show (0 : R) + f 0 = f 0 + 0; grind
  | succ n ih =>
    by_cases e : i = n + 1
    · subst e
      show sm (n + 1) f + f (n + 1) = _
      rw [sm_congr (n := n + 1) (f := fun r => f (skip (n + 1) r)) (g := f) fun r hr => by unfold skip; rw [if_pos hr]]
      grind
    · show sm (n + 1) f + f (n + 1) = f i + (sm n (fun r => f (skip i r)) + f (skip i n))
      rw [ih (by omega), show skip i n = n + 1 by unfold skip; rw [if_neg (by omega)]]
      grind
end
/-- the derivative of a determinant, row by row -/
theorem dv_det : ∀ {n : Nat} {A : Mat PS}, dv (det n A) = sm n fun k => det n (setRow A k fun j => dv (A k j))
  | 0, A => by show dv 1 = 0; exact dv_cst 1
  | n + 1, A => by
    show dv (sm (n + 1) fun i => sg i * A i 0 * det n (minor A i)) = sm (n + 1) fun k => sm (n + 1) fun i => sg i * setRow A k (fun j => dv (A k j)) i 0 * det n (minor (setRow A k fun j => dv (A k j)) i)
    rw [dv_sm, sm_comm]
    refine sm_congr fun i hi => ?_
    rw [sm_skip (n := n) (i := i) (by omega), dv_mul, dv_mul, dv_sg, dv_det (n := n) (A := minor A i), minor_own, setRow_same]
    have : ∀ r, r < n → sg i * setRow A (skip i r) (fun j => dv (A (skip i r) j)) i 0 * det n (minor (setRow A (skip i r) fun j => dv (A (skip i r) j)) i) = sg i * A i 0 * det n (setRow (minor A i) r fun j => dv (minor A i r j)) := by
      intro r hr
      rw [minor_set (skip_ne i r), setRow_ne (fun z => skip_ne i r z.symm), show sq i (skip i r) = r from ((skip_eq (skip_ne i r)).mp rfl).symm]
      rfl
    rw [sm_congr this, sm_mul]
    grind

/-! the series det (1 - t A) -/
def dl (i j : Nat) : Int := if j = i then 1 else 0
def pen (A : Mat Int) : Mat PS := fun i j => aff (dl i j) (- A i j)
def D (n : Nat) (A : Mat Int) : Nat → Int := (det n (pen A)).c
def mpow (n : Nat) (A : Mat Int) : Nat → Mat Int
  | 0 => one
  | m + 1 => mmul n (mpow n A m) A
def tr (n : Nat) (A : Mat Int) : Int := sm n fun i => A i i
def cof (n : Nat) (A : Mat Int) (k j : Nat) : PS := det n (setRow (pen A) k (uv j))
theorem cof_eq {n : Nat} {A : Mat Int} {k l : Nat} (hk : k < n) (hl : l < n) : sm n (fun j => pen A l j * cof n A k j) = if l = k then det n (pen A) else 0 := by
  have h := (alt_det (R := PS) (n := n)).expand (A := pen A) hk (pen A l)
  by_cases e : l = k
  · subst e
    rw [setRow_self] at h
    rw [if_pos rfl, h]; rfl
  · rw [if_neg e]
    rw [det_eq2 (A := setRow (pen A) k (pen A l)) hk hl (Ne.symm e) (by rw [setRow_same, setRow_ne e])] at h
    exact h.symm
theorem mpow_comm {n : Nat} {A : Mat Int} : ∀ (m i j : Nat), i < n → j < n → mmul n A (mpow n A m) i j = mpow n A (m + 1) i j
  | 0, i, j, hi, hj => by
    show sm n (fun k => A i k * uv k j) = sm n (fun k => uv i k * A k j)
    rw [sm_one (k := j) hj fun k hk ne => by unfold uv; rw [if_neg (Ne.symm ne)]; grind, sm_one (k := i) hi fun k hk ne => by unfold uv; rw [if_neg ne]; grind]
    unfold uv; rw [if_pos rfl, if_pos rfl]; grind
  | m + 1, i, j, hi, hj => by
    show mmul n A (mmul n (mpow n A m) A) i j = mmul n (mmul n (mpow n A m) A) A i j
    rw [← mmul_assoc]
    exact sm_congr fun k hk => by rw [mpow_comm m i k hi hk]; rfl
/-- the coefficients of the cofactors -/
theorem cof_c {n : Nat} {A : Mat Int} : ∀ (m : Nat) {k l : Nat}, k < n → l < n → (cof n A k l).c m = sm (m + 1) fun i => D n A i * mpow n A (m - i) l k
  | 0, k, l, hk, hl => by
    have h := congrArg (fun f : PS => f.c 0) (cof_eq (A := A) hk hl)
    simp only [sm_c] at h
    rw [sm_congr (g := fun j => (cof n A k j).c 0 * uv l j) fun j hj => by
      show dl l j * _ = _
      unfold dl uv
      rw [Int.mul_comm], sm_uv hl] at h
    rw [h]
    show _ = 0 + D n A 0 * uv l k
    unfold uv
    by_cases e : l = k
    · subst e; rw [if_pos rfl, if_pos rfl]; unfold D; grind
    · rw [if_neg e, if_neg (fun z => e z.symm), zero_c]; grind
  | m + 1, k, l, hk, hl => by
    have h := congrArg (fun f : PS => f.c (m + 1)) (cof_eq (A := A) hk hl)
    simp only [sm_c] at h
    rw [sm_congr (g := fun j => (cof n A k j).c (m + 1) * uv l j + (-1) * (A l j * (cof n A k j).c m)) fun j hj => by
      show (aff (dl l j) (- A l j) * _).c (m + 1) = _
      rw [aff_mul]
      unfold dl uv
      grind, sm_add, sm_uv hl, sm_mul] at h
    rw [sm_congr (g := fun j => sm (m + 1) fun i => D n A i * (A l j * mpow n A (m - i) j k)) fun j hj => by
      rw [cof_c m hk hj, ← sm_mul]
      exact sm_congr fun i _ => by grind, sm_comm] at h
    rw [sm_congr (n := m + 1) (g := fun i => D n A i * mpow n A (m + 1 - i) l k) fun i hi => by
      rw [sm_mul, show m + 1 - i = (m - i) + 1 by omega, ← mpow_comm (m - i) l k hl hk]; rfl] at h
    show _ = sm (m + 1) (fun i => D n A i * mpow n A (m + 1 - i) l k) + D n A (m + 1) * mpow n A (m + 1 - (m + 1)) l k
    rw [Nat.sub_self]
    show _ = _ + D n A (m + 1) * uv l k
    by_cases e : l = k
    · subst e
      rw [if_pos rfl] at h
      unfold uv; rw [if_pos rfl]
      have : (det n (pen A)).c (m + 1) = D n A (m + 1) := rfl
      grind
    · rw [if_neg e, zero_c] at h
      unfold uv; rw [if_neg (fun z => e z.symm)]
      grind
/-- Newton -/
theorem newton {n : Nat} {A : Mat Int} (m : Nat) : (m : Int) * D n A m = - sm m fun i => D n A i * tr n (mpow n A (m - i)) := by
  have h := congrArg (fun f : PS => f.c m) (dv_det (n := n) (A := pen A))
  simp only [sm_c] at h
  have hl : (dv (det n (pen A))).c m = (m : Int) * D n A m := rfl
  rw [hl] at h
  rw [h]
  cases m with
  | zero => 
    show _ = -(0 : Int)
    rw [sm_zero]
    · rfl
    · intro k hk
      rw [(alt_det (R := PS) (n := n)).expand hk, sm_c, sm_zero]
      intro j hj
      show (dv (aff _ _)).c 0 * _ = 0
      show (0 : Int) * (aff _ _).c 0 * _ = 0
      grind
  | succ m =>
    have e1 : ∀ k, k < n → (det n (setRow (pen A) k fun j => dv (pen A k j))).c (m + 1) = (-1) * sm (m + 1) fun i => D n A i * mpow n A (m + 1 - i) k k := by
      intro k hk
      rw [(alt_det (R := PS) (n := n)).expand hk, sm_c]
      rw [sm_congr (g := fun j => (-1) * sm (m + 1) fun i => D n A i * (A k j * mpow n A (m - i) j k)) fun j hj => by
        have : dv (pen A k j) = aff 0 (- A k j) := PS.ext (funext fun x => by
          show (x : Int) * (if x = 0 then dl k j else if x = 1 then - A k j else 0) = if x = 0 then 0 else if x = 1 then - A k j else 0
          by_cases h0 : x = 0
          · rw [if_pos h0, if_pos h0, h0]; show (0 : Int) * _ = 0; grind
          · rw [if_neg h0, if_neg h0]
            by_cases h1 : x = 1
            · rw [if_pos h1, h1]; show (1 : Int) * _ = _; grind
            · rw [if_neg h1]; grind)
        rw [this, aff_mul]
        show 0 * _ + - A k j * (cof n A k j).c m = _
        rw [cof_c m hk hj, ← sm_mul, ← sm_mul]
        rw [Int.zero_mul, Int.zero_add]
        exact sm_congr fun i _ => by grind, sm_mul, sm_comm]
      congr 1
      refine sm_congr fun i hi => ?_
      rw [sm_mul, show m + 1 - i = (m - i) + 1 by omega, ← mpow_comm (m - i) k k hk hk]; rfl
    rw [sm_congr e1, sm_mul, sm_comm]
    rw [sm_congr (n := m + 1) (g := fun i => D n A i * tr n (mpow n A (m + 1 - i))) fun i hi => by rw [sm_mul]; rfl]
    grind
end Det
end

section
set_option Elab.async false
set_option linter.all false
/-! The companion table, values at integers, the greater field. -/
namespace Det
open Lean.Grind
open PS
/-- the table of a zero -/
def comp (N : Nat) (a : Nat → Int) : Mat Int := fun i j => if i + 1 < N then dl (i + 1) j else - a (N - j)
theorem D_comp : ∀ {N : Nat} {a : Nat → Int}, a 0 = 1 → ∀ k, D N (comp N a) k = if k ≤ N then a k else 0
  | 0, a, h0, k => by
    show (1 : PS).c k = _
    rw [one_c]
    by_cases e : k = 0
    · subst e; rw [if_pos rfl, if_pos (by omega), h0]
    · rw [if_neg e, if_neg (by omega)]
  | N + 1, a, h0, k => by
    by_cases hN : N = 0
    · subst hN
      show (sm 1 fun i => sg i * pen (comp 1 a) i 0 * det 0 (minor (pen (comp 1 a)) i)).c k = _
      show (0 + sg 0 * pen (comp 1 a) 0 0 * 1 : PS).c k = _
      rw [show (0 + sg 0 * pen (comp 1 a) 0 0 * 1 : PS) = pen (comp 1 a) 0 0 by rw [show (sg 0 : PS) = 1 from rfl]; grind]
      show (if k = 0 then dl 0 0 else if k = 1 then - comp 1 a 0 0 else 0) = _
      unfold comp dl
      by_cases e0 : k = 0
      · subst e0; rw [if_pos rfl, if_pos (by omega : 0 ≤ 0 + 1), h0]; rfl
      · rw [if_neg e0]
        by_cases e1 : k = 1
        · subst e1; rw [if_pos rfl, if_neg (by omega), if_pos (by omega)]; show - - a (1 - 0) = a 1; grind
        · rw [if_neg e1, if_neg (by omega)]
    · -- the first and the last row
      have e : det (N + 1) (pen (comp (N + 1) a)) = det N (pen (comp N a)) + sg N * pen (comp (N + 1) a) N 0 * det N (minor (pen (comp (N + 1) a)) N) := by
        show sm (N + 1) _ = _
        rw [sm_skip (n := N) (i := 0) (by omega), sm_one (k := N - 1) (by omega) fun r hr ne => ?_]
        · rw [show skip 0 (N - 1) = N by unfold skip; rw [if_neg (by omega)]; omega]
          rw [det_congr (A := minor (pen (comp (N + 1) a)) 0) (B := pen (comp N a)) fun i j hi hj => ?_]
          · have : pen (comp (N + 1) a) 0 0 = 1 := PS.ext (funext fun x => by
              show (if x = 0 then dl 0 0 else if x = 1 then - comp (N + 1) a 0 0 else 0) = if x = 0 then 1 else 0
              unfold comp dl
              rw [if_pos rfl, if_pos (by omega : 0 + 1 < N + 1), if_neg (by omega : ¬ 0 = 0 + 1)]
              split
              · rfl
              · split <;> rfl)
            rw [this, show (sg 0 : PS) = 1 from rfl]
            grind
          · show pen (comp (N + 1) a) (skip 0 i) (j + 1) = _
            rw [show skip 0 i = i + 1 by unfold skip; rw [if_neg (by omega)]]
            show aff (dl (i + 1) (j + 1)) (- comp (N + 1) a (i + 1) (j + 1)) = aff (dl i j) (- comp N a i j)
            have d1 : ∀ x y, dl (x + 1) (y + 1) = dl x y := fun x y => by
              unfold dl
              by_cases z : y = x
              · rw [if_pos z, if_pos (by omega)]
              · rw [if_neg z, if_neg (by omega)]
            rw [d1]
            congr 1
            unfold comp
            by_cases z : i + 1 < N
            · rw [if_pos z, if_pos (by omega), d1]
            · rw [if_neg z, if_neg (by omega), show N + 1 - (j + 1) = N - j by omega]
        · have : skip 0 r = r + 1 := by unfold skip; rw [if_neg (by omega)]
          rw [this]
          have : pen (comp (N + 1) a) (r + 1) 0 = 0 := PS.ext (funext fun x => by
            show (if x = 0 then dl (r + 1) 0 else if x = 1 then - comp (N + 1) a (r + 1) 0 else 0) = (0 : PS).c x
            rw [zero_c]
            unfold comp dl
            rw [if_neg (by omega : ¬ 0 = r + 1), if_pos (by omega : r + 1 + 1 < N + 1), if_neg (by omega : ¬ 0 = r + 1 + 1)]
            split
            · rfl
            · split <;> rfl)
          rw [this]; grind
      have tri : det N (minor (pen (comp (N + 1) a)) N) = (aff 0 (-1)) ^ N := by
        rw [det_tri fun i j hi hj hij => ?_, ← pr_const (n := N)]
        · refine pr_congr fun i hi => ?_
          show pen (comp (N + 1) a) (skip N i) (i + 1) = _
          rw [show skip N i = i by unfold skip; rw [if_pos hi]]
          show aff (dl i (i + 1)) (- comp (N + 1) a i (i + 1)) = _
          unfold comp dl
          rw [if_neg (by omega), if_pos (by omega), if_pos rfl]
        · show pen (comp (N + 1) a) (skip N i) (j + 1) = 0
          rw [show skip N i = i by unfold skip; rw [if_pos hi]]
          refine PS.ext (funext fun x => ?_)
          show (if x = 0 then dl i (j + 1) else if x = 1 then - comp (N + 1) a i (j + 1) else 0) = (0 : PS).c x
          rw [zero_c]
          unfold comp dl
          rw [if_neg (by omega : ¬ j + 1 = i), if_pos (by omega : i + 1 < N + 1), if_neg (by omega : ¬ j + 1 = i + 1)]
          split
          · rfl
          · split <;> rfl
      have last : pen (comp (N + 1) a) N 0 = aff 0 (a (N + 1)) := by
        show aff (dl N 0) (- comp (N + 1) a N 0) = _
        unfold comp dl
        rw [if_neg (by omega), if_neg (by omega)]
        congr 1
        show - - a (N + 1 - 0) = _
        grind
      -- the powers of -t
      have pw : ∀ m k, ((aff 0 (-1)) ^ m : PS).c k = if k = m then sg m else 0 := by
        intro m
        induction m with
        | zero => intro k; exact one_c k
        | succ m ih =>
          intro k
          show (npow (aff 0 (-1)) m * aff 0 (-1)).c k = _
          rw [pmul_comm]
          cases k with
          | zero => rw [aff_mul0, if_neg (by omega)]; grind
          | succ k =>
            rw [aff_mul]
            have := ih k
            rw [show (npow (aff 0 (-1)) m).c k = _ from this, sg_succ]
            by_cases z : k = m
            · rw [if_pos z, if_pos (by omega)]; grind
            · rw [if_neg z, if_neg (by omega)]; grind
      have step : (sg N * pen (comp (N + 1) a) N 0 * det N (minor (pen (comp (N + 1) a)) N)).c k = if k = N + 1 then a (N + 1) else 0 := by
        rw [last, tri]
        have sgc : (sg N : PS) = cst (sg N) := by unfold sg; split; rfl; exact PS.ext (funext fun x => by show -(if x = 0 then (1 : Int) else 0) = if x = 0 then -1 else 0; split <;> rfl)
        rw [sgc, show (cst (sg N) * aff 0 (a (N + 1)) * (aff 0 (-1)) ^ N : PS) = cst (sg N) * (aff 0 (a (N + 1)) * (aff 0 (-1)) ^ N) by grind, cst_mul]
        cases k with
        | zero => rw [aff_mul0, if_neg (by omega : ¬ 0 = N + 1)]; grind
        | succ k =>
          rw [aff_mul, pw, pw]
          by_cases z : k = N
          · rw [if_pos z, if_pos (by omega : k + 1 = N + 1)]
            have := sg_mul (R := Int) N
            grind
          · rw [if_neg z, if_neg (by omega : ¬ k + 1 = N + 1)]; grind
      show (det (N + 1) (pen (comp (N + 1) a))).c k = _
      rw [e, add_c, step]
      rw [show (det N (pen (comp N a))).c k = _ from D_comp (N := N) h0 k]
      by_cases z1 : k ≤ N
      · rw [if_pos z1, if_pos (by omega : k ≤ N + 1), if_neg (by omega : ¬ k = N + 1)]; grind
      · by_cases z2 : k = N + 1
        · rw [if_neg z1, if_pos z2, if_pos (by omega : k ≤ N + 1), z2]; grind
        · rw [if_neg z1, if_neg z2, if_neg (by omega : ¬ k ≤ N + 1)]; grind

/-- a polynomial of degree at most n with a value -/
structure Ev (t : Int) (n : Nat) (f : PS) (v : Int) : Prop where
  hi : ∀ k, n < k → f.c k = 0
  val : sm (n + 1) (fun k => f.c k * t ^ k) = v
theorem Ev.zero {t : Int} {n : Nat} : Ev t n 0 0 := ⟨fun k _ => zero_c k, sm_zero fun k _ => by rw [zero_c]; grind⟩
theorem Ev.add {t : Int} {n : Nat} {f g : PS} {v w : Int} (h : Ev t n f v) (h' : Ev t n g w) : Ev t n (f + g) (v + w) :=
  ⟨fun k hk => by rw [add_c, h.hi k hk, h'.hi k hk]; rfl, by rw [← h.val, ← h'.val, ← sm_add]; exact sm_congr fun k _ => by rw [add_c]; grind⟩
theorem Ev.aff {t : Int} {n : Nat} {g : PS} {w a b : Int} (h : Ev t n g w) : Ev t (n + 1) (aff a b * g) ((a + b * t) * w) := by
  constructor
  · intro k hk
    cases k with
    | zero => omega
    | succ k => rw [aff_mul, h.hi k (by omega), h.hi (k + 1) (by omega)]; grind
  · have e : (a + b * t) * w = a * w + b * t * w := by grind
    rw [e]
    have s1 : sm (n + 2) (fun k => g.c k * t ^ k) = w := by
      show sm (n + 1) _ + g.c (n + 1) * t ^ (n + 1) = w
      rw [h.hi (n + 1) (by omega), h.val]; grind
    rw [sm_front, aff_mul0, sm_congr (g := fun k => a * (g.c (k + 1) * t ^ (k + 1)) + b * t * (g.c k * t ^ k)) fun k _ => by
      rw [aff_mul, Int.pow_succ]; grind, sm_add, sm_mul, sm_mul, h.val]
    rw [sm_front] at s1
    grind
theorem Ev.neg {t : Int} {n : Nat} {f : PS} {v : Int} (h : Ev t n f v) : Ev t n (-f) (-v) :=
  ⟨fun k hk => by rw [neg_c, h.hi k hk]; rfl, by
    rw [← h.val, show - sm (n + 1) (fun k => f.c k * t ^ k) = (-1) * sm (n + 1) (fun k => f.c k * t ^ k) by grind, ← sm_mul]
    exact sm_congr fun k _ => by rw [neg_c]; grind⟩
theorem Ev.sg {t : Int} {n i : Nat} {f : PS} {v : Int} (h : Ev t n f v) : Ev t n (sg i * f) (sg i * v) := by
  unfold Det.sg
  split
  · rw [show (1 : PS) * f = f by grind, show (1 : Int) * v = v by grind]; exact h
  · rw [show (-1 : PS) * f = -f by grind, show (-1 : Int) * v = -v by grind]; exact h.neg
theorem Ev.sm {t : Int} {n : Nat} {f : Nat → PS} {v : Nat → Int} : ∀ {m : Nat}, (∀ i, i < m → Ev t n (f i) (v i)) → Ev t n (sm m f) (sm m v)
  | 0, _ => Ev.zero
  | m + 1, h => (Ev.sm fun i hi => h i (by omega)).add (h m (by omega))
theorem ev_det {t : Int} : ∀ {n : Nat} {A B : Mat Int}, Ev t n (det n fun i j => PS.aff (A i j) (B i j)) (det n fun i j => A i j + B i j * t)
  | 0, A, B => ⟨fun k hk => by show (1 : PS).c k = 0; rw [one_c, if_neg (by omega)], by show (0 : Int) + (if 0 = 0 then 1 else 0) * t ^ 0 = 1; rw [if_pos rfl]; grind⟩
  | n + 1, A, B => by
    refine Ev.sm (f := fun i => Det.sg i * PS.aff (A i 0) (B i 0) * det n (minor _ i)) fun i hi => ?_
    rw [show Det.sg i * PS.aff (A i 0) (B i 0) * det n (minor (fun i j => PS.aff (A i j) (B i j)) i) = Det.sg i * (PS.aff (A i 0) (B i 0) * det n (minor (fun i j => PS.aff (A i j) (B i j)) i)) by grind]
    show Ev t (n + 1) _ (Det.sg i * (A i 0 + B i 0 * t) * det n (minor (fun i j => A i j + B i j * t) i))
    rw [show Det.sg i * (A i 0 + B i 0 * t) * det n (minor (fun i j => A i j + B i j * t) i) = Det.sg i * ((A i 0 + B i 0 * t) * det n (minor (fun i j => A i j + B i j * t) i)) by grind]
    exact (ev_det (A := minor A i) (B := minor B i)).aff.sg
theorem D_hi {n : Nat} {A : Mat Int} {k : Nat} (h : n < k) : D n A k = 0 := (ev_det (t := 0) (A := dl) (B := fun i j => - A i j)).hi k h
/-- the value at an integer -/
theorem D_at {n : Nat} {A : Mat Int} (t : Int) : sm (n + 1) (fun k => D n A k * t ^ k) = det n fun i j => dl i j - t * A i j := by
  rw [show sm (n + 1) (fun k => D n A k * t ^ k) = _ from (ev_det (t := t) (A := dl) (B := fun i j => - A i j)).val]
  exact det_congr fun i j _ _ => by grind
theorem D_zero {n : Nat} {A : Mat Int} : D n A 0 = 1 := by
  have h := D_at (n := n) (A := A) 0
  rw [sm_one (k := 0) (by omega) fun i _ ne => by rw [Int.zero_pow ne]; grind, det_congr (B := fun i j => if j = i then 1 else 0) fun i j _ _ => by unfold dl; split <;> grind, det_scal] at h
  rw [show (1 : Int) ^ n = 1 from Int.one_pow] at h
  grind

/-! the other way round -/
structure Rv (q : Int) (n : Nat) (f g : PS) : Prop where
  fh : ∀ k, n < k → f.c k = 0
  gh : ∀ k, n < k → g.c k = 0
  eq : ∀ k, k ≤ n → f.c k = sg n * (q ^ k * g.c (n - k))
theorem Rv.add {q : Int} {n : Nat} {f g f' g' : PS} (h : Rv q n f g) (h' : Rv q n f' g') : Rv q n (f + f') (g + g') :=
  ⟨fun k hk => by rw [add_c, h.fh k hk, h'.fh k hk]; rfl, fun k hk => by rw [add_c, h.gh k hk, h'.gh k hk]; rfl, fun k hk => by rw [add_c, add_c, h.eq k hk, h'.eq k hk]; grind⟩
theorem Rv.zero {q : Int} {n : Nat} : Rv q n 0 0 := ⟨fun k _ => zero_c k, fun k _ => zero_c k, fun k _ => by rw [zero_c, zero_c]; grind⟩
theorem Rv.neg {q : Int} {n : Nat} {f g : PS} (h : Rv q n f g) : Rv q n (-f) (-g) :=
  ⟨fun k hk => by rw [neg_c, h.fh k hk]; rfl, fun k hk => by rw [neg_c, h.gh k hk]; rfl, fun k hk => by rw [neg_c, neg_c, h.eq k hk]; grind⟩
theorem Rv.sg {q : Int} {n i : Nat} {f g : PS} (h : Rv q n f g) : Rv q n (sg i * f) (sg i * g) := by
  unfold Det.sg
  split
  · rw [show (1 : PS) * f = f by grind, show (1 : PS) * g = g by grind]; exact h
  · rw [show (-1 : PS) * f = -f by grind, show (-1 : PS) * g = -g by grind]; exact h.neg
theorem Rv.sm {q : Int} {n : Nat} {f g : Nat → PS} : ∀ {m : Nat}, (∀ i, i < m → Rv q n (f i) (g i)) → Rv q n (sm m f) (sm m g)
  | 0, _ => Rv.zero
  | m + 1, h => (Rv.sm fun i hi => h i (by omega)).add (h m (by omega))
theorem Rv.aff {q : Int} {n : Nat} {f g : PS} {u v : Int} (h : Rv q n f g) : Rv q (n + 1) (aff (-v) (-(q * u)) * f) (aff u v * g) := by
  refine ⟨fun k hk => ?_, fun k hk => ?_, fun k hk => ?_⟩
  · cases k with
    | zero => omega
    | succ k => rw [aff_mul, h.fh k (by omega), h.fh (k + 1) (by omega)]; grind
  · cases k with
    | zero => omega
    | succ k => rw [aff_mul, h.gh k (by omega), h.gh (k + 1) (by omega)]; grind
  · rw [sg_succ]
    cases k with
    | zero =>
      rw [aff_mul0, show n + 1 - 0 = n + 1 by omega, aff_mul, h.eq 0 (by omega), h.gh (n + 1) (by omega), show n - 0 = n by omega]
      grind
    | succ k =>
      rw [aff_mul, show n + 1 - (k + 1) = n - k by omega]
      by_cases e : k = n
      · subst e
        rw [h.fh (k + 1) (by omega), h.eq k (Nat.le_refl _), Nat.sub_self, aff_mul0, Int.pow_succ]
        grind
      · rw [h.eq k (by omega), h.eq (k + 1) (by omega), show n - k = (n - (k + 1)) + 1 by omega, aff_mul, show n - (k + 1) + 1 = n - k by omega, Int.pow_succ]
        grind
theorem rv_det {q : Int} : ∀ {n : Nat} {U V : Mat Int}, Rv q n (det n fun i j => PS.aff (- V i j) (-(q * U i j))) (det n fun i j => PS.aff (U i j) (V i j))
  | 0, U, V => ⟨fun k hk => by show (1 : PS).c k = 0; rw [one_c, if_neg (by omega)], fun k hk => by show (1 : PS).c k = 0; rw [one_c, if_neg (by omega)], fun k hk => by
      have : k = 0 := by omega
      subst this
      show (1 : PS).c 0 = sg 0 * (q ^ 0 * (1 : PS).c 0)
      rw [one_c, show (sg 0 : Int) = 1 from rfl]; grind⟩
  | n + 1, U, V => by
    refine Rv.sm (f := fun i => Det.sg i * PS.aff (- V i 0) (-(q * U i 0)) * det n (minor _ i)) (g := fun i => Det.sg i * PS.aff (U i 0) (V i 0) * det n (minor _ i)) fun i hi => ?_
    rw [show Det.sg i * PS.aff (- V i 0) (-(q * U i 0)) * det n (minor (fun i j => PS.aff (- V i j) (-(q * U i j))) i) = Det.sg i * (PS.aff (- V i 0) (-(q * U i 0)) * det n (minor (fun i j => PS.aff (- V i j) (-(q * U i j))) i)) by grind,
      show Det.sg i * PS.aff (U i 0) (V i 0) * det n (minor (fun i j => PS.aff (U i j) (V i j)) i) = Det.sg i * (PS.aff (U i 0) (V i 0) * det n (minor (fun i j => PS.aff (U i j) (V i j)) i)) by grind]
    exact (rv_det (U := minor U i) (V := minor V i)).aff.sg

theorem cst_add (a b : Int) : cst (a + b) = cst a + cst b := PS.ext (funext fun k => by show (if k = 0 then a + b else 0) = (if k = 0 then a else 0) + (if k = 0 then b else 0); split <;> simp)
theorem cst_mul' (a b : Int) : cst (a * b) = cst a * cst b := PS.ext (funext fun k => by rw [cst_mul]; show (if k = 0 then a * b else 0) = a * (if k = 0 then b else 0); split <;> simp)
theorem cst_sm {n : Nat} {f : Nat → Int} : cst (sm n f) = sm n fun i => cst (f i) := by
  induction n with
  | zero => rfl
  | succ n ih => show cst (sm n f + f n) = sm n _ + _; rw [cst_add, ih]
theorem cst_sg (i : Nat) : cst (sg i) = sg i := by unfold sg; split; rfl; exact PS.ext (funext fun x => by show (if x = 0 then (-1 : Int) else 0) = -(if x = 0 then 1 else 0); split <;> rfl)
theorem cst_det : ∀ {n : Nat} {A : Mat Int}, cst (det n A) = det n fun i j => cst (A i j)
  | 0, _ => rfl
  | n + 1, A => by
    show cst (sm (n + 1) _) = sm (n + 1) _
    rw [cst_sm]
    refine sm_congr fun i _ => ?_
    rw [cst_mul', cst_mul', cst_sg, cst_det]
    rfl
theorem cst_mmul {n : Nat} {A B : Mat Int} : mmul n (fun i j => cst (A i j)) (fun i j => cst (B i j)) = fun i j => cst (mmul n A B i j) := by
  funext i j
  show sm n _ = cst (sm n _)
  rw [cst_sm]
  exact sm_congr fun k _ => by rw [cst_mul']
theorem det_mpow {n : Nat} {A : Mat Int} : ∀ m, det n (mpow n A m) = det n A ^ m
  | 0 => by show det n one = _; rw [det_one, Int.pow_zero]
  | m + 1 => by show det n (mmul n _ A) = _; rw [det_mul, det_mpow m, Int.pow_succ]
/-- a table that S turns over -/
theorem recip {N : Nat} {H S : Mat Int} {q : Int} (he : N % 2 = 0) (hS : det N S ≠ 0) (h : ∀ i j, i < N → j < N → mmul N (mmul N H S) H i j = q * S i j) (k : Nat) (hk : k ≤ N) :
    D N H k * det N H = q ^ k * D N H (N - k) := by
  -- (1 - t H) S H = S (H - t q)
  have e : ∀ i j, i < N → j < N → mmul N (pen H) (fun i j => cst (mmul N S H i j)) i j = mmul N (fun i j => cst (S i j)) (fun i j => aff (H i j) (-(q * dl i j))) i j := by
    intro i j hi hj
    refine PS.ext (funext fun x => ?_)
    show PS.c (sm N fun k => pen H i k * cst (mmul N S H k j)) x = PS.c (sm N fun k => cst (S i k) * aff (H k j) (-(q * dl k j))) x
    rw [sm_c, sm_c]
    cases x with
    | zero =>
      rw [sm_congr (g := fun k => mmul N S H k j * uv i k) fun k _ => by rw [show pen H i k = aff (dl i k) (- H i k) from rfl, aff_mul0]; show dl i k * _ = _ * (if k = i then 1 else 0); unfold dl; rw [Int.mul_comm]; rfl, sm_uv hi]
      exact sm_congr fun k _ => by rw [cst_mul]; rfl
    | succ x =>
      rw [sm_congr (g := fun k => if x = 0 then -1 * (H i k * mmul N S H k j) else 0) fun k _ => by
        rw [show pen H i k = aff (dl i k) (- H i k) from rfl, aff_mul]
        show dl i k * (if x + 1 = 0 then mmul N S H k j else 0) + - H i k * (if x = 0 then mmul N S H k j else 0) = _
        rw [if_neg (by omega)]
        split <;> grind]
      rw [sm_congr (f := fun k => (cst (S i k) * aff (H k j) (-(q * dl k j))).c (x + 1)) (g := fun k => if x = 0 then -q * (S i k * uv j k) else 0) fun k _ => by
        rw [cst_mul]
        show S i k * (if x + 1 = 0 then H k j else if x + 1 = 1 then -(q * dl k j) else 0) = _
        rw [if_neg (by omega)]
        unfold uv dl
        by_cases z : x = 0
        · rw [if_pos (by omega), if_pos z]
          by_cases zz : j = k
          · rw [if_pos zz, if_pos zz.symm]; grind
          · rw [if_neg zz, if_neg (fun y => zz y.symm)]; grind
        · rw [if_neg (by omega), if_neg z]; grind]
      by_cases z : x = 0
      · rw [sm_congr (g := fun k => -1 * (H i k * mmul N S H k j)) fun k _ => if_pos z, sm_congr (f := fun k => if x = 0 then -q * (S i k * uv j k) else 0) (g := fun k => -q * (S i k * uv j k)) fun k _ => if_pos z, sm_mul, sm_mul, sm_uv hj]
        have := h i j hi hj
        rw [mmul_assoc] at this
        rw [show sm N (fun i_1 => H i i_1 * mmul N S H i_1 j) = q * S i j from this]
        grind
      · rw [sm_zero fun k _ => if_neg z, sm_zero fun k _ => if_neg z]
  have d := det_congr e
  rw [det_mul, det_mul, ← cst_det, ← cst_det, det_mul] at d
  have r := rv_det (q := q) (n := N) (U := dl) (V := fun i j => - H i j)
  have rf : det N (fun i j => aff (- - H i j) (-(q * dl i j))) = det N fun i j => aff (H i j) (-(q * dl i j)) := det_congr fun i j _ _ => by rw [Int.neg_neg]
  rw [rf] at r
  have r' := r.eq k hk
  rw [show (sg N : Int) = 1 by unfold sg; rw [if_pos he]] at r'
  have d' := congrArg (fun f : PS => f.c k) d
  rw [show det N (pen H) * cst (det N S * det N H) = cst (det N S * det N H) * det N (pen H) from pmul_comm _ _] at d'
  simp only [cst_mul] at d'
  rw [r'] at d'
  have d2 : det N S * (D N H k * det N H) = det N S * (q ^ k * D N H (N - k)) := by
    have : (det N (fun i j => aff (dl i j) (- H i j))).c (N - k) = D N H (N - k) := rfl
    rw [this] at d'
    have : (det N (pen H)).c k = D N H k := rfl
    rw [this] at d'
    grind
  exact Int.eq_of_mul_eq_mul_left hS d2
end Det
end

section
set_option Elab.async false
set_option linter.all false
/-! A count list over a greater field. -/
namespace Det
open Lean.Grind
open PS
theorem mmul_congr {n : Nat} {A A' B B' : Mat Int} (h : ∀ i j, i < n → j < n → A i j = A' i j) (h' : ∀ i j, i < n → j < n → B i j = B' i j) {i j : Nat} (hi : i < n) (hj : j < n) : mmul n A B i j = mmul n A' B' i j :=
  sm_congr fun k hk => by rw [h i k hi hk, h' k j hk hj]
theorem mmul_one_r {n : Nat} {A : Mat Int} {i j : Nat} (hj : j < n) : mmul n A one i j = A i j := by
  show sm n (fun k => A i k * uv k j) = _
  rw [sm_one (k := j) hj fun k hk ne => by unfold uv; rw [if_neg (Ne.symm ne)]; grind]
  unfold uv; rw [if_pos rfl]; grind
theorem mpow_add {n : Nat} {A : Mat Int} (l : Nat) : ∀ (m : Nat) {i j : Nat}, i < n → j < n → mpow n A (l + m) i j = mmul n (mpow n A l) (mpow n A m) i j
  | 0, i, j, hi, hj => (mmul_one_r hj).symm
  | m + 1, i, j, hi, hj => by
    show mmul n (mpow n A (l + m)) A i j = mmul n (mpow n A l) (mmul n (mpow n A m) A) i j
    rw [← mmul_assoc]
    exact mmul_congr (fun i j hi hj => mpow_add l m hi hj) (fun _ _ _ _ => rfl) hi hj
theorem mpow_mul {n : Nat} {A : Mat Int} (l : Nat) : ∀ (m : Nat) {i j : Nat}, i < n → j < n → mpow n (mpow n A l) m i j = mpow n A (l * m) i j
  | 0, i, j, hi, hj => rfl
  | m + 1, i, j, hi, hj => by
    show mmul n (mpow n (mpow n A l) m) (mpow n A l) i j = _
    rw [show l * (m + 1) = l * m + l by rw [Nat.mul_add, Nat.mul_one], mpow_add (l * m) l hi hj]
    exact mmul_congr (fun i j hi hj => mpow_mul l m hi hj) (fun _ _ _ _ => rfl) hi hj
theorem tr_mul {n : Nat} {A : Mat Int} (l m : Nat) : tr n (mpow n (mpow n A l) m) = tr n (mpow n A (l * m)) := sm_congr fun i hi => mpow_mul l m hi hi
/-- the turning table -/
def anti (N : Nat) (p : Int) : Mat Int := fun i j => if i + j + 1 = N then p ^ i else 0
theorem sm_anti_l {N i : Nat} {p : Int} {f : Nat → Int} (hi : i < N) : sm N (fun k => anti N p i k * f k) = p ^ i * f (N - 1 - i) := by
  rw [sm_one (k := N - 1 - i) (by omega) fun k hk ne => by unfold anti; rw [if_neg (by omega)]; grind]
  unfold anti; rw [if_pos (by omega)]
theorem sm_anti_r {N j : Nat} {p : Int} {f : Nat → Int} (hj : j < N) : sm N (fun k => f k * anti N p k j) = f (N - 1 - j) * p ^ (N - 1 - j) := by
  rw [sm_one (k := N - 1 - j) (by omega) fun k hk ne => by unfold anti; rw [if_neg (by omega)]; grind]
  unfold anti; rw [if_pos (by omega)]
theorem det_anti {N : Nat} {p : Int} (hp : p ≠ 0) : det N (anti N p) ≠ 0 := by
  intro z
  have h : det N (mmul N (anti N p) (anti N p)) = (p ^ (N - 1)) ^ N := by
    rw [det_congr (B := fun i j => if j = i then p ^ (N - 1) else 0) fun i j hi hj => ?_, det_scal]
    show sm N _ = _
    rw [sm_anti_l hi]
    unfold anti
    by_cases e : j = i
    · subst e; rw [if_pos (by omega), if_pos rfl, ← Int.pow_add]; congr 1; omega
    · rw [if_neg (by omega), if_neg e]; grind
  rw [det_mul, z, Int.zero_mul] at h
  exact Int.pow_ne_zero (Int.pow_ne_zero hp) h.symm
structure Lst (p : Int) (g : Nat) (a : Nat → Int) : Prop where
  p0 : 0 < p
  g0 : 0 < g
  a0 : a 0 = 1
  back : ∀ i, i ≤ g → a (2 * g - i) = p ^ (g - i) * a i
section
variable {p : Int} {g : Nat} {a : Nat → Int}
theorem Lst.all (L : Lst p g a) (i : Nat) (hi : i ≤ 2 * g) : a (2 * g - i) * p ^ i = p ^ g * a i := by
  by_cases h : i ≤ g
  · rw [L.back i h, show (p ^ (g - i) * a i) * p ^ i = (p ^ (g - i) * p ^ i) * a i by grind, ← Int.pow_add]
    congr 2; omega
  · have := L.back (2 * g - i) (by omega)
    rw [show 2 * g - (2 * g - i) = i by omega] at this
    rw [this, show g - (2 * g - i) = i - g by omega, show p ^ g * (p ^ (i - g) * a (2 * g - i)) = (p ^ g * p ^ (i - g)) * a (2 * g - i) by grind, ← Int.pow_add, show g + (i - g) = i by omega]
    grind
theorem turn (L : Lst p g a) : ∀ i j, i < 2 * g → j < 2 * g → mmul (2 * g) (mmul (2 * g) (comp (2 * g) a) (anti (2 * g) p)) (comp (2 * g) a) i j = p * anti (2 * g) p i j := by
  intro i j hi hj
  have row : ∀ k, k < 2 * g → mmul (2 * g) (comp (2 * g) a) (anti (2 * g) p) i k = comp (2 * g) a i (2 * g - 1 - k) * p ^ (2 * g - 1 - k) := fun k hk => sm_anti_r hk
  show sm (2 * g) _ = _
  rw [sm_congr (g := fun k => comp (2 * g) a i (2 * g - 1 - k) * p ^ (2 * g - 1 - k) * comp (2 * g) a k j) fun k hk => by rw [row k hk]]
  by_cases e : i + 1 < 2 * g
  · rw [sm_one (k := 2 * g - 2 - i) (by omega) fun k hk ne => by unfold comp; rw [if_pos e]; unfold dl; rw [if_neg (by omega)]; grind]
    unfold comp; rw [if_pos e, if_pos (by omega)]
    unfold dl anti
    rw [if_pos (by omega), show 2 * g - 1 - (2 * g - 2 - i) = i + 1 by omega]
    by_cases z : i + j + 1 = 2 * g
    · rw [if_pos (by omega), if_pos z, Int.pow_succ]; grind
    · rw [if_neg (by omega), if_neg z]; grind
  · have ei : i = 2 * g - 1 := by omega
    have c1 : ∀ x, comp (2 * g) a i x = - a (2 * g - x) := fun x => by unfold comp; rw [if_neg e]
    have last : ∀ x, comp (2 * g) a (2 * g - 1) x = - a (2 * g - x) := fun x => by unfold comp; rw [if_neg (by omega)]
    by_cases z : j = 0
    · subst z
      rw [sm_one (k := 2 * g - 1) (by omega) fun k hk ne => by
        rw [show comp (2 * g) a k 0 = 0 by unfold comp; rw [if_pos (by omega)]; unfold dl; rw [if_neg (by omega)]]; grind]
      rw [c1, last, Nat.sub_self, Nat.sub_zero]
      unfold anti
      rw [if_pos (by omega), ei]
      have := L.back 0 (by omega)
      rw [Nat.sub_zero, Nat.sub_zero, L.a0] at this
      rw [this, Int.pow_zero, ← show p ^ (2 * g - 1 + 1) = p * p ^ (2 * g - 1) by rw [Int.pow_succ]; grind, show 2 * g - 1 + 1 = g + g by omega, Int.pow_add]
      grind
    · unfold anti
      rw [if_neg (by omega)]
      have hj1 : j - 1 ≠ 2 * g - 1 := by omega
      -- two places: j - 1 and the last
      refine Eq.trans (sm_two (k := j - 1) (l := 2 * g - 1) (by omega) (by omega) (fun k hk n1 n2 => ?_) ?_) (by grind)
      · rw [show comp (2 * g) a k j = 0 by unfold comp; rw [if_pos (by omega)]; unfold dl; rw [if_neg (by omega)]]; grind
      · rw [c1, c1, last, show comp (2 * g) a (j - 1) j = 1 by unfold comp; rw [if_pos (by omega)]; unfold dl; rw [if_pos (by omega)]]
        have h1 := L.all j (by omega)
        have h2 := L.all (2 * g - j) (by omega)
        have h3 := L.back 0 (by omega)
        rw [Nat.sub_zero, Nat.sub_zero, L.a0] at h3
        rw [show 2 * g - (2 * g - j) = j by omega] at h2
        rw [show 2 * g - (2 * g - 1 - (j - 1)) = j by omega, show 2 * g - 1 - (j - 1) = 2 * g - j by omega, show 2 * g - 1 - (2 * g - 1) = 0 by omega, Nat.sub_zero, h3, Int.pow_zero]
        grind
theorem turn_pow (L : Lst p g a) : ∀ (n : Nat) (i j : Nat), i < 2 * g → j < 2 * g → mmul (2 * g) (mmul (2 * g) (mpow (2 * g) (comp (2 * g) a) n) (anti (2 * g) p)) (mpow (2 * g) (comp (2 * g) a) n) i j = p ^ n * anti (2 * g) p i j
  | 0, i, j, hi, hj => by
    show mmul (2 * g) (mmul (2 * g) one (anti (2 * g) p)) one i j = _
    rw [mmul_one_r hj, mmul_one hi]; grind
  | n + 1, i, j, hi, hj => by
    -- M^n (M S M) M^n
    have M := comp (2 * g) a
    rw [mmul_congr (A' := mmul (2 * g) (mpow (2 * g) (comp (2 * g) a) (n + 1)) (anti (2 * g) p)) (B' := mmul (2 * g) (comp (2 * g) a) (mpow (2 * g) (comp (2 * g) a) n)) (fun _ _ _ _ => rfl) (fun i j hi hj => (mpow_comm n i j hi hj).symm) hi hj]
    show mmul (2 * g) (mmul (2 * g) (mmul (2 * g) (mpow (2 * g) (comp (2 * g) a) n) (comp (2 * g) a)) (anti (2 * g) p)) (mmul (2 * g) (comp (2 * g) a) (mpow (2 * g) (comp (2 * g) a) n)) i j = _
    rw [mmul_assoc (mpow (2 * g) (comp (2 * g) a) n) (comp (2 * g) a) (anti (2 * g) p), ← mmul_assoc _ (comp (2 * g) a) (mpow (2 * g) (comp (2 * g) a) n), mmul_assoc (mpow (2 * g) (comp (2 * g) a) n) (mmul (2 * g) (comp (2 * g) a) (anti (2 * g) p)) (comp (2 * g) a)]
    have e : ∀ i j, i < 2 * g → j < 2 * g → mmul (2 * g) (mpow (2 * g) (comp (2 * g) a) n) (mmul (2 * g) (mmul (2 * g) (comp (2 * g) a) (anti (2 * g) p)) (comp (2 * g) a)) i j = p * mmul (2 * g) (mpow (2 * g) (comp (2 * g) a) n) (anti (2 * g) p) i j := by
      intro i j hi hj
      rw [mmul_congr (A' := mpow (2 * g) (comp (2 * g) a) n) (B' := fun i j => p * anti (2 * g) p i j) (fun _ _ _ _ => rfl) (turn L) hi hj]
      show sm (2 * g) _ = p * sm (2 * g) _
      rw [← sm_mul]
      exact sm_congr fun k _ => by grind
    rw [mmul_congr (A' := fun i j => p * mmul (2 * g) (mpow (2 * g) (comp (2 * g) a) n) (anti (2 * g) p) i j) (B' := mpow (2 * g) (comp (2 * g) a) n) e (fun _ _ _ _ => rfl) hi hj]
    show sm (2 * g) _ = _
    rw [sm_congr (g := fun k => p * (mmul (2 * g) (mpow (2 * g) (comp (2 * g) a) n) (anti (2 * g) p) i k * mpow (2 * g) (comp (2 * g) a) n k j)) fun k _ => by grind, sm_mul]
    rw [show sm (2 * g) (fun k => mmul (2 * g) (mpow (2 * g) (comp (2 * g) a) n) (anti (2 * g) p) i k * mpow (2 * g) (comp (2 * g) a) n k j) = p ^ n * anti (2 * g) p i j from turn_pow L n i j hi hj, Int.pow_succ]
    grind
/-- the n-th power of the table -/
def HH (g : Nat) (a : Nat → Int) (n : Nat) : Mat Int := mpow (2 * g) (comp (2 * g) a) n
/-- the list over the greater field -/
def over (g : Nat) (a : Nat → Int) (n : Nat) : Nat → Int := D (2 * g) (HH g a n)
theorem det_HH (L : Lst p g a) (n : Nat) : det (2 * g) (HH g a n) = (p ^ n) ^ g := by
  have r := recip (N := 2 * g) (H := comp (2 * g) a) (S := anti (2 * g) p) (q := p) (by omega) (det_anti (by have := L.p0; omega)) (turn L) 0 (by omega)
  rw [D_comp L.a0, D_comp L.a0, if_pos (by omega), if_pos (by omega), L.a0, Nat.sub_zero] at r
  have h3 := L.back 0 (by omega)
  rw [Nat.sub_zero, Nat.sub_zero, L.a0] at h3
  unfold HH
  rw [det_mpow, show det (2 * g) (comp (2 * g) a) = p ^ g by rw [h3] at r; grind, ← Int.pow_mul, ← Int.pow_mul, Nat.mul_comm]
theorem over_back (L : Lst p g a) (n i : Nat) (hi : i ≤ g) : over g a n (2 * g - i) = (p ^ n) ^ (g - i) * over g a n i := by
  have r := recip (N := 2 * g) (H := HH g a n) (S := anti (2 * g) p) (q := p ^ n) (by omega) (det_anti (by have := L.p0; omega)) (turn_pow L n) i (by omega)
  rw [det_HH L] at r
  have q0 : (p ^ n) ^ i ≠ 0 := Int.pow_ne_zero (Int.pow_ne_zero (by have := L.p0; omega))
  refine Int.eq_of_mul_eq_mul_left q0 ?_
  show (p ^ n) ^ i * D (2 * g) (HH g a n) (2 * g - i) = _
  rw [← r, show (p ^ n) ^ i * ((p ^ n) ^ (g - i) * over g a n i) = ((p ^ n) ^ i * (p ^ n) ^ (g - i)) * over g a n i by grind, ← Int.pow_add, show i + (g - i) = g by omega]
  show over g a n i * _ = _
  grind
theorem over_newton (n m : Nat) : (m : Int) * over g a n m = - sm m fun i => over g a n i * tr (2 * g) (HH g a (n * (m - i))) := by
  show (m : Int) * D (2 * g) (HH g a n) m = _
  rw [newton]
  congr 1
  refine sm_congr fun i _ => ?_
  unfold HH
  rw [tr_mul]; rfl
theorem list_newton (h0 : a 0 = 1) (m : Nat) : (m : Int) * (if m ≤ 2 * g then a m else 0) = - sm m fun i => (if i ≤ 2 * g then a i else 0) * tr (2 * g) (HH g a (m - i)) := by
  have h := newton (n := 2 * g) (A := comp (2 * g) a) m
  rw [D_comp h0] at h
  rw [h]
  congr 1
  exact sm_congr fun i _ => by rw [D_comp h0]; rfl
theorem over_0 (n : Nat) : over g a n 0 = 1 := D_zero
theorem over_hi {n k : Nat} (h : 2 * g < k) : over g a n k = 0 := D_hi h
theorem over_1 (h0 : a 0 = 1) (k : Nat) (hk : k ≤ 2 * g) : over g a 1 k = a k := by
  have : over g a 1 k = D (2 * g) (comp (2 * g) a) k := by
    show (det (2 * g) (pen (HH g a 1))).c k = (det (2 * g) (pen (comp (2 * g) a))).c k
    rw [det_congr (A := pen (HH g a 1)) (B := pen (comp (2 * g) a)) fun i j hi hj => ?_]
    show aff _ (- mmul (2 * g) one (comp (2 * g) a) i j) = aff _ _
    rw [mmul_one hi]
  rw [this, D_comp h0, if_pos hk]
theorem over_at (n : Nat) (t : Int) : sm (2 * g + 1) (fun k => over g a n k * t ^ k) = det (2 * g) fun i j => dl i j - t * HH g a n i j := D_at t
/-- 1 + M + .. -/
def gsum (N : Nat) (A : Mat Int) (n : Nat) : Mat Int := fun i j => sm n fun k => mpow N A k i j
theorem gsum_mul {N : Nat} {A : Mat Int} : ∀ (n : Nat) {i j : Nat}, i < N → j < N → mmul N (gsum N A n) (fun i j => dl i j - 1 * A i j) i j = dl i j - 1 * mpow N A n i j
  | 0, i, j, hi, hj => by
    show sm N (fun k => 0 * _) = dl i j - 1 * uv i j
    rw [sm_zero fun k _ => by grind]
    unfold dl uv; split <;> grind
  | n + 1, i, j, hi, hj => by
    show sm N (fun k => (gsum N A n i k + mpow N A n i k) * (dl k j - 1 * A k j)) = _
    rw [sm_congr (g := fun k => gsum N A n i k * (dl k j - 1 * A k j) + (mpow N A n i k * uv j k + (-1) * (mpow N A n i k * A k j))) fun k _ => by
      have : uv j k = dl k j := by
        unfold uv dl
        by_cases z : k = j
        · rw [if_pos z, if_pos z.symm]
        · rw [if_neg z, if_neg (fun y => z y.symm)]
      rw [this]; grind, sm_add, sm_add, sm_mul, sm_uv hj]
    have := gsum_mul (A := A) n hi hj
    rw [show sm N (fun k => gsum N A n i k * (dl k j - 1 * A k j)) = _ from this]
    show _ = dl i j - 1 * sm N (fun k => mpow N A n i k * A k j)
    grind
theorem over_dvd (h0 : a 0 = 1) (n : Nat) : sm (2 * g + 1) (fun k => a k) ∣ sm (2 * g + 1) fun k => over g a n k := by
  have e1 : sm (2 * g + 1) (fun k => over g a n k) = det (2 * g) fun i j => dl i j - 1 * HH g a n i j := by
    rw [← over_at]; exact sm_congr fun k _ => by rw [Int.one_pow]; grind
  have e2 : sm (2 * g + 1) (fun k => a k) = det (2 * g) fun i j => dl i j - 1 * comp (2 * g) a i j := by
    rw [← D_at]; exact sm_congr fun k hk => by rw [Int.one_pow, D_comp h0, if_pos (by omega)]; grind
  rw [e1, e2, ← det_congr (A := mmul (2 * g) (gsum (2 * g) (comp (2 * g) a) n) fun i j => dl i j - 1 * comp (2 * g) a i j) (B := fun i j => dl i j - 1 * HH g a n i j) fun i j hi hj => gsum_mul n hi hj, det_mul]
  exact Int.dvd_mul_left _ _
end
end Det
end

section
set_option Elab.async false
set_option linter.all false
/-! Elimination by whole numbers alone. -/
namespace Det
open Lean.Grind
/-- the rows before k, and one more -/
def with1 (P : Mat Int) (k i j : Nat) : Mat Int := fun r c => if r < k then P r (if c < k then c else j) else P i (if c < k then c else j)
/-- the state: rows P (exchanged), values r behind k, before = b -/
structure St (N k : Nat) (P r : Mat Int) (b : Int) : Prop where
  kN : k ≤ N
  b0 : b ≠ 0
  lead : b = det k P
  red : ∀ i, k ≤ i → i < N → ∃ (m : Int) (c : Nat → Int), m ≠ 0 ∧ (∀ j, j < N → m * b * P i j = sm k (fun l => c l * P l j) + m * (if j < k then 0 else r i j))
theorem St.zero {N : Nat} {P : Mat Int} : St N 0 P P 1 := ⟨by omega, by omega, rfl, fun i _ _ => ⟨1, fun _ => 0, by omega, fun j _ => by show 1 * 1 * P i j = 0 + 1 * (if j < 0 then 0 else P i j); rw [if_neg (by omega)]; grind⟩⟩
/-- a square of rows of P (of i's), columns by f -/
theorem red_row {k n : Nat} {P A : Mat Int} {f : Nat → Nat} {x : Nat} {m b : Int} {c : Nat → Int} {i : Nat} {v : Nat → Int}
    (hx : x < n) (hk : k ≤ x) (h : ∀ j, j < n → m * b * P i (f j) = sm k (fun l => c l * P l (f j)) + m * v j)
    (hA : ∀ l, l < k → ∀ j, j < n → A l j = P l (f j)) :
    m * b * det n (setRow A x fun j => P i (f j)) = m * det n (setRow A x v) := by
  rw [← det_smul hx, ← det_smul hx]
  have e : det n (setRow A x fun j => m * b * P i (f j)) = det n (setRow A x fun j => sm k (fun l => c l * P l (f j)) + m * v j) := det_congr fun r j hr hj => by
    by_cases z : r = x
    · subst z; rw [setRow_same, setRow_same]; exact h j hj
    · rw [setRow_ne z, setRow_ne z]
  rw [e]
  refine det_comb (c := fun l => c l) hx k (by omega) fun j hj => ?_
  congr 1
  exact sm_congr fun l hl => by rw [if_neg (by omega), hA l hl j hj]
theorem det2 (A : Mat Int) : det 2 A = A 0 0 * A 1 1 - A 1 0 * A 0 1 := by
  show (0 + sg 0 * A 0 0 * (0 + sg 0 * minor A 0 0 0 * 1)) + sg 1 * A 1 0 * (0 + sg 0 * minor A 1 0 0 * 1) = _
  show (0 + 1 * A 0 0 * (0 + 1 * A 1 1 * 1)) + (-1) * A 1 0 * (0 + 1 * A 0 1 * 1) = _
  grind
theorem det1 (A : Mat Int) : det 1 A = A 0 0 := by
  show 0 + sg 0 * A 0 0 * 1 = _
  show 0 + 1 * A 0 0 * 1 = _
  grind
/-- the columns before k, and two more -/
def cs (k j : Nat) : Nat → Nat := fun c => if c < k then c else j
def cs2 (k j : Nat) : Nat → Nat := fun c => if c < k + 1 then c else j
/-- the entries are bordered determinants -/
theorem St.entry {N k : Nat} {P r : Mat Int} {b : Int} (h : St N k P r b) {i j : Nat} (hi : k ≤ i) (hi' : i < N) (hj : k ≤ j) (hj' : j < N) :
    r i j = det (k + 1) (fun x c => P (if x < k then x else i) (cs k j c)) := by
  obtain ⟨m, c, m0, hr⟩ := h.red i hi hi'
  have e := red_row (k := k) (n := k + 1) (P := P) (A := fun x c => P (if x < k then x else i) (cs k j c)) (f := cs k j) (x := k) (m := m) (b := b) (c := c) (i := i) (v := fun y => if y < k then 0 else r i j) (by omega) (Nat.le_refl _) (fun y hy => by
    have := hr (cs k j y) (by unfold cs; split <;> omega)
    rw [this]
    congr 2
    by_cases z : y < k
    · unfold cs; rw [if_pos z, if_pos z, if_pos z]
    · unfold cs; rw [if_neg z, if_neg z, if_neg (by omega)]) (fun l hl y _ => by show P (if l < k then l else i) _ = _; rw [if_pos hl])
  have e1 : setRow (fun x c => P (if x < k then x else i) (cs k j c)) k (fun y => P i (cs k j y)) = fun x c => if x < k + 1 then P (if x < k then x else i) (cs k j c) else P (if x < k then x else i) (cs k j c) := by
    funext x y
    rw [ite_self]
    by_cases z : x = k
    · subst z; rw [setRow_same, if_neg (by omega)]
    · rw [setRow_ne z]
  rw [e1] at e
  simp only [ite_self] at e
  have e2 := det_block (k := k) (n := 1) (A := setRow (fun x c => P (if x < k then x else i) (cs k j c)) k (fun y => if y < k then 0 else r i j)) (fun x y h1 h2 h3 => by
    have : x = k := by omega
    subst this
    rw [setRow_same, if_pos h3])
  rw [e2, det1] at e
  have e3 : det k (setRow (fun x c => P (if x < k then x else i) (cs k j c)) k fun y => if y < k then 0 else r i j) = b := by
    rw [h.lead]
    refine det_congr fun x y hx hy => ?_
    rw [setRow_ne (by omega)]
    unfold cs
    rw [if_pos hx, if_pos hy]
  have e4 : setRow (fun x c => P (if x < k then x else i) (cs k j c)) k (fun y => if y < k then 0 else r i j) (k + 0) (k + 0) = r i j := by
    rw [Nat.add_zero, setRow_same, if_neg (by omega)]
  rw [e3] at e
  simp only [e4] at e
  have : m * b ≠ 0 := Int.mul_ne_zero m0 h.b0
  refine Int.eq_of_mul_eq_mul_left this ?_
  rw [e]; grind
/-- two steps at once -/
theorem St.two {N k : Nat} {P r : Mat Int} {b : Int} (h : St N k P r b) {i j : Nat} (hi : k < i) (hi' : i < N) (hj : k ≤ j) (hj' : j < N) (hp : r k k ≠ 0) :
    r i j * r k k - r i k * r k j = b * det (k + 2) (fun x c => P (if x < k + 1 then x else i) (cs2 k j c)) := by
  obtain ⟨m, c, m0, hr⟩ := h.red i (by omega) hi'
  obtain ⟨m', c', m0', hr'⟩ := h.red k (by omega) (by omega)
  let A : Mat Int := fun x y => P (if x < k + 1 then x else i) (cs2 k j y)
  let u : Nat → Int := fun y => if y < k then 0 else if y = k then r i k else r i j
  let v : Nat → Int := fun y => if y < k then 0 else if y = k then r k k else r k j
  have csl : ∀ y, y < k + 2 → cs2 k j y < N := fun y _ => by unfold cs2; split <;> omega
  have vals : ∀ (x : Nat) (y : Nat), (if cs2 k j y < k then 0 else r x (cs2 k j y)) = if y < k then 0 else if y = k then r x k else r x j := by
    intro x y
    by_cases z : y < k
    · have : cs2 k j y = y := by unfold cs2; rw [if_pos (by omega)]
      rw [this, if_pos z, if_pos z]
    · by_cases z2 : y = k
      · have : cs2 k j y = k := by unfold cs2; rw [if_pos (by omega), z2]
        rw [this, if_neg (by omega), if_neg z, if_pos z2]
      · have : cs2 k j y = j := by unfold cs2; rw [if_neg (by omega)]
        rw [this, if_neg (by omega), if_neg z, if_neg z2]
  have e := red_row (k := k) (n := k + 2) (P := P) (A := A) (f := cs2 k j) (x := k + 1) (m := m) (b := b) (c := c) (i := i) (v := u) (by omega) (by omega) (fun y hy => by
    rw [hr (cs2 k j y) (csl y hy), vals]) (fun l hl y _ => by show P (if l < k + 1 then l else i) _ = _; rw [if_pos (by omega)])
  have e' := red_row (k := k) (n := k + 2) (P := P) (A := setRow A (k + 1) u) (f := cs2 k j) (x := k) (m := m') (b := b) (c := c') (i := k) (v := v) (by omega) (by omega) (fun y hy => by
    rw [hr' (cs2 k j y) (csl y hy), vals]) (fun l hl y _ => by rw [setRow_ne (by omega)]; show P (if l < k + 1 then l else i) _ = _; rw [if_pos (by omega)])
  have s1 : setRow A (k + 1) (fun y => P i (cs2 k j y)) = A := by
    funext x y
    by_cases z : x = k + 1
    · subst z; rw [setRow_same]; show _ = P (if k + 1 < k + 1 then k + 1 else i) _; rw [if_neg (by omega)]
    · rw [setRow_ne z]
  have s2 : setRow (setRow A (k + 1) u) k (fun y => P k (cs2 k j y)) = setRow A (k + 1) u := by
    funext x y
    by_cases z : x = k
    · subst z; rw [setRow_same, setRow_ne (by omega)]; show _ = P (if x < x + 1 then x else i) _; rw [if_pos (by omega)]
    · rw [setRow_ne z]
  rw [s1] at e
  rw [s2] at e'
  have bl := det_block (k := k) (n := 2) (A := setRow (setRow A (k + 1) u) k v) (fun x y h1 h2 h3 => by
    by_cases z : x = k
    · subst z; rw [setRow_same]; show (if y < x then 0 else _) = (0 : Int); rw [if_pos h3]
    · have : x = k + 1 := by omega
      subst this
      rw [setRow_ne z, setRow_same]; show (if y < k then 0 else _) = (0 : Int); rw [if_pos h3])
  rw [det2] at bl
  have b1 : det k (setRow (setRow A (k + 1) u) k v) = b := by
    rw [h.lead]
    refine det_congr fun x y hx hy => ?_
    rw [setRow_ne (by omega), setRow_ne (by omega)]
    show P (if x < k + 1 then x else i) (cs2 k j y) = _
    unfold cs2
    rw [if_pos (by omega), if_pos (by omega)]
  have v0 : setRow (setRow A (k + 1) u) k v (k + 0) (k + 0) = r k k := by show setRow (setRow A (k + 1) u) k v k k = _; rw [setRow_same]; show (if k < k then 0 else if k = k then _ else _) = _; rw [if_neg (by omega), if_pos rfl]
  have v1 : setRow (setRow A (k + 1) u) k v (k + 0) (k + 1) = r k j := by show setRow (setRow A (k + 1) u) k v k (k + 1) = _; rw [setRow_same]; show (if k + 1 < k then 0 else if k + 1 = k then _ else _) = _; rw [if_neg (by omega), if_neg (by omega)]
  have u0 : setRow (setRow A (k + 1) u) k v (k + 1) (k + 0) = r i k := by rw [Nat.add_zero, setRow_ne (by omega), setRow_same]; show (if k < k then 0 else if k = k then _ else _) = _; rw [if_neg (by omega), if_pos rfl]
  have u1 : setRow (setRow A (k + 1) u) k v (k + 1) (k + 1) = r i j := by rw [setRow_ne (by omega), setRow_same]; show (if k + 1 < k then 0 else if k + 1 = k then _ else _) = _; rw [if_neg (by omega), if_neg (by omega)]
  rw [b1] at bl
  simp only [v0, v1, u0, u1] at bl
  rw [bl] at e'
  show _ = b * det (k + 2) A
  -- m b det A = m det (u), m' b det (u) = m' b (..)
  have f1 : b * det (k + 2) A = det (k + 2) (setRow A (k + 1) u) := Int.eq_of_mul_eq_mul_left m0 (by rw [← e]; grind)
  have f2 : det (k + 2) (setRow A (k + 1) u) = r k k * r i j - r i k * r k j := Int.eq_of_mul_eq_mul_left (Int.mul_ne_zero m0' h.b0) (by rw [e']; grind)
  rw [f1, f2]; grind
/-- exchanging rows behind k -/
theorem St.swap {N k l : Nat} {P r : Mat Int} {b : Int} (h : St N k P r b) (hl : k ≤ l) (hl' : l < N) : St N k (swapR P k l) (swapR r k l) b := by
  have sw : ∀ (A : Mat Int) (i : Nat), swapR A k l i = A (if i = l then k else if i = k then l else i) := by
    intro A i
    unfold swapR
    by_cases z : i = l
    · subst z; rw [setRow_same, if_pos rfl]
    · rw [setRow_ne z, if_neg z]
      by_cases z2 : i = k
      · subst z2; rw [setRow_same, if_pos rfl]
      · rw [setRow_ne z2, if_neg z2]
  refine ⟨h.kN, h.b0, ?_, fun i h1 h2 => ?_⟩
  · rw [h.lead]
    exact det_congr fun x y hx hy => by rw [sw, if_neg (by omega), if_neg (by omega)]
  · obtain ⟨m, c, m0, e⟩ := h.red (if i = l then k else if i = k then l else i) (by split; omega; split <;> omega) (by split; omega; split <;> omega)
    refine ⟨m, c, m0, fun j hj => ?_⟩
    rw [sw, sw, e j hj]
    congr 1
    exact sm_congr fun x hx => by rw [sw, if_neg (by omega), if_neg (by omega)]
/-- one step -/
theorem St.step {N k : Nat} {P r r' : Mat Int} {b : Int} (h : St N k P r b) (hk : k < N) (hp : r k k ≠ 0)
    (hr : ∀ i j, k < i → i < N → k ≤ j → j < N → r' i j = (r i j * r k k - r i k * r k j) / b) : St N (k + 1) P r' (r k k) := by
  refine ⟨by omega, hp, ?_, fun i h1 h2 => ?_⟩
  · rw [h.entry (Nat.le_refl _) hk (Nat.le_refl _) hk]
    refine det_congr fun x y hx hy => ?_
    unfold cs
    have e1 : (if x < k then x else k) = x := by split <;> omega
    have e2 : (if y < k then y else k) = y := by split <;> omega
    show P (if x < k then x else k) (if y < k then y else k) = _
    rw [e1, e2]
  · obtain ⟨m, c, m0, e⟩ := h.red i (by omega) h2
    obtain ⟨m', c', m0', e'⟩ := h.red k (by omega) hk
    refine ⟨m * m' * b, fun l => if l < k then m' * r k k * c l - m * r i k * c' l else m * m' * b * r i k, Int.mul_ne_zero (Int.mul_ne_zero m0 m0') h.b0, fun j hj => ?_⟩
    have ej := e j hj
    have ej' := e' j hj
    show _ = sm k _ + (if k < k then _ else _) * P k j + _
    rw [if_neg (Nat.lt_irrefl k)]
    rw [sm_congr (g := fun l => m' * r k k * (c l * P l j) + (- (m * r i k)) * (c' l * P l j)) fun l hl => by show (if l < k then m' * r k k * c l - m * r i k * c' l else m * m' * b * r i k) * P l j = _; rw [if_pos hl]; grind, sm_add, sm_mul, sm_mul]
    by_cases z : j < k
    · rw [if_pos z] at ej ej'
      rw [if_pos (by omega)]
      have f1 : sm k (fun l => c l * P l j) = m * b * P i j := by grind
      have f2 : sm k (fun l => c' l * P l j) = m' * b * P k j := by grind
      rw [f1, f2]; grind
    · rw [if_neg z] at ej ej'
      have f1 : sm k (fun l => c l * P l j) = m * b * P i j - m * r i j := by grind
      have f2 : sm k (fun l => c' l * P l j) = m' * b * P k j - m' * r k j := by grind
      rw [f1, f2]
      by_cases z2 : j < k + 1
      · rw [if_pos z2]
        have : j = k := by omega
        subst this
        grind
      · rw [if_neg z2]
        have t := h.two (i := i) (j := j) (by omega) h2 (by omega) hj hp
        have q : b * r' i j = r i j * r k k - r i k * r k j := by
          rw [hr i j (by omega) h2 (by omega) hj, t, Int.mul_ediv_cancel_left _ h.b0]
        have : m * m' * b * r' i j = m * m' * (r i j * r k k - r i k * r k j) := by rw [← q]; grind
        grind
/-- no pivot -/
theorem St.none {N k : Nat} {P r : Mat Int} {b : Int} (h : St N k P r b) (hk : k < N) (hz : ∀ i, k ≤ i → i < N → r i k = 0) : det N P = 0 := by
  -- one row after another is put in place of its combination
  have key : ∀ (d : Nat), d ≤ N - k → ∃ (m : Int) (A : Mat Int), m ≠ 0 ∧ m * det N P = det N A ∧ (∀ i, i < N → i < N - d → ∀ j, j < N → A i j = P i j) ∧ (∀ i j, N - d ≤ i → i < N → j ≤ k → A i j = 0) := by
    intro d
    induction d with
    | zero => exact fun _ => ⟨1, P, by omega, by grind, fun _ _ _ _ _ => rfl, fun i j h1 h2 => by omega⟩
    | succ d ih =>
      intro hd
      obtain ⟨m, A, m0, e, hA, hB⟩ := ih (by omega)
      obtain ⟨m', c, m0', er⟩ := h.red (N - (d + 1)) (by omega) (by omega)
      have rr := red_row (k := k) (n := N) (P := P) (A := A) (f := fun j => j) (x := N - (d + 1)) (m := m') (b := b) (c := c) (i := N - (d + 1)) (v := fun j => if j < k then 0 else r (N - (d + 1)) j) (by omega) (by omega) (fun j hj => er j hj) (fun l hl j hj => hA l (by omega) (by omega) j hj)
      have s1 : det N (setRow A (N - (d + 1)) fun j => P (N - (d + 1)) j) = det N A := det_congr fun i j hi hj => by
        by_cases z : i = N - (d + 1)
        · subst z; rw [setRow_same, hA _ (by omega) (by omega) j hj]
        · rw [setRow_ne z]
      rw [s1, ← det_smul (by omega)] at rr
      refine ⟨m' * b * m, _, Int.mul_ne_zero (Int.mul_ne_zero m0' h.b0) m0, (by rw [← rr, ← e]; grind), fun i h1 h2 j hj => ?_, fun i j h1 h2 h3 => ?_⟩
      · rw [setRow_ne (by omega)]; exact hA i h1 (by omega) j hj
      · by_cases z : i = N - (d + 1)
        · subst z
          rw [setRow_same]
          by_cases z2 : j < k
          · show m' * (if j < k then 0 else _) = (0 : Int); rw [if_pos z2]; grind
          · have : j = k := by omega
            subst this
            show m' * (if j < j then 0 else _) = (0 : Int)
            rw [if_neg z2, hz _ (by omega) (by omega)]; grind
        · rw [setRow_ne z]; exact hB i j (by omega) h2 h3
  obtain ⟨m, A, m0, e, _, hB⟩ := key (N - k) (Nat.le_refl _)
  rw [det_zcol (A := A) hk fun i j h1 h2 h3 => hB i j (by omega) h2 h3] at e
  exact (Int.mul_eq_zero.mp e).resolve_left m0
theorem St.last {N : Nat} {P r : Mat Int} {b : Int} (h : St N N P r b) : b = det N P := h.lead
/-- how great a determinant is -/
theorem det_abs {e : Int} (e0 : 0 ≤ e) {w : Nat} : ∀ {n : Nat}, n ≤ w → ∀ {A : Mat Int}, (∀ i j, i < n → j < n → -e ≤ A i j ∧ A i j ≤ e) → -((w * e) ^ n) ≤ det n A ∧ det n A ≤ (w * e) ^ n
  | 0, _, A, _ => by show -((w * e) ^ 0) ≤ 1 ∧ 1 ≤ (w * e) ^ 0; rw [Int.pow_zero]; omega
  | n + 1, hn, A, h => by
    have we : (0 : Int) ≤ w * e := Int.mul_nonneg (by omega) e0
    have wp : (0 : Int) ≤ (w * e) ^ n := Int.pow_nonneg we
    have tm : ∀ i, i < n + 1 → -(e * (w * e) ^ n) ≤ sg i * A i 0 * det n (minor A i) ∧ sg i * A i 0 * det n (minor A i) ≤ e * (w * e) ^ n := by
      intro i hi
      have a := h i 0 hi (by omega)
      have d := det_abs e0 (w := w) (n := n) (by omega) (A := minor A i) fun r c hr hc => h _ _ (by unfold skip; split <;> omega) (by omega)
      have : ∀ x y s f : Int, -e ≤ x → x ≤ e → -f ≤ y → y ≤ f → (s = 1 ∨ s = -1) → -(e * f) ≤ s * x * y ∧ s * x * y ≤ e * f := by
        intro x y s f h1 h2 h3 h4 hs
        have n1 : (s * x * y).natAbs ≤ (e * f).natAbs := by
          rw [Int.natAbs_mul, Int.natAbs_mul, Int.natAbs_mul]
          have : s.natAbs = 1 := by rcases hs with z | z <;> rw [z] <;> rfl
          rw [this, Nat.one_mul]
          exact Nat.mul_le_mul (by omega) (by omega)
        have n2 : 0 ≤ e * f := Int.mul_nonneg e0 (by omega)
        omega
      exact this _ _ _ _ a.1 a.2 d.1 d.2 (by unfold sg; split <;> simp)
    have su : ∀ m, m ≤ n + 1 → ∀ f : Nat → Int, (∀ i, i < m → -(e * (w * e) ^ n) ≤ f i ∧ f i ≤ e * (w * e) ^ n) → -(m * (e * (w * e) ^ n)) ≤ sm m f ∧ sm m f ≤ m * (e * (w * e) ^ n) := by
      intro m
      induction m with
      | zero => intro _ f _; show -(((0 : Nat) : Int) * _) ≤ (0 : Int) ∧ (0 : Int) ≤ ((0 : Nat) : Int) * _; simp
      | succ m ih =>
        intro hm f hf
        have := ih (by omega) f fun i hi => hf i (by omega)
        have l := hf m (by omega)
        show _ ≤ sm m f + f m ∧ sm m f + f m ≤ _
        rw [show ((m + 1 : Nat) : Int) * (e * (w * e) ^ n) = (m : Int) * (e * (w * e) ^ n) + e * (w * e) ^ n by rw [Int.natCast_add]; grind]
        omega
    have r := su (n + 1) (Nat.le_refl _) _ tm
    have ep : 0 ≤ e * (w * e) ^ n := Int.mul_nonneg e0 wp
    have le : ((n + 1 : Nat) : Int) * (e * (w * e) ^ n) ≤ (w * e) ^ (n + 1) := by
      rw [Int.pow_succ, show (w * e) ^ n * (w * e) = (w : Int) * (e * (w * e) ^ n) by grind]
      exact Int.mul_le_mul_of_nonneg_right (by omega) ep
    show -((w * e) ^ (n + 1)) ≤ sm (n + 1) _ ∧ sm (n + 1) _ ≤ _
    omega
end Det
end

section
set_option Elab.async false
set_option linter.all false
set_option maxRecDepth 100000
set_option maxHeartbeats 4000000
namespace W56
open PySem PySem.Spec PyProof.Rows L2 DL

/-! raised: slots 0 a, 1 e, 2 found -/
def p_raised_0 : DS := (sSet 2 (sC (.int 1)))
def p_raised_1 : DS := (sWhile (fun _ => 1000) (sTst (sOp vGt (sCons (sVar 1) (sCons (sC (.int 0)) sNil)))) (sSeq (sIf (sTst (sOp (vEqD false) (sCons (sOp vMod (sCons (sVar 1) (sCons (sC (.int 2)) sNil))) (sCons (sC (.int 1)) sNil)))) (sAug 2 vMul (sVar 0)) sNext) (sSeq (sAug 1 vDiv (sC (.int 2))) (sIf (sTst (sOp vGt (sCons (sVar 1) (sCons (sC (.int 0)) sNil)))) (sAug 0 vMul (sVar 0)) sNext))))
def p_raised_2 : DS := (sRet (sVar 2))
def b_raised : DS := (sSeq p_raised_0 (sSeq p_raised_1 p_raised_2))
def F_raised := runD b_raised 3 2
/-! list_made: slots 0 q, 1 counts, 2 found, 3 n, 4 total, 5 i -/
def p_list_made_0 : DS := (sSet 2 (sOp vLst (sCons (sC (.int 1)) sNil)))
def p_list_made_1 : DS := (sFor (sRng (sCons (sC (.int 1)) (sCons (sOp vAdd (sCons (sOp vLen (sCons (sVar 1) sNil)) (sCons (sC (.int 1)) sNil))) sNil))) (gN 3) (sSeq (sSet 4 (sOp vSum (sCons (sComp (sRng (sCons (sVar 3) sNil)) (gN 5) sYes (sOp vMul (sCons (sOp vSub (sCons (sOp vSub (sCons (sOp vIx (sCons (sVar 1) (sCons (sOp vSub (sCons (sOp vSub (sCons (sVar 3) (sCons (sVar 5) sNil))) (sCons (sC (.int 1)) sNil))) sNil))) (sCons (sOp (vCall F_raised) (sCons (sVar 0) (sCons (sOp vSub (sCons (sVar 3) (sCons (sVar 5) sNil))) sNil))) sNil))) (sCons (sC (.int 1)) sNil))) (sCons (sOp vIx (sCons (sVar 2) (sCons (sVar 5) sNil))) sNil))) [5]) sNil))) (sSeq (sIf (sTst (sOp (vEqD true) (sCons (sOp vMod (sCons (sVar 4) (sCons (sVar 3) sNil))) (sCons (sC (.int 0)) sNil)))) (sRet (sC .none)) sNext) (sExp (sMt 2 mAppend (sCons (sOp vDiv (sCons (sVar 4) (sCons (sVar 3) sNil))) sNil))))))
def p_list_made_2 : DS := (sFor (sRngN (sCons (sOp vSub (sCons (sOp vLen (sCons (sVar 1) sNil)) (sCons (sC (.int 1)) sNil))) (sCons (sOp vNeg (sCons (sC (.int 1)) sNil)) (sCons (sOp vNeg (sCons (sC (.int 1)) sNil)) sNil)))) (gN 5) (sExp (sMt 2 mAppend (sCons (sOp vMul (sCons (sOp (vCall F_raised) (sCons (sVar 0) (sCons (sOp vSub (sCons (sOp vLen (sCons (sVar 1) sNil)) (sCons (sVar 5) sNil))) sNil))) (sCons (sOp vIx (sCons (sVar 2) (sCons (sVar 5) sNil))) sNil))) sNil))))
def p_list_made_3 : DS := (sRet (sVar 2))
def b_list_made : DS := (sSeq p_list_made_0 (sSeq p_list_made_1 (sSeq p_list_made_2 p_list_made_3)))
def F_list_made := runD b_list_made 6 2
/-! counts_of: slots 0 p, 1 items, 2 most, 3 sums, 4 n, 5 lead, 6 one, 7 i -/
def p_counts_of_0 : DS := (sSet 3 (sOp vLst sNil))
def p_counts_of_1 : DS := (sFor (sRng (sCons (sC (.int 1)) (sCons (sOp vAdd (sCons (sVar 2) (sCons (sC (.int 1)) sNil))) sNil))) (gN 4) (sSeq (sSet 5 (sIfE (sTst (sOp vLt (sCons (sVar 4) (sCons (sOp vLen (sCons (sVar 1) sNil)) sNil)))) (sOp vMul (sCons (sVar 4) (sCons (sOp vIx (sCons (sVar 1) (sCons (sVar 4) sNil))) sNil))) (sC (.int 0)))) (sExp (sMt 3 mAppend (sCons (sOp vSub (sCons (sVar 5) (sCons (sOp vSum (sCons (sComp (sRng (sCons (sC (.int 1)) (sCons (sOp vMin (sCons (sVar 4) (sCons (sOp vLen (sCons (sVar 1) sNil)) sNil))) sNil))) (gN 7) sYes (sOp vMul (sCons (sOp vIx (sCons (sVar 3) (sCons (sOp vSub (sCons (sOp vSub (sCons (sVar 4) (sCons (sVar 7) sNil))) (sCons (sC (.int 1)) sNil))) sNil))) (sCons (sOp vIx (sCons (sVar 1) (sCons (sVar 7) sNil))) sNil))) [7]) sNil)) sNil))) sNil)))))
def p_counts_of_2 : DS := (sRet (sComp (sEnum (sVar 3)) (gTu 2 [(gN 4), (gN 6)]) sYes (sOp vAdd (sCons (sOp vAdd (sCons (sVar 6) (sCons (sOp (vCall F_raised) (sCons (sVar 0) (sCons (sOp vAdd (sCons (sVar 4) (sCons (sC (.int 1)) sNil))) sNil))) sNil))) (sCons (sC (.int 1)) sNil))) [4, 6]))
def b_counts_of : DS := (sSeq p_counts_of_0 (sSeq p_counts_of_1 p_counts_of_2))
def F_counts_of := runD b_counts_of 8 3
/-! list_over: slots 0 p, 1 items, 2 n, 3 g, 4 counts, 5 k -/
def p_list_over_0 : DS := (sSet 3 (sOp vDiv (sCons (sOp vLen (sCons (sVar 1) sNil)) (sCons (sC (.int 2)) sNil))))
def p_list_over_1 : DS := (sSet 4 (sOp (vCall F_counts_of) (sCons (sVar 0) (sCons (sStab (sVar 1)) (sCons (sOp vMul (sCons (sVar 3) (sCons (sVar 2) sNil))) sNil)))))
def p_list_over_2 : DS := (sRet (sOp (vCall F_list_made) (sCons (sOp (vCall F_raised) (sCons (sVar 0) (sCons (sVar 2) sNil))) (sCons (sStab (sComp (sRng (sCons (sC (.int 1)) (sCons (sOp vAdd (sCons (sVar 3) (sCons (sC (.int 1)) sNil))) sNil))) (gN 5) sYes (sStab (sOp vIx (sCons (sVar 4) (sCons (sOp vSub (sCons (sOp vMul (sCons (sVar 2) (sCons (sVar 5) sNil))) (sCons (sC (.int 1)) sNil))) sNil)))) [5])) sNil))))
def b_list_over : DS := (sSeq p_list_over_0 (sSeq p_list_over_1 p_list_over_2))
def F_list_over := runD b_list_over 6 3
/-! _law_deck: slots 0 script, 1 seed, 2 cell -/
def p__law_deck_0 : DS := (sSet 1 (sC (.int 7)))
def p__law_deck_1 : DS := (sFor (sItems (sVar 0)) (gN 2) (sSet 1 (sOp vMod (sCons (sOp vInt (sCons (sOp vAdd (sCons (sOp vMul (sCons (sVar 1) (sCons (sC (.int 48271)) sNil))) (sCons (sVar 2) sNil))) sNil)) (sCons (sC (.int 2147483647)) sNil)))))
def p__law_deck_2 : DS := (sRet (sOp vLst (sCons (sC (.int 0)) (sCons (sC (.int 0)) (sCons (sVar 1) (sCons (sStab (sOp vList (sCons (sVar 0) sNil))) (sCons (sC (.int 0)) sNil)))))))
def b__law_deck : DS := (sSeq p__law_deck_0 (sSeq p__law_deck_1 p__law_deck_2))
def F__law_deck := runL b__law_deck 3 1
/-! _law_draw: slots 0 deck, 1 bound, 2 number, 3 value -/
def p__law_draw_0 : DS := (sIf (sAnd (sTst (sOp (vEqD false) (sCons (sOp vIx (sCons (sVar 0) (sCons (sC (.int 0)) sNil))) (sCons (sC (.int 0)) sNil)))) (sTst (sOp vLt (sCons (sOp vIx (sCons (sVar 0) (sCons (sC (.int 1)) sNil))) (sCons (sOp vLen (sCons (sOp vIx (sCons (sVar 0) (sCons (sC (.int 3)) sNil))) sNil)) sNil))))) (sSeq (sSetIx 0 (sOp vAbs (sCons (sOp vIx (sCons (sOp vIx (sCons (sVar 0) (sCons (sC (.int 3)) sNil))) (sCons (sOp vIx (sCons (sVar 0) (sCons (sC (.int 1)) sNil))) sNil))) sNil)) (sC (.int 0))) (sSetIx 0 (sOp vAdd (sCons (sOp vIx (sCons (sVar 0) (sCons (sC (.int 1)) sNil))) (sCons (sC (.int 1)) sNil))) (sC (.int 1)))) (sIf (sTst (sOp (vEqD false) (sCons (sOp vIx (sCons (sVar 0) (sCons (sC (.int 0)) sNil))) (sCons (sC (.int 0)) sNil)))) (sSeq (sSetIx 0 (sOp vAdd (sCons (sOp vIx (sCons (sVar 0) (sCons (sC (.int 4)) sNil))) (sCons (sC (.int 1)) sNil))) (sC (.int 4))) (sSeq (sSet 2 (sOp vMod (sCons (sOp vInt (sCons (sOp vAdd (sCons (sOp vAdd (sCons (sOp vMul (sCons (sOp vIx (sCons (sVar 0) (sCons (sC (.int 2)) sNil))) (sCons (sC (.int 48271)) sNil))) (sCons (sOp vMul (sCons (sOp vIx (sCons (sVar 0) (sCons (sC (.int 4)) sNil))) (sCons (sC (.int 69621)) sNil))) sNil))) (sCons (sC (.int 12345)) sNil))) sNil)) (sCons (sC (.int 2147483647)) sNil)))) (sSeq (sSet 2 (sOp vMod (sCons (sOp vInt (sCons (sOp vAdd (sCons (sOp vAdd (sCons (sOp vMul (sCons (sVar 2) (sCons (sVar 2) sNil))) (sCons (sOp vMul (sCons (sC (.int 16807)) (sCons (sOp vIx (sCons (sVar 0) (sCons (sC (.int 4)) sNil))) sNil))) sNil))) (sCons (sC (.int 7)) sNil))) sNil)) (sCons (sC (.int 998244353)) sNil)))) (sSeq (sSet 2 (sOp vMod (sCons (sOp vInt (sCons (sOp vAdd (sCons (sOp vAdd (sCons (sOp vMul (sCons (sVar 2) (sCons (sVar 2) sNil))) (sCons (sOp vMul (sCons (sC (.int 48271)) (sCons (sOp vIx (sCons (sVar 0) (sCons (sC (.int 4)) sNil))) sNil))) sNil))) (sCons (sOp vIx (sCons (sVar 0) (sCons (sC (.int 2)) sNil))) sNil))) sNil)) (sCons (sC (.int 2147483629)) sNil)))) (sSetIx 0 (sOp vDiv (sCons (sVar 2) (sCons (sC (.int 13)) sNil))) (sC (.int 0))))))) sNext))
def p__law_draw_1 : DS := (sSet 3 (sOp vMod (sCons (sOp vInt (sCons (sOp vIx (sCons (sVar 0) (sCons (sC (.int 0)) sNil))) sNil)) (sCons (sVar 1) sNil))))
def p__law_draw_2 : DS := (sSetIx 0 (sOp vDiv (sCons (sOp vIx (sCons (sVar 0) (sCons (sC (.int 0)) sNil))) (sCons (sVar 1) sNil))) (sC (.int 0)))
def p__law_draw_3 : DS := (sRet (sVar 3))
def b__law_draw : DS := (sSeq p__law_draw_0 (sSeq p__law_draw_1 (sSeq p__law_draw_2 p__law_draw_3)))
def F__law_draw := runB b__law_draw 4 2
/-! _law_is: slots 0 value, 1 due -/
def p__law_is_0 : DS := (sRet (sOp (vEqS false) (sCons (sOp vRepr (sCons (sVar 0) sNil)) (sCons (sOp vRepr (sCons (sVar 1) sNil)) sNil))))
def b__law_is : DS := p__law_is_0
def F__law_is := runD b__law_is 2 2
/-! _law_list: slots 0 p, 1 low, 2 found, 3 power, 4 a -/
def p__law_list_0 : DS := (sSet 2 (sOp vCat (sCons (sOp vLst (sCons (sC (.int 1)) sNil)) (sCons (sOp vList (sCons (sVar 1) sNil)) sNil))))
def p__law_list_1 : DS := (sSet 3 (sC (.int 1)))
def p__law_list_2 : DS := (sFor (sItems (sOp vRev (sCons (sSlice (sVar 2) sNoP (sPart (sOp vNeg (sCons (sC (.int 1)) sNil)))) sNil))) (gN 4) (sSeq (sSet 3 (sOp vMul (sCons (sVar 3) (sCons (sVar 0) sNil)))) (sExp (sMt 2 mAppend (sCons (sOp vMul (sCons (sVar 3) (sCons (sVar 4) sNil))) sNil)))))
def p__law_list_3 : DS := (sRet (sVar 2))
def b__law_list : DS := (sSeq p__law_list_0 (sSeq p__law_list_1 (sSeq p__law_list_2 p__law_list_3)))
def F__law_list := runD b__law_list 5 2
/-! _law_product: slots 0 one, 1 two, 2 size, 3 row, 4 i, 5 k -/
def p__law_product_0 : DS := (sSet 2 (sOp vLen (sCons (sVar 0) sNil)))
def p__law_product_1 : DS := (sRet (sComp (sItems (sVar 0)) (gN 3) sYes (sStab (sComp (sRng (sCons (sVar 2) sNil)) (gN 4) sYes (sOp vSum (sCons (sComp (sRng (sCons (sVar 2) sNil)) (gN 5) sYes (sOp vMul (sCons (sOp vIx (sCons (sVar 3) (sCons (sVar 5) sNil))) (sCons (sOp vIx (sCons (sOp vIx (sCons (sVar 1) (sCons (sVar 5) sNil))) (sCons (sVar 4) sNil))) sNil))) [5]) sNil)) [4])) [3]))
def b__law_product : DS := (sSeq p__law_product_0 p__law_product_1)
def F__law_product := runD b__law_product 6 2
def intsL : List PyData → Option (List Int)
  | [] => some []
  | .int i :: r => (intsL r).map (i :: ·)
  | _ => none
def rowsL : List PyData → Option (List (List Int))
  | [] => some []
  | .list d :: r => (intsL d).bind fun x => (rowsL r).map (x :: ·)
  | _ => none
def matL (rs : List (List Int)) : Det.Mat Int := fun i j => (rs.getD i []).getD j 0
def okRow (n : Nat) (r : List Int) : Bool := r.length == n && r.all fun x => decide (-(2 ^ 1400) ≤ x ∧ x ≤ 2 ^ 1400)
def F__law_determinant (ds : List PyData) : Option PyData := match ds with
  | [.list rows] => (rowsL rows).bind fun rs => if rs.length ≤ 8 ∧ (rs.all fun r => okRow rs.length r) = true then some (.int (Det.det rs.length (matL rs))) else none
  | _ => none
/-! law: slots 0 script, 1 deck, 2 p, 3 g, 4 most, 5 items, 6 n, 7 size, 8 table, 9 here, 10 q, 11 turn, 12 kept, 13 told, 14 power, 15 i, 16 t, 17 total, 18 b, 19 low, 20 counts, 21 k -/
def p_law_0 : DS := (sSet 1 (sOp (vCallL F__law_deck) (sCons (sStab (sVar 0)) sNil)))
def p_law_1 : DS := (sSet 2 (sOp vIx (sCons (sOp vLst (sCons (sC (.int 3)) (sCons (sC (.int 5)) (sCons (sC (.int 7)) (sCons (sC (.int 11)) (sCons (sC (.int 13)) (sCons (sC (.int 17)) (sCons (sC (.int 19)) (sCons (sC (.int 23)) (sCons (sC (.int 29)) (sCons (sC (.int 31)) (sCons (sC (.int 37)) (sCons (sC (.int 41)) (sCons (sC (.int 43)) (sCons (sC (.int 47)) (sCons (sC (.int 53)) (sCons (sC (.int 59)) (sCons (sC (.int 61)) sNil)))))))))))))))))) (sCons (sOp (vCallB F__law_draw) (sCons (sVar 1) (sCons (sC (.int 17)) sNil))) sNil))))
def p_law_2 : DS := (sSet 3 (sOp vAdd (sCons (sC (.int 1)) (sCons (sOp (vCallB F__law_draw) (sCons (sVar 1) (sCons (sC (.int 4)) sNil))) sNil))))
def p_law_3 : DS := (sSet 4 (sOp vIx (sCons (sOp vLst (sCons (sC (.int 30)) (sCons (sC (.int 30)) (sCons (sC (.int 3000)) (sCons (sOp vPow (sCons (sC (.int 10)) (sCons (sC (.int 9)) sNil))) sNil))))) (sCons (sOp (vCallB F__law_draw) (sCons (sVar 1) (sCons (sC (.int 4)) sNil))) sNil))))
def p_law_4 : DS := (sSet 5 (sOp (vCall F__law_list) (sCons (sStab (sVar 2)) (sCons (sStab (sComp (sRng (sCons (sVar 3) sNil)) (gN 21) sYes (sOp vSub (sCons (sOp (vCallB F__law_draw) (sCons (sVar 1) (sCons (sOp vAdd (sCons (sOp vMul (sCons (sC (.int 2)) (sCons (sVar 4) sNil))) (sCons (sC (.int 1)) sNil))) sNil))) (sCons (sVar 4) sNil))) [21])) sNil))))
def p_law_5 : DS := (sSet 6 (sOp vAdd (sCons (sC (.int 1)) (sCons (sOp (vCallB F__law_draw) (sCons (sVar 1) (sCons (sStab (sOp vIx (sCons (sOp vLst (sCons (sC (.int 40)) (sCons (sC (.int 6)) sNil))) (sCons (sOp vInt (sCons (sOp vGt (sCons (sVar 4) (sCons (sC (.int 3000)) sNil))) sNil)) sNil)))) sNil))) sNil))))
def p_law_6 : DS := (sSet 7 (sOp vMul (sCons (sC (.int 2)) (sCons (sVar 3) sNil))))
def p_law_7 : DS := (sSet 8 (sOp vCat (sCons (sComp (sRng (sCons (sOp vSub (sCons (sVar 7) (sCons (sC (.int 1)) sNil))) sNil)) (gN 21) sYes (sStab (sComp (sRng (sCons (sVar 7) sNil)) (gN 15) sYes (sOp vInt (sCons (sOp (vEqD false) (sCons (sVar 15) (sCons (sOp vAdd (sCons (sVar 21) (sCons (sC (.int 1)) sNil))) sNil))) sNil)) [15])) [21]) (sCons (sOp vLst (sCons (sStab (sComp (sRng (sCons (sVar 7) sNil)) (gN 15) sYes (sOp vNeg (sCons (sOp vIx (sCons (sVar 5) (sCons (sOp vSub (sCons (sVar 7) (sCons (sVar 15) sNil))) sNil))) sNil)) [15])) sNil)) sNil))))
def p_law_8 : DS := (sSet 9 (sComp (sRng (sCons (sVar 7) sNil)) (gN 21) sYes (sStab (sComp (sRng (sCons (sVar 7) sNil)) (gN 15) sYes (sOp vInt (sCons (sOp (vEqD false) (sCons (sVar 15) (sCons (sVar 21) sNil))) sNil)) [15])) [21]))
def p_law_9 : DS := (sSet 10 (sC (.int 1)))
def p_law_10 : DS := (sFor (sRng (sCons (sVar 6) sNil)) (gN 11) (sSeq (sSet 9 (sOp (vCall F__law_product) (sCons (sStab (sVar 9)) (sCons (sStab (sVar 8)) sNil)))) (sSet 10 (sOp vMul (sCons (sVar 10) (sCons (sVar 2) sNil))))))
def p_law_11 : DS := (sSet 12 (sOp vRepr (sCons (sVar 5) sNil)))
def p_law_12 : DS := (sSet 13 (sOp (vCall F_list_over) (sCons (sStab (sVar 2)) (sCons (sStab (sVar 5)) (sCons (sVar 6) sNil)))))
def p_law_13 : DS := (sIf (sOr (sNot (sTru (sOp vIsi (sCons (sVar 13) (sCons (sFx (.ty "list")) sNil))))) (sOr (sTst (sOp (vEqD true) (sCons (sOp vLen (sCons (sVar 13) sNil)) (sCons (sOp vAdd (sCons (sVar 7) (sCons (sC (.int 1)) sNil))) sNil)))) (sTst (sOp (vEqS true) (sCons (sOp vRepr (sCons (sVar 5) sNil)) (sCons (sVar 12) sNil)))))) (sRet (sC (.bool false))) sNext)
def p_law_14 : DS := (sIf (sOr (sNot (sTru (sOp vAll (sCons (sComp (sItems (sVar 13)) (gN 18) sYes (sAndV (sOp vIsi (sCons (sVar 18) (sCons (sFx (.ty "int")) sNil))) (sNotV (sOp vIsi (sCons (sVar 18) (sCons (sFx (.ty "bool")) sNil))))) [18]) sNil)))) (sTst (sOp (vEqD true) (sCons (sOp vIx (sCons (sVar 13) (sCons (sC (.int 0)) sNil))) (sCons (sC (.int 1)) sNil))))) (sRet (sC (.bool false))) sNext)
def p_law_15 : DS := (sSet 14 (sC (.int 1)))
def p_law_16 : DS := (sFor (sRngN (sCons (sVar 3) (sCons (sOp vNeg (sCons (sC (.int 1)) sNil)) (sCons (sOp vNeg (sCons (sC (.int 1)) sNil)) sNil)))) (gN 15) (sSeq (sIf (sTst (sOp (vEqD true) (sCons (sOp vIx (sCons (sVar 13) (sCons (sOp vSub (sCons (sVar 7) (sCons (sVar 15) sNil))) sNil))) (sCons (sOp vMul (sCons (sVar 14) (sCons (sOp vIx (sCons (sVar 13) (sCons (sVar 15) sNil))) sNil))) sNil)))) (sRet (sC (.bool false))) sNext) (sSet 14 (sOp vMul (sCons (sVar 14) (sCons (sVar 10) sNil))))))
def p_law_17 : DS := (sFor (sItems (sOp vLst (sCons (sC (.int 1)) (sCons (sOp vNeg (sCons (sC (.int 1)) sNil)) (sCons (sC (.int 2)) (sCons (sC (.int 3)) sNil)))))) (gN 16) (sSeq (sAsgT (sOp vTup (sCons (sC (.int 0)) (sCons (sC (.int 1)) sNil))) (gTu 2 [(gN 17), (gN 14)])) (sSeq (sFor (sItems (sVar 13)) (gN 18) (sPar 17 14 (sCons (sOp vAdd (sCons (sVar 17) (sCons (sOp vMul (sCons (sVar 18) (sCons (sVar 14) sNil))) sNil))) (sCons (sOp vMul (sCons (sVar 14) (sCons (sVar 16) sNil))) sNil)))) (sIf (sTst (sOp (vEqD true) (sCons (sVar 17) (sCons (sOp (vCall F__law_determinant) (sCons (sStab (sComp (sRng (sCons (sVar 7) sNil)) (gN 15) sYes (sStab (sComp (sRng (sCons (sVar 7) sNil)) (gN 21) sYes (sOp vSub (sCons (sOp vInt (sCons (sOp (vEqD false) (sCons (sVar 15) (sCons (sVar 21) sNil))) sNil)) (sCons (sOp vMul (sCons (sVar 16) (sCons (sOp vIx (sCons (sOp vIx (sCons (sVar 9) (sCons (sVar 15) sNil))) (sCons (sVar 21) sNil))) sNil))) sNil))) [21])) [15])) sNil)) sNil)))) (sRet (sC (.bool false))) sNext))))
def p_law_18 : DS := (sSet 19 (sOp vSum (sCons (sVar 5) sNil)))
def p_law_19 : DS := (sIf (sAnd (sTst (sOp (vEqD true) (sCons (sVar 19) (sCons (sC (.int 0)) sNil)))) (sTst (sOp (vEqD true) (sCons (sOp vMod (sCons (sOp vInt (sCons (sOp vSum (sCons (sVar 13) sNil)) sNil)) (sCons (sVar 19) sNil))) (sCons (sC (.int 0)) sNil))))) (sRet (sC (.bool false))) sNext)
def p_law_20 : DS := (sSet 20 (sOp (vCall F_counts_of) (sCons (sStab (sVar 2)) (sCons (sStab (sVar 5)) (sCons (sOp vMin (sCons (sC (.int 40)) (sCons (sVar 6) sNil))) sNil)))))
def p_law_21 : DS := (sIf (sAnd (sTst (sOp (vEqD false) (sCons (sOp vLen (sCons (sVar 20) sNil)) (sCons (sVar 6) sNil)))) (sTst (sOp (vEqD true) (sCons (sOp vIx (sCons (sVar 13) (sCons (sC (.int 1)) sNil))) (sCons (sOp vSub (sCons (sOp vSub (sCons (sOp vIx (sCons (sVar 20) (sCons (sOp vNeg (sCons (sC (.int 1)) sNil)) sNil))) (sCons (sVar 10) sNil))) (sCons (sC (.int 1)) sNil))) sNil))))) (sRet (sC (.bool false))) sNext)
def p_law_22 : DS := (sRet (sOp (vCall F__law_is) (sCons (sStab (sOp (vCall F_list_over) (sCons (sStab (sVar 2)) (sCons (sStab (sVar 5)) (sCons (sC (.int 1)) sNil))))) (sCons (sStab (sVar 5)) sNil))))
def b_law : DS := (sSeq p_law_0 (sSeq p_law_1 (sSeq p_law_2 (sSeq p_law_3 (sSeq p_law_4 (sSeq p_law_5 (sSeq p_law_6 (sSeq p_law_7 (sSeq p_law_8 (sSeq p_law_9 (sSeq p_law_10 (sSeq p_law_11 (sSeq p_law_12 (sSeq p_law_13 (sSeq p_law_14 (sSeq p_law_15 (sSeq p_law_16 (sSeq p_law_17 (sSeq p_law_18 (sSeq p_law_19 (sSeq p_law_20 (sSeq p_law_21 p_law_22))))))))))))))))))))))
def F_law := runD b_law 22 1
end W56
end

section
set_option Elab.async false
set_option linter.all false
set_option maxRecDepth 100000
set_option maxHeartbeats 4000000
namespace W56
open PySem PySem.Spec PyProof.Rows L2 DL

def topS (i : Nat) : Stmt := PySem.Challenge.pw_poleheaps_k56_lists_over_greater_fields.main.body.getD i (.Pass ⟨0, 0, 0, 0⟩)
abbrev s_raised : Stmt := topS 1
theorem sc_raised : FnScope ["a", "e", "found"] ["a", "e"] (defScope s_raised) := ⟨rfl, rfl, rfl, by decide +kernel, rfl, by decide +kernel, by decide +kernel⟩
abbrev s_list_made : Stmt := topS 3
theorem sc_list_made : FnScope ["q", "counts", "found", "n", "total", "i"] ["q", "counts"] (defScope s_list_made) := ⟨rfl, rfl, rfl, by decide +kernel, rfl, by decide +kernel, by decide +kernel⟩
abbrev s_counts_of : Stmt := topS 4
theorem sc_counts_of : FnScope ["p", "items", "most", "sums", "n", "lead", "one", "i"] ["p", "items", "most"] (defScope s_counts_of) := ⟨rfl, rfl, rfl, by decide +kernel, rfl, by decide +kernel, by decide +kernel⟩
abbrev s_list_over : Stmt := topS 5
theorem sc_list_over : FnScope ["p", "items", "n", "g", "counts", "k"] ["p", "items", "n"] (defScope s_list_over) := ⟨rfl, rfl, rfl, by decide +kernel, rfl, by decide +kernel, by decide +kernel⟩
abbrev s__law_deck : Stmt := topS 7
theorem sc__law_deck : FnScope ["script", "seed", "cell"] ["script"] (defScope s__law_deck) := ⟨rfl, rfl, rfl, by decide +kernel, rfl, by decide +kernel, by decide +kernel⟩
abbrev s__law_draw : Stmt := topS 8
theorem sc__law_draw : FnScope ["deck", "bound", "number", "value"] ["deck", "bound"] (defScope s__law_draw) := ⟨rfl, rfl, rfl, by decide +kernel, rfl, by decide +kernel, by decide +kernel⟩
abbrev s__law_is : Stmt := topS 9
theorem sc__law_is : FnScope ["value", "due"] ["value", "due"] (defScope s__law_is) := ⟨rfl, rfl, rfl, by decide +kernel, rfl, by decide +kernel, by decide +kernel⟩
abbrev s__law_list : Stmt := topS 10
theorem sc__law_list : FnScope ["p", "low", "found", "power", "a"] ["p", "low"] (defScope s__law_list) := ⟨rfl, rfl, rfl, by decide +kernel, rfl, by decide +kernel, by decide +kernel⟩
abbrev s__law_product : Stmt := topS 11
theorem sc__law_product : FnScope ["one", "two", "size", "row", "i", "k"] ["one", "two"] (defScope s__law_product) := ⟨rfl, rfl, rfl, by decide +kernel, rfl, by decide +kernel, by decide +kernel⟩
abbrev s__law_determinant : Stmt := topS 12
theorem sc__law_determinant : FnScope ["rows", "sign", "before", "k", "at", "i", "j", "row"] ["rows"] (defScope s__law_determinant) := ⟨rfl, rfl, rfl, by decide +kernel, rfl, by decide +kernel, by decide +kernel⟩
abbrev s_law : Stmt := topS 13
theorem sc_law : FnScope ["script", "deck", "p", "g", "most", "items", "n", "size", "table", "here", "q", "turn", "kept", "told", "power", "i", "t", "total", "b", "low", "counts", "k"] ["script"] (defScope s_law) := ⟨rfl, rfl, rfl, by decide +kernel, rfl, by decide +kernel, by decide +kernel⟩
structure Txt (K : PySem.W.Frag) (mg : Str → Option Value) where
  a_raised : Addr
  d_raised : FuncData
  F_raised : Fun K "raised" "raised" s_raised a_raised d_raised
  g_raised : mg "raised" = some (.ref a_raised)
  a_list_made : Addr
  d_list_made : FuncData
  F_list_made : Fun K "list_made" "list_made" s_list_made a_list_made d_list_made
  g_list_made : mg "list_made" = some (.ref a_list_made)
  a_counts_of : Addr
  d_counts_of : FuncData
  F_counts_of : Fun K "counts_of" "counts_of" s_counts_of a_counts_of d_counts_of
  g_counts_of : mg "counts_of" = some (.ref a_counts_of)
  a_list_over : Addr
  d_list_over : FuncData
  F_list_over : Fun K "list_over" "list_over" s_list_over a_list_over d_list_over
  g_list_over : mg "list_over" = some (.ref a_list_over)
  a__law_deck : Addr
  d__law_deck : FuncData
  F__law_deck : Fun K "_law_deck" "_law_deck" s__law_deck a__law_deck d__law_deck
  g__law_deck : mg "_law_deck" = some (.ref a__law_deck)
  a__law_draw : Addr
  d__law_draw : FuncData
  F__law_draw : Fun K "_law_draw" "_law_draw" s__law_draw a__law_draw d__law_draw
  g__law_draw : mg "_law_draw" = some (.ref a__law_draw)
  a__law_is : Addr
  d__law_is : FuncData
  F__law_is : Fun K "_law_is" "_law_is" s__law_is a__law_is d__law_is
  g__law_is : mg "_law_is" = some (.ref a__law_is)
  a__law_list : Addr
  d__law_list : FuncData
  F__law_list : Fun K "_law_list" "_law_list" s__law_list a__law_list d__law_list
  g__law_list : mg "_law_list" = some (.ref a__law_list)
  a__law_product : Addr
  d__law_product : FuncData
  F__law_product : Fun K "_law_product" "_law_product" s__law_product a__law_product d__law_product
  g__law_product : mg "_law_product" = some (.ref a__law_product)
  a__law_determinant : Addr
  d__law_determinant : FuncData
  F__law_determinant : Fun K "_law_determinant" "_law_determinant" s__law_determinant a__law_determinant d__law_determinant
  g__law_determinant : mg "_law_determinant" = some (.ref a__law_determinant)
  a_law : Addr
  d_law : FuncData
  F_law : Fun K "law" "law" s_law a_law d_law
  g_law : mg "law" = some (.ref a_law)
  m_abs : mg "abs" = none
  m_all : mg "all" = none
  m_bool : mg "bool" = none
  m_enumerate : mg "enumerate" = none
  m_int : mg "int" = none
  m_isinstance : mg "isinstance" = none
  m_len : mg "len" = none
  m_list : mg "list" = none
  m_min : mg "min" = none
  m_range : mg "range" = none
  m_repr : mg "repr" = none
  m_sum : mg "sum" = none
section
variable {P : Program} {w : World} {K : PySem.W.Frag} {mg : Str → Option Value} {base : Heap}
theorem bd_raised (T : Txt K mg) : Binds K T.d_raised ["a", "e"] [] := T.F_raised.binds fun _ _ _ _ _ _ us hl => match us, hl with | [_, _], _ => rfl
theorem bd_list_made (T : Txt K mg) : Binds K T.d_list_made ["q", "counts"] [] := T.F_list_made.binds fun _ _ _ _ _ _ us hl => match us, hl with | [_, _], _ => rfl
theorem bd_counts_of (T : Txt K mg) : Binds K T.d_counts_of ["p", "items", "most"] [] := T.F_counts_of.binds fun _ _ _ _ _ _ us hl => match us, hl with | [_, _, _], _ => rfl
theorem bd_list_over (T : Txt K mg) : Binds K T.d_list_over ["p", "items", "n"] [] := T.F_list_over.binds fun _ _ _ _ _ _ us hl => match us, hl with | [_, _, _], _ => rfl
theorem bd__law_deck (T : Txt K mg) : Binds K T.d__law_deck ["script"] [] := T.F__law_deck.binds fun _ _ _ _ _ _ us hl => match us, hl with | [_], _ => rfl
theorem bd__law_draw (T : Txt K mg) : Binds K T.d__law_draw ["deck", "bound"] [] := T.F__law_draw.binds fun _ _ _ _ _ _ us hl => match us, hl with | [_, _], _ => rfl
theorem bd__law_is (T : Txt K mg) : Binds K T.d__law_is ["value", "due"] [] := T.F__law_is.binds fun _ _ _ _ _ _ us hl => match us, hl with | [_, _], _ => rfl
theorem bd__law_list (T : Txt K mg) : Binds K T.d__law_list ["p", "low"] [] := T.F__law_list.binds fun _ _ _ _ _ _ us hl => match us, hl with | [_, _], _ => rfl
theorem bd__law_product (T : Txt K mg) : Binds K T.d__law_product ["one", "two"] [] := T.F__law_product.binds fun _ _ _ _ _ _ us hl => match us, hl with | [_, _], _ => rfl
theorem bd__law_determinant (T : Txt K mg) : Binds K T.d__law_determinant ["rows"] [] := T.F__law_determinant.binds fun _ _ _ _ _ _ us hl => match us, hl with | [_], _ => rfl
theorem bd_law (T : Txt K mg) : Binds K T.d_law ["script"] [] := T.F_law.binds fun _ _ _ _ _ _ us hl => match us, hl with | [_], _ => rfl
end
end W56
end

section
set_option Elab.async false
set_option linter.all false
set_option maxRecDepth 100000
set_option maxHeartbeats 4000000
namespace W56
open PySem PySem.Spec PyProof.Rows L2 DL Evl
section
variable (K : PySem.W.Frag)
def lenT : TE := tCB (rLenS K) (tCons (tVar 0) tNil)
def cellT (a b : TE) : TE := tOp (rIxL K) (tOp (rIxL K) (tVar 0) a) b
def at0T : TE := tOp (rIxL K) (tVar 4) (tC (.int 0))
def subI : R2 := rI0 fun i j => .int (i - j)
def addI : R2 := rI0 fun i j => .int (i + j)
def negI : V → Hp → VK → Prop := rU fun i => .int (-i)
def mulI : R2 := rI CMulZ fun i j => .int (i * j)
def divI : R2 := rI CDivZ fun i j => .int (i.fdiv j)
def t1 : TS := tAsg (tLc (iList K (tVar 0)) (gName 7) tYes (tCB (rListS K) (tCons (tVar 7) tNil)) [7]) (gName 0)
def t2 : TS := tAsg (tTup (tCons (tC (.int 1)) (tCons (tC (.int 1)) tNil))) (gTup K 2 (gCons (gName 1) (gCons (gName 2) gNil)))
def tAt : TS := tAsg (tLc (iRng2 (tCons (tVar 3) (tCons (lenT K) tNil))) (gName 5) (tTest (tOp rNe (cellT K (tVar 5) (tVar 3)) (tC (.int 0)))) (tVar 5) [5]) (gName 4)
def tNo : TS := tIfS (tNot fun σ H Q => tVar 4 σ H fun x H' => ∃ k, TruV K x H' k ∧ Q k H') (tRet (tC (.int 0))) tNext
def tSwA : TS := tAsg (tTup (tCons (tOp (rIxL K) (tVar 0) (at0T K)) (tCons (tOp (rIxL K) (tVar 0) (tVar 3)) tNil))) (gTup K 2 (gCons (gSub (tVar 0) (tVar 3) rSetL) (gCons (gSub (tVar 0) (at0T K) rSetL) gNil)))
def tSw : TS := tIfS (tTest (tOp rNe (at0T K) (tVar 3))) (tSeq (tSwA K) (tAsg (tUn negI (tVar 1)) (gName 1))) tNext
def newT : TE := tOp divI (tOp subI (tOp mulI (cellT K (tVar 5) (tVar 6)) (cellT K (tVar 3) (tVar 3))) (tOp mulI (cellT K (tVar 5) (tVar 3)) (cellT K (tVar 3) (tVar 6)))) (tVar 2)
def tJ : TS := tAsg (newT K) (gSub (tOp (rIxL K) (tVar 0) (tVar 5)) (tVar 6) rSetL)
def tI : TS := tFor (iRng3 (tCons (tOp subI (lenT K) (tC (.int 1))) (tCons (tOp subI (tVar 3) (tC (.int 1))) (tCons (tUn negI (tC (.int 1))) tNil)))) (gName 6) (tJ K)
def tIs : TS := tFor (iRng2 (tCons (tOp addI (tVar 3) (tC (.int 1))) (tCons (lenT K) tNil))) (gName 5) (tI K)
def tB : TS := tAsg (cellT K (tVar 3) (tVar 3)) (gName 2)
def tK : TS := tSeq (tAt K) (tSeq (tNo K) (tCut (tSw K) (tSeq (tIs K) (tB K))))
def t3 : TS := tFor (iRng1 (tCons (lenT K) tNil)) (gName 3) (tK K)
def tDet : TS := tSeq (t1 K) (tSeq (t2 K) (tSeq (t3 K) (tRet (tOp mulI (tVar 1) (tVar 2)))))
end
theorem text_det {P : Program} {w : World} {K : PySem.W.Frag} {mg : Str → Option Value} {base : Heap} (T : Txt K mg) (cdv : Value) (A : Around) (outer : List PySem.Env) (s : Shared) (H : Hp) (E : XK) :
    PSs (cxOf CX0 P w K mg base ["rows", "sign", "before", "k", "at", "i", "j", "row"] "_law_determinant" (defScope s__law_determinant) T.a__law_determinant cdv A outer s H E).nox (defBody s__law_determinant) (tDet K) :=
  have nd := sc__law_determinant.nd;
    pss_cons (ps_set (i := 0) nd rfl (by first | exact Or.inl rfl | exact Or.inr rfl)
      (pe_lc (own := [("row", 7)]) (g := gName 7) (tt := tYes) (te := tCB (rListS K) (tCons (tVar 7) tNil)) (by rfl) nd (pi_list (pv 0)) (blkOk_by rfl) (fun _ _ _ _ _ => pg_name (i := 7) nd rfl (Or.inl rfl)) (fun _ _ _ _ _ => pts_nil)
        (fun _ _ _ _ _ => pe_callTy (T := "list") call_list_of (by rfl) T.m_list (by decide +kernel) (pa_cons (pv 7) pa_nil))))
    (pss_cons (ps_asg (pe_tup (pa_cons pe_int (pa_cons pe_int pa_nil))) (pg_tup (by rfl) (pgs_cons (pg_name (i := 1) nd rfl (by first | exact Or.inl rfl | exact Or.inr rfl)) (pgs_cons (pg_name (i := 2) nd rfl (by first | exact Or.inl rfl | exact Or.inr rfl)) pgs_nil))))
    (pss_cons (ps_for PassesOwn.never (by rfl) (pi_range1 (by rfl) T.m_range (pa_cons (pe_callB call_len_seq (by rfl) T.m_len PySem.boot_len (pa_cons (pv 0) pa_nil)) pa_nil)) (pg_name (i := 3) nd rfl (by first | exact Or.inl rfl | exact Or.inr rfl))
      (pss_cons (ps_setLc (i := 4) (own := [("i", 5)]) (g := gName 5) (tt := tTest (tOp rNe (cellT K (tVar 5) (tVar 3)) (tC (.int 0)))) (te := tVar 5) (by rfl) nd rfl rfl (sw_true rfl rfl rfl (by decide +kernel)) (pi_range2 (by rfl) T.m_range (pa_cons (pv 3) (pa_cons (pe_callB call_len_seq (by rfl) T.m_len PySem.boot_len (pa_cons (pv 0) pa_nil)) pa_nil))) (blkOk_by rfl) (fun _ _ _ _ _ => pg_name (i := 5) nd rfl (Or.inl rfl))
        (fun _ _ _ _ _ => pts_one (pt_cmpR op_ne (pe_ix ix_list (pe_ix ix_list (pv 0) (pv 5) (fun _ _ => rfl)) (pv 3) (fun _ _ => rfl)) pe_int (nomark _))) (fun _ _ _ _ _ => pv 5))
      (pss_cons (ps_if (pt_not (pt_truth (pv 4) (by intro _; rfl))) (pss_one (ps_ret pe_int)) pss_nil)
      (pss_cut (ps_if (pt_cmpR op_ne (pe_ix ix_list (pv 4) pe_int (fun _ _ => rfl)) (pv 3) (nomark _))
        (pss_cons (ps_asg (pe_tup (pa_cons (pe_ix ix_list (pv 0) (pe_ix ix_list (pv 4) pe_int (fun _ _ => rfl)) (fun _ _ => rfl)) (pa_cons (pe_ix ix_list (pv 0) (pv 3) (fun _ _ => rfl)) pa_nil)))
          (pg_tup (by rfl) (pgs_cons (pg_sub (pv 0) (pv 3) set_list) (pgs_cons (pg_sub (pv 0) (pe_ix ix_list (pv 4) pe_int (fun _ _ => rfl)) set_list) pgs_nil))))
        (pss_one (ps_set (i := 1) nd rfl (by first | exact Or.inl rfl | exact Or.inr rfl) (pe_un un_neg (pv 1))))) pss_nil)
      (pss_cons (ps_for PassesOwn.never (by rfl) (pi_range2 (by rfl) T.m_range (pa_cons (pe_op op_add (pv 3) pe_int) (pa_cons (pe_callB call_len_seq (by rfl) T.m_len PySem.boot_len (pa_cons (pv 0) pa_nil)) pa_nil))) (pg_name (i := 5) nd rfl (by first | exact Or.inl rfl | exact Or.inr rfl))
        (pss_one (ps_for PassesOwn.never (by rfl) (pi_range3 (by rfl) T.m_range (pa_cons (pe_op op_sub (pe_callB call_len_seq (by rfl) T.m_len PySem.boot_len (pa_cons (pv 0) pa_nil)) pe_int) (pa_cons (pe_op op_sub (pv 3) pe_int) (pa_cons (pe_un un_neg pe_int) pa_nil)))) (pg_name (i := 6) nd rfl (by first | exact Or.inl rfl | exact Or.inr rfl))
          (pss_one (ps_asg (pe_op op_fdivZ (pe_op op_sub (pe_op op_mulZ (pe_ix ix_list (pe_ix ix_list (pv 0) (pv 5) (fun _ _ => rfl)) (pv 6) (fun _ _ => rfl)) (pe_ix ix_list (pe_ix ix_list (pv 0) (pv 3) (fun _ _ => rfl)) (pv 3) (fun _ _ => rfl))) (pe_op op_mulZ (pe_ix ix_list (pe_ix ix_list (pv 0) (pv 5) (fun _ _ => rfl)) (pv 3) (fun _ _ => rfl)) (pe_ix ix_list (pe_ix ix_list (pv 0) (pv 3) (fun _ _ => rfl)) (pv 6) (fun _ _ => rfl)))) (pv 2))
            (pg_sub (pe_ix ix_list (pv 0) (pv 5) (fun _ _ => rfl)) (pv 6) set_list))))))
      (pss_one (ps_set (i := 2) nd rfl (by first | exact Or.inl rfl | exact Or.inr rfl) (pe_ix ix_list (pe_ix ix_list (pv 0) (pv 3) (fun _ _ => rfl)) (pv 3) (fun _ _ => rfl)))))))))
    (pss_one (ps_ret (pe_op op_mulZ (pv 1) (pv 2))))))
end W56
end

section
set_option Elab.async false
set_option linter.all false
set_option maxRecDepth 100000
set_option maxHeartbeats 4000000
namespace W56
open PySem PySem.Spec PyProof.Rows L2 DL Evl
open Det (Mat)
def ivs (N : Nat) (f : Nat → Int) : List V := (List.range N).map fun j => V.int (f j)
def rvs (N : Nat) (q : Nat → Addr) : List V := (List.range N).map fun x => V.ref (q x)
theorem ivs_at {N j : Nat} {f : Nat → Int} (h : j < N) : atI (ivs N f) (j : Int) = some (.int (f j)) := atI_nat (by unfold ivs; rw [List.getElem?_map, List.getElem?_range h]; rfl)
theorem rvs_at {N j : Nat} {q : Nat → Addr} (h : j < N) : atI (rvs N q) (j : Int) = some (.ref (q j)) := atI_nat (by unfold rvs; rw [List.getElem?_map, List.getElem?_range h]; rfl)
theorem map_set {α : Type} {N j : Nat} {f : Nat → α} {v : α} : ((List.range N).map f).set j v = (List.range N).map fun c => if c = j then v else f c := by
  apply List.ext_getElem?
  intro i
  by_cases hi : i < N
  · rw [List.getElem?_map, List.getElem?_range hi]
    by_cases e : i = j
    · subst e
      rw [List.getElem?_set_self (by simpa using hi)]
      simp
    · rw [List.getElem?_set_ne (Ne.symm e), List.getElem?_map, List.getElem?_range hi]
      simp [e]
  · rw [List.getElem?_eq_none (by simp; omega), List.getElem?_eq_none (by simp; omega)]
structure Rw (H0 H : Hp) (p : Addr) (q : Nat → Addr) (N : Nat) (r : Mat Int) : Prop where
  top : H p = some (.lst (rvs N q))
  row : ∀ x, x < N → H (q x) = some (.lst (ivs N (r x)))
  inj : ∀ x y, x < N → y < N → q x = q y → x = y
  ne : ∀ x, x < N → q x ≠ p
  np : H0 p = none
  nq : ∀ x, x < N → H0 (q x) = none
  ex : Ex H0 H
theorem Rw.mono {H0 H H' : Hp} {p : Addr} {q : Nat → Addr} {N : Nat} {r : Mat Int} (R : Rw H0 H p q N r) (e : Ex H H') : Rw H0 H' p q N r :=
  ⟨e _ _ R.top, fun x hx => e _ _ (R.row x hx), R.inj, R.ne, R.np, R.nq, R.ex.trans e⟩
theorem Rw.put {H0 H : Hp} {p : Addr} {q : Nat → Addr} {N x j : Nat} {r : Mat Int} {v : Int} (R : Rw H0 H p q N r) (hx : x < N) : Rw H0 (upd H (q x) (.lst ((ivs N (r x)).set j (.int v)))) p q N fun a c => if a = x ∧ c = j then v else r a c := by
  refine ⟨?_, fun a ha => ?_, R.inj, R.ne, R.np, R.nq, Ex.mut R.ex (R.nq x hx)⟩
  · rw [upd_ne (fun e => R.ne x hx e.symm)]; exact R.top
  · by_cases e : a = x
    · subst e
      rw [upd_same]
      congr 2
      unfold ivs
      rw [map_set]
      refine List.map_congr_left fun c _ => ?_
      show _ = V.int (if a = a ∧ c = j then v else r a c)
      by_cases z : c = j
      · rw [if_pos z, if_pos ⟨rfl, z⟩]
      · rw [if_neg z, if_neg (fun y => z y.2)]
    · rw [upd_ne (fun z => e (R.inj a x ha hx z)), R.row a ha]
      congr 2
      unfold ivs
      refine List.map_congr_left fun c _ => ?_
      show _ = V.int (if a = x ∧ c = j then v else r a c)
      rw [if_neg (fun y => e y.1)]
theorem swapR_at (A : Mat Int) (k l i : Nat) : Det.swapR A k l i = A (if i = l then k else if i = k then l else i) := by
  unfold Det.swapR
  by_cases z : i = l
  · subst z; rw [Det.setRow_same, if_pos rfl]
  · rw [Det.setRow_ne z, if_neg z]
    by_cases z2 : i = k
    · subst z2; rw [Det.setRow_same, if_pos rfl]
    · rw [Det.setRow_ne z2, if_neg z2]
theorem Rw.swap {H0 H : Hp} {p : Addr} {q : Nat → Addr} {N k l : Nat} {r : Mat Int} (R : Rw H0 H p q N r) (hk : k < N) (hl : l < N) :
    Rw H0 (upd (upd H p (.lst ((rvs N q).set k (.ref (q l))))) p (.lst (((rvs N q).set k (.ref (q l))).set l (.ref (q k))))) p (fun i => q (if i = l then k else if i = k then l else i)) N (Det.swapR r k l) := by
  have lt : ∀ x, x < N → (if x = l then k else if x = k then l else x) < N := fun x hx => by split; exact hk; split; exact hl; exact hx
  have ij : ∀ x y, (if x = l then k else if x = k then l else x) = (if y = l then k else if y = k then l else y) → x = y := fun x y h => by
    split at h <;> split at h <;> (try split at h) <;> (try split at h) <;> omega
  refine ⟨?_, fun a ha => ?_, fun x y hx hy h => ij x y (R.inj _ _ (lt x hx) (lt y hy) h), fun x hx => R.ne _ (lt x hx), R.np, fun x hx => R.nq _ (lt x hx), Ex.mut (Ex.mut R.ex R.np) R.np⟩
  · rw [upd_same]
    congr 2
    unfold rvs
    rw [map_set, map_set]
    refine List.map_congr_left fun c _ => ?_
    show _ = V.ref (q (if c = l then k else if c = k then l else c))
    by_cases z : c = l
    · rw [if_pos z, if_pos z]
    · rw [if_neg z, if_neg z]
      by_cases y : c = k
      · rw [if_pos y, if_pos y]
      · rw [if_neg y, if_neg y]
  · rw [upd_ne (R.ne _ (lt a ha)), upd_ne (R.ne _ (lt a ha)), R.row _ (lt a ha), swapR_at]
section
variable {K : PySem.W.Frag} {H0 H : Hp} {p : Addr} {q : Nat → Addr} {N : Nat} {r : Mat Int} {σ : L2.St}
theorem cell_ev {a b : TE} {x y : Nat} (R : Rw H0 H p q N r) (h0 : σ[0]? = some (some (.ref p))) (ha : Ev a σ H (.int x)) (hb : Ev b σ H (.int y)) (hx : x < N) (hy : y < N) : Ev (cellT K a b) σ H (.int (r x y)) :=
  ev_op (ev_op (ev_var h0) ha (rv_ixL (sq_of R.top) (rvs_at hx))) hb (rv_ixL (sq_of (R.row x hx)) (ivs_at hy))
theorem rvs_len : (rvs N q).length = N := by simp [rvs]
theorem ivs_len {f : Nat → Int} : (ivs N f).length = N := by simp [ivs]
theorem len_ev (R : Rw H0 H p q N r) (h0 : σ[0]? = some (some (.ref p))) : Ev (lenT K) σ H (.int N) := by
  have := ev_len (K := K) (ev_var (H := H) h0) (sq_of R.top)
  rw [rvs_len] at this; exact this
/-! the innermost step -/
theorem j_run {s b : Int} {k i j : Nat} {atv rowv : Option V} {D : Ends} (R : Rw H0 H p q N r) (hk : k < N) (hi : i < N) (hj : j < N) (m1 : CMulZ (r i j) (r k k)) (m2 : CMulZ (r i k) (r k j)) (d : CDivZ (r i j * r k k - r i k * r k j) b)
    (go : ∀ H', Rw H0 H' p q N (fun a c => if a = i ∧ c = j then (r i j * r k k - r i k * r k j).fdiv b else r a c) → D.nx [some (.ref p), some (.int s), some (.int b), some (.int k), atv, some (.int i), some (.int j), rowv] H') :
    tJ K D [some (.ref p), some (.int s), some (.int b), some (.int k), atv, some (.int i), some (.int j), rowv] H := by
  have v3 : Ev (tVar 3) [some (.ref p), some (.int s), some (.int b), some (.int k), atv, some (.int i), some (.int j), rowv] H (.int k) := ev_var rfl
  have v5 : Ev (tVar 5) [some (.ref p), some (.int s), some (.int b), some (.int k), atv, some (.int i), some (.int j), rowv] H (.int i) := ev_var rfl
  have v6 : Ev (tVar 6) [some (.ref p), some (.int s), some (.int b), some (.int k), atv, some (.int i), some (.int j), rowv] H (.int j) := ev_var rfl
  have en : Ev (newT K) [some (.ref p), some (.int s), some (.int b), some (.int k), atv, some (.int i), some (.int j), rowv] H (.int ((r i j * r k k - r i k * r k j).fdiv b)) :=
    ev_op (ev_op (ev_op (cell_ev R rfl v5 v6 hi hj) (cell_ev R rfl v3 v3 hk hk) (rv_I m1)) (ev_op (cell_ev R rfl v5 v3 hi hk) (cell_ev R rfl v3 v6 hk hj) (rv_I m2)) rv_I0) (ev_var rfl) (rv_I d)
  exact s_setL (R.row i hi) en (ev_op (ev_var rfl) v5 (rv_ixL (sq_of R.top) (rvs_at hi))) v6 (by rw [ivs_len]; exact hj) fun H1 e => go _ ((R.mono e).put hi)
theorem i_run {s b : Int} {k i : Nat} {atv jv rowv : Option V} {D : Ends} (R : Rw H0 H p q N r) (hN : N ≤ 1000) (hk : k < i) (hi : i < N)
    (m : ∀ j, k ≤ j → j < N → CMulZ (r i j) (r k k) ∧ CMulZ (r i k) (r k j) ∧ CDivZ (r i j * r k k - r i k * r k j) b)
    (go : ∀ jv H', Rw H0 H' p q N (fun a c => if a = i ∧ k ≤ c then (r i c * r k k - r i k * r k c).fdiv b else r a c) → D.nx [some (.ref p), some (.int s), some (.int b), some (.int k), atv, some (.int i), jv, rowv] H') :
    tI K D [some (.ref p), some (.int s), some (.int b), some (.int k), atv, some (.int i), jv, rowv] H := by
  have ea : EvA (tCons (tOp subI (lenT K) (tC (.int 1))) (tCons (tOp subI (tVar 3) (tC (.int 1))) (tCons (tUn negI (tC (.int 1))) tNil))) [some (.ref p), some (.int s), some (.int b), some (.int k), atv, some (.int i), jv, rowv] H [.int ((N : Int) - 1), .int ((k : Int) - 1), .int (-1)] :=
    ea_cons (ev_op (len_ev R rfl) ev_c rv_I0) (ea_cons (ev_op (ev_var rfl) ev_c rv_I0) (ea_cons (ev_un ev_c ru_neg) ea_nil))
  unfold tI tFor iRng3
  refine ea H (Ex.refl H) _ fun H1 e => ⟨(N : Int) - 1, (k : Int) - 1, -1, _, rfl, RgC.neg (by omega) (by omega) (by omega) (by omega), ?_⟩
  have n : ((N : Int) - 1 - ((k : Int) - 1)).toNat = N - k := by omega
  rw [n]
  refine for_rangeC (fun u σ' H' => ∃ jv r', σ' = [some (.ref p), some (.int s), some (.int b), some (.int k), atv, some (.int i), jv, rowv] ∧ Rw H0 H' p q N r' ∧ ∀ a c, c < N → r' a c = if a = i ∧ N - u ≤ c then (r i c * r k k - r i k * r k c).fdiv b else r a c)
    ⟨jv, r, rfl, R.mono e, fun a c hc => by rw [if_neg (by omega)]⟩ (fun u σ' H' hu => ?_) (fun σ' H' => ?_)
  · rintro ⟨jv, r', rfl, R', hr⟩
    have ej : ((N : Int) - 1 + (u : Nat) * -1) = ((N - 1 - u : Nat) : Int) := by omega
    rw [ej]
    have hj : N - 1 - u < N := by omega
    have hkj : k ≤ N - 1 - u := by omega
    obtain ⟨m1, m2, d⟩ := m _ hkj hj
    have c1 : r' i (N - 1 - u) = r i (N - 1 - u) := by rw [hr _ _ hj, if_neg (by omega)]
    have c2 : ∀ c, c < N → r' k c = r k c := fun c hc => by rw [hr _ c hc, if_neg (by omega)]
    have c3 : r' i k = r i k := by rw [hr _ k (by omega), if_neg (by omega)]
    refine j_run R' (by omega) hi hj (by rw [c1, c2 k (by omega)]; exact m1) (by rw [c3, c2 _ hj]; exact m2) (by rw [c1, c2 k (by omega), c3, c2 _ hj]; exact d) fun H2 R2 => ⟨_, _, rfl, R2, fun a c hc => ?_⟩
    by_cases z : a = i
    · subst z
      by_cases y : c = N - 1 - u
      · rw [if_pos ⟨rfl, y⟩, if_pos ⟨rfl, by omega⟩, c1, c2 k (by omega), c3, c2 _ hj, y]
      · rw [if_neg (fun h => y h.2), hr a c hc]
        by_cases w : N - u ≤ c
        · rw [if_pos ⟨rfl, w⟩, if_pos ⟨rfl, by omega⟩]
        · rw [if_neg (fun h => w h.2), if_neg (by omega)]
    · rw [if_neg (fun h => z h.1), hr a c hc, if_neg (fun h => z h.1), if_neg (fun h => z h.1)]
  · rintro ⟨jv, r', rfl, R', hr⟩
    refine go jv H' ⟨R'.top, fun x hx => ?_, R'.inj, R'.ne, R'.np, R'.nq, R'.ex⟩
    rw [R'.row x hx]
    congr 2
    unfold ivs
    refine List.map_congr_left fun c hc => ?_
    rw [hr x c (List.mem_range.mp hc), show N - (N - k) = k by omega]
theorem is_run {s b : Int} {k : Nat} {atv iv0 jv rowv : Option V} {D : Ends} (R : Rw H0 H p q N r) (hN : N ≤ 1000) (hk : k < N)
    (m : ∀ i j, k < i → i < N → k ≤ j → j < N → CMulZ (r i j) (r k k) ∧ CMulZ (r i k) (r k j) ∧ CDivZ (r i j * r k k - r i k * r k j) b)
    (go : ∀ iv0 jv H' r', Rw H0 H' p q N r' → (∀ a c, k < a → a < N → k ≤ c → c < N → r' a c = (r a c * r k k - r a k * r k c).fdiv b) → (∀ c, c < N → r' k c = r k c) → D.nx [some (.ref p), some (.int s), some (.int b), some (.int k), atv, iv0, jv, rowv] H') :
    tIs K D [some (.ref p), some (.int s), some (.int b), some (.int k), atv, iv0, jv, rowv] H := by
  refine s_forR2 (lo := (k : Int) + 1) (n := (N : Int)) (ea_cons (ev_op (ev_var rfl) ev_c rv_I0) (ea_cons (len_ev R rfl) ea_nil)) (by omega)
    (fun t σ' H' => ∃ iv0 jv r', σ' = [some (.ref p), some (.int s), some (.int b), some (.int k), atv, iv0, jv, rowv] ∧ Rw H0 H' p q N r' ∧ ∀ a c, c < N → r' a c = if k < a ∧ a < k + 1 + t ∧ k ≤ c then (r a c * r k k - r a k * r k c).fdiv b else r a c)
    (fun H1 e => ⟨iv0, jv, r, rfl, R.mono e, fun a c _ => by rw [if_neg (by omega)]⟩) (fun t σ' H' ht => ?_) (fun σ' H' => ?_)
  · rintro ⟨iv0, jv, r', rfl, R', hr⟩
    have ei : (k : Int) + 1 + (t : Nat) = ((k + 1 + t : Nat) : Int) := by omega
    rw [ei]
    have hi : k + 1 + t < N := by omega
    have own : ∀ c, c < N → r' (k + 1 + t) c = r (k + 1 + t) c := fun c hc => by rw [hr _ c hc, if_neg (by omega)]
    have piv : ∀ c, c < N → r' k c = r k c := fun c hc => by rw [hr _ c hc, if_neg (by omega)]
    refine i_run R' hN (by omega) hi (fun j h1 h2 => by rw [own j h2, own k hk, piv k hk, piv j h2]; exact m _ j (by omega) hi h1 h2) fun jv2 H2 R2 => ⟨_, _, _, rfl, R2, fun a c hc => ?_⟩
    by_cases z : a = k + 1 + t
    · subst z
      by_cases y : k ≤ c
      · rw [if_pos ⟨rfl, y⟩, if_pos ⟨by omega, by omega, y⟩, own c hc, own k hk, piv k hk, piv c hc]
      · rw [if_neg (fun h => y h.2), if_neg (fun h => y h.2.2), own c hc]
    · rw [if_neg (fun h => z h.1), hr a c hc]
      by_cases y : k < a ∧ a < k + 1 + t ∧ k ≤ c
      · rw [if_pos y, if_pos ⟨y.1, by omega, y.2.2⟩]
      · rw [if_neg y, if_neg (by omega)]
  · rintro ⟨iv0, jv, r', rfl, R', hr⟩
    refine go iv0 jv H' r' R' (fun a c h1 h2 h3 h4 => ?_) (fun c hc => ?_)
    · rw [hr a c h4, if_pos ⟨h1, by omega, h3⟩]
    · rw [hr k c hc, if_neg (by omega)]
end
end W56
end

section
set_option Elab.async false
set_option linter.all false
set_option maxRecDepth 100000
set_option maxHeartbeats 4000000
set_option exponentiation.threshold 3000
namespace W56
open PySem PySem.Spec PyProof.Rows L2 DL Evl
open Det (Mat)
theorem pow_sz {m : Nat} {x : Int} (h : -(((8 : Nat) * (2 : Int) ^ 1400) ^ m) ≤ x ∧ x ≤ ((8 : Nat) * (2 : Int) ^ 1400) ^ m) : x.natAbs.log2 ≤ 1403 * m := by
  have e : (((8 : Nat) : Int) * (2 : Int) ^ 1400) ^ m = (((2 : Nat) ^ (1403 * m) : Nat) : Int) := by
    rw [Nat.pow_mul, Int.natCast_pow]
    congr 1
  rw [e] at h
  have h2 : x.natAbs ≤ 2 ^ (1403 * m) := by omega
  have h3 : x.natAbs < 2 ^ (1403 * m + 1) := by rw [Nat.pow_succ]; have : 0 < 2 ^ (1403 * m) := Nat.pow_pos (by omega)
                                                omega
  by_cases z : x.natAbs = 0
  · rw [z]; have : Nat.log2 0 = 0 := by decide
    omega
  · have := (Nat.log2_lt z).mpr h3; omega
structure Kp (N k : Nat) (A P r : Mat Int) (s b : Int) : Prop where
  st : Det.St N k P r b
  sg : s = 1 ∨ s = -1
  dt : s * Det.det N P = Det.det N A
  bd : ∀ i j, i < N → j < N → -((2 : Int) ^ 1400) ≤ P i j ∧ P i j ≤ 2 ^ 1400
  n8 : N ≤ 8
theorem e0 : (0 : Int) ≤ 2 ^ 1400 := Int.pow_nonneg (by decide)
theorem Kp.szr {N k : Nat} {A P r : Mat Int} {s b : Int} (h : Kp N k A P r s b) {x y : Nat} (hx : k ≤ x) (hx' : x < N) (hy : k ≤ y) (hy' : y < N) : (r x y).natAbs.log2 ≤ 1403 * 8 := by
  have e := h.st.entry hx hx' hy hy'
  have n8 := h.n8
  have d := Det.det_abs e0 (w := 8) (n := k + 1) (by omega) (A := fun a c => P (if a < k then a else x) (Det.cs k y c)) fun i j hi hj => h.bd _ _ (by split <;> omega) (by unfold Det.cs; split <;> omega)
  rw [← e] at d
  exact Nat.le_trans (pow_sz d) (Nat.mul_le_mul_left 1403 (by omega))
theorem Kp.szb {N k : Nat} {A P r : Mat Int} {s b : Int} (h : Kp N k A P r s b) : b.natAbs.log2 ≤ 1403 * k := by
  have kN := h.st.kN
  have n8 := h.n8
  have d := Det.det_abs e0 (w := 8) (n := k) (by omega) (A := P) fun i j hi hj => h.bd _ _ (by omega) (by omega)
  rw [← h.st.lead] at d
  exact pow_sz d
section
variable {K : PySem.W.Frag} {σ : L2.St} {H : Hp}
theorem el_lcR2 {ta : TA} {t : TT} {te : TE} {j : Nat} {vs : List Nat} {lo n : Int} (f : Nat → Bool) (v : Nat → V) (h : EvA ta σ H [.int lo, .int n]) (h0 : 0 ≤ lo) (h1 : lo ≤ n) (hn : n ≤ 40000) (hw : ∀ x, wipe ((wipe σ vs).set j (some x)) vs = wipe σ vs)
    (ht : ∀ (i : Nat) H1, Ex H H1 → lo + (i : Int) < n → EvT t ((wipe σ vs).set j (some (.int (lo + (i : Nat))))) H1 (f i)) (he : ∀ (i : Nat) H1, Ex H H1 → lo + (i : Int) < n → f i = true → Ev te ((wipe σ vs).set j (some (.int (lo + (i : Nat))))) H1 (v i)) :
    EvL (tLc (iRng2 ta) (gName j) t te vs) σ H (given (n - lo).toNat f v) := fun Ha e Q qq => h Ha e _ fun H1 e1 => ⟨lo, n, rfl, ⟨by omega, by omega, by omega, by omega⟩, fun Dl hD =>
  lc_range (lo := lo) (n := (n - lo).toNat) (Cw H1 f v Dl) ⟨hD, Ex.new hD, upd_same⟩ (fun i H' hi pp => ⟨hw _, cw_turn pp (by omega) (ht i H1 (e.trans e1) (by omega)) (fun hf => he i H1 (e.trans e1) (by omega) hf)⟩)
    (fun H' pp => qq Dl H' (fresh_back e1 pp.1) (e1.trans pp.2.1) pp.2.2)⟩
variable {H0 : Hp} {p : Addr} {q : Nat → Addr} {N : Nat} {r : Mat Int}
theorem given_head {n : Nat} {f : Nat → Bool} {v : Nat → V} (h : (given n f v).isEmpty = false) : ∃ t, t < n ∧ f t = true ∧ (given n f v)[0]? = some (v t) := by
  unfold given at *
  cases e : (List.range n).filter f with
  | nil => rw [e] at h; cases h
  | cons a l =>
    have ha : a ∈ (List.range n).filter f := by rw [e]; simp
    obtain ⟨h1, h2⟩ := List.mem_filter.mp ha
    exact ⟨a, List.mem_range.mp h1, h2, rfl⟩
theorem given_none {n : Nat} {f : Nat → Bool} {v : Nat → V} (h : (given n f v).isEmpty = true) (t : Nat) (ht : t < n) : f t = false := by
  unfold given at h
  rw [List.isEmpty_iff, List.map_eq_nil_iff, List.filter_eq_nil_iff] at h
  have := h t (List.mem_range.mpr ht)
  simpa using this
/-- the exchange -/
theorem sw_run {s b : Int} {k l : Nat} {la : Addr} {xs : List V} {iv0 jv rowv : Option V} {D : Ends} (R : Rw H0 H p q N r) (hk : k < N) (hl : l < N) (hla : H la = some (.lst xs)) (hne : la ≠ p) (hx : xs[0]? = some (.int l))
    (go : ∀ H', Rw H0 H' p (fun i => q (if i = l then k else if i = k then l else i)) N (Det.swapR r k l) → D.nx [some (.ref p), some (.int s), some (.int b), some (.int k), some (.ref la), iv0, jv, rowv] H') :
    tSwA K D [some (.ref p), some (.int s), some (.int b), some (.int k), some (.ref la), iv0, jv, rowv] H := by
  have at0 : ∀ H1, H1 la = some (.lst xs) → Ev (at0T K) [some (.ref p), some (.int s), some (.int b), some (.int k), some (.ref la), iv0, jv, rowv] H1 (.int l) := fun H1 h1 =>
    ev_op (ev_var rfl) ev_c (rv_ixL (sq_of h1) (atI_nat (j := 0) hx))
  have eu : EvU (tTup (tCons (tOp (rIxL K) (tVar 0) (at0T K)) (tCons (tOp (rIxL K) (tVar 0) (tVar 3)) tNil))) [some (.ref p), some (.int s), some (.int b), some (.int k), some (.ref la), iv0, jv, rowv] H [.ref (q l), .ref (q k)] :=
    eu_tup (ea_cons (ev_op (ev_var rfl) (at0 H hla) (rv_ixL (sq_of R.top) (rvs_at hl))) (ea_cons (ev_op (ev_var rfl) (ev_var rfl) (rv_ixL (sq_of R.top) (rvs_at hk))) ea_nil)) (by show 2 ≤ 100000; omega)
  unfold tSwA tAsg
  refine eu H (Ex.refl H) _ fun T H2 _ e2 hT => ?_
  have R2 := R.mono e2
  refine ⟨T, _, rfl, st_of hT, rfl, _, _, rfl, ⟨.ref p, rfl, .int k, rfl, p, _, (k : Int), k, rfl, rfl, R2.top, ixN_nat (by rw [rvs_len]; exact hk), ?_⟩⟩
  have hla3 : (upd H2 p (.lst ((rvs N q).set k (.ref (q l))))) la = some (.lst xs) := by rw [upd_ne hne]; exact e2 _ _ hla
  refine ⟨_, _, rfl, ⟨.ref p, rfl, at0 _ hla3 _ (Ex.refl _) _ fun H3 e3 => ⟨p, _, (l : Int), l, rfl, rfl, e3 _ _ upd_same, ixN_nat (by rw [List.length_set, rvs_len]; exact hl), rfl, ?_⟩⟩⟩
  have R4 := R2.swap hk hl
  refine go _ ?_
  -- the heap grew ahead of the last step
  refine ⟨?_, fun a ha => ?_, R4.inj, R4.ne, R4.np, R4.nq, ?_⟩
  · have := R4.top
    rw [upd_same] at this ⊢
    exact this
  · have := R4.row a ha
    rw [upd_ne (R4.ne a ha)] at this ⊢
    exact e3 _ _ this
  · exact Ex.mut ((Ex.mut R2.ex R.np).trans e3) R.np
theorem k_run {A P : Mat Int} {s b : Int} {k : Nat} {atv iv0 jv rowv : Option V} {D : Ends} (hk : k < N) (R : Rw H0 H p q N r) (G : Kp N k A P r s b)
    (go : ∀ s' b' P' q' r' atv iv0 jv H', Rw H0 H' p q' N r' → Kp N (k + 1) A P' r' s' b' → D.nx [some (.ref p), some (.int s'), some (.int b'), some (.int k), atv, iv0, jv, rowv] H')
    (out : Det.det N A = 0 → ∀ H', Ex H0 H' → D.rt (.int 0) H') : tK K D [some (.ref p), some (.int s), some (.int b), some (.int k), atv, iv0, jv, rowv] H := by
  have n8 := G.n8
  -- at
  have el : EvL (tLc (iRng2 (tCons (tVar 3) (tCons (lenT K) tNil))) (gName 5) (tTest (tOp rNe (cellT K (tVar 5) (tVar 3)) (tC (.int 0)))) (tVar 5) [5]) [some (.ref p), some (.int s), some (.int b), some (.int k), atv, iv0, jv, rowv] H (given ((N : Int) - (k : Int)).toNat (fun t => !decide (V.int (r (k + t) k) = V.int 0)) fun t => .int ((k : Int) + (t : Nat))) := by
    refine el_lcR2 _ _ (ea_cons (ev_var rfl) (ea_cons (len_ev R rfl) ea_nil)) (by omega) (by omega) (by omega) (fun x => rfl) (fun t H1 e ht => ?_) (fun t H1 e ht _ => ev_var rfl)
    have ei : (k : Int) + (t : Nat) = ((k + t : Nat) : Int) := by omega
    rw [ei]
    exact et_test (ev_op (cell_ev (R.mono e) rfl (ev_var rfl) (ev_var rfl) (by omega) hk) ev_c (rv_ne rfl))
  refine q_asgL el fun la H1 hla e1 h1 => ?_
  have R1 := R.mono e1
  have hne : la ≠ p := fun z => by rw [z, R.top] at hla; cases hla
  generalize hxs : given ((N : Int) - (k : Int)).toNat (fun t => !decide (V.int (r (k + t) k) = V.int 0)) (fun t => V.int ((k : Int) + (t : Nat))) = xs at h1
  have tr : EvT (tNot fun σ H Q => tVar 4 σ H fun x H' => ∃ k, TruV K x H' k ∧ Q k H') [some (.ref p), some (.int s), some (.int b), some (.int k), some (.ref la), iv0, jv, rowv] H1 (!(!xs.isEmpty)) :=
    et_not fun H2 e2 Q qq => ⟨.ref la, rfl, _, .inl ⟨xs, sq_of (e2 _ _ h1), rfl⟩, qq H2 (Ex.refl H2)⟩
  refine q_if tr (fun hb H2 e2 => ?_) (fun hb H2 e2 => ?_)
  · -- nothing there
    refine s_ret ev_c fun H3 e3 => out ?_ H3 ((R1.ex.trans e2).trans e3)
    have z : Det.det N P = 0 := G.st.none hk fun i h3 h4 => by
      have := given_none (n := ((N : Int) - (k : Int)).toNat) (f := fun t => !decide (V.int (r (k + t) k) = V.int 0)) (v := fun t => V.int ((k : Int) + (t : Nat))) (by rw [hxs]; simpa using hb) (i - k) (by omega)
      have e : k + (i - k) = i := by omega
      simp only [e, Bool.not_eq_false', decide_eq_true_eq] at this
      exact V.int.inj this
    rw [← G.dt, z]; simp
  · -- a pivot
    obtain ⟨t, ht, hf, hx⟩ := given_head (n := ((N : Int) - (k : Int)).toNat) (f := fun t => !decide (V.int (r (k + t) k) = V.int 0)) (v := fun t => V.int ((k : Int) + (t : Nat))) (by rw [hxs]; simpa using hb)
    rw [hxs] at hx
    have hp : r (k + t) k ≠ 0 := fun z => by rw [z] at hf; simp at hf
    have ei : (k : Int) + (t : Nat) = ((k + t : Nat) : Int) := by omega
    rw [ei] at hx
    have hl : k + t < N := by omega
    generalize hle : k + t = l at *
    have R2 := R1.mono e2
    have h2 : H2 la = some (.lst xs) := e2 _ _ h1
    have at0 : Ev (at0T K) [some (.ref p), some (.int s), some (.int b), some (.int k), some (.ref la), iv0, jv, rowv] H2 (.int l) := ev_op (ev_var rfl) ev_c (rv_ixL (sq_of h2) (atI_nat (j := 0) hx))
    refine ⟨fun σ' H' => ∃ s' P' q' r', σ' = [some (.ref p), some (.int s'), some (.int b), some (.int k), some (.ref la), iv0, jv, rowv] ∧ Rw H0 H' p q' N r' ∧ Kp N k A P' r' s' b ∧ r' k k ≠ 0, ?_, ?_⟩
    · refine s_if (et_test (ev_op at0 (ev_var rfl) (rv_ne rfl))) (fun hb2 H3 e3 => ?_) (fun hb2 H3 e3 => ?_)
      · have ne : k ≠ l := fun z => by rw [z] at hb2; simp at hb2
        refine sw_run (R2.mono e3) hk hl (e3 _ _ h2) hne hx fun H4 R4 => ?_
        refine s_asg (ev_un (ev_var rfl) ru_neg) fun H5 e5 => ⟨-s, Det.swapR P k l, _, _, rfl, R4.mono e5, ⟨G.st.swap (by omega) hl, by rcases G.sg with z | z <;> omega, ?_, fun i j hi hj => ?_, n8⟩, ?_⟩
        · rw [Det.det_swap hk hl ne, ← G.dt]; grind
        · rw [swapR_at]; exact G.bd _ j (by split; exact hk; split; exact hl; exact hi) hj
        · rw [swapR_at, if_neg ne, if_pos rfl]; exact hp
      · have eq : l = k := by
          have : (V.int (l : Int)) = V.int (k : Int) := by simpa using hb2
          have := V.int.inj this
          omega
        subst eq
        exact ⟨s, P, q, r, rfl, R2.mono e3, G, hp⟩
    · rintro σ' H' ⟨s', P', q', r', rfl, R', G', piv⟩
      refine is_run R' (by omega) hk (fun i j h3 h4 h5 h6 => ?_) fun iv2 jv2 H3 r2 R3 hr hpk => ?_
      · have z1 := G'.szr (x := i) (y := j) (by omega) h4 h5 h6
        have z2 := G'.szr (x := k) (y := k) (Nat.le_refl _) hk (Nat.le_refl _) hk
        have z3 := G'.szr (x := i) (y := k) (by omega) h4 (Nat.le_refl _) hk
        have z4 := G'.szr (x := k) (y := j) (Nat.le_refl _) hk h5 h6
        have z5 := G'.szb
        refine ⟨by unfold CMulZ; omega, by unfold CMulZ; omega, G'.st.b0, ?_⟩
        have : 1403 * k ≤ 1403 * 6 := Nat.mul_le_mul_left 1403 (by omega)
        omega
      · refine s_asg (cell_ev R3 rfl (ev_var rfl) (ev_var rfl) hk hk) fun H4 e4 => ?_
        refine go s' (r2 k k) P' q' r2 _ _ _ H4 (R3.mono e4) ⟨?_, G'.sg, G'.dt, G'.bd, n8⟩
        rw [hpk k hk]
        refine G'.st.step hk piv fun i j h3 h4 h5 h6 => ?_
        rw [hr i j h3 h4 h5 h6]
        refine Int.fdiv_eq_ediv_of_dvd ⟨_, G'.st.two h3 h4 h5 h6 piv⟩
end
/-! the whole def -/
theorem intsL_eq : ∀ {ds : List PyData} {xs : List Int}, intsL ds = some xs → ds = xs.map .int
  | [], _, h => by cases h; rfl
  | .int i :: ds, xs, h => by
    obtain ⟨ys, h1, h2⟩ := Option.map_eq_some_iff.mp (show (intsL ds).map (i :: ·) = some xs from h)
    rw [← h2, intsL_eq h1]; rfl
  | .none :: _, _, h => by cases h
  | .bool _ :: _, _, h => by cases h
  | .str _ :: _, _, h => by cases h
  | .list _ :: _, _, h => by cases h
  | .tuple _ :: _, _, h => by cases h
  | .dict _ :: _, _, h => by cases h
theorem rowsL_eq : ∀ {ds : List PyData} {rs : List (List Int)}, rowsL ds = some rs → ds = rs.map fun r => .list (r.map .int)
  | [], _, h => by cases h; rfl
  | .list d :: ds, rs, h => by
    have h' : (intsL d).bind (fun x => (rowsL ds).map (x :: ·)) = some rs := h
    cases e : intsL d with
    | none => rw [e] at h'; cases h'
    | some x =>
      rw [e] at h'
      obtain ⟨ys, h1, h2⟩ := Option.map_eq_some_iff.mp (show (rowsL ds).map (x :: ·) = some rs from h')
      rw [← h2, rowsL_eq h1, intsL_eq e]; rfl
  | .none :: _, _, h => by cases h
  | .bool _ :: _, _, h => by cases h
  | .str _ :: _, _, h => by cases h
  | .int _ :: _, _, h => by cases h
  | .tuple _ :: _, _, h => by cases h
  | .dict _ :: _, _, h => by cases h
theorem det_spec {ds : List PyData} {d : PyData} (h : F__law_determinant ds = some d) : ∃ (N : Nat) (A : Mat Int) (rows : List PyData), N ≤ 8 ∧ ds = [.list rows] ∧ d = .int (Det.det N A) ∧ rows.length = N ∧ (∀ i j, i < N → j < N → -((2 : Int) ^ 1400) ≤ A i j ∧ A i j ≤ 2 ^ 1400) ∧ ∀ x, x < N → ∃ ns : List Int, rows[x]? = some (.list (ns.map .int)) ∧ ns.map V.int = ivs N (A x) := by
  unfold F__law_determinant at h
  split at h
  · rename_i rows
    cases e : rowsL rows with
    | none => rw [e] at h; cases h
    | some rs =>
      rw [e] at h
      simp only [Option.bind_some] at h
      split at h
      · rename_i c
        cases h
        obtain ⟨c1, c2⟩ := c
        have er := rowsL_eq e
        have hr : ∀ x (hx : x < rs.length), rs[x].length = rs.length ∧ ∀ y ∈ rs[x], -((2 : Int) ^ 1400) ≤ y ∧ y ≤ 2 ^ 1400 := fun x hx => by
          have := List.all_eq_true.mp c2 rs[x] (List.getElem_mem hx)
          unfold okRow at this
          simp only [Bool.and_eq_true, List.all_eq_true, decide_eq_true_eq, beq_iff_eq] at this
          exact this
        have val : ∀ x j (hx : x < rs.length), j < rs.length → ∃ hj : j < rs[x].length, matL rs x j = rs[x][j] := fun x j hx hj => by
          refine ⟨by rw [(hr x hx).1]; exact hj, ?_⟩
          unfold matL
          rw [List.getD_eq_getElem?_getD, List.getD_eq_getElem?_getD, List.getElem?_eq_getElem hx]
          simp only [Option.getD_some]
          rw [List.getElem?_eq_getElem (by rw [(hr x hx).1]; exact hj)]
          rfl
        refine ⟨rs.length, matL rs, rows, c1, rfl, rfl, by rw [er, List.length_map], fun i j hi hj => ?_, fun x hx => ⟨rs[x], ?_, ?_⟩⟩
        · obtain ⟨h1, h2⟩ := val i j hi hj
          rw [h2]
          exact (hr i hi).2 _ (List.getElem_mem h1)
        · rw [er, List.getElem?_map, List.getElem?_eq_getElem hx]; rfl
        · apply List.ext_getElem?
          intro j
          by_cases hj : j < rs.length
          · obtain ⟨h1, h2⟩ := val x j hx hj
            unfold ivs
            rw [List.getElem?_map, List.getElem?_eq_getElem h1, List.getElem?_map, List.getElem?_range hj, Option.map_some, Option.map_some, h2]
          · rw [List.getElem?_eq_none (by rw [List.length_map, (hr x hx).1]; omega), List.getElem?_eq_none (by rw [ivs_len]; omega)]
      · cases h
  · cases h
section
variable {K : PySem.W.Frag} {H : Hp}
/-- the rows are copied -/
theorem copy_run {N : Nat} {A : Mat Int} {a0 : Addr} {us : List V} {D : Ends} (hN : N ≤ 8) (hS : SqL K H a0 us) (hl : us.length = N) (hu : ∀ x, x < N → ∃ b, us[x]? = some (.ref b) ∧ SqL K H b (ivs N (A x)))
    (go : ∀ p q H', Rw H H' p q N A → D.nx [some (.ref p), none, none, none, none, none, none, none] H') : t1 K D [some (.ref a0), none, none, none, none, none, none, none] H := by
  unfold t1 tAsg tLc
  refine ⟨.ref a0, rfl, a0, rfl, ⟨us, hS⟩, fun Dl hD => ?_⟩
  refine lc_list (xs := us) (fun i H' => Ex H H' ∧ ∃ q : Nat → Addr, H' Dl = some (.lst (rvs i q)) ∧ (∀ x, x < i → H' (q x) = some (.lst (ivs N (A x)))) ∧ (∀ x y, x < i → y < i → q x = q y → x = y) ∧ (∀ x, x < i → q x ≠ Dl) ∧ ∀ x, x < i → H (q x) = none)
    ⟨Ex.new hD, fun _ => Dl, upd_same, fun x hx => by omega, fun x y hx => by omega, fun x hx => by omega, fun x hx => by omega⟩ (fun i H' _ h => ex_l h.1 hS) (fun i x H' hi h => ?_) (fun H' h => ?_)
  · obtain ⟨ex, q, h1, h2, h3, h4, h5⟩ := h
    have hiN : i < N := by rw [← hl]; exact (List.getElem?_eq_some_iff.mp hi).1
    obtain ⟨b, hb, hs⟩ := hu i hiN
    rw [hb] at hi
    cases hi
    refine ⟨rfl, ?_⟩
    show (tCB (rListS K) (tCons (tVar 7) tNil)) _ H' _
    refine ⟨.ref b, rfl, b, _, rfl, .inl (ex_l ex hs), fun l hln => ?_⟩
    have nl : ∀ a u, H' a = some u → a ≠ l := fun a u e => ne_of_none e hln
    refine ⟨rvs i q, by rw [upd_ne (nl _ _ h1)]; exact h1, by rw [rvs_len]; exact sz_lt (by omega), Ex.mut (ex.trans (Ex.new hln)) hD, fun x => if x = i then l else q x, ?_, fun x hx => ?_, fun x y hx hy e => ?_, fun x hx => ?_, fun x hx => ?_⟩
    · rw [upd_same]
      congr 2
      unfold rvs
      rw [List.range_succ, List.map_append]
      congr 1
      · exact List.map_congr_left fun c hc => by
          show V.ref (q c) = V.ref (if c = i then l else q c)
          rw [if_neg (by have := List.mem_range.mp hc; omega)]
      · show [V.ref l] = [V.ref (if i = i then l else q i)]
        rw [if_pos rfl]
    · show upd _ _ _ (if x = i then l else q x) = _
      by_cases e : x = i
      · rw [if_pos e, upd_ne (fun z => nl Dl _ h1 z.symm), upd_same, e]
      · rw [if_neg e, upd_ne (h4 x (by omega)), upd_ne (nl _ _ (h2 x (by omega)))]
        exact h2 x (by omega)
    · have e : (if x = i then l else q x) = (if y = i then l else q y) := e
      by_cases z : x = i
      · by_cases w : y = i
        · omega
        · rw [if_pos z, if_neg w] at e
          exact absurd e.symm (nl _ _ (h2 y (by omega)))
      · by_cases w : y = i
        · rw [if_neg z, if_pos w] at e
          exact absurd e (nl _ _ (h2 x (by omega)))
        · rw [if_neg z, if_neg w] at e
          exact h3 x y (by omega) (by omega) e
    · show (if x = i then l else q x) ≠ Dl
      by_cases z : x = i
      · rw [if_pos z]; exact fun e => nl Dl _ h1 e.symm
      · rw [if_neg z]; exact h4 x (by omega)
    · show H (if x = i then l else q x) = none
      by_cases z : x = i
      · rw [if_pos z]; exact fresh_back ex hln
      · rw [if_neg z]; exact h5 x (by omega)
  · obtain ⟨ex, q, h1, h2, h3, h4, h5⟩ := h
    rw [hl] at h1 h2 h3 h4 h5
    exact go Dl q H' ⟨h1, h2, h3, h4, hD, h5, ex⟩
theorem det_run {N : Nat} {A : Mat Int} {a0 : Addr} {us : List V} {D : Ends} (hN : N ≤ 8) (hS : SqL K H a0 us) (hl : us.length = N) (hu : ∀ x, x < N → ∃ b, us[x]? = some (.ref b) ∧ SqL K H b (ivs N (A x)))
    (hb : ∀ i j, i < N → j < N → -((2 : Int) ^ 1400) ≤ A i j ∧ A i j ≤ 2 ^ 1400) (go : ∀ H', Ex H H' → D.rt (.int (Det.det N A)) H') : tDet K D [some (.ref a0), none, none, none, none, none, none, none] H := by
  unfold tDet
  refine copy_run (D := { D with nx := _ }) hN hS hl hu fun p q H1 R => ?_
  -- sign, before = 1, 1
  have eu : EvU (tTup (tCons (tC (.int 1)) (tCons (tC (.int 1)) tNil))) [some (.ref p), none, none, none, none, none, none, none] H1 [.int 1, .int 1] := eu_tup (ea_cons ev_c (ea_cons ev_c ea_nil)) (by show 2 ≤ 100000; omega)
  show tSeq (t2 K) (tSeq (t3 K) (tRet (tOp mulI (tVar 1) (tVar 2)))) D [some (.ref p), none, none, none, none, none, none, none] H1
  unfold tSeq t2 tAsg
  refine eu H1 (Ex.refl H1) _ fun T H2 _ e2 hT => ⟨T, _, rfl, st_of hT, rfl, _, _, rfl, _, _, rfl, rfl, ?_⟩
  have R2 := R.mono e2
  show tSeq (t3 K) (tRet (tOp mulI (tVar 1) (tVar 2))) D [some (.ref p), some (.int 1), some (.int 1), none, none, none, none, none] H2
  refine q_forR1 (n := (N : Int)) (ea_cons (len_ev R2 rfl) ea_nil) (by omega)
    (fun k σ' H' => ∃ s b P q r kv atv iv0 jv rowv, σ' = [some (.ref p), some (.int s), some (.int b), kv, atv, iv0, jv, rowv] ∧ Rw H H' p q N r ∧ Kp N k A P r s b)
    (fun H3 e3 => ⟨1, 1, A, q, A, none, none, none, none, none, rfl, R2.mono e3, ⟨Det.St.zero, .inl rfl, by grind, hb, hN⟩⟩) (fun k σ' H' hk => ?_) (fun σ' H' => ?_)
  · rintro ⟨s, b, P, q', r, kv, atv, iv0, jv, rowv, rfl, R', G⟩
    refine k_run (by omega) R' G (fun s' b' P' q2 r' atv iv0 jv H3 R3 G3 => ⟨s', b', P', q2, r', _, _, _, _, _, rfl, R3, G3⟩) (fun z H3 e3 => ?_)
    have := go H3 e3
    rw [z] at this
    exact this
  · rintro ⟨s, b, P, q', r, kv, atv, iv0, jv, rowv, rfl, R', G⟩
    rw [show (N : Int).toNat = N by omega] at G
    have z5 := G.szb
    have last := G.st.last
    have cm : CMulZ s b := by
      unfold CMulZ
      have : s.natAbs.log2 ≤ 1 := by rcases G.sg with z | z <;> rw [z] <;> decide
      have : 1403 * N ≤ 1403 * 8 := Nat.mul_le_mul_left 1403 hN
      omega
    refine s_ret (ev_op (ev_var rfl) (ev_var rfl) (rv_I cm)) fun H3 e3 => ?_
    show D.rt (.int (s * b)) H3
    rw [last, G.dt]
    exact go H3 (R'.ex.trans e3)
end
section
variable {P : Program} {w : World} {K : PySem.W.Frag} {mg : Str → Option Value} {base : Heap}
theorem t__law_determinant (T : Txt K mg) : FnG P w K mg base CX0 1 T.a__law_determinant T.d__law_determinant ["rows"] (spD K F__law_determinant) :=
  fnG_ok T.F__law_determinant sc__law_determinant (fun vs H Q E h => by
    obtain ⟨Hk, ds, d, _, hd, e, _⟩ := h
    obtain ⟨N, A, rows, _, rfl, _⟩ := det_spec e
    exact dpAll_len hd) fun cdv A outer s H vs Q E hr hG h => ⟨_, text_det T cdv A outer s H E, by
      obtain ⟨Hk, ds, d, ex, hd, e, q⟩ := h
      obtain ⟨N, A, rows, hN, rfl, rfl, hl, hb, hr⟩ := det_spec e
      cases hd with
      | cons h1 h2 =>
        cases h2
        cases h1 with
        | @lst a0 us _ hS hA =>
          show tDet K _ [some (.ref a0), none, none, none, none, none, none, none] H
          refine det_run hN (ex_l ex hS) (by rw [dpAll_len hA]; exact hl) (fun x hx => ?_) hb fun H' e' => q Hk H' _ (ex.trans e') ⟨Ex.refl _, fun a o ha _ => e' a o ha, fun _ h => .inl h, fun a ha => fresh_back e' ha⟩ (.int _)
          obtain ⟨ns, g1, g2⟩ := hr x hx
          obtain ⟨v, g3, g4⟩ := dpAll_get hA g1
          cases g4 with
          | @lst b ws _ k1 k2 =>
            rw [dpAll_ints k2, g2] at k1
            exact ⟨b, g3, ex_l ex k1⟩⟩
end
end W56
end

section
set_option Elab.async false
set_option linter.all false
set_option maxRecDepth 100000
set_option maxHeartbeats 4000000
namespace W56
open PySem PySem.Spec PyProof.Rows L2 DL

section
variable {P : Program} {w : World} {K : PySem.W.Frag} {mg : Str → Option Value} {base : Heap}
theorem t_raised (T : Txt K mg) : FnG P w K mg base CX0 1 T.a_raised T.d_raised ["a", "e"] (spD K F_raised) :=
  fnG_ok T.F_raised sc_raised many_D fun cdv A outer s H vs Q E hr hG h => ⟨_, (db_cons (ds_set (i := 2) sc_raised.nd rfl (by first | exact Or.inl rfl | exact Or.inr rfl) de_int (by decide)) (db_cons (ds_while (fun _ => 1000) PassesOwn.never (dt_gt (de_var (pv 1)) de_int) (db_cons (ds_if (dt_eq hr.units (de_mod (de_var (pv 1)) de_int) de_int) (db_one (ds_imul (i := 2) sc_raised.nd rfl (by first | exact Or.inl rfl | exact Or.inr rfl) (de_var (pv 0)) (by decide))) db_nil) (db_cons (ds_idiv (i := 1) sc_raised.nd rfl (by first | exact Or.inl rfl | exact Or.inr rfl) de_int (by decide)) (db_one (ds_if (dt_gt (de_var (pv 1)) de_int) (db_one (ds_imul (i := 0) sc_raised.nd rfl (by first | exact Or.inl rfl | exact Or.inr rfl) (de_var (pv 0)) (by decide))) db_nil))))) (db_one (ds_ret (de_var (pv 2)))))), body_D h fun _ _ e => runD_gives e⟩
theorem t_list_made (T : Txt K mg) : FnG P w K mg base CX0 2 T.a_list_made T.d_list_made ["q", "counts"] (spD K F_list_made) :=
  fnG_ok T.F_list_made sc_list_made many_D fun cdv A outer s H vs Q E hr hG h => ⟨_, (db_cons (ds_set (i := 2) sc_list_made.nd rfl (by first | exact Or.inl rfl | exact Or.inr rfl) (de_list (da_cons de_int da_nil)) (by decide)) (db_cons (ds_for PassesOwn.never (by rfl) (di_rng2 (by rfl) T.m_range de_int (de_add (de_len (by rfl) T.m_len (da_cons (de_var (pv 1)) da_nil)) de_int)) (dg_name (i := 3) sc_list_made.nd rfl (by first | exact Or.inl rfl | exact Or.inr rfl) (by decide)) (db_cons (ds_set (i := 4) sc_list_made.nd rfl (by first | exact Or.inl rfl | exact Or.inr rfl) (de_sum (by rfl) (by rfl) T.m_sum (da_cons (de_comp (own := [("i", 5)]) (by rfl) sc_list_made.nd (di_rng1 (by rfl) T.m_range (de_var (pv 3))) (blkOk_by rfl) (by decide) (fun _ _ _ _ _ => (dg_name (i := 5) sc_list_made.nd rfl (by first | exact Or.inl rfl | exact Or.inr rfl) (by decide))) (fun _ _ _ _ _ => dts_nil) (fun _ _ _ _ _ => (de_mul (de_sub (de_sub (de_sub_ (de_var (pv 1)) (de_sub (de_sub (de_var (pv 3)) (de_var (pv 5))) de_int)) (de_call (t_raised T) (hr.mono (by decide)) hG (by rfl) T.g_raised T.F_raised.kp (bd_raised T) (da_cons (de_var (pv 0)) (da_cons (de_sub (de_var (pv 3)) (de_var (pv 5))) da_nil)))) de_int) (de_sub_ (de_var (pv 2)) (de_var (pv 5)))))) da_nil)) (by decide)) (db_cons (ds_if (dt_ne hr.units (de_mod (de_var (pv 4)) (de_var (pv 3))) de_int) (db_one (ds_ret de_non)) db_nil) (db_one (ds_expr (de_append (pv 2) (da_cons (de_div (de_var (pv 4)) (de_var (pv 3))) da_nil))))))) (db_cons (ds_for PassesOwn.never (by rfl) (di_rng3 (by rfl) T.m_range (de_sub (de_len (by rfl) T.m_len (da_cons (de_var (pv 1)) da_nil)) de_int) (de_neg de_int) (de_neg de_int) (hp := fun ha => pi_range3 (by rfl) T.m_range ha)) (dg_name (i := 5) sc_list_made.nd rfl (by first | exact Or.inl rfl | exact Or.inr rfl) (by decide)) (db_one (ds_expr (de_append (pv 2) (da_cons (de_mul (de_call (t_raised T) (hr.mono (by decide)) hG (by rfl) T.g_raised T.F_raised.kp (bd_raised T) (da_cons (de_var (pv 0)) (da_cons (de_sub (de_len (by rfl) T.m_len (da_cons (de_var (pv 1)) da_nil)) (de_var (pv 5))) da_nil))) (de_sub_ (de_var (pv 2)) (de_var (pv 5)))) da_nil))))) (db_one (ds_ret (de_var (pv 2))))))), body_D h fun _ _ e => runD_gives e⟩
theorem t_counts_of (T : Txt K mg) : FnG P w K mg base CX0 2 T.a_counts_of T.d_counts_of ["p", "items", "most"] (spD K F_counts_of) :=
  fnG_ok T.F_counts_of sc_counts_of many_D fun cdv A outer s H vs Q E hr hG h => ⟨_, (db_cons (ds_set (i := 3) sc_counts_of.nd rfl (by first | exact Or.inl rfl | exact Or.inr rfl) (de_list da_nil) (by decide)) (db_cons (ds_for PassesOwn.never (by rfl) (di_rng2 (by rfl) T.m_range de_int (de_add (de_var (pv 2)) de_int)) (dg_name (i := 4) sc_counts_of.nd rfl (by first | exact Or.inl rfl | exact Or.inr rfl) (by decide)) (db_cons (ds_set (i := 5) sc_counts_of.nd rfl (by first | exact Or.inl rfl | exact Or.inr rfl) (de_ifExp (dt_lt (de_var (pv 4)) (de_len (by rfl) T.m_len (da_cons (de_var (pv 1)) da_nil))) (de_mul (de_var (pv 4)) (de_sub_ (de_var (pv 1)) (de_var (pv 4)))) de_int) (by decide)) (db_one (ds_expr (de_append (pv 3) (da_cons (de_sub (de_var (pv 5)) (de_sum (by rfl) (by rfl) T.m_sum (da_cons (de_comp (own := [("i", 7)]) (by rfl) sc_counts_of.nd (di_rng2 (by rfl) T.m_range de_int (de_min (by rfl) (by rfl) T.m_min (da_cons (de_var (pv 4)) (da_cons (de_len (by rfl) T.m_len (da_cons (de_var (pv 1)) da_nil)) da_nil)))) (blkOk_by rfl) (by decide) (fun _ _ _ _ _ => (dg_name (i := 7) sc_counts_of.nd rfl (by first | exact Or.inl rfl | exact Or.inr rfl) (by decide))) (fun _ _ _ _ _ => dts_nil) (fun _ _ _ _ _ => (de_mul (de_sub_ (de_var (pv 3)) (de_sub (de_sub (de_var (pv 4)) (de_var (pv 7))) de_int)) (de_sub_ (de_var (pv 1)) (de_var (pv 7)))))) da_nil))) da_nil)))))) (db_one (ds_ret (de_comp (own := [("n", 4), ("one", 6)]) (by rfl) sc_counts_of.nd (di_enum (by rfl) T.m_enumerate (de_var (pv 3))) (blkOk_by rfl) (by decide) (fun _ _ _ _ _ => (dg_tup (by rfl) (dgs_cons (dg_name (i := 4) sc_counts_of.nd rfl (by first | exact Or.inl rfl | exact Or.inr rfl) (by decide)) (dgs_cons (dg_name (i := 6) sc_counts_of.nd rfl (by first | exact Or.inl rfl | exact Or.inr rfl) (by decide)) dgs_nil)))) (fun _ _ _ _ _ => dts_nil) (fun _ _ _ _ _ => (de_add (de_add (de_var (pv 6)) (de_call (t_raised T) (hr.mono (by decide)) hG (by rfl) T.g_raised T.F_raised.kp (bd_raised T) (da_cons (de_var (pv 0)) (da_cons (de_add (de_var (pv 4)) de_int) da_nil)))) de_int))))))), body_D h fun _ _ e => runD_gives e⟩
theorem t_list_over (T : Txt K mg) : FnG P w K mg base CX0 3 T.a_list_over T.d_list_over ["p", "items", "n"] (spD K F_list_over) :=
  fnG_ok T.F_list_over sc_list_over many_D fun cdv A outer s H vs Q E hr hG h => ⟨_, (db_cons (ds_set (i := 3) sc_list_over.nd rfl (by first | exact Or.inl rfl | exact Or.inr rfl) (de_div (de_len (by rfl) T.m_len (da_cons (de_var (pv 1)) da_nil)) de_int) (by decide)) (db_cons (ds_set (i := 4) sc_list_over.nd rfl (by first | exact Or.inl rfl | exact Or.inr rfl) (de_call (t_counts_of T) (hr.mono (by decide)) hG (by rfl) T.g_counts_of T.F_counts_of.kp (bd_counts_of T) (da_cons (de_var (pv 0)) (da_cons (de_stab (de_var (pv 1))) (da_cons (de_mul (de_var (pv 3)) (de_var (pv 2))) da_nil)))) (by decide)) (db_one (ds_ret (de_call (t_list_made T) (hr.mono (by decide)) hG (by rfl) T.g_list_made T.F_list_made.kp (bd_list_made T) (da_cons (de_call (t_raised T) (hr.mono (by decide)) hG (by rfl) T.g_raised T.F_raised.kp (bd_raised T) (da_cons (de_var (pv 0)) (da_cons (de_var (pv 2)) da_nil))) (da_cons (de_stab (de_comp (own := [("k", 5)]) (by rfl) sc_list_over.nd (di_rng2 (by rfl) T.m_range de_int (de_add (de_var (pv 3)) de_int)) (blkOk_by rfl) (by decide) (fun _ _ _ _ _ => (dg_name (i := 5) sc_list_over.nd rfl (by first | exact Or.inl rfl | exact Or.inr rfl) (by decide))) (fun _ _ _ _ _ => dts_nil) (fun _ _ _ _ _ => (de_stab (de_sub_ (de_var (pv 4)) (de_sub (de_mul (de_var (pv 2)) (de_var (pv 5))) de_int)))))) da_nil))))))), body_D h fun _ _ e => runD_gives e⟩
theorem t__law_deck (T : Txt K mg) : FnG P w K mg base CX0 1 T.a__law_deck T.d__law_deck ["script"] (spL K F__law_deck) :=
  fnG_ok T.F__law_deck sc__law_deck many_L fun cdv A outer s H vs Q E hr hG h => ⟨_, (db_cons (ds_set (i := 1) sc__law_deck.nd rfl (by first | exact Or.inl rfl | exact Or.inr rfl) de_int (by decide)) (db_cons (ds_for PassesOwn.never (by rfl) (di_seq (de_var (pv 0))) (dg_name (i := 2) sc__law_deck.nd rfl (by first | exact Or.inl rfl | exact Or.inr rfl) (by decide)) (db_one (ds_set (i := 1) sc__law_deck.nd rfl (by first | exact Or.inl rfl | exact Or.inr rfl) (de_mod (de_toInt (by rfl) T.m_int (da_cons (de_add (de_mul (de_var (pv 1)) de_int) (de_var (pv 2))) da_nil)) de_int) (by decide)))) (db_one (ds_ret (de_list (da_cons de_int (da_cons de_int (da_cons (de_var (pv 1)) (da_cons (de_stab (de_toList (by rfl) T.m_list (da_cons (de_var (pv 0)) da_nil))) (da_cons de_int da_nil)))))))))), body_L h fun _ _ e => runL_gives e⟩
theorem t__law_draw (T : Txt K mg) : FnG P w K mg base CX0 1 T.a__law_draw T.d__law_draw ["deck", "bound"] (spB K F__law_draw) :=
  fnG_ok T.F__law_draw sc__law_draw many_B fun cdv A outer s H vs Q E hr hG h => ⟨_, (db_cons (ds_if (dt_w (dw_and (dt_eq hr.units (de_sub_ (de_var (pv 0)) de_int) de_int) (dw_and1 (dt_lt (de_sub_ (de_var (pv 0)) de_int) (de_len (by rfl) T.m_len (da_cons (de_sub_ (de_var (pv 0)) de_int) da_nil)))))) (db_cons (ds_setIx (de_abs (by rfl) T.m_abs (da_cons (de_sub_ (de_sub_ (de_var (pv 0)) de_int) (de_sub_ (de_var (pv 0)) de_int)) da_nil)) (pv 0) de_int) (db_one (ds_setIx (de_add (de_sub_ (de_var (pv 0)) de_int) de_int) (pv 0) de_int))) (db_one (ds_if (dt_eq hr.units (de_sub_ (de_var (pv 0)) de_int) de_int) (db_cons (ds_setIx (de_add (de_sub_ (de_var (pv 0)) de_int) de_int) (pv 0) de_int) (db_cons (ds_set (i := 2) sc__law_draw.nd rfl (by first | exact Or.inl rfl | exact Or.inr rfl) (de_mod (de_toInt (by rfl) T.m_int (da_cons (de_add (de_add (de_mul (de_sub_ (de_var (pv 0)) de_int) de_int) (de_mul (de_sub_ (de_var (pv 0)) de_int) de_int)) de_int) da_nil)) de_int) (by decide)) (db_cons (ds_set (i := 2) sc__law_draw.nd rfl (by first | exact Or.inl rfl | exact Or.inr rfl) (de_mod (de_toInt (by rfl) T.m_int (da_cons (de_add (de_add (de_mul (de_var (pv 2)) (de_var (pv 2))) (de_mul de_int (de_sub_ (de_var (pv 0)) de_int))) de_int) da_nil)) de_int) (by decide)) (db_cons (ds_set (i := 2) sc__law_draw.nd rfl (by first | exact Or.inl rfl | exact Or.inr rfl) (de_mod (de_toInt (by rfl) T.m_int (da_cons (de_add (de_add (de_mul (de_var (pv 2)) (de_var (pv 2))) (de_mul de_int (de_sub_ (de_var (pv 0)) de_int))) (de_sub_ (de_var (pv 0)) de_int)) da_nil)) de_int) (by decide)) (db_one (ds_setIx (de_div (de_var (pv 2)) de_int) (pv 0) de_int)))))) db_nil))) (db_cons (ds_set (i := 3) sc__law_draw.nd rfl (by first | exact Or.inl rfl | exact Or.inr rfl) (de_mod (de_toInt (by rfl) T.m_int (da_cons (de_sub_ (de_var (pv 0)) de_int) da_nil)) (de_var (pv 1))) (by decide)) (db_cons (ds_setIx (de_div (de_sub_ (de_var (pv 0)) de_int) (de_var (pv 1))) (pv 0) de_int) (db_one (ds_ret (de_var (pv 3))))))), body_B h fun _ _ _ _ e => runB_gives e⟩
theorem t__law_is (T : Txt K mg) : FnG P w K mg base CX0 1 T.a__law_is T.d__law_is ["value", "due"] (spD K F__law_is) :=
  fnG_ok T.F__law_is sc__law_is many_D fun cdv A outer s H vs Q E hr hG h => ⟨_, (db_one (ds_ret (de_eqS (de_repr hG (unit65 hr) (by rfl) T.m_repr (da_cons (de_var (pv 0)) da_nil)) (de_repr hG (unit65 hr) (by rfl) T.m_repr (da_cons (de_var (pv 1)) da_nil))))), body_D h fun _ _ e => runD_gives e⟩
theorem t__law_list (T : Txt K mg) : FnG P w K mg base CX0 1 T.a__law_list T.d__law_list ["p", "low"] (spD K F__law_list) :=
  fnG_ok T.F__law_list sc__law_list many_D fun cdv A outer s H vs Q E hr hG h => ⟨_, (db_cons (ds_set (i := 2) sc__law_list.nd rfl (by first | exact Or.inl rfl | exact Or.inr rfl) (de_cat (de_list (da_cons de_int da_nil)) (de_toList (by rfl) T.m_list (da_cons (de_var (pv 1)) da_nil))) (by decide)) (db_cons (ds_set (i := 3) sc__law_list.nd rfl (by first | exact Or.inl rfl | exact Or.inr rfl) de_int (by decide)) (db_cons (ds_for PassesOwn.never (by rfl) (di_seq (de_rev (de_slice (de_var (pv 2)) do_none (do_some (de_neg de_int))))) (dg_name (i := 4) sc__law_list.nd rfl (by first | exact Or.inl rfl | exact Or.inr rfl) (by decide)) (db_cons (ds_set (i := 3) sc__law_list.nd rfl (by first | exact Or.inl rfl | exact Or.inr rfl) (de_mul (de_var (pv 3)) (de_var (pv 0))) (by decide)) (db_one (ds_expr (de_append (pv 2) (da_cons (de_mul (de_var (pv 3)) (de_var (pv 4))) da_nil)))))) (db_one (ds_ret (de_var (pv 2))))))), body_D h fun _ _ e => runD_gives e⟩
theorem t__law_product (T : Txt K mg) : FnG P w K mg base CX0 1 T.a__law_product T.d__law_product ["one", "two"] (spD K F__law_product) :=
  fnG_ok T.F__law_product sc__law_product many_D fun cdv A outer s H vs Q E hr hG h => ⟨_, (db_cons (ds_set (i := 2) sc__law_product.nd rfl (by first | exact Or.inl rfl | exact Or.inr rfl) (de_len (by rfl) T.m_len (da_cons (de_var (pv 0)) da_nil)) (by decide)) (db_one (ds_ret (de_comp (own := [("row", 3)]) (by rfl) sc__law_product.nd (di_seq (de_var (pv 0))) (blkOk_by rfl) (by decide) (fun _ _ _ _ _ => (dg_name (i := 3) sc__law_product.nd rfl (by first | exact Or.inl rfl | exact Or.inr rfl) (by decide))) (fun _ _ _ _ _ => dts_nil) (fun _ _ _ _ _ => (de_stab (de_comp (own := [("i", 4)]) (by rfl) sc__law_product.nd (di_rng1 (by rfl) T.m_range (de_var (pv 2))) (blkOk_by rfl) (by decide) (fun _ _ _ _ _ => (dg_name (i := 4) sc__law_product.nd rfl (by first | exact Or.inl rfl | exact Or.inr rfl) (by decide))) (fun _ _ _ _ _ => dts_nil) (fun _ _ _ _ _ => (de_sum (by rfl) (by rfl) T.m_sum (da_cons (de_comp (own := [("k", 5)]) (by rfl) sc__law_product.nd (di_rng1 (by rfl) T.m_range (de_var (pv 2))) (blkOk_by rfl) (by decide) (fun _ _ _ _ _ => (dg_name (i := 5) sc__law_product.nd rfl (by first | exact Or.inl rfl | exact Or.inr rfl) (by decide))) (fun _ _ _ _ _ => dts_nil) (fun _ _ _ _ _ => (de_mul (de_sub_ (de_var (pv 3)) (de_var (pv 5))) (de_sub_ (de_sub_ (de_var (pv 1)) (de_var (pv 5))) (de_var (pv 4)))))) da_nil)))))))))), body_D h fun _ _ e => runD_gives e⟩
theorem t_law (T : Txt K mg) : FnG P w K mg base CX0 4 T.a_law T.d_law ["script"] (spD K F_law) :=
  fnG_ok T.F_law sc_law many_D fun cdv A outer s H vs Q E hr hG h => ⟨_, (db_cons (ds_set (i := 1) sc_law.nd rfl (by first | exact Or.inl rfl | exact Or.inr rfl) (de_callL (t__law_deck T) (hr.mono (by decide)) hG (by rfl) T.g__law_deck T.F__law_deck.kp (bd__law_deck T) (da_cons (de_stab (de_var (pv 0))) da_nil)) (by decide)) (db_cons (ds_set (i := 2) sc_law.nd rfl (by first | exact Or.inl rfl | exact Or.inr rfl) (de_sub_ (de_list (da_cons de_int (da_cons de_int (da_cons de_int (da_cons de_int (da_cons de_int (da_cons de_int (da_cons de_int (da_cons de_int (da_cons de_int (da_cons de_int (da_cons de_int (da_cons de_int (da_cons de_int (da_cons de_int (da_cons de_int (da_cons de_int (da_cons de_int da_nil)))))))))))))))))) (de_callD (t__law_draw T) (hr.mono (by decide)) hG (by rfl) T.g__law_draw T.F__law_draw.kp (bd__law_draw T) (da_cons (de_var (pv 1)) (da_cons de_int da_nil)))) (by decide)) (db_cons (ds_set (i := 3) sc_law.nd rfl (by first | exact Or.inl rfl | exact Or.inr rfl) (de_add de_int (de_callD (t__law_draw T) (hr.mono (by decide)) hG (by rfl) T.g__law_draw T.F__law_draw.kp (bd__law_draw T) (da_cons (de_var (pv 1)) (da_cons de_int da_nil)))) (by decide)) (db_cons (ds_set (i := 4) sc_law.nd rfl (by first | exact Or.inl rfl | exact Or.inr rfl) (de_sub_ (de_list (da_cons de_int (da_cons de_int (da_cons de_int (da_cons (de_pow de_int de_int) da_nil))))) (de_callD (t__law_draw T) (hr.mono (by decide)) hG (by rfl) T.g__law_draw T.F__law_draw.kp (bd__law_draw T) (da_cons (de_var (pv 1)) (da_cons de_int da_nil)))) (by decide)) (db_cons (ds_set (i := 5) sc_law.nd rfl (by first | exact Or.inl rfl | exact Or.inr rfl) (de_call (t__law_list T) (hr.mono (by decide)) hG (by rfl) T.g__law_list T.F__law_list.kp (bd__law_list T) (da_cons (de_stab (de_var (pv 2))) (da_cons (de_stab (de_comp (own := [("k", 21)]) (by rfl) sc_law.nd (di_rng1 (by rfl) T.m_range (de_var (pv 3))) (blkOk_by rfl) (by decide) (fun _ _ _ _ _ => (dg_name (i := 21) sc_law.nd rfl (by first | exact Or.inl rfl | exact Or.inr rfl) (by decide))) (fun _ _ _ _ _ => dts_nil) (fun _ _ _ _ _ => (de_sub (de_callD (t__law_draw T) (hr.mono (by decide)) hG (by rfl) T.g__law_draw T.F__law_draw.kp (bd__law_draw T) (da_cons (de_var (pv 1)) (da_cons (de_add (de_mul de_int (de_var (pv 4))) de_int) da_nil))) (de_var (pv 4)))))) da_nil))) (by decide)) (db_cons (ds_set (i := 6) sc_law.nd rfl (by first | exact Or.inl rfl | exact Or.inr rfl) (de_add de_int (de_callD (t__law_draw T) (hr.mono (by decide)) hG (by rfl) T.g__law_draw T.F__law_draw.kp (bd__law_draw T) (da_cons (de_var (pv 1)) (da_cons (de_stab (de_sub_ (de_list (da_cons de_int (da_cons de_int da_nil))) (de_toInt (by rfl) T.m_int (da_cons (de_gt (de_var (pv 4)) de_int) da_nil)))) da_nil)))) (by decide)) (db_cons (ds_set (i := 7) sc_law.nd rfl (by first | exact Or.inl rfl | exact Or.inr rfl) (de_mul de_int (de_var (pv 3))) (by decide)) (db_cons (ds_set (i := 8) sc_law.nd rfl (by first | exact Or.inl rfl | exact Or.inr rfl) (de_cat (de_comp (own := [("k", 21)]) (by rfl) sc_law.nd (di_rng1 (by rfl) T.m_range (de_sub (de_var (pv 7)) de_int)) (blkOk_by rfl) (by decide) (fun _ _ _ _ _ => (dg_name (i := 21) sc_law.nd rfl (by first | exact Or.inl rfl | exact Or.inr rfl) (by decide))) (fun _ _ _ _ _ => dts_nil) (fun _ _ _ _ _ => (de_stab (de_comp (own := [("i", 15)]) (by rfl) sc_law.nd (di_rng1 (by rfl) T.m_range (de_var (pv 7))) (blkOk_by rfl) (by decide) (fun _ _ _ _ _ => (dg_name (i := 15) sc_law.nd rfl (by first | exact Or.inl rfl | exact Or.inr rfl) (by decide))) (fun _ _ _ _ _ => dts_nil) (fun _ _ _ _ _ => (de_toInt (by rfl) T.m_int (da_cons (de_eq hr.units (de_var (pv 15)) (de_add (de_var (pv 21)) de_int)) da_nil))))))) (de_list (da_cons (de_stab (de_comp (own := [("i", 15)]) (by rfl) sc_law.nd (di_rng1 (by rfl) T.m_range (de_var (pv 7))) (blkOk_by rfl) (by decide) (fun _ _ _ _ _ => (dg_name (i := 15) sc_law.nd rfl (by first | exact Or.inl rfl | exact Or.inr rfl) (by decide))) (fun _ _ _ _ _ => dts_nil) (fun _ _ _ _ _ => (de_neg (de_sub_ (de_var (pv 5)) (de_sub (de_var (pv 7)) (de_var (pv 15)))))))) da_nil))) (by decide)) (db_cons (ds_set (i := 9) sc_law.nd rfl (by first | exact Or.inl rfl | exact Or.inr rfl) (de_comp (own := [("k", 21)]) (by rfl) sc_law.nd (di_rng1 (by rfl) T.m_range (de_var (pv 7))) (blkOk_by rfl) (by decide) (fun _ _ _ _ _ => (dg_name (i := 21) sc_law.nd rfl (by first | exact Or.inl rfl | exact Or.inr rfl) (by decide))) (fun _ _ _ _ _ => dts_nil) (fun _ _ _ _ _ => (de_stab (de_comp (own := [("i", 15)]) (by rfl) sc_law.nd (di_rng1 (by rfl) T.m_range (de_var (pv 7))) (blkOk_by rfl) (by decide) (fun _ _ _ _ _ => (dg_name (i := 15) sc_law.nd rfl (by first | exact Or.inl rfl | exact Or.inr rfl) (by decide))) (fun _ _ _ _ _ => dts_nil) (fun _ _ _ _ _ => (de_toInt (by rfl) T.m_int (da_cons (de_eq hr.units (de_var (pv 15)) (de_var (pv 21))) da_nil))))))) (by decide)) (db_cons (ds_set (i := 10) sc_law.nd rfl (by first | exact Or.inl rfl | exact Or.inr rfl) de_int (by decide)) (db_cons (ds_for PassesOwn.never (by rfl) (di_rng1 (by rfl) T.m_range (de_var (pv 6))) (dg_name (i := 11) sc_law.nd rfl (by first | exact Or.inl rfl | exact Or.inr rfl) (by decide)) (db_cons (ds_set (i := 9) sc_law.nd rfl (by first | exact Or.inl rfl | exact Or.inr rfl) (de_call (t__law_product T) (hr.mono (by decide)) hG (by rfl) T.g__law_product T.F__law_product.kp (bd__law_product T) (da_cons (de_stab (de_var (pv 9))) (da_cons (de_stab (de_var (pv 8))) da_nil))) (by decide)) (db_one (ds_set (i := 10) sc_law.nd rfl (by first | exact Or.inl rfl | exact Or.inr rfl) (de_mul (de_var (pv 10)) (de_var (pv 2))) (by decide))))) (db_cons (ds_set (i := 12) sc_law.nd rfl (by first | exact Or.inl rfl | exact Or.inr rfl) (de_repr hG (unit65 hr) (by rfl) T.m_repr (da_cons (de_var (pv 5)) da_nil)) (by decide)) (db_cons (ds_set (i := 13) sc_law.nd rfl (by first | exact Or.inl rfl | exact Or.inr rfl) (de_call (t_list_over T) (hr.mono (by decide)) hG (by rfl) T.g_list_over T.F_list_over.kp (bd_list_over T) (da_cons (de_stab (de_var (pv 2))) (da_cons (de_stab (de_var (pv 5))) (da_cons (de_var (pv 6)) da_nil)))) (by decide)) (db_cons (ds_if (dt_w (dw_or (dt_not (dt_tru (de_isi (by rfl) T.m_isinstance (da_cons (de_var (pv 13)) (da_cons (de_ty (x := "list") (by rfl) T.m_list (by decide +kernel)) da_nil))))) (dw_or (dt_ne hr.units (de_len (by rfl) T.m_len (da_cons (de_var (pv 13)) da_nil)) (de_add (de_var (pv 7)) de_int)) (dw_or1 (dt_neS (de_repr hG (unit65 hr) (by rfl) T.m_repr (da_cons (de_var (pv 5)) da_nil)) (de_var (pv 12))))))) (db_one (ds_ret de_bl)) db_nil) (db_cons (ds_if (dt_w (dw_or (dt_not (dt_tru (de_all (by rfl) (by rfl) T.m_all (da_cons (de_comp (own := [("b", 18)]) (by rfl) sc_law.nd (di_seq (de_var (pv 13))) (blkOk_by rfl) (by decide) (fun _ _ _ _ _ => (dg_name (i := 18) sc_law.nd rfl (by first | exact Or.inl rfl | exact Or.inr rfl) (by decide))) (fun _ _ _ _ _ => dts_nil) (fun _ _ _ _ _ => (de_and (de_isi (by rfl) T.m_isinstance (da_cons (de_var (pv 18)) (da_cons (de_ty (x := "int") (by rfl) T.m_int (by decide +kernel)) da_nil))) (de_one (de_not (de_isi (by rfl) T.m_isinstance (da_cons (de_var (pv 18)) (da_cons (de_ty (x := "bool") (by rfl) T.m_bool (by decide +kernel)) da_nil)))))))) da_nil)))) (dw_or1 (dt_ne hr.units (de_sub_ (de_var (pv 13)) de_int) de_int)))) (db_one (ds_ret de_bl)) db_nil) (db_cons (ds_set (i := 14) sc_law.nd rfl (by first | exact Or.inl rfl | exact Or.inr rfl) de_int (by decide)) (db_cons (ds_for PassesOwn.never (by rfl) (di_rng3 (by rfl) T.m_range (de_var (pv 3)) (de_neg de_int) (de_neg de_int) (hp := fun ha => pi_range3 (by rfl) T.m_range ha)) (dg_name (i := 15) sc_law.nd rfl (by first | exact Or.inl rfl | exact Or.inr rfl) (by decide)) (db_cons (ds_if (dt_ne hr.units (de_sub_ (de_var (pv 13)) (de_sub (de_var (pv 7)) (de_var (pv 15)))) (de_mul (de_var (pv 14)) (de_sub_ (de_var (pv 13)) (de_var (pv 15))))) (db_one (ds_ret de_bl)) db_nil) (db_one (ds_set (i := 14) sc_law.nd rfl (by first | exact Or.inl rfl | exact Or.inr rfl) (de_mul (de_var (pv 14)) (de_var (pv 10))) (by decide))))) (db_cons (ds_for PassesOwn.never (by rfl) (di_seq (de_list (da_cons de_int (da_cons (de_neg de_int) (da_cons de_int (da_cons de_int da_nil)))))) (dg_name (i := 16) sc_law.nd rfl (by first | exact Or.inl rfl | exact Or.inr rfl) (by decide)) (db_cons (ds_asgT (de_tuple (da_cons de_int (da_cons de_int da_nil))) (dg_tup (by rfl) (dgs_cons (dg_name (i := 17) sc_law.nd rfl (by first | exact Or.inl rfl | exact Or.inr rfl) (by decide)) (dgs_cons (dg_name (i := 14) sc_law.nd rfl (by first | exact Or.inl rfl | exact Or.inr rfl) (by decide)) dgs_nil)))) (db_cons (ds_for PassesOwn.never (by rfl) (di_seq (de_var (pv 13))) (dg_name (i := 18) sc_law.nd rfl (by first | exact Or.inl rfl | exact Or.inr rfl) (by decide)) (db_one (ds_par (i := 17) (j := 14) (by rfl) sc_law.nd rfl rfl (by decide) rfl rfl (de_add (de_var (pv 17)) (de_mul (de_var (pv 18)) (de_var (pv 14)))) (de_mul (de_var (pv 14)) (de_var (pv 16))) (by decide) (by decide)))) (db_one (ds_if (dt_ne hr.units (de_var (pv 17)) (de_call (t__law_determinant T) (hr.mono (by decide)) hG (by rfl) T.g__law_determinant T.F__law_determinant.kp (bd__law_determinant T) (da_cons (de_stab (de_comp (own := [("i", 15)]) (by rfl) sc_law.nd (di_rng1 (by rfl) T.m_range (de_var (pv 7))) (blkOk_by rfl) (by decide) (fun _ _ _ _ _ => (dg_name (i := 15) sc_law.nd rfl (by first | exact Or.inl rfl | exact Or.inr rfl) (by decide))) (fun _ _ _ _ _ => dts_nil) (fun _ _ _ _ _ => (de_stab (de_comp (own := [("k", 21)]) (by rfl) sc_law.nd (di_rng1 (by rfl) T.m_range (de_var (pv 7))) (blkOk_by rfl) (by decide) (fun _ _ _ _ _ => (dg_name (i := 21) sc_law.nd rfl (by first | exact Or.inl rfl | exact Or.inr rfl) (by decide))) (fun _ _ _ _ _ => dts_nil) (fun _ _ _ _ _ => (de_sub (de_toInt (by rfl) T.m_int (da_cons (de_eq hr.units (de_var (pv 15)) (de_var (pv 21))) da_nil)) (de_mul (de_var (pv 16)) (de_sub_ (de_sub_ (de_var (pv 9)) (de_var (pv 15))) (de_var (pv 21))))))))))) da_nil))) (db_one (ds_ret de_bl)) db_nil))))) (db_cons (ds_set (i := 19) sc_law.nd rfl (by first | exact Or.inl rfl | exact Or.inr rfl) (de_sum (by rfl) (by rfl) T.m_sum (da_cons (de_var (pv 5)) da_nil)) (by decide)) (db_cons (ds_if (dt_w (dw_and (dt_ne hr.units (de_var (pv 19)) de_int) (dw_and1 (dt_ne hr.units (de_mod (de_toInt (by rfl) T.m_int (da_cons (de_sum (by rfl) (by rfl) T.m_sum (da_cons (de_var (pv 13)) da_nil)) da_nil)) (de_var (pv 19))) de_int)))) (db_one (ds_ret de_bl)) db_nil) (db_cons (ds_set (i := 20) sc_law.nd rfl (by first | exact Or.inl rfl | exact Or.inr rfl) (de_call (t_counts_of T) (hr.mono (by decide)) hG (by rfl) T.g_counts_of T.F_counts_of.kp (bd_counts_of T) (da_cons (de_stab (de_var (pv 2))) (da_cons (de_stab (de_var (pv 5))) (da_cons (de_min (by rfl) (by rfl) T.m_min (da_cons de_int (da_cons (de_var (pv 6)) da_nil))) da_nil)))) (by decide)) (db_cons (ds_if (dt_w (dw_and (dt_eq hr.units (de_len (by rfl) T.m_len (da_cons (de_var (pv 20)) da_nil)) (de_var (pv 6))) (dw_and1 (dt_ne hr.units (de_sub_ (de_var (pv 13)) de_int) (de_sub (de_sub (de_sub_ (de_var (pv 20)) (de_neg de_int)) (de_var (pv 10))) de_int))))) (db_one (ds_ret de_bl)) db_nil) (db_one (ds_ret (de_call (t__law_is T) (hr.mono (by decide)) hG (by rfl) T.g__law_is T.F__law_is.kp (bd__law_is T) (da_cons (de_stab (de_call (t_list_over T) (hr.mono (by decide)) hG (by rfl) T.g_list_over T.F_list_over.kp (bd_list_over T) (da_cons (de_stab (de_var (pv 2))) (da_cons (de_stab (de_var (pv 5))) (da_cons de_int da_nil))))) (da_cons (de_stab (de_var (pv 5))) da_nil))))))))))))))))))))))))))), body_D h fun _ _ e => runD_gives e⟩
end
/-! what the top has written -/
theorem all_mk {l : PySem.W.OpenLaw} {w : World} {K : PySem.W.Frag} {h : Heap} {mg : Str → Option Value} {fa f0 f1 f2 f3 f4 f5 f6 f7 f8 f9 f10 : Addr} (X : K.In h) (G : h.Ns mainGlobals mg) (hfa : mg "law" = some (.ref fa))
    {od0 an0 : Option Addr} {sl0 : Array (Option Value)} {oc0 kV0 dc0 pm0 cd0 ct0 : Value}
    {od1 an1 : Option Addr} {sl1 : Array (Option Value)} {oc1 kV1 dc1 pm1 cd1 ct1 : Value}
    {od2 an2 : Option Addr} {sl2 : Array (Option Value)} {oc2 kV2 dc2 pm2 cd2 ct2 : Value}
    {od3 an3 : Option Addr} {sl3 : Array (Option Value)} {oc3 kV3 dc3 pm3 cd3 ct3 : Value}
    {od4 an4 : Option Addr} {sl4 : Array (Option Value)} {oc4 kV4 dc4 pm4 cd4 ct4 : Value}
    {od5 an5 : Option Addr} {sl5 : Array (Option Value)} {oc5 kV5 dc5 pm5 cd5 ct5 : Value}
    {od6 an6 : Option Addr} {sl6 : Array (Option Value)} {oc6 kV6 dc6 pm6 cd6 ct6 : Value}
    {od7 an7 : Option Addr} {sl7 : Array (Option Value)} {oc7 kV7 dc7 pm7 cd7 ct7 : Value}
    {od8 an8 : Option Addr} {sl8 : Array (Option Value)} {oc8 kV8 dc8 pm8 cd8 ct8 : Value}
    {od9 an9 : Option Addr} {sl9 : Array (Option Value)} {oc9 kV9 dc9 pm9 cd9 ct9 : Value}
    {od10 an10 : Option Addr} {sl10 : Array (Option Value)} {oc10 kV10 dc10 pm10 cd10 ct10 : Value}
    (a0 : PySem.W.nsIn K mainGlobals "raised" = some (some (.ref f0))) (l0 : K.lookup f0 = some ⟨oc0, od0, .func (PySem.W.fnOf "raised" "raised" (defArgs s_raised) (defBody s_raised) (defScope s_raised) .none kV0 dc0 pm0 an0 cd0 ct0), sl0⟩) (c0 : PySem.W.codeIn K cd0 "raised" = true) (k0 : PySem.W.keepIn K (.ref f0) = true)
    (a1 : PySem.W.nsIn K mainGlobals "list_made" = some (some (.ref f1))) (l1 : K.lookup f1 = some ⟨oc1, od1, .func (PySem.W.fnOf "list_made" "list_made" (defArgs s_list_made) (defBody s_list_made) (defScope s_list_made) .none kV1 dc1 pm1 an1 cd1 ct1), sl1⟩) (c1 : PySem.W.codeIn K cd1 "list_made" = true) (k1 : PySem.W.keepIn K (.ref f1) = true)
    (a2 : PySem.W.nsIn K mainGlobals "counts_of" = some (some (.ref f2))) (l2 : K.lookup f2 = some ⟨oc2, od2, .func (PySem.W.fnOf "counts_of" "counts_of" (defArgs s_counts_of) (defBody s_counts_of) (defScope s_counts_of) .none kV2 dc2 pm2 an2 cd2 ct2), sl2⟩) (c2 : PySem.W.codeIn K cd2 "counts_of" = true) (k2 : PySem.W.keepIn K (.ref f2) = true)
    (a3 : PySem.W.nsIn K mainGlobals "list_over" = some (some (.ref f3))) (l3 : K.lookup f3 = some ⟨oc3, od3, .func (PySem.W.fnOf "list_over" "list_over" (defArgs s_list_over) (defBody s_list_over) (defScope s_list_over) .none kV3 dc3 pm3 an3 cd3 ct3), sl3⟩) (c3 : PySem.W.codeIn K cd3 "list_over" = true) (k3 : PySem.W.keepIn K (.ref f3) = true)
    (a4 : PySem.W.nsIn K mainGlobals "_law_deck" = some (some (.ref f4))) (l4 : K.lookup f4 = some ⟨oc4, od4, .func (PySem.W.fnOf "_law_deck" "_law_deck" (defArgs s__law_deck) (defBody s__law_deck) (defScope s__law_deck) .none kV4 dc4 pm4 an4 cd4 ct4), sl4⟩) (c4 : PySem.W.codeIn K cd4 "_law_deck" = true) (k4 : PySem.W.keepIn K (.ref f4) = true)
    (a5 : PySem.W.nsIn K mainGlobals "_law_draw" = some (some (.ref f5))) (l5 : K.lookup f5 = some ⟨oc5, od5, .func (PySem.W.fnOf "_law_draw" "_law_draw" (defArgs s__law_draw) (defBody s__law_draw) (defScope s__law_draw) .none kV5 dc5 pm5 an5 cd5 ct5), sl5⟩) (c5 : PySem.W.codeIn K cd5 "_law_draw" = true) (k5 : PySem.W.keepIn K (.ref f5) = true)
    (a6 : PySem.W.nsIn K mainGlobals "_law_is" = some (some (.ref f6))) (l6 : K.lookup f6 = some ⟨oc6, od6, .func (PySem.W.fnOf "_law_is" "_law_is" (defArgs s__law_is) (defBody s__law_is) (defScope s__law_is) .none kV6 dc6 pm6 an6 cd6 ct6), sl6⟩) (c6 : PySem.W.codeIn K cd6 "_law_is" = true) (k6 : PySem.W.keepIn K (.ref f6) = true)
    (a7 : PySem.W.nsIn K mainGlobals "_law_list" = some (some (.ref f7))) (l7 : K.lookup f7 = some ⟨oc7, od7, .func (PySem.W.fnOf "_law_list" "_law_list" (defArgs s__law_list) (defBody s__law_list) (defScope s__law_list) .none kV7 dc7 pm7 an7 cd7 ct7), sl7⟩) (c7 : PySem.W.codeIn K cd7 "_law_list" = true) (k7 : PySem.W.keepIn K (.ref f7) = true)
    (a8 : PySem.W.nsIn K mainGlobals "_law_product" = some (some (.ref f8))) (l8 : K.lookup f8 = some ⟨oc8, od8, .func (PySem.W.fnOf "_law_product" "_law_product" (defArgs s__law_product) (defBody s__law_product) (defScope s__law_product) .none kV8 dc8 pm8 an8 cd8 ct8), sl8⟩) (c8 : PySem.W.codeIn K cd8 "_law_product" = true) (k8 : PySem.W.keepIn K (.ref f8) = true)
    (a9 : PySem.W.nsIn K mainGlobals "_law_determinant" = some (some (.ref f9))) (l9 : K.lookup f9 = some ⟨oc9, od9, .func (PySem.W.fnOf "_law_determinant" "_law_determinant" (defArgs s__law_determinant) (defBody s__law_determinant) (defScope s__law_determinant) .none kV9 dc9 pm9 an9 cd9 ct9), sl9⟩) (c9 : PySem.W.codeIn K cd9 "_law_determinant" = true) (k9 : PySem.W.keepIn K (.ref f9) = true)
    (a10 : PySem.W.nsIn K mainGlobals "law" = some (some (.ref f10))) (l10 : K.lookup f10 = some ⟨oc10, od10, .func (PySem.W.fnOf "law" "law" (defArgs s_law) (defBody s_law) (defScope s_law) .none kV10 dc10 pm10 an10 cd10 ct10), sl10⟩) (c10 : PySem.W.codeIn K cd10 "law" = true) (k10 : PySem.W.keepIn K (.ref f10) = true)
    (z0 : PySem.W.nsIn K mainGlobals "abs" = some none)
    (z1 : PySem.W.nsIn K mainGlobals "all" = some none)
    (z2 : PySem.W.nsIn K mainGlobals "bool" = some none)
    (z3 : PySem.W.nsIn K mainGlobals "enumerate" = some none)
    (z4 : PySem.W.nsIn K mainGlobals "int" = some none)
    (z5 : PySem.W.nsIn K mainGlobals "isinstance" = some none)
    (z6 : PySem.W.nsIn K mainGlobals "len" = some none)
    (z7 : PySem.W.nsIn K mainGlobals "list" = some none)
    (z8 : PySem.W.nsIn K mainGlobals "min" = some none)
    (z9 : PySem.W.nsIn K mainGlobals "range" = some none)
    (z10 : PySem.W.nsIn K mainGlobals "repr" = some none)
    (z11 : PySem.W.nsIn K mainGlobals "sum" = some none) :
    ∃ fd : FuncData, (∀ (s : Shared) (v : Value), BindsTo s fd ⟨[v], []⟩ [("script", v)]) ∧ ∀ base : Heap, K.In base → base.Ns mainGlobals mg → FnG l.prog w K mg base CX0 4 fa fd ["script"] (spD K F_law) := by
  have e := hfa.symm.trans (PySem.W.mg_of X G a10)
  cases e
  exact ⟨_, fun s v => .of_eq rfl, fun base _ _ => t_law (T := ⟨_, _, fun_mk (st := s_raised) l0 c0 k0, PySem.W.mg_of X G a0, _, _, fun_mk (st := s_list_made) l1 c1 k1, PySem.W.mg_of X G a1, _, _, fun_mk (st := s_counts_of) l2 c2 k2, PySem.W.mg_of X G a2, _, _, fun_mk (st := s_list_over) l3 c3 k3, PySem.W.mg_of X G a3, _, _, fun_mk (st := s__law_deck) l4 c4 k4, PySem.W.mg_of X G a4, _, _, fun_mk (st := s__law_draw) l5 c5 k5, PySem.W.mg_of X G a5, _, _, fun_mk (st := s__law_is) l6 c6 k6, PySem.W.mg_of X G a6, _, _, fun_mk (st := s__law_list) l7 c7 k7, PySem.W.mg_of X G a7, _, _, fun_mk (st := s__law_product) l8 c8 k8, PySem.W.mg_of X G a8, _, _, fun_mk (st := s__law_determinant) l9 c9 k9, PySem.W.mg_of X G a9, _, _, fun_mk (st := s_law) l10 c10 k10, PySem.W.mg_of X G a10, PySem.W.mg_none_of X G z0, PySem.W.mg_none_of X G z1, PySem.W.mg_none_of X G z2, PySem.W.mg_none_of X G z3, PySem.W.mg_none_of X G z4, PySem.W.mg_none_of X G z5, PySem.W.mg_none_of X G z6, PySem.W.mg_none_of X G z7, PySem.W.mg_none_of X G z8, PySem.W.mg_none_of X G z9, PySem.W.mg_none_of X G z10, PySem.W.mg_none_of X G z11⟩)⟩
end W56
end

section
set_option Elab.async false
set_option linter.all false
set_option maxRecDepth 100000
set_option maxHeartbeats 4000000
namespace DL
open PySem PySem.Spec PyProof.Rows L2 Evl
open Det (sm)
/-! ### sizes -/
def Sz (k : Nat) (a : Int) : Prop := a.natAbs < 2 ^ k
theorem Sz.mono {k l : Nat} {a : Int} (h : Sz k a) (hl : k ≤ l) : Sz l a := Nat.lt_of_lt_of_le h (Nat.pow_le_pow_right (by omega) hl)
theorem Sz.mul {k l : Nat} {a b : Int} (h : Sz k a) (h' : Sz l b) : Sz (k + l) (a * b) := by
  unfold Sz; rw [Int.natAbs_mul, Nat.pow_add]; exact Nat.mul_lt_mul'' h h'
theorem Sz.add {k : Nat} {a b : Int} (h : Sz k a) (h' : Sz k b) : Sz (k + 1) (a + b) := by
  unfold Sz at *
  have : (a + b).natAbs ≤ a.natAbs + b.natAbs := Int.natAbs_add_le a b
  rw [Nat.pow_succ]; omega
theorem Sz.neg {k : Nat} {a : Int} (h : Sz k a) : Sz k (-a) := by unfold Sz; rw [Int.natAbs_neg]; exact h
theorem Sz.sub {k : Nat} {a b : Int} (h : Sz k a) (h' : Sz k b) : Sz (k + 1) (a - b) := by rw [Int.sub_eq_add_neg]; exact h.add h'.neg
theorem Sz.lg {k : Nat} {a : Int} (h : Sz k a) : a.natAbs.log2 ≤ k := by
  by_cases z : a.natAbs = 0
  · rw [z]; have : Nat.log2 0 = 0 := by decide
    omega
  · exact Nat.le_of_lt ((Nat.log2_lt z).mpr h)
theorem cmul_of {k l : Nat} {a b : Int} (h : Sz k a) (h' : Sz l b) (hk : k + l < 130000000) : CMulZ a b := by
  have := h.lg; have := h'.lg
  unfold CMulZ; omega
theorem Sz.zero {k : Nat} : Sz k 0 := Nat.pow_pos (by omega)
theorem Sz.one {k : Nat} : Sz (k + 1) 1 := by show 1 < 2 ^ (k + 1); exact Nat.one_lt_two_pow (by omega)
theorem Sz.pow {k : Nat} {a : Int} (h : Sz k a) : ∀ e : Nat, Sz (k * e + 1) (a ^ e)
  | 0 => by rw [Int.pow_zero]; exact Sz.one
  | e + 1 => by rw [Int.pow_succ]; exact ((h.pow e).mul h).mono (by rw [Nat.mul_add]; omega)
theorem Sz.of_le {k : Nat} {a : Int} {b : Nat} (h : a.natAbs ≤ b) (h' : b < 2 ^ k) : Sz k a := Nat.lt_of_le_of_lt h h'
theorem Sz.sm {k m : Nat} {f : Nat → Int} : ∀ {n : Nat}, n ≤ 2 ^ m → (∀ i, i < n → Sz k (f i)) → Sz (k + m) (sm n f) := by
  intro n hn h
  have key : ∀ n, (∀ i, i < n → Sz k (f i)) → (Det.sm n f).natAbs ≤ n * (2 ^ k - 1) := by
    intro n
    induction n with
    | zero => intro _; show (0 : Int).natAbs ≤ _; simp
    | succ n ih =>
      intro h
      have h1 := ih fun i hi => h i (by omega)
      have h2 : (f n).natAbs < 2 ^ k := h n (by omega)
      show (Det.sm n f + f n).natAbs ≤ _
      have : (Det.sm n f + f n).natAbs ≤ (Det.sm n f).natAbs + (f n).natAbs := Int.natAbs_add_le _ _
      rw [Nat.succ_mul]; omega
  have h1 := key n h
  have p : 0 < 2 ^ k := Nat.pow_pos (by omega)
  have h2 : n * (2 ^ k - 1) ≤ 2 ^ m * (2 ^ k - 1) := Nat.mul_le_mul_right _ hn
  have h3 : 2 ^ m * (2 ^ k - 1) < 2 ^ m * 2 ^ k := Nat.mul_lt_mul_of_pos_left (by omega) (Nat.pow_pos (by omega))
  show _ < 2 ^ (k + m)
  rw [Nat.pow_add, Nat.mul_comm (2 ^ k)]
  omega
/-! ### sums over ranges -/
theorem sum_range (n : Nat) (f : Nat → Int) : ((List.range n).map f).sum = sm n f := by
  induction n with
  | zero => rfl
  | succ n ih => rw [List.range_succ, List.map_append, List.sum_append, ih]; simp [Det.sm]
def intR (n : Nat) (f : Nat → Int) : List PyData := (List.range n).map fun i => .int (f i)
theorem intR_eq (n : Nat) (f : Nat → Int) : intR n f = ((List.range n).map f).map .int := by unfold intR; rw [List.map_map]; rfl
theorem intR_len (n : Nat) (f : Nat → Int) : (intR n f).length = n := by simp [intR]
theorem intsOf_R (n : Nat) (f : Nat → Int) : intsOf (intR n f) = some ((List.range n).map f) := by rw [intR_eq, intsOf_map]
theorem intR_get {n i : Nat} {f : Nat → Int} (h : i < n) : (intR n f)[i]? = some (.int (f i)) := by
  unfold intR; rw [List.getElem?_map, List.getElem?_range h]; rfl
theorem intR_at {n : Nat} {f : Nat → Int} {i : Int} (k : Nat) (e : i = k) (h : k < n) : atI (intR n f) i = some (.int (f k)) := by
  rw [e]; exact atI_nat (intR_get h)
theorem intR_succ (n : Nat) (f : Nat → Int) : intR (n + 1) f = intR n f ++ [.int (f n)] := by unfold intR; rw [List.range_succ, List.map_append]; rfl
theorem intR_congr {n : Nat} {f g : Nat → Int} (h : ∀ i, i < n → f i = g i) : intR n f = intR n g := by
  unfold intR
  exact List.map_congr_left fun i hi => by rw [h i (List.mem_range.mp hi)]
theorem intR_zero (f : Nat → Int) : intR 0 f = [] := rfl
theorem rngD_R (lo : Int) (n : Nat) : rngD lo n = intR n fun i => lo + (i : Nat) := rfl
def dvec (n : Nat) (f : Nat → Int) : PyData := .list (intR n f)
def dmat (n : Nat) (A : Det.Mat Int) : PyData := .list ((List.range n).map fun i => dvec n (A i))
/-- a comprehension over a range of ints, its elements ints -/
theorem comp_int {it : DI} {t : DG} {f : DE} {vs : List Nat} {ρ ρ1 : Env} {lo : Int} {n : Nat} (g : Nat → Int) (h1 : it ρ = some (rngD lo n, ρ1)) (h2 : n ≤ 16000000)
    (h : ∀ i : Nat, i < n → ∃ ρ2 ρ3, t (.int (lo + (i : Nat))) (wipeE ρ1 vs) = some ρ2 ∧ f ρ2 = some (.sh (.int (g i)), ρ3) ∧ wipeE ρ3 vs = wipeE ρ1 vs) : sComp it t sYes f vs ρ = some (.ow (intR n g), ρ1) := by
  rw [sComp_rng (fun x => .int (g (x - lo).toNat)) h1 h2 fun i hi => ?_]
  · unfold intR
    congr 2
    congr 1
    exact List.map_congr_left fun i hi => by
      show PyData.int (g (lo + (i : Nat) - lo).toNat) = _
      rw [show (lo + (i : Int) - lo).toNat = i by omega]
  · obtain ⟨a, b, c, d, e⟩ := h i hi
    exact ⟨a, b, c, by rw [d]; show _ = some (Val.sh (PyData.int (g (lo + (i : Nat) - lo).toNat)), b); rw [show (lo + (i : Int) - lo).toNat = i by omega], e⟩
theorem comp_rngD {it : DI} {t : DG} {f : DE} {vs : List Nat} {ρ ρ1 : Env} {lo : Int} {n : Nat} (g : Nat → PyData) (h1 : it ρ = some (rngD lo n, ρ1)) (h2 : n ≤ 16000000)
    (h : ∀ i : Nat, i < n → ∃ ρ2 ρ3, t (.int (lo + (i : Nat))) (wipeE ρ1 vs) = some ρ2 ∧ f ρ2 = some (.sh (g i), ρ3) ∧ wipeE ρ3 vs = wipeE ρ1 vs) : sComp it t sYes f vs ρ = some (.ow ((List.range n).map g), ρ1) := by
  rw [sComp_rng (fun x => g (x - lo).toNat) h1 h2 fun i hi => ?_]
  · congr 2
    congr 1
    exact List.map_congr_left fun i hi => by
      show g (lo + (i : Nat) - lo).toNat = _
      rw [show (lo + (i : Int) - lo).toNat = i by omega]
  · obtain ⟨a, b, c, d, e⟩ := h i hi
    exact ⟨a, b, c, by rw [d]; show _ = some (Val.sh (g (lo + (i : Nat) - lo).toNat), b); rw [show (lo + (i : Int) - lo).toNat = i by omega], e⟩
/-- the elements change nothing -/
theorem comp_rng1 {it : DI} {f : DE} {v : Nat} {ρ ρ1 : Env} {lo : Int} {n : Nat} (g : Nat → PyData) (h1 : it ρ = some (rngD lo n, ρ1)) (h2 : n ≤ 16000000)
    (h : ∀ i : Nat, i < n → f (ρ1.set v (some (.sh (.int (lo + (i : Nat)))))) = some (.sh (g i), ρ1.set v (some (.sh (.int (lo + (i : Nat))))))) : sComp it (gN v) sYes f [v] ρ = some (.ow ((List.range n).map g), ρ1) :=
  comp_rngD g h1 h2 fun i hi => ⟨ρ1.set v (some (.sh (.int (lo + (i : Nat))))), ρ1.set v (some (.sh (.int (lo + (i : Nat))))), by show some ((ρ1.set v none).set v _) = _; rw [List.set_set], h i hi, by show (ρ1.set v _).set v none = ρ1.set v none; rw [List.set_set]⟩
theorem comp_int1 {it : DI} {f : DE} {v : Nat} {ρ ρ1 : Env} {lo : Int} {n : Nat} (g : Nat → Int) (h1 : it ρ = some (rngD lo n, ρ1)) (h2 : n ≤ 16000000)
    (h : ∀ i : Nat, i < n → f (ρ1.set v (some (.sh (.int (lo + (i : Nat)))))) = some (.sh (.int (g i)), ρ1.set v (some (.sh (.int (lo + (i : Nat))))))) : sComp it (gN v) sYes f [v] ρ = some (.ow (intR n g), ρ1) :=
  comp_rng1 (fun i => .int (g i)) h1 h2 h
/-- over items of a list -/
theorem comp_items1 {it : DI} {f : DE} {v : Nat} {ρ ρ1 : Env} {ds : List PyData} (g : PyData → PyData) (h1 : it ρ = some (ds, ρ1)) (h2 : ds.length ≤ 16000000)
    (h : ∀ d, d ∈ ds → f (ρ1.set v (some (.sh d))) = some (.sh (g d), ρ1.set v (some (.sh d)))) : sComp it (gN v) sYes f [v] ρ = some (.ow (ds.map g), ρ1) :=
  sComp_map g h1 h2 fun d hd => ⟨ρ1.set v (some (.sh d)), ρ1.set v (some (.sh d)), by show some ((ρ1.set v none).set v _) = _; rw [List.set_set], h d hd, by show (ρ1.set v _).set v none = ρ1.set v none; rw [List.set_set]⟩
theorem mat_at {n : Nat} {A : Det.Mat Int} {i : Int} (k : Nat) (e : i = k) (h : k < n) : atI ((List.range n).map fun i => dvec n (A i)) i = some (dvec n (A k)) := by
  rw [e]
  refine atI_nat ?_
  rw [List.getElem?_map, List.getElem?_range h]; rfl
/-! one step by its parts -/
theorem op1 {sem : VS} {f : DE} {ρ ρ1 : Env} {w1 : Val} (h1 : f ρ = some (w1, ρ1)) : sOp sem (sCons f sNil) ρ = sem [w1] ρ1 := by rw [x_sOp, x_sCons, h1]; rfl
theorem op2 {sem : VS} {f g : DE} {ρ ρ1 ρ2 : Env} {w1 w2 : Val} (h1 : f ρ = some (w1, ρ1)) (h2 : g ρ1 = some (w2, ρ2)) : sOp sem (sCons f (sCons g sNil)) ρ = sem [w1, w2] ρ2 := by
  rw [x_sOp, x_sCons, h1]
  simp only [Option.bind_some]
  rw [x_sCons, h2]; rfl
theorem op3 {sem : VS} {f g h : DE} {ρ ρ1 ρ2 ρ3 : Env} {w1 w2 w3 : Val} (h1 : f ρ = some (w1, ρ1)) (h2 : g ρ1 = some (w2, ρ2)) (h3 : h ρ2 = some (w3, ρ3)) : sOp sem (sCons f (sCons g (sCons h sNil))) ρ = sem [w1, w2, w3] ρ3 := by
  rw [x_sOp, x_sCons, h1]
  simp only [Option.bind_some]
  rw [x_sCons, h2]
  simp only [Option.bind_some]
  rw [x_sCons, h3]; rfl
theorem set1 {i : Nat} {f : DE} {ρ ρ1 : Env} {w : Val} (h : f ρ = some (w, ρ1)) (n : noRf w = true) : sSet i f ρ = some (.nx (ρ1.set i (some w))) := by rw [x_sSet, h]; simp [n]
theorem ret_sh {f : DE} {ρ ρ1 : Env} {d : PyData} (h : f ρ = some (.sh d, ρ1)) : sRet f ρ = some (.rt (.sh d) ρ1) := by rw [x_sRet, h]; rfl
theorem ret_ow {f : DE} {ρ ρ1 : Env} {ds : List PyData} (h : f ρ = some (.ow ds, ρ1)) : sRet f ρ = some (.rt (.ow ds) ρ1) := by rw [x_sRet, h]; rfl
theorem stab_ow {f : DE} {ρ ρ1 : Env} {ds : List PyData} (h : f ρ = some (.ow ds, ρ1)) : sStab f ρ = some (.sh (.list ds), ρ1) := by rw [x_sStab, h]; rfl
theorem stab_sh {f : DE} {ρ ρ1 : Env} {d : PyData} (h : f ρ = some (.sh d, ρ1)) : sStab f ρ = some (.sh d, ρ1) := by rw [x_sStab, h]; rfl
theorem call1 {F : List PyData → Option PyData} {ρ : Env} {a d : PyData} (h : F [a] = some d) : vCall F [.sh a] ρ = some (.sh d, ρ) := by simp [h]
theorem call2 {F : List PyData → Option PyData} {ρ : Env} {a b d : PyData} (h : F [a, b] = some d) : vCall F [.sh a, .sh b] ρ = some (.sh d, ρ) := by simp [h]
theorem call3 {F : List PyData → Option PyData} {ρ : Env} {a b c d : PyData} (h : F [a, b, c] = some d) : vCall F [.sh a, .sh b, .sh c] ρ = some (.sh d, ρ) := by simp [h]
theorem mul2 {ρ : Env} {a b : Int} (h : CMulZ a b) : vMul [.sh (.int a), .sh (.int b)] ρ = some (.sh (.int (a * b)), ρ) := by rw [x_mul, if_pos h]
theorem ixl {ds : List PyData} {i : Int} {d : PyData} {ρ : Env} (h : atI ds i = some d) : vIx [.sh (.list ds), .sh (.int i)] ρ = some (.sh d, ρ) := by rw [x_ix, x_lst_sh]; simp [h]
theorem lst1 {d : PyData} {ρ : Env} : vLst [.sh d] ρ = some (.ow [d], ρ) := by simp
theorem if_t {c : DT} {s t : DS} {ρ ρ1 : Env} (h : c ρ = some (true, ρ1)) : sIf c s t ρ = s ρ1 := by rw [x_sIf, h]; rfl
theorem if_f {c : DT} {s t : DS} {ρ ρ1 : Env} (h : c ρ = some (false, ρ1)) : sIf c s t ρ = t ρ1 := by rw [x_sIf, h]; rfl
theorem for1 {it : DI} {t : DG} {s : DS} {ρ ρ1 : Env} {ds : List PyData} (h : it ρ = some (ds, ρ1)) : sFor it t s ρ = forL t s ds ρ1 := by rw [x_sFor, h]; rfl
theorem var_sh {i : Nat} {ρ : Env} {d : PyData} (h : ρ[i]? = some (some (.sh d))) : sVar i ρ = some (.sh d, ρ) := by rw [x_sVar, h]
theorem var_ow {i : Nat} {ρ : Env} {ds : List PyData} (h : ρ[i]? = some (some (.ow ds))) : sVar i ρ = some (.rf i, ρ) := by rw [x_sVar, h]
end DL
end

section
set_option Elab.async false
set_option linter.all false
set_option maxRecDepth 100000
set_option maxHeartbeats 4000000
set_option exponentiation.threshold 2000
namespace W56
open PySem PySem.Spec PyProof.Rows L2 DL
open Det (sm)
theorem runD_eq {f : DS} {n np : Nat} {ds : List PyData} (h : ds.length = np) : runD f n np ds = endD (f (startE n ds)) := by unfold runD; rw [if_pos h]
def raisedTest : DT := (sTst (sOp vGt (sCons (sVar 1) (sCons (sC (.int 0)) sNil))))
def raisedBody : DS := (sSeq (sIf (sTst (sOp (vEqD false) (sCons (sOp vMod (sCons (sVar 1) (sCons (sC (.int 2)) sNil))) (sCons (sC (.int 1)) sNil)))) (sAug 2 vMul (sVar 0)) sNext) (sSeq (sAug 1 vDiv (sC (.int 2))) (sIf (sTst (sOp vGt (sCons (sVar 1) (sCons (sC (.int 0)) sNil)))) (sAug 0 vMul (sVar 0)) sNext)))
theorem raised_step (a e f : Int) (he : 0 < e) (h1 : e % 2 = 1 → CMulZ f a) (h2 : 0 < e / 2 → CMulZ a a) : raisedBody [some (.sh (.int a)), some (.sh (.int e)), some (.sh (.int f))] = some (.nx [some (.sh (.int (if 0 < e / 2 then a * a else a))), some (.sh (.int (e / 2))), some (.sh (.int (if e % 2 = 1 then f * a else f)))]) := by
  have c1 : CDivZ e 2 := by unfold CDivZ; decide
  by_cases h3 : e % 2 = 1 <;> by_cases h4 : 0 < e / 2 <;>
  simp [raisedBody, x_sSeq, x_sVar, h1, h2, c1, Int.fmod_eq_emod_of_nonneg, Int.fdiv_eq_ediv_of_nonneg, h3, h4]
theorem raised_loop : ∀ (m : Nat) (a f : Int) (e : Nat) (k l : Nat), e < 2 ^ m → Sz k a → Sz l f → l + k * e ≤ 60000000 →
    ∃ a', whileN raisedTest raisedBody (m + 1) [some (.sh (.int a)), some (.sh (.int e)), some (.sh (.int f))] = some (.nx [some (.sh (.int a')), some (.sh (.int 0)), some (.sh (.int (f * a ^ e)))]) := by
  intro m
  induction m with
  | zero =>
    intro a f e k l he _ _ _
    have : e = 0 := by simpa using he
    subst this
    exact ⟨a, by simp [whileN, raisedTest, x_sVar]⟩
  | succ m ih =>
    intro a f e k l he ha hf hB
    by_cases z : e = 0
    · subst z
      exact ⟨a, by simp [whileN, raisedTest, x_sVar]⟩
    · have hke : k * 1 ≤ k * e := Nat.mul_le_mul_left k (by omega)
      have st := raised_step a e f (by omega) (fun _ => cmul_of hf ha (by omega)) (fun h => cmul_of ha ha (by
        have : k * 2 ≤ k * e := Nat.mul_le_mul_left k (by omega)
        omega))
      have t1 : raisedTest [some (.sh (.int a)), some (.sh (.int e)), some (.sh (.int f))] = some (true, [some (.sh (.int a)), some (.sh (.int e)), some (.sh (.int f))]) := by
        simp [raisedTest, x_sVar]; omega
      have unf : whileN raisedTest raisedBody (m + 1 + 1) [some (.sh (.int a)), some (.sh (.int e)), some (.sh (.int f))] = whileN raisedTest raisedBody (m + 1) [some (.sh (.int (if 0 < (e : Int) / 2 then a * a else a))), some (.sh (.int ((e / 2 : Nat) : Int))), some (.sh (.int (if (e : Int) % 2 = 1 then f * a else f)))] := by
        show (raisedTest _).bind _ = _
        rw [t1]
        simp only [Option.bind_some, if_true]
        rw [st]
        simp only [Option.bind_some]
        rw [Int.natCast_ediv]; rfl
      rw [unf]
      have e2 : e / 2 < 2 ^ m := by rw [Nat.pow_succ] at he; omega
      by_cases c : 0 < (e : Int) / 2
      · rw [if_pos c]
        have split : e = 2 * (e / 2) + e % 2 := by omega
        have kk : k * e = (k + k) * (e / 2) + k * (e % 2) := by
          have : k * e = k * (2 * (e / 2) + e % 2) := by rw [← split]
          rw [this, Nat.mul_add, ← Nat.mul_assoc, Nat.mul_two]
        by_cases o : (e : Int) % 2 = 1
        · rw [if_pos o]
          have o' : e % 2 = 1 := by omega
          rw [o'] at kk
          obtain ⟨a', h⟩ := ih (a * a) (f * a) (e / 2) (k + k) (l + k) e2 (ha.mul ha) (hf.mul ha) (by omega)
          refine ⟨a', ?_⟩
          rw [h]
          congr 7
          have : a ^ e = (a * a) ^ (e / 2) * a := by
            conv => lhs; rw [split, o', Int.pow_add, Int.pow_mul]
            rw [show a ^ 2 = a * a by rw [Int.pow_succ, Int.pow_succ, Int.pow_zero]; grind, Int.pow_succ, Int.pow_zero]; grind
          rw [this]; grind
        · rw [if_neg o]
          have o' : e % 2 = 0 := by omega
          rw [o'] at kk
          obtain ⟨a', h⟩ := ih (a * a) f (e / 2) (k + k) l e2 (ha.mul ha) hf (by omega)
          refine ⟨a', ?_⟩
          rw [h]
          congr 7
          have : a ^ e = (a * a) ^ (e / 2) := by
            conv => lhs; rw [split, o', Nat.add_zero, Int.pow_mul]
            rw [show a ^ 2 = a * a by rw [Int.pow_succ, Int.pow_succ, Int.pow_zero]; grind]
          rw [this]
      · rw [if_neg c]
        have e1 : e = 1 := by omega
        subst e1
        refine ⟨a, ?_⟩
        rw [if_pos (by decide)]
        simp [whileN, raisedTest, x_sVar, Int.pow_succ]
theorem F_raised_eq {a : Int} {e k : Nat} (ha : Sz k a) (he : e < 2 ^ 20) (hB : 1 + k * e ≤ 60000000) : F_raised [.int a, .int e] = some (.int (a ^ e)) := by
  obtain ⟨a', h⟩ := raised_loop 999 a 1 e k 1 (Nat.lt_of_lt_of_le he (Nat.pow_le_pow_right (by omega) (by omega))) ha (by show 1 < 2 ^ 1; omega) hB
  have h' : sWhile (fun _ => 1000) raisedTest raisedBody [some (.sh (.int a)), some (.sh (.int e)), some (.sh (.int 1))] = some (.nx [some (.sh (.int a')), some (.sh (.int 0)), some (.sh (.int (1 * a ^ e)))]) := h
  show runD (sSeq (sSet 2 (sC (.int 1))) (sSeq (sWhile (fun _ => 1000) raisedTest raisedBody) (sRet (sVar 2)))) 3 2 _ = _
  rw [runD_eq (np := 2) (by rfl)]
  rw [x_seq (ρ' := [some (.sh (.int a)), some (.sh (.int e)), some (.sh (.int 1))]) (by simp [startE])]
  rw [x_seq h']
  simp [x_sVar, endD]
end W56
end

section
set_option Elab.async false
set_option linter.all false
set_option maxRecDepth 100000
set_option maxHeartbeats 4000000
namespace W56
open PySem PySem.Spec PyProof.Rows L2 DL
open Det (sm)
/-! counts_of -/
def coTurn : DS := (sSeq (sSet 5 (sIfE (sTst (sOp vLt (sCons (sVar 4) (sCons (sOp vLen (sCons (sVar 1) sNil)) sNil)))) (sOp vMul (sCons (sVar 4) (sCons (sOp vIx (sCons (sVar 1) (sCons (sVar 4) sNil))) sNil))) (sC (.int 0)))) (sExp (sMt 3 mAppend (sCons (sOp vSub (sCons (sVar 5) (sCons (sOp vSum (sCons (sComp (sRng (sCons (sC (.int 1)) (sCons (sOp vMin (sCons (sVar 4) (sCons (sOp vLen (sCons (sVar 1) sNil)) sNil))) sNil))) (gN 7) sYes (sOp vMul (sCons (sOp vIx (sCons (sVar 3) (sCons (sOp vSub (sCons (sOp vSub (sCons (sVar 4) (sCons (sVar 7) sNil))) (sCons (sC (.int 1)) sNil))) sNil))) (sCons (sOp vIx (sCons (sVar 1) (sCons (sVar 7) sNil))) sNil))) [7]) sNil)) sNil))) sNil))))
/-- the sums by the recursion -/
structure Sums (N : Nat) (a S : Nat → Int) (k c : Nat) : Prop where
  req : ∀ m, 0 < m → S m = (if m ≤ N then (m : Int) * a m else 0) - sm (min m (N + 1) - 1) fun i => S (m - (i + 1)) * a (i + 1)
  szS : ∀ m, m ≤ c → Sz k (S m)
  sza : ∀ i, i ≤ N → Sz k (a i)
theorem co_turn {N c k n : Nat} {a S : Nat → Int} {p x L M : Int} (R : Sums N a S k c) (hN : N ≤ 1000) (hk : k ≤ 1000000) (hc : c ≤ 1000000) (hn : n + 1 ≤ c) (hx : x = (n : Int) + 1) (hL : L = if n + 1 ≤ N then x * a (n + 1) else 0) (l5 l6 : Option Val) :
    coTurn [some (.sh (.int p)), some (.sh (dvec (N + 1) a)), some (.sh (.int M)), some (.ow (intR n fun i => S (i + 1))), some (.sh (.int x)), l5, l6, none] =
    some (.nx [some (.sh (.int p)), some (.sh (dvec (N + 1) a)), some (.sh (.int M)), some (.ow (intR (n + 1) fun i => S (i + 1))), some (.sh (.int x)), some (.sh (.int L)), l6, none]) := by
  unfold coTurn
  have e1 : (sSet 5 (sIfE (sTst (sOp vLt (sCons (sVar 4) (sCons (sOp vLen (sCons (sVar 1) sNil)) sNil)))) (sOp vMul (sCons (sVar 4) (sCons (sOp vIx (sCons (sVar 1) (sCons (sVar 4) sNil))) sNil))) (sC (.int 0)))) [some (.sh (.int p)), some (.sh (dvec (N + 1) a)), some (.sh (.int M)), some (.ow (intR n fun i => S (i + 1))), some (.sh (.int x)), l5, l6, none] = some (.nx [some (.sh (.int p)), some (.sh (dvec (N + 1) a)), some (.sh (.int M)), some (.ow (intR n fun i => S (i + 1))), some (.sh (.int x)), some (.sh (.int L)), l6, none]) := by
    by_cases h : n + 1 ≤ N
    · have m1 : CMulZ x (a (n + 1)) := cmul_of (k := 20) (l := k) (by rw [hx]; show ((n : Int) + 1).natAbs < 2 ^ 20; omega) (R.sza _ h) (by omega)
      have at1 : atI (intR (N + 1) a) x = some (.int (a (n + 1))) := intR_at (n + 1) (by omega) (by omega)
      have lt : x < (N : Int) + 1 := by omega
      rw [if_pos h] at hL
      simp [x_sVar, dvec, intR_len, at1, m1, lt, hL]
    · have lt : ¬ x < (N : Int) + 1 := by omega
      rw [if_neg h] at hL
      simp [x_sVar, dvec, intR_len, lt, hL]
  rw [x_seq e1]
  have cm := comp_int1 (it := (sRng (sCons (sC (.int 1)) (sCons (sOp vMin (sCons (sVar 4) (sCons (sOp vLen (sCons (sVar 1) sNil)) sNil))) sNil)))) (f := (sOp vMul (sCons (sOp vIx (sCons (sVar 3) (sCons (sOp vSub (sCons (sOp vSub (sCons (sVar 4) (sCons (sVar 7) sNil))) (sCons (sC (.int 1)) sNil))) sNil))) (sCons (sOp vIx (sCons (sVar 1) (sCons (sVar 7) sNil))) sNil)))) (v := 7)
    (ρ := [some (.sh (.int p)), some (.sh (dvec (N + 1) a)), some (.sh (.int M)), some (.ow (intR n fun i => S (i + 1))), some (.sh (.int x)), some (.sh (.int L)), l6, none])
    (ρ1 := [some (.sh (.int p)), some (.sh (dvec (N + 1) a)), some (.sh (.int M)), some (.ow (intR n fun i => S (i + 1))), some (.sh (.int x)), some (.sh (.int L)), l6, none])
    (lo := 1) (n := min (n + 1) (N + 1) - 1) (fun i => S (n + 1 - (i + 1)) * a (i + 1)) (by
      have e2 : (if (N : Int) + 1 < x then (N : Int) + 1 else x) = ((min n N + 1 : Nat) : Int) := by split <;> omega
      simp [x_sVar, dvec, intR_len, e2]
      omega) (by omega) (fun i hi => by
      have at1 : atI (intR n fun i => S (i + 1)) (x - (1 + (i : Int)) - 1) = some (.int (S (n - i))) := by
        rw [intR_at (n - i - 1) (by omega) (by omega)]
        congr 3; omega
      have at2 : atI (intR (N + 1) a) (1 + (i : Int)) = some (.int (a (i + 1))) := intR_at (i + 1) (by omega) (by omega)
      have m1 : CMulZ (S (n - i)) (a (i + 1)) := cmul_of (R.szS _ (by omega)) (R.sza _ (by omega)) (by omega)
      simp [x_sVar, dvec, at1, at2, m1])
  have r := R.req (n + 1) (by omega)
  have ln : n < 16000000 := by omega
  simp [x_sVar, cm, intR_len, intsOf_R, sum_range, ln]
  rw [intR_succ, r, hL, hx]
  simp
end W56
end

section
set_option Elab.async false
set_option linter.all false
set_option maxRecDepth 100000
set_option maxHeartbeats 4000000
namespace W56
open PySem PySem.Spec PyProof.Rows L2 DL
open Det (sm)
theorem rngD_some {lo : Int} {n i : Nat} {d : PyData} (h : (rngD lo n)[i]? = some d) : i < n ∧ d = .int (lo + (i : Nat)) := by
  have hi : i < n := by
    have := (List.getElem?_eq_some_iff.mp h).1
    rw [rngD_len] at this; exact this
  rw [rngD_get hi] at h
  exact ⟨hi, (Option.some.inj h).symm⟩
theorem F_counts_of_eq {N c k kp : Nat} {a S : Nat → Int} {p : Int} {most : Nat} (R : Sums N a S k c) (hN : N ≤ 1000) (hk : k ≤ 1000000) (hc : c ≤ 1000) (hm : most ≤ c) (hp : Sz kp p) (hkp : kp ≤ 1000) :
    F_counts_of [.int p, dvec (N + 1) a, .int most] = some (dvec most fun i => S (i + 1) + p ^ (i + 1) + 1) := by
  show runD (sSeq (sSet 3 (sOp vLst sNil)) (sSeq (sFor (sRng (sCons (sC (.int 1)) (sCons (sOp vAdd (sCons (sVar 2) (sCons (sC (.int 1)) sNil))) sNil))) (gN 4) coTurn) (sRet (sComp (sEnum (sVar 3)) (gTu 2 [(gN 4), (gN 6)]) sYes (sOp vAdd (sCons (sOp vAdd (sCons (sVar 6) (sCons (sOp (vCall F_raised) (sCons (sVar 0) (sCons (sOp vAdd (sCons (sVar 4) (sCons (sC (.int 1)) sNil))) sNil))) sNil))) (sCons (sC (.int 1)) sNil))) [4, 6])))) 8 3 _ = _
  rw [runD_eq (np := 3) (by rfl)]
  rw [x_seq (ρ' := [some (.sh (.int p)), some (.sh (dvec (N + 1) a)), some (.sh (.int most)), some (.ow []), none, none, none, none]) (by simp [startE])]
  obtain ⟨ρ', e, l4, l5, P⟩ := forL_inv (t := gN 4) (s := coTurn) (fun n ρ => ∃ l4 l5, ρ = [some (.sh (.int p)), some (.sh (dvec (N + 1) a)), some (.sh (.int most)), some (.ow (intR n fun i => S (i + 1))), l4, l5, none, none]) (rngD 1 most) 0 _ ⟨none, none, rfl⟩ (by
    rintro i d ρ hd ⟨l4, l5, rfl⟩
    obtain ⟨hi, rfl⟩ := rngD_some hd
    refine ⟨_, _, rfl, .inl (co_turn R hN (by omega) (by omega) (n := 0 + i) (by omega) (by omega) rfl l5 none), ?_⟩
    exact ⟨_, _, rfl⟩)
  rw [rngD_len, Nat.zero_add] at P
  have e1 : sFor (sRng (sCons (sC (.int 1)) (sCons (sOp vAdd (sCons (sVar 2) (sCons (sC (.int 1)) sNil))) sNil))) (gN 4) coTurn [some (.sh (.int p)), some (.sh (dvec (N + 1) a)), some (.sh (.int most)), some (.ow []), none, none, none, none] = some (.nx ρ') := by
    rw [← e]
    have : -4611686018427387904 ≤ (most : Int) + 1 ∧ (most : Int) + 1 < 4611686018427387904 := by omega
    simp [x_sVar, this, intR_zero]
  rw [x_seq e1, P]
  have cm := sComp_map (it := sEnum (sVar 3)) (t := gTu 2 [(gN 4), (gN 6)]) (f := (sOp vAdd (sCons (sOp vAdd (sCons (sVar 6) (sCons (sOp (vCall F_raised) (sCons (sVar 0) (sCons (sOp vAdd (sCons (sVar 4) (sCons (sC (.int 1)) sNil))) sNil))) sNil))) (sCons (sC (.int 1)) sNil)))) (vs := [4, 6])
    (ρ := [some (.sh (.int p)), some (.sh (dvec (N + 1) a)), some (.sh (.int most)), some (.ow (intR most fun i => S (i + 1))), l4, l5, none, none]) (ρ1 := [some (.sh (.int p)), some (.sh (dvec (N + 1) a)), some (.sh (.int most)), some (.sh (.list (intR most fun i => S (i + 1)))), l4, l5, none, none])
    (ds := (List.range most).map fun i => .tuple [.int (i : Nat), .int (S (i + 1))]) (fun d => match d with | .tuple [.int i, .int s] => .int (s + p ^ (i.toNat + 1) + 1) | d => d) (by
      simp [x_sVar, intR_len]
      intro i hi
      rw [List.getElem?_eq_getElem (by rw [intR_len]; exact hi)]
      have := intR_get (f := fun i => S (i + 1)) hi
      rw [List.getElem?_eq_getElem (by rw [intR_len]; exact hi)] at this
      rw [Option.some.inj this]; rfl) (by simp; omega) (fun d hd => by
      obtain ⟨i, hi, rfl⟩ := List.mem_map.mp hd
      have hi := List.mem_range.mp hi
      have rs : F_raised [.int p, .int ((i : Int) + 1)] = some (.int (p ^ (i + 1))) := by
        have := F_raised_eq (a := p) (e := i + 1) hp (by have : (2 : Nat) ^ 20 = 1048576 := by decide
                                                         omega) (by
          have : kp * (i + 1) ≤ 1000 * 1000 := Nat.mul_le_mul hkp (by omega)
          omega)
        rw [Int.natCast_add] at this; exact this
      refine ⟨[some (.sh (.int p)), some (.sh (dvec (N + 1) a)), some (.sh (.int most)), some (.sh (.list (intR most fun i => S (i + 1)))), some (.sh (.int i)), l5, some (.sh (.int (S (i + 1)))), none], [some (.sh (.int p)), some (.sh (dvec (N + 1) a)), some (.sh (.int most)), some (.sh (.list (intR most fun i => S (i + 1)))), some (.sh (.int i)), l5, some (.sh (.int (S (i + 1)))), none], by simp [wipeE], ?_, rfl⟩
      simp [x_sVar, rs])
  rw [x_sRet, cm]
  show some (PyData.list _) = some (PyData.list _)
  rw [List.map_map]
  rfl
end W56
end

section
set_option Elab.async false
set_option linter.all false
set_option maxRecDepth 100000
set_option maxHeartbeats 4000000
namespace W56
open PySem PySem.Spec PyProof.Rows L2 DL
open Det (sm)
structure Made (g : Nat) (b S : Nat → Int) (q : Int) (k : Nat) : Prop where
  b0 : b 0 = 1
  newt : ∀ m, 0 < m → m ≤ g → (m : Int) * b m = sm m fun i => S (m - i) * b i
  back : ∀ i, i ≤ g → b (2 * g - i) = q ^ (g - i) * b i
  szS : ∀ m, m ≤ g → Sz k (S m)
  szb : ∀ i, i ≤ g → Sz k (b i)
  szq : Sz k q
def lmElt : DE := (sOp vMul (sCons (sOp vSub (sCons (sOp vSub (sCons (sOp vIx (sCons (sVar 1) (sCons (sOp vSub (sCons (sOp vSub (sCons (sVar 3) (sCons (sVar 5) sNil))) (sCons (sC (.int 1)) sNil))) sNil))) (sCons (sOp (vCall F_raised) (sCons (sVar 0) (sCons (sOp vSub (sCons (sVar 3) (sCons (sVar 5) sNil))) sNil))) sNil))) (sCons (sC (.int 1)) sNil))) (sCons (sOp vIx (sCons (sVar 2) (sCons (sVar 5) sNil))) sNil)))
def lmTurn : DS := (sSeq (sSet 4 (sOp vSum (sCons (sComp (sRng (sCons (sVar 3) sNil)) (gN 5) sYes lmElt [5]) sNil))) (sSeq (sIf (sTst (sOp (vEqD true) (sCons (sOp vMod (sCons (sVar 4) (sCons (sVar 3) sNil))) (sCons (sC (.int 0)) sNil)))) (sRet (sC .none)) sNext) (sExp (sMt 2 mAppend (sCons (sOp vDiv (sCons (sVar 4) (sCons (sVar 3) sNil))) sNil)))))
def lmBack : DS := (sExp (sMt 2 mAppend (sCons (sOp vMul (sCons (sOp (vCall F_raised) (sCons (sVar 0) (sCons (sOp vSub (sCons (sOp vLen (sCons (sVar 1) sNil)) (sCons (sVar 5) sNil))) sNil))) (sCons (sOp vIx (sCons (sVar 2) (sCons (sVar 5) sNil))) sNil))) sNil)))
theorem pw20 : (2 : Nat) ^ 20 = 1048576 := by decide
theorem raised_of {a : Int} {e : Int} {k : Nat} (n : Nat) (h : e = n) (ha : Sz k a) (hk : k ≤ 50000) (hn : n ≤ 1000) : F_raised [.int a, .int e] = some (.int (a ^ n)) := by
  rw [h]
  exact F_raised_eq ha (by rw [pw20]; omega) (by
    have : k * n ≤ 50000 * 1000 := Nat.mul_le_mul hk hn
    omega)
theorem lm_turn {g k n : Nat} {b S : Nat → Int} {q x : Int} (M : Made g b S q k) (hg : g ≤ 100) (hk : k ≤ 50000) (hn : n + 1 ≤ g) (hx : x = (n : Int) + 1) (l4 l5 : Option Val) :
    lmTurn [some (.sh (.int q)), some (.sh (dvec g fun i => S (i + 1) + q ^ (i + 1) + 1)), some (.ow (intR (n + 1) b)), some (.sh (.int x)), l4, none] =
    some (.nx [some (.sh (.int q)), some (.sh (dvec g fun i => S (i + 1) + q ^ (i + 1) + 1)), some (.ow (intR (n + 2) b)), some (.sh (.int x)), some (.sh (.int (x * b (n + 1)))), none]) := by
  unfold lmTurn
  have cm := comp_int1 (it := sRng (sCons (sVar 3) sNil)) (f := lmElt) (v := 5)
    (ρ := [some (.sh (.int q)), some (.sh (dvec g fun i => S (i + 1) + q ^ (i + 1) + 1)), some (.ow (intR (n + 1) b)), some (.sh (.int x)), l4, none])
    (ρ1 := [some (.sh (.int q)), some (.sh (dvec g fun i => S (i + 1) + q ^ (i + 1) + 1)), some (.ow (intR (n + 1) b)), some (.sh (.int x)), l4, none])
    (lo := 0) (n := n + 1) (fun i => S (n + 1 - i) * b i) (by
      have : -4611686018427387904 ≤ x ∧ x < 4611686018427387904 := by omega
      have e : x.toNat = n + 1 := by omega
      simp [x_sVar, this, e]) (by omega) (fun i hi => by
      have at1 : atI (intR g fun i => S (i + 1) + q ^ (i + 1) + 1) (x - (0 + (i : Int)) - 1) = some (.int (S (n + 1 - i) + q ^ (n + 1 - i) + 1)) := by
        rw [intR_at (n - i) (by omega) (by omega), show n - i + 1 = n + 1 - i by omega]
      have at2 : atI (intR (n + 1) b) (0 + (i : Int)) = some (.int (b i)) := intR_at i (by omega) (by omega)
      have rs := raised_of (a := q) (e := x - (0 + (i : Int))) (n + 1 - i) (by omega) M.szq (by omega) (by omega)
      have sub : S (n + 1 - i) + q ^ (n + 1 - i) + 1 - q ^ (n + 1 - i) - 1 = S (n + 1 - i) := by omega
      have m1 : CMulZ (S (n + 1 - i)) (b i) := cmul_of (M.szS _ (by omega)) (M.szb _ (by omega)) (by omega)
      generalize hj : (0 + (i : Int)) = j at *
      simp [lmElt, x_sVar, dvec, at1, at2, rs, sub, m1])
  have nw := M.newt (n + 1) (by omega) hn
  have e1 : sSet 4 (sOp vSum (sCons (sComp (sRng (sCons (sVar 3) sNil)) (gN 5) sYes lmElt [5]) sNil)) [some (.sh (.int q)), some (.sh (dvec g fun i => S (i + 1) + q ^ (i + 1) + 1)), some (.ow (intR (n + 1) b)), some (.sh (.int x)), l4, none] =
      some (.nx [some (.sh (.int q)), some (.sh (dvec g fun i => S (i + 1) + q ^ (i + 1) + 1)), some (.ow (intR (n + 1) b)), some (.sh (.int x)), some (.sh (.int (x * b (n + 1)))), none]) := by
    rw [x_sSet, x_sOp, x_sCons, cm]
    simp [intsOf_R, sum_range]
    rw [← nw, hx]; simp
  rw [x_seq e1]
  have x0 : x ≠ 0 := by omega
  have fm : (x * b (n + 1)).fmod x = 0 := Int.mul_fmod_right _ _
  have fd : (x * b (n + 1)).fdiv x = b (n + 1) := Int.mul_fdiv_cancel_left _ x0
  have cd : CDivZ (x * b (n + 1)) x := ⟨x0, by
    have : Sz 20 x := by show x.natAbs < 2 ^ 20; rw [pw20]; omega
    have := this.lg
    omega⟩
  rw [x_seq (ρ' := [some (.sh (.int q)), some (.sh (dvec g fun i => S (i + 1) + q ^ (i + 1) + 1)), some (.ow (intR (n + 1) b)), some (.sh (.int x)), some (.sh (.int (x * b (n + 1)))), none]) (by simp [x_sVar, fm, x0])]
  have ln : n + 1 < 16000000 := by omega
  simp [x_sVar, cd, fd, intR_len, ln]
  exact (intR_succ (n + 1) b).symm
theorem lm_back {g k t : Nat} {b S : Nat → Int} {q x : Int} {C : Nat → Int} (M : Made g b S q k) (hg : g ≤ 100) (hk : k ≤ 50000) (ht : t < g) (hx : x = (g : Int) - 1 + (t : Int) * -1) (l3 l4 : Option Val) :
    lmBack [some (.sh (.int q)), some (.sh (dvec g C)), some (.ow (intR (g + 1 + t) b)), l3, l4, some (.sh (.int x))] =
    some (.nx [some (.sh (.int q)), some (.sh (dvec g C)), some (.ow (intR (g + 1 + (t + 1)) b)), l3, l4, some (.sh (.int x))]) := by
  unfold lmBack
  have rs := raised_of (a := q) (e := (g : Int) - x) (t + 1) (by omega) M.szq (by omega) (by omega)
  have at2 : atI (intR (g + 1 + t) b) x = some (.int (b (g - 1 - t))) := intR_at (g - 1 - t) (by omega) (by omega)
  have m1 : CMulZ (q ^ (t + 1)) (b (g - 1 - t)) := cmul_of (M.szq.pow (t + 1)) (M.szb _ (by omega)) (by
    have : k * (t + 1) ≤ 50000 * 100 := Nat.mul_le_mul hk (by omega)
    omega)
  have ln : g + 1 + t < 16000000 := by omega
  have bk := M.back (g - 1 - t) (by omega)
  rw [show 2 * g - (g - 1 - t) = g + 1 + t by omega, show g - (g - 1 - t) = t + 1 by omega] at bk
  simp [x_sVar, dvec, intR_len, rs, at2, m1, ln]
  rw [show g + 1 + (t + 1) = (g + 1 + t) + 1 by omega, intR_succ, bk]
theorem F_list_made_eq {g k : Nat} {b S : Nat → Int} {q : Int} (M : Made g b S q k) (hg : g ≤ 100) (hk : k ≤ 50000) : F_list_made [.int q, dvec g fun i => S (i + 1) + q ^ (i + 1) + 1] = some (dvec (2 * g + 1) b) := by
  show runD (sSeq (sSet 2 (sOp vLst (sCons (sC (.int 1)) sNil))) (sSeq (sFor (sRng (sCons (sC (.int 1)) (sCons (sOp vAdd (sCons (sOp vLen (sCons (sVar 1) sNil)) (sCons (sC (.int 1)) sNil))) sNil))) (gN 3) lmTurn) (sSeq (sFor (sRngN (sCons (sOp vSub (sCons (sOp vLen (sCons (sVar 1) sNil)) (sCons (sC (.int 1)) sNil))) (sCons (sOp vNeg (sCons (sC (.int 1)) sNil)) (sCons (sOp vNeg (sCons (sC (.int 1)) sNil)) sNil)))) (gN 5) lmBack) (sRet (sVar 2))))) 6 2 _ = _
  rw [runD_eq (np := 2) (by rfl)]
  rw [x_seq (ρ' := [some (.sh (.int q)), some (.sh (dvec g fun i => S (i + 1) + q ^ (i + 1) + 1)), some (.ow (intR 1 b)), none, none, none]) (by
    have : intR 1 b = [.int 1] := by show [PyData.int (b 0)] = _; rw [M.b0]
    simp [startE, this])]
  obtain ⟨ρ', e, l3, l4, P⟩ := forL_inv (t := gN 3) (s := lmTurn) (fun n ρ => ∃ l3 l4, ρ = [some (.sh (.int q)), some (.sh (dvec g fun i => S (i + 1) + q ^ (i + 1) + 1)), some (.ow (intR (n + 1) b)), l3, l4, none]) (rngD 1 g) 0 _ ⟨none, none, rfl⟩ (by
    rintro i d ρ hd ⟨l3, l4, rfl⟩
    obtain ⟨hi, rfl⟩ := rngD_some hd
    exact ⟨_, _, rfl, .inl (lm_turn M hg hk (n := 0 + i) (by omega) (by omega) l4 none), _, _, rfl⟩)
  rw [rngD_len, Nat.zero_add] at P
  have e1 : sFor (sRng (sCons (sC (.int 1)) (sCons (sOp vAdd (sCons (sOp vLen (sCons (sVar 1) sNil)) (sCons (sC (.int 1)) sNil))) sNil))) (gN 3) lmTurn [some (.sh (.int q)), some (.sh (dvec g fun i => S (i + 1) + q ^ (i + 1) + 1)), some (.ow (intR 1 b)), none, none, none] = some (.nx ρ') := by
    rw [← e]
    have : -4611686018427387904 ≤ (g : Int) + 1 ∧ (g : Int) + 1 < 4611686018427387904 := by omega
    simp [x_sVar, dvec, intR_len, this]
  rw [x_seq e1, P]
  obtain ⟨ρ2, e2, l5, P2⟩ := forL_inv (t := gN 5) (s := lmBack) (fun t ρ => ∃ l5, ρ = [some (.sh (.int q)), some (.sh (dvec g fun i => S (i + 1) + q ^ (i + 1) + 1)), some (.ow (intR (g + 1 + t) b)), l3, l4, l5]) (rngN ((g : Int) - 1) g (-1)) 0 _ ⟨none, rfl⟩ (by
    rintro i d ρ hd ⟨l5, rfl⟩
    have hi : i < g := by
      have := (List.getElem?_eq_some_iff.mp hd).1
      simpa [rngN] using this
    have ed : d = .int ((g : Int) - 1 + (i : Nat) * -1) := by
      unfold rngN at hd
      rw [List.getElem?_map, List.getElem?_range hi] at hd
      exact (Option.some.inj hd).symm
    subst ed
    exact ⟨_, _, rfl, .inl (lm_back M hg hk (t := 0 + i) (by omega) (by omega) l3 l4), _, rfl⟩)
  have ln2 : (rngN ((g : Int) - 1) g (-1)).length = g := by simp [rngN]
  rw [ln2, Nat.zero_add] at P2
  have e3 : sFor (sRngN (sCons (sOp vSub (sCons (sOp vLen (sCons (sVar 1) sNil)) (sCons (sC (.int 1)) sNil))) (sCons (sOp vNeg (sCons (sC (.int 1)) sNil)) (sCons (sOp vNeg (sCons (sC (.int 1)) sNil)) sNil)))) (gN 5) lmBack [some (.sh (.int q)), some (.sh (dvec g fun i => S (i + 1) + q ^ (i + 1) + 1)), some (.ow (intR (g + 1) b)), l3, l4, none] = some (.nx ρ2) := by
    rw [← e2]
    have : -4611686018427387904 ≤ (g : Int) - 1 ∧ (g : Int) - 1 < 4611686018427387904 := by omega
    have tn : ((g : Int) - 1 - -1).toNat = g := by omega
    simp [x_sVar, dvec, intR_len, this, tn]
  rw [x_seq e3, P2]
  rw [show g + 1 + g = 2 * g + 1 by omega]
  simp [x_sVar, endD, dvec]
end W56
end

section
set_option Elab.async false
set_option linter.all false
set_option maxRecDepth 100000
set_option maxHeartbeats 4000000
namespace W56
open PySem PySem.Spec PyProof.Rows L2 DL
open Det (sm)
/-! list_over -/
theorem F_list_over_eq {g n k : Nat} {a S b : Nat → Int} {p : Int} (R : Sums (2 * g) a S k (g * n)) (M : Made g b (fun m => S (n * m)) (p ^ n) k) (hg : g ≤ 4) (hn : n ≤ 40) (hn1 : 1 ≤ n) (hk : k ≤ 50000) (hp : Sz 6 p) :
    F_list_over [.int p, dvec (2 * g + 1) a, .int n] = some (dvec (2 * g + 1) b) := by
  show runD (sSeq (sSet 3 (sOp vDiv (sCons (sOp vLen (sCons (sVar 1) sNil)) (sCons (sC (.int 2)) sNil)))) (sSeq (sSet 4 (sOp (vCall F_counts_of) (sCons (sVar 0) (sCons (sStab (sVar 1)) (sCons (sOp vMul (sCons (sVar 3) (sCons (sVar 2) sNil))) sNil))))) (sRet (sOp (vCall F_list_made) (sCons (sOp (vCall F_raised) (sCons (sVar 0) (sCons (sVar 2) sNil))) (sCons (sStab (sComp (sRng (sCons (sC (.int 1)) (sCons (sOp vAdd (sCons (sVar 3) (sCons (sC (.int 1)) sNil))) sNil))) (gN 5) sYes (sStab (sOp vIx (sCons (sVar 4) (sCons (sOp vSub (sCons (sOp vMul (sCons (sVar 2) (sCons (sVar 5) sNil))) (sCons (sC (.int 1)) sNil))) sNil)))) [5])) sNil))))))
    6 3 _ = _
  rw [runD_eq (np := 3) (by rfl)]
  have gn : g * n ≤ 160 := by
    have : g * n ≤ 4 * 40 := Nat.mul_le_mul hg hn
    omega
  have d2 : CDivZ (2 * (g : Int) + 1) 2 := by unfold CDivZ; decide
  have fd : (2 * (g : Int) + 1).fdiv 2 = g := by rw [Int.fdiv_eq_ediv_of_nonneg _ (by decide)]; omega
  rw [x_seq (ρ' := [some (.sh (.int p)), some (.sh (dvec (2 * g + 1) a)), some (.sh (.int n)), some (.sh (.int g)), none, none]) (by
    simp [x_sVar, startE, dvec, intR_len, d2, fd])]
  have co := F_counts_of_eq (p := p) (most := g * n) R (by omega) (by omega) (by omega) (Nat.le_refl _) hp (by omega)
  have szs : ∀ x : Int, 0 ≤ x → x ≤ 1000 → Sz 20 x := fun x h1 h2 => Sz.of_le (b := 1000) (by omega) (by rw [pw20]; omega)
  have m1 : CMulZ (g : Int) (n : Int) := cmul_of (szs g (by omega) (by omega)) (szs n (by omega) (by omega)) (by omega)
  rw [Int.natCast_mul] at co
  rw [x_seq (ρ' := [some (.sh (.int p)), some (.sh (dvec (2 * g + 1) a)), some (.sh (.int n)), some (.sh (.int g)), some (.sh (dvec (g * n) fun i => S (i + 1) + p ^ (i + 1) + 1)), none]) (set1 ((op3 (var_sh rfl) (stab_sh (var_sh rfl)) ((op2 (var_sh rfl) (var_sh rfl)).trans (mul2 m1))).trans (call3 co)) rfl)]
  have cm := comp_int1 (it := (sRng (sCons (sC (.int 1)) (sCons (sOp vAdd (sCons (sVar 3) (sCons (sC (.int 1)) sNil))) sNil)))) (f := (sStab (sOp vIx (sCons (sVar 4) (sCons (sOp vSub (sCons (sOp vMul (sCons (sVar 2) (sCons (sVar 5) sNil))) (sCons (sC (.int 1)) sNil))) sNil))))) (v := 5)
    (ρ := [some (.sh (.int p)), some (.sh (dvec (2 * g + 1) a)), some (.sh (.int n)), some (.sh (.int g)), some (.sh (dvec (g * n) fun i => S (i + 1) + p ^ (i + 1) + 1)), none])
    (ρ1 := [some (.sh (.int p)), some (.sh (dvec (2 * g + 1) a)), some (.sh (.int n)), some (.sh (.int g)), some (.sh (dvec (g * n) fun i => S (i + 1) + p ^ (i + 1) + 1)), none])
    (lo := 1) (n := g) (fun i => S (n * (i + 1)) + (p ^ n) ^ (i + 1) + 1) (by
      have : -4611686018427387904 ≤ (g : Int) + 1 ∧ (g : Int) + 1 < 4611686018427387904 := by omega
      simp [x_sVar, this]) (by omega) (fun i hi => by
      have le : n * (i + 1) ≤ g * n := by rw [Nat.mul_comm]; exact Nat.mul_le_mul_right n (by omega)
      have pos : 1 ≤ n * (i + 1) := Nat.mul_pos hn1 (by omega)
      have at1 : atI (intR (g * n) fun i => S (i + 1) + p ^ (i + 1) + 1) ((n : Int) * (1 + (i : Int)) - 1) = some (.int (S (n * (i + 1)) + (p ^ n) ^ (i + 1) + 1)) := by
        rw [intR_at (n * (i + 1) - 1) (by
          have : ((n * (i + 1) : Nat) : Int) = (n : Int) * (1 + (i : Int)) := by rw [Int.natCast_mul, Int.natCast_add]; grind
          omega) (by omega), show n * (i + 1) - 1 + 1 = n * (i + 1) by omega, Int.pow_mul]
      have m2 : CMulZ (n : Int) (1 + (i : Int)) := cmul_of (szs n (by omega) (by omega)) (szs (1 + i) (by omega) (by omega)) (by omega)
      simp [x_sVar, dvec, at1, m2])
  have rs := raised_of (a := p) (e := (n : Int)) n rfl hp (by omega) (by omega)
  have lm := F_list_made_eq M (by omega) hk
  rw [ret_sh ((op2 (op2 (var_sh rfl) (var_sh rfl) |>.trans (call2 rs)) (stab_ow cm)).trans (call2 lm))]
  rfl
/-! the deck -/
structure Deck (m : Nat) (ds : List PyData) : Prop where
  ex : ∃ (h : Int) (at_ : Nat) (s : Int) (ns : List Int) (c : Nat), ds = [.int h, .int at_, .int s, .list (ns.map .int), .int c] ∧ 0 ≤ h ∧ 0 ≤ s ∧ s < 2147483647 ∧ c ≤ m
theorem F_deck_eq (ns : List Int) (hl : ns.length ≤ 63) : ∃ ds, F__law_deck [.list (ns.map .int)] = some ds ∧ Deck 0 ds := by
  have lp : ∀ (xs : List Int) (s : Int) (l2 : Option Val) (L : PyData), 0 ≤ s → s < 2147483647 → ∃ s' l2', forL (gN 2) (sSet 1 (sOp vMod (sCons (sOp vInt (sCons (sOp vAdd (sCons (sOp vMul (sCons (sVar 1) (sCons (sC (.int 48271)) sNil))) (sCons (sVar 2) sNil))) sNil)) (sCons (sC (.int 2147483647)) sNil)))) (xs.map .int) [some (.sh L), some (.sh (.int s)), l2] = some (.nx [some (.sh L), some (.sh (.int s')), l2']) ∧ 0 ≤ s' ∧ s' < 2147483647 := by
    intro xs
    induction xs with
    | nil => intro s l2 L h1 h2; exact ⟨s, l2, rfl, h1, h2⟩
    | cons x xs ih =>
      intro s l2 L h1 h2
      have m1 : CMulZ s 48271 := cmul_of (k := 40) (l := 20) (by show s.natAbs < 2 ^ 40; have : (2 : Nat) ^ 40 = 1099511627776 := by decide
                                                                 omega) (by show 48271 < 2 ^ 20; decide) (by omega)
      have b1 : 0 ≤ (s * 48271 + x).fmod 2147483647 := Int.fmod_nonneg_of_pos _ (by decide)
      have b2 : (s * 48271 + x).fmod 2147483647 < 2147483647 := Int.fmod_lt_of_pos _ (by decide)
      obtain ⟨s', l2', e, q1, q2⟩ := ih ((s * 48271 + x).fmod 2147483647) (some (.sh (.int x))) L b1 b2
      refine ⟨s', l2', ?_, q1, q2⟩
      show forL _ _ (PyData.int x :: xs.map .int) _ = _
      rw [forL_cons (ρ1 := [some (.sh L), some (.sh (.int s)), some (.sh (.int x))]) rfl]
      simp [x_sVar, m1]
      exact e
  obtain ⟨s', l2', e, q1, q2⟩ := lp ns 7 none (.list (ns.map .int)) (by decide) (by decide)
  refine ⟨[.int 0, .int 0, .int s', .list (ns.map .int), .int 0], ?_, ⟨0, 0, s', ns, 0, rfl, by decide, q1, q2, Nat.le_refl _⟩⟩
  show runL (sSeq (sSet 1 (sC (.int 7))) (sSeq (sFor (sItems (sVar 0)) (gN 2) (sSet 1 (sOp vMod (sCons (sOp vInt (sCons (sOp vAdd (sCons (sOp vMul (sCons (sVar 1) (sCons (sC (.int 48271)) sNil))) (sCons (sVar 2) sNil))) sNil)) (sCons (sC (.int 2147483647)) sNil))))) (sRet (sOp vLst (sCons (sC (.int 0)) (sCons (sC (.int 0)) (sCons (sVar 1) (sCons (sStab (sOp vList (sCons (sVar 0) sNil))) (sCons (sC (.int 0)) sNil))))))))) 3 1 _ = _
  unfold runL
  rw [if_pos (by rfl)]
  rw [x_seq (ρ' := [some (.sh (.list (ns.map .int))), some (.sh (.int 7)), none]) (by simp [startE])]
  rw [x_seq (ρ' := [some (.sh (.list (ns.map .int))), some (.sh (.int s')), l2']) (by rw [← e]; simp [x_sVar])]
  simp [x_sVar, endL]
end W56
end

section
set_option Elab.async false
set_option linter.all false
set_option maxRecDepth 100000
set_option maxHeartbeats 4000000
namespace W56
open PySem PySem.Spec PyProof.Rows L2 DL
open Det (sm)
section
variable {a b c d e : PyData}
theorem at50 : atI [a, b, c, d, e] 0 = some a := rfl
theorem at51 : atI [a, b, c, d, e] 1 = some b := rfl
theorem at52 : atI [a, b, c, d, e] 2 = some c := rfl
theorem at53 : atI [a, b, c, d, e] 3 = some d := rfl
theorem at54 : atI [a, b, c, d, e] 4 = some e := rfl
theorem ix50 : ixN 5 0 = some 0 := rfl
theorem ix51 : ixN 5 1 = some 1 := rfl
theorem ix54 : ixN 5 4 = some 4 := rfl
end
def drA : DS := (sSeq (sSetIx 0 (sOp vAbs (sCons (sOp vIx (sCons (sOp vIx (sCons (sVar 0) (sCons (sC (.int 3)) sNil))) (sCons (sOp vIx (sCons (sVar 0) (sCons (sC (.int 1)) sNil))) sNil))) sNil)) (sC (.int 0))) (sSetIx 0 (sOp vAdd (sCons (sOp vIx (sCons (sVar 0) (sCons (sC (.int 1)) sNil))) (sCons (sC (.int 1)) sNil))) (sC (.int 1))))
def drB : DS := (sSeq (sSetIx 0 (sOp vAdd (sCons (sOp vIx (sCons (sVar 0) (sCons (sC (.int 4)) sNil))) (sCons (sC (.int 1)) sNil))) (sC (.int 4))) (sSeq (sSet 2 (sOp vMod (sCons (sOp vInt (sCons (sOp vAdd (sCons (sOp vAdd (sCons (sOp vMul (sCons (sOp vIx (sCons (sVar 0) (sCons (sC (.int 2)) sNil))) (sCons (sC (.int 48271)) sNil))) (sCons (sOp vMul (sCons (sOp vIx (sCons (sVar 0) (sCons (sC (.int 4)) sNil))) (sCons (sC (.int 69621)) sNil))) sNil))) (sCons (sC (.int 12345)) sNil))) sNil)) (sCons (sC (.int 2147483647)) sNil)))) (sSeq (sSet 2 (sOp vMod (sCons (sOp vInt (sCons (sOp vAdd (sCons (sOp vAdd (sCons (sOp vMul (sCons (sVar 2) (sCons (sVar 2) sNil))) (sCons (sOp vMul (sCons (sC (.int 16807)) (sCons (sOp vIx (sCons (sVar 0) (sCons (sC (.int 4)) sNil))) sNil))) sNil))) (sCons (sC (.int 7)) sNil))) sNil)) (sCons (sC (.int 998244353)) sNil)))) (sSeq (sSet 2 (sOp vMod (sCons (sOp vInt (sCons (sOp vAdd (sCons (sOp vAdd (sCons (sOp vMul (sCons (sVar 2) (sCons (sVar 2) sNil))) (sCons (sOp vMul (sCons (sC (.int 48271)) (sCons (sOp vIx (sCons (sVar 0) (sCons (sC (.int 4)) sNil))) sNil))) sNil))) (sCons (sOp vIx (sCons (sVar 0) (sCons (sC (.int 2)) sNil))) sNil))) sNil)) (sCons (sC (.int 2147483629)) sNil)))) (sSetIx 0 (sOp vDiv (sCons (sVar 2) (sCons (sC (.int 13)) sNil))) (sC (.int 0)))))))
def drC : DS := (sSeq (sSet 3 (sOp vMod (sCons (sOp vInt (sCons (sOp vIx (sCons (sVar 0) (sCons (sC (.int 0)) sNil))) sNil)) (sCons (sVar 1) sNil)))) (sSeq (sSetIx 0 (sOp vDiv (sCons (sOp vIx (sCons (sVar 0) (sCons (sC (.int 0)) sNil))) (sCons (sVar 1) sNil))) (sC (.int 0))) (sRet (sVar 3))))
def drT1 : DT := (sAnd (sTst (sOp (vEqD false) (sCons (sOp vIx (sCons (sVar 0) (sCons (sC (.int 0)) sNil))) (sCons (sC (.int 0)) sNil)))) (sTst (sOp vLt (sCons (sOp vIx (sCons (sVar 0) (sCons (sC (.int 1)) sNil))) (sCons (sOp vLen (sCons (sOp vIx (sCons (sVar 0) (sCons (sC (.int 3)) sNil))) sNil)) sNil)))))
def drT2 : DT := (sTst (sOp (vEqD false) (sCons (sOp vIx (sCons (sVar 0) (sCons (sC (.int 0)) sNil))) (sCons (sC (.int 0)) sNil))))
theorem szi (x : Int) (h1 : 0 ≤ x) (h2 : x ≤ 4294967296) : Sz 40 x := Sz.of_le (b := 4294967296) (by omega) (by decide)
theorem dr_A {h s : Int} {i c : Nat} {ns : List Int} {bound : Int} (l2 l3 : Option Val) (hi : i < ns.length) : ∃ h', 0 ≤ h' ∧ drA [some (.ow [.int h, .int i, .int s, .list (ns.map .int), .int c]), some (.sh (.int bound)), l2, l3] = some (.nx [some (.ow [.int h', .int ((i + 1 : Nat) : Int), .int s, .list (ns.map .int), .int c]), some (.sh (.int bound)), l2, l3]) := by
  have e : atI (ns.map PyData.int) (i : Int) = some (.int ns[i]) := atI_nat (by rw [List.getElem?_map, List.getElem?_eq_getElem hi]; rfl)
  refine ⟨if ns[i] < 0 then -ns[i] else ns[i], by split <;> omega, ?_⟩
  unfold drA
  rw [x_seq (ρ' := [some (.ow [.int (if ns[i] < 0 then -ns[i] else ns[i]), .int i, .int s, .list (ns.map .int), .int c]), some (.sh (.int bound)), l2, l3]) (by
    simp [x_sVar, at53, at51, e, ix50])]
  simp [x_sVar, at51, ix51]
theorem dr_B {h s : Int} {i c : Nat} {ns : List Int} {bound : Int} (l2 l3 : Option Val) (hs : 0 ≤ s) (hs2 : s < 2147483647) (hc : c ≤ 100000) : ∃ h' l2', 0 ≤ h' ∧ drB [some (.ow [.int h, .int i, .int s, .list (ns.map .int), .int c]), some (.sh (.int bound)), l2, l3] = some (.nx [some (.ow [.int h', .int i, .int s, .list (ns.map .int), .int ((c + 1 : Nat) : Int)]), some (.sh (.int bound)), l2', l3]) := by
  have m1 : CMulZ s 48271 := cmul_of (szi s hs (by omega)) (szi 48271 (by decide) (by decide)) (by omega)
  have m2 : CMulZ ((c : Int) + 1) 69621 := cmul_of (szi _ (by omega) (by omega)) (szi 69621 (by decide) (by decide)) (by omega)
  have m3 : CMulZ 16807 ((c : Int) + 1) := cmul_of (szi 16807 (by decide) (by decide)) (szi _ (by omega) (by omega)) (by omega)
  have m4 : CMulZ 48271 ((c : Int) + 1) := cmul_of (szi 48271 (by decide) (by decide)) (szi _ (by omega) (by omega)) (by omega)
  obtain ⟨n1, hn1⟩ : ∃ n1, n1 = (s * 48271 + ((c : Int) + 1) * 69621 + 12345).fmod 2147483647 := ⟨_, rfl⟩
  have b1 : 0 ≤ n1 ∧ n1 < 2147483647 := ⟨hn1 ▸ Int.fmod_nonneg_of_pos _ (by decide), hn1 ▸ Int.fmod_lt_of_pos _ (by decide)⟩
  have m5 : CMulZ n1 n1 := cmul_of (szi _ (by omega) (by omega)) (szi _ (by omega) (by omega)) (by omega)
  obtain ⟨n2, hn2⟩ : ∃ n2, n2 = (n1 * n1 + 16807 * ((c : Int) + 1) + 7).fmod 998244353 := ⟨_, rfl⟩
  have b2 : 0 ≤ n2 ∧ n2 < 998244353 := ⟨hn2 ▸ Int.fmod_nonneg_of_pos _ (by decide), hn2 ▸ Int.fmod_lt_of_pos _ (by decide)⟩
  have m6 : CMulZ n2 n2 := cmul_of (szi _ (by omega) (by omega)) (szi _ (by omega) (by omega)) (by omega)
  obtain ⟨n3, hn3⟩ : ∃ n3, n3 = (n2 * n2 + 48271 * ((c : Int) + 1) + s).fmod 2147483629 := ⟨_, rfl⟩
  have b3 : 0 ≤ n3 ∧ n3 < 2147483629 := ⟨hn3 ▸ Int.fmod_nonneg_of_pos _ (by decide), hn3 ▸ Int.fmod_lt_of_pos _ (by decide)⟩
  have cd : CDivZ n3 13 := by unfold CDivZ; decide
  refine ⟨n3.fdiv 13, some (.sh (.int n3)), Int.fdiv_nonneg b3.1 (by decide), ?_⟩
  unfold drB
  rw [x_seq (ρ' := [some (.ow [.int h, .int i, .int s, .list (ns.map .int), .int ((c : Int) + 1)]), some (.sh (.int bound)), l2, l3]) (by
    simp [x_sVar, at54, ix54])]
  rw [x_seq (ρ' := [some (.ow [.int h, .int i, .int s, .list (ns.map .int), .int ((c : Int) + 1)]), some (.sh (.int bound)), some (.sh (.int n1)), l3]) (by
    simp [x_sVar, at54, at52, m1, m2, ← hn1])]
  rw [x_seq (ρ' := [some (.ow [.int h, .int i, .int s, .list (ns.map .int), .int ((c : Int) + 1)]), some (.sh (.int bound)), some (.sh (.int n2)), l3]) (by
    simp [x_sVar, at54, at52, m3, m5, ← hn2])]
  rw [x_seq (ρ' := [some (.ow [.int h, .int i, .int s, .list (ns.map .int), .int ((c : Int) + 1)]), some (.sh (.int bound)), some (.sh (.int n3)), l3]) (by
    simp [x_sVar, at54, at52, m4, m6, ← hn3])]
  simp [x_sVar, at50, ix50, cd]
theorem dr_C {h s : Int} {i c : Nat} {ns : List Int} {bound : Int} (l2 l3 : Option Val) (hb : 0 < bound) (hl : bound.natAbs.log2 < 9000) : drC [some (.ow [.int h, .int i, .int s, .list (ns.map .int), .int c]), some (.sh (.int bound)), l2, l3] = some (.rt (.sh (.int (h.fmod bound))) [some (.ow [.int (h.fdiv bound), .int i, .int s, .list (ns.map .int), .int c]), some (.sh (.int bound)), l2, some (.sh (.int (h.fmod bound)))]) := by
  have cd : CDivZ h bound := ⟨by omega, hl⟩
  have b0 : bound ≠ 0 := by omega
  unfold drC
  rw [x_seq (ρ' := [some (.ow [.int h, .int i, .int s, .list (ns.map .int), .int c]), some (.sh (.int bound)), l2, some (.sh (.int (h.fmod bound)))]) (by simp [x_sVar, at50, b0])]
  rw [x_seq (ρ' := [some (.ow [.int (h.fdiv bound), .int i, .int s, .list (ns.map .int), .int c]), some (.sh (.int bound)), l2, some (.sh (.int (h.fmod bound)))]) (by simp [x_sVar, at50, ix50, cd])]
  simp [x_sVar]
theorem F_draw_eq {m : Nat} {ds : List PyData} (D : Deck m ds) (hm : m ≤ 100000) (bound : Int) (hb : 0 < bound) (hl : bound.natAbs.log2 < 9000) : ∃ v ds', F__law_draw ds [.int bound] = some (.int v, ds') ∧ 0 ≤ v ∧ v < bound ∧ Deck (m + 1) ds' := by
  obtain ⟨h, i, s, ns, c, rfl, h0, s0, s1, cm⟩ := D.ex
  -- the state behind the ifs
  have key : ∃ (h' : Int) (i' c' : Nat) (l2 : Option Val), 0 ≤ h' ∧ c' ≤ m + 1 ∧ sIf drT1 drA (sIf drT2 drB sNext) [some (.ow [.int h, .int i, .int s, .list (ns.map .int), .int c]), some (.sh (.int bound)), none, none] = some (.nx [some (.ow [.int h', .int i', .int s, .list (ns.map .int), .int c']), some (.sh (.int bound)), l2, none]) := by
    have t2 : drT2 [some (.ow [.int h, .int i, .int s, .list (ns.map .int), .int c]), some (.sh (.int bound)), none, none] = some (h == 0, [some (.ow [.int h, .int i, .int s, .list (ns.map .int), .int c]), some (.sh (.int bound)), none, none]) := by
      simp [drT2, x_sVar, at50]
    have t1 : drT1 [some (.ow [.int h, .int i, .int s, .list (ns.map .int), .int c]), some (.sh (.int bound)), none, none] = some ((h == 0) && decide (i < ns.length), [some (.ow [.int h, .int i, .int s, .list (ns.map .int), .int c]), some (.sh (.int bound)), none, none]) := by
      by_cases z : h = 0
      · simp [drT1, x_sVar, at50, at51, at53, z]
      · simp [drT1, x_sVar, at50, at51, at53, z]
    by_cases z : h = 0
    · by_cases hi : i < ns.length
      · obtain ⟨h', p, e⟩ := dr_A (h := h) (s := s) (c := c) (bound := bound) none none hi
        exact ⟨h', i + 1, c, none, p, by omega, by rw [if_t (t1.trans (by rw [show ((h == 0) && decide (i < ns.length)) = true by simp [z, hi]])), e]⟩
      · obtain ⟨h', l2', p, e⟩ := dr_B (h := h) (s := s) (i := i) (c := c) (ns := ns) (bound := bound) none none s0 s1 (by omega)
        exact ⟨h', i, c + 1, l2', p, by omega, by rw [if_f (t1.trans (by rw [show ((h == 0) && decide (i < ns.length)) = false by simp [hi]])), if_t (t2.trans (by rw [show (h == 0) = true by simp [z]])), e]⟩
    · exact ⟨h, i, c, none, h0, by omega, by rw [if_f (t1.trans (by rw [show ((h == 0) && decide (i < ns.length)) = false by simp [z]])), if_f (t2.trans (by rw [show (h == 0) = false by simp [z]]))]; rfl⟩
  obtain ⟨h', i', c', l2, h0', cm', e⟩ := key
  refine ⟨h'.fmod bound, [.int (h'.fdiv bound), .int i', .int s, .list (ns.map .int), .int c'], ?_, Int.fmod_nonneg_of_pos _ hb, Int.fmod_lt_of_pos _ hb, ⟨_, i', s, ns, c', rfl, Int.fdiv_nonneg h0' (by omega), s0, s1, cm'⟩⟩
  show runB (sSeq (sIf drT1 drA (sIf drT2 drB sNext)) drC) 4 2 _ _ = _
  unfold runB
  rw [if_pos (by rfl)]
  rw [show startB 4 [.int h, .int i, .int s, .list (ns.map .int), .int c] [.int bound] = [some (.ow [.int h, .int i, .int s, .list (ns.map .int), .int c]), some (.sh (.int bound)), none, none] from rfl]
  rw [x_seq e, dr_C _ _ hb hl]
  rfl
end W56
end

section
set_option Elab.async false
set_option linter.all false
set_option maxRecDepth 100000
set_option maxHeartbeats 4000000
namespace W56
open PySem PySem.Spec PyProof.Rows L2 DL
open Det (sm)
/-! short texts of ints -/
theorem shown_int_len {i : Int} {k : Nat} (hk : 1 ≤ k) (h : i.natAbs < 10 ^ k) : (PyData.shown (.int i)).length ≤ k + 1 := by
  have e := int_text_length_le10 hk h
  show (Str.ofString (toString i)).length ≤ _
  rw [PySem.ofString_length]; exact e
theorem leaves_R {n : Nat} {f : Nat → Int} (h : ∀ i, i < n → (f i).natAbs < 10 ^ 60) : PyData.leavesShortAll 100 (intR n f) = true := by
  have key : ∀ xs : List PyData, (∀ x ∈ xs, PyData.leavesShort 100 x = true) → PyData.leavesShortAll 100 xs = true := by
    intro xs
    induction xs with
    | nil => intro _; simp [PyData.leavesShortAll]
    | cons x xs ih => intro h; simp only [PyData.leavesShortAll, Bool.and_eq_true]; exact ⟨h x (by simp), ih fun y hy => h y (by simp [hy])⟩
  refine key _ fun x hx => ?_
  obtain ⟨i, hi, rfl⟩ := List.mem_map.mp hx
  simp only [PyData.leavesShort, decide_eq_true_eq]
  exact Nat.le_trans (shown_int_len (k := 60) (by omega) (h i (List.mem_range.mp hi))) (by omega)
theorem all_ints {n : Nat} {f : Nat → Int} : ∀ x ∈ intR n f, ∃ i, x = .int i := fun x hx => by
  obtain ⟨i, hi, rfl⟩ := List.mem_map.mp hx
  exact ⟨_, rfl⟩
theorem depth_ints : ∀ xs : List PyData, (∀ x ∈ xs, ∃ i, x = .int i) → PyData.depthAll xs = 0
  | [], _ => by simp [PyData.depthAll]
  | x :: xs, h => by
    obtain ⟨i, rfl⟩ := h x (by simp)
    simp [PyData.depthAll, PyData.depth, depth_ints xs fun y hy => h y (by simp [hy])]
theorem bulk_ints : ∀ xs : List PyData, (∀ x ∈ xs, ∃ i, x = .int i) → PyData.bulkAll xs = xs.length
  | [], _ => by simp [PyData.bulkAll]
  | x :: xs, h => by
    obtain ⟨i, rfl⟩ := h x (by simp)
    simp [PyData.bulkAll, PyData.bulk, bulk_ints xs fun y hy => h y (by simp [hy])]; omega
theorem show_ints : ∀ xs : List PyData, (∀ x ∈ xs, ∃ i, x = .int i ∧ i.natAbs < 10 ^ 60) → PyData.showableAll xs = true ∧ PyData.hasDictAll xs = false
  | [], _ => by simp [PyData.showableAll, PyData.hasDictAll]
  | x :: xs, h => by
    obtain ⟨i, rfl, hi⟩ := h x (by simp)
    obtain ⟨h1, h2⟩ := show_ints xs fun y hy => h y (by simp [hy])
    have s : Sz 200 i := Sz.of_le (b := 10 ^ 60) (by omega) (by decide)
    have := s.lg
    have q : i.natAbs.log2 < 1920 := by omega
    simp [PyData.showableAll, PyData.hasDictAll, PyData.showable, PyData.hasDict, h1, h2, q]
theorem okShow_R {n : Nat} {f : Nat → Int} (hn : n ≤ 100) (h : ∀ i, i < n → (f i).natAbs < 10 ^ 60) : okShow (dvec n f) = true := by
  unfold okShow
  have l := leaves_R h
  have d := depth_ints _ (all_ints (n := n) (f := f))
  have b := bulk_ints _ (all_ints (n := n) (f := f))
  obtain ⟨h1, h2⟩ := show_ints (intR n f) fun x hx => by
    obtain ⟨i, hi, rfl⟩ := List.mem_map.mp hx
    exact ⟨_, rfl, h i (List.mem_range.mp hi)⟩
  rw [intR_len] at b
  simp [dvec, PyData.depth, PyData.leavesShort, PyData.bulk, PyData.showable, PyData.hasDict, l, d, b, h1, h2]
  omega
theorem F_is_eq {n : Nat} {f : Nat → Int} (hn : n ≤ 100) (h : ∀ i, i < n → (f i).natAbs < 10 ^ 60) : F__law_is [dvec n f, dvec n f] = some (.bool true) := by
  have ok := okShow_R hn h
  have rp : ∀ (i : Nat) (ρ : DL.Env), ρ[i]? = some (some (.sh (dvec n f))) → sOp vRepr (sCons (sVar i) sNil) ρ = some (.sh (.str (dvec n f).shown), ρ) := fun i ρ e => by
    rw [op1 (var_sh e)]
    rw [x_repr, x_dat_sh]
    simp only [Option.bind_some]
    rw [if_pos ⟨ok, rfl⟩]
  show runD (sRet (sOp (vEqS false) (sCons (sOp vRepr (sCons (sVar 0) sNil)) (sCons (sOp vRepr (sCons (sVar 1) sNil)) sNil)))) 2 2 _ = _
  rw [runD_eq (np := 2) (by rfl)]
  rw [ret_sh ((op2 (rp 0 _ rfl) (rp 1 _ rfl)).trans x_eqS)]
  simp [endD]
/-! _law_list -/
structure Closed (p : Int) (g : Nat) (c a : Nat → Int) (k : Nat) : Prop where
  a0 : a 0 = 1
  low : ∀ i, i < g → a (i + 1) = c i
  back : ∀ i, i ≤ g → a (2 * g - i) = p ^ (g - i) * a i
  sza : ∀ i, i ≤ g → Sz k (a i)
  szp : Sz k p
theorem cut_last (ds : List PyData) (d : PyData) : DL.cutD (ds ++ [d]) none (some (-1)) = ds := by
  unfold DL.cutD
  rw [HT.sIx_none]
  have : HT.sIx (ds ++ [d]).length (ds ++ [d]).length (some (-1)) = ds.length := by
    show (if (-1 : Int) < 0 then (-1 + ((ds ++ [d]).length : Int)).toNat else min (-1 : Int).toNat (ds ++ [d]).length) = ds.length
    rw [if_pos (by decide), List.length_append]
    show (-1 + ((ds.length + 1 : Nat) : Int)).toNat = _
    omega
  rw [this]
  simp
def llTurn : DS := (sSeq (sSet 3 (sOp vMul (sCons (sVar 3) (sCons (sVar 0) sNil)))) (sExp (sMt 2 mAppend (sCons (sOp vMul (sCons (sVar 3) (sCons (sVar 4) sNil))) sNil))))
theorem ll_turn {g k t : Nat} {c a : Nat → Int} {p : Int} (C : Closed p g c a k) (hg : g ≤ 100) (hk : k ≤ 50000) (ht : t < g) : llTurn [some (.sh (.int p)), some (.sh (dvec g c)), some (.ow (intR (g + 1 + t) a)), some (.sh (.int (p ^ t))), some (.sh (.int (a (g - 1 - t))))] =
    some (.nx [some (.sh (.int p)), some (.sh (dvec g c)), some (.ow (intR (g + 1 + (t + 1)) a)), some (.sh (.int (p ^ (t + 1)))), some (.sh (.int (a (g - 1 - t))))]) := by
  unfold llTurn
  have kt : k * t ≤ 50000 * 100 := Nat.mul_le_mul hk (by omega)
  have kt2 : k * (t + 1) ≤ 50000 * 101 := Nat.mul_le_mul hk (by omega)
  have m1 : CMulZ (p ^ t) p := cmul_of (C.szp.pow t) C.szp (by omega)
  have m2 : CMulZ (p ^ (t + 1)) (a (g - 1 - t)) := cmul_of (C.szp.pow (t + 1)) (C.sza _ (by omega)) (by omega)
  have ln : g + 1 + t < 16000000 := by omega
  have bk := C.back (g - 1 - t) (by omega)
  rw [show 2 * g - (g - 1 - t) = g + 1 + t by omega, show g - (g - 1 - t) = t + 1 by omega] at bk
  rw [x_seq (set1 ((op2 (var_sh rfl) (var_sh rfl)).trans (mul2 m1)) rfl), ← Int.pow_succ]
  simp [x_sVar, m2, intR_len, ln]
  rw [show g + 1 + (t + 1) = (g + 1 + t) + 1 by omega, intR_succ, bk]
theorem F_law_list_eq {g k : Nat} {c a : Nat → Int} {p : Int} (C : Closed p g c a k) (hg : g ≤ 100) (hg0 : 0 < g) (hk : k ≤ 50000) : F__law_list [.int p, dvec g c] = some (dvec (2 * g + 1) a) := by
  show runD (sSeq (sSet 2 (sOp vCat (sCons (sOp vLst (sCons (sC (.int 1)) sNil)) (sCons (sOp vList (sCons (sVar 1) sNil)) sNil)))) (sSeq (sSet 3 (sC (.int 1))) (sSeq (sFor (sItems (sOp vRev (sCons (sSlice (sVar 2) sNoP (sPart (sOp vNeg (sCons (sC (.int 1)) sNil)))) sNil))) (gN 4) llTurn) (sRet (sVar 2))))) 5 2 _ = _
  rw [runD_eq (np := 2) (by rfl)]
  have front : .int 1 :: intR g c = intR (g + 1) a := by
    unfold intR
    rw [List.range_succ_eq_map, List.map_cons, List.map_map, C.a0]
    congr 1
    exact List.map_congr_left fun i hi => by
      show _ = PyData.int (a (i + 1))
      rw [C.low i (List.mem_range.mp hi)]
  rw [x_seq (ρ' := [some (.sh (.int p)), some (.sh (dvec g c)), some (.ow (intR (g + 1) a)), none, none]) (by
    have ln : 1 + g ≤ 16000000 := by omega
    rw [← front]
    simp [x_sVar, startE, dvec, intR_len, ln])]
  rw [x_seq (ρ' := [some (.sh (.int p)), some (.sh (dvec g c)), some (.ow (intR (g + 1) a)), some (.sh (.int 1)), none]) (by simp)]
  have it : sItems (sOp vRev (sCons (sSlice (sVar 2) sNoP (sPart (sOp vNeg (sCons (sC (.int 1)) sNil)))) sNil)) [some (.sh (.int p)), some (.sh (dvec g c)), some (.ow (intR (g + 1) a)), some (.sh (.int 1)), none] = some ((intR g a).reverse, [some (.sh (.int p)), some (.sh (dvec g c)), some (.ow (intR (g + 1) a)), some (.sh (.int 1)), none]) := by
    have := cut_last (intR g a) (.int (a g))
    rw [← intR_succ] at this
    simp [x_sVar, this]
  obtain ⟨ρ', e, l4, P⟩ := forL_inv (t := gN 4) (s := llTurn) (fun t ρ => ∃ l4, ρ = [some (.sh (.int p)), some (.sh (dvec g c)), some (.ow (intR (g + 1 + t) a)), some (.sh (.int (p ^ t))), l4]) (intR g a).reverse 0 _ ⟨none, rfl⟩ (by
    rintro i d ρ hd ⟨l4, rfl⟩
    have hi : i < g := by
      have := (List.getElem?_eq_some_iff.mp hd).1
      simpa [intR_len] using this
    have ed : d = .int (a (g - 1 - i)) := by
      rw [List.getElem?_reverse (by rw [intR_len]; exact hi), intR_len, intR_get (by omega)] at hd
      exact (Option.some.inj hd).symm
    subst ed
    have := ll_turn C hg hk (t := 0 + i) (by omega)
    rw [show g - 1 - (0 + i) = g - 1 - i by omega] at this
    exact ⟨_, _, rfl, .inl this, _, rfl⟩)
  have ln2 : (intR g a).reverse.length = g := by simp [intR_len]
  rw [ln2, Nat.zero_add] at P
  rw [Int.pow_zero] at e
  rw [x_seq ((for1 it).trans e), P, show g + 1 + g = 2 * g + 1 by omega]
  simp [x_sVar, endD, dvec]
/-! _law_product -/
theorem F_product_eq {N k l : Nat} {A B : Det.Mat Int} (hN : N ≤ 1000) (hA : ∀ i j, i < N → j < N → Sz k (A i j)) (hB : ∀ i j, i < N → j < N → Sz l (B i j)) (hkl : k + l ≤ 1000000) : F__law_product [dmat N A, dmat N B] = some (dmat N (Det.mmul N A B)) := by
  show runD (sSeq (sSet 2 (sOp vLen (sCons (sVar 0) sNil))) (sRet (sComp (sItems (sVar 0)) (gN 3) sYes (sStab (sComp (sRng (sCons (sVar 2) sNil)) (gN 4) sYes (sOp vSum (sCons (sComp (sRng (sCons (sVar 2) sNil)) (gN 5) sYes (sOp vMul (sCons (sOp vIx (sCons (sVar 3) (sCons (sVar 5) sNil))) (sCons (sOp vIx (sCons (sOp vIx (sCons (sVar 1) (sCons (sVar 5) sNil))) (sCons (sVar 4) sNil))) sNil))) [5]) sNil)) [4])) [3]))) 6 2 _ = _
  rw [runD_eq (np := 2) (by rfl)]
  have rg : -4611686018427387904 ≤ (N : Int) ∧ (N : Int) < 4611686018427387904 := by omega
  rw [x_seq (ρ' := [some (.sh (dmat N A)), some (.sh (dmat N B)), some (.sh (.int N)), none, none, none]) (by simp [x_sVar, startE, dmat])]
  have c3 : ∀ i j, i < N → j < N → sComp (sRng (sCons (sVar 2) sNil)) (gN 5) sYes (sOp vMul (sCons (sOp vIx (sCons (sVar 3) (sCons (sVar 5) sNil))) (sCons (sOp vIx (sCons (sOp vIx (sCons (sVar 1) (sCons (sVar 5) sNil))) (sCons (sVar 4) sNil))) sNil))) [5] [some (.sh (dmat N A)), some (.sh (dmat N B)), some (.sh (.int N)), some (.sh (dvec N (A i))), some (.sh (.int (0 + (j : Nat)))), none] = some (.ow (intR N fun k => A i k * B k j), [some (.sh (dmat N A)), some (.sh (dmat N B)), some (.sh (.int N)), some (.sh (dvec N (A i))), some (.sh (.int (0 + (j : Nat)))), none]) := by
    intro i j hi hj
    refine comp_int1 (lo := 0) (n := N) _ (by simp [x_sVar, rg]) (by omega) fun k hk => ?_
    have a1 : atI (intR N (A i)) (0 + (k : Int)) = some (.int (A i k)) := intR_at k (by omega) hk
    have a2 := mat_at (A := B) (i := 0 + (k : Int)) k (by omega) hk
    have a3 : atI (intR N (B k)) (0 + (j : Int)) = some (.int (B k j)) := intR_at j (by omega) hj
    have m := cmul_of (hA i k hi hk) (hB k j hk hj) (by omega)
    exact (op2 ((op2 (var_sh rfl) (var_sh rfl)).trans (ixl a1)) ((op2 ((op2 (var_sh rfl) (var_sh rfl)).trans (ixl a2)) (var_sh rfl)).trans (ixl a3))).trans (mul2 m)
  have c2 : ∀ i, i < N → sComp (sRng (sCons (sVar 2) sNil)) (gN 4) sYes (sOp vSum (sCons (sComp (sRng (sCons (sVar 2) sNil)) (gN 5) sYes (sOp vMul (sCons (sOp vIx (sCons (sVar 3) (sCons (sVar 5) sNil))) (sCons (sOp vIx (sCons (sOp vIx (sCons (sVar 1) (sCons (sVar 5) sNil))) (sCons (sVar 4) sNil))) sNil))) [5]) sNil)) [4] [some (.sh (dmat N A)), some (.sh (dmat N B)), some (.sh (.int N)), some (.sh (dvec N (A i))), none, none] = some (.ow (intR N fun j => Det.mmul N A B i j), [some (.sh (dmat N A)), some (.sh (dmat N B)), some (.sh (.int N)), some (.sh (dvec N (A i))), none, none]) := by
    intro i hi
    refine comp_int1 (lo := 0) (n := N) _ (by simp [x_sVar, rg]) (by omega) fun j hj => ?_
    refine (op1 (c3 i j hi hj)).trans ?_
    simp [intsOf_R, sum_range]
    rfl
  have c1 := comp_items1 (it := sItems (sVar 0)) (f := sStab (sComp (sRng (sCons (sVar 2) sNil)) (gN 4) sYes (sOp vSum (sCons (sComp (sRng (sCons (sVar 2) sNil)) (gN 5) sYes (sOp vMul (sCons (sOp vIx (sCons (sVar 3) (sCons (sVar 5) sNil))) (sCons (sOp vIx (sCons (sOp vIx (sCons (sVar 1) (sCons (sVar 5) sNil))) (sCons (sVar 4) sNil))) sNil))) [5]) sNil)) [4])) (v := 3)
    (ρ := [some (.sh (dmat N A)), some (.sh (dmat N B)), some (.sh (.int N)), none, none, none]) (ρ1 := [some (.sh (dmat N A)), some (.sh (dmat N B)), some (.sh (.int N)), none, none, none])
    (ds := (List.range N).map fun i => dvec N (A i)) (fun d => match d with
      | .list xs => .list (intR N fun j => sm N fun k => (match xs.getD k .none with | .int x => x | _ => 0) * B k j)
      | d => d) (by simp [x_sVar, dmat]) (by simp; omega) (fun d hd => by
      obtain ⟨i, hi, rfl⟩ := List.mem_map.mp hd
      have hi := List.mem_range.mp hi
      refine (stab_ow (c2 i hi)).trans ?_
      congr 4
      refine intR_congr fun j hj => ?_
      refine Det.sm_congr fun k hk => ?_
      rw [List.getD_eq_getElem?_getD, intR_get hk]
      rfl)
  rw [ret_ow c1]
  show some (PyData.list _) = some (PyData.list _)
  rw [List.map_map]
  congr 2
  refine List.map_congr_left fun i hi => ?_
  show PyData.list _ = PyData.list _
  congr 1
  refine intR_congr fun j hj => ?_
  refine Det.sm_congr fun k hk => ?_
  rw [List.getD_eq_getElem?_getD, intR_get hk]
  rfl
end W56
end

section
set_option Elab.async false
set_option linter.all false
set_option maxRecDepth 100000
set_option maxHeartbeats 4000000
namespace W56
open PySem PySem.Spec PyProof.Rows L2 DL
open Det (sm Lst HH over comp mmul mpow tr)
structure Good (p : Int) (g : Nat) (a : Nat → Int) (e n : Nat) : Prop where
  L : Lst p g a
  hg : g ≤ 4
  hp : p ≤ 61
  sza : ∀ i, i ≤ 2 * g → Sz e (a i)
  e1 : 1 ≤ e
  e48 : e ≤ 48
  en : (e + 3) * n ≤ 1320
  n1 : 1 ≤ n
  n40 : n ≤ 40
def SS (g : Nat) (a : Nat → Int) (m : Nat) : Int := - tr (2 * g) (HH g a m)
theorem sm_cut {f : Nat → Int} {k : Nat} : ∀ n, k ≤ n → (∀ i, k ≤ i → i < n → f i = 0) → sm n f = sm k f := by
  intro n hk
  induction n with
  | zero => intro _; rw [show k = 0 by omega]
  | succ n ih =>
    intro h
    by_cases e : k = n + 1
    · rw [e]
    · show sm n f + f n = _
      rw [ih (by omega) fun i h1 h2 => h i h1 (by omega), h n (by omega) (by omega)]; omega
section
variable {p : Int} {g : Nat} {a : Nat → Int} {e n : Nat}
theorem Good.szp (G : Good p g a e n) : Sz 6 p := by
  have := G.hp; have := G.L.p0
  exact Sz.of_le (b := 61) (by omega) (by decide)
theorem Good.comp (G : Good p g a e n) (i j : Nat) (hi : i < 2 * g) (hj : j < 2 * g) : Sz e (comp (2 * g) a i j) := by
  unfold Det.comp
  split
  · unfold Det.dl
    split
    · exact (Sz.one (k := 0)).mono (by have := G.e1; omega)
    · exact Sz.zero
  · exact (G.sza _ (by omega)).neg
theorem Good.hh (G : Good p g a e n) : ∀ (m i j : Nat), i < 2 * g → j < 2 * g → Sz ((e + 3) * m + 1) (HH g a m i j)
  | 0, i, j, _, _ => by
    show Sz _ (Det.uv i j)
    unfold Det.uv
    split
    · exact Sz.one
    · exact Sz.zero
  | m + 1, i, j, hi, hj => by
    show Sz _ (sm (2 * g) fun k => HH g a m i k * Det.comp (2 * g) a k j)
    have h8 : 2 * g ≤ 2 ^ 3 := by have := G.hg; show _ ≤ 8; omega
    exact (Sz.sm (k := (e + 3) * m + 1 + e) h8 fun k hk => (G.hh m i k hi hk).mul (G.comp k j hk hj)).mono (by rw [Nat.mul_add]; omega)
theorem Good.szS (G : Good p g a e n) (m : Nat) : Sz ((e + 3) * m + 4) (SS g a m) := by
  have h8 : 2 * g ≤ 2 ^ 3 := by have := G.hg; show _ ≤ 8; omega
  exact (Sz.sm (k := (e + 3) * m + 1) h8 fun k hk => G.hh m k k hk hk).neg
theorem Good.sums (G : Good p g a e n) : Sums (2 * g) a (SS g a) 10000 160 := by
  refine ⟨fun m hm => ?_, fun m hm => (G.szS m).mono ?_, fun i hi => (G.sza i hi).mono (by have := G.e48; omega)⟩
  · have nw := Det.list_newton (g := g) G.L.a0 m
    obtain ⟨k, rfl⟩ : ∃ k, m = k + 1 := ⟨m - 1, by omega⟩
    rw [Det.sm_front, if_pos (Nat.zero_le _), G.L.a0, Nat.sub_zero] at nw
    rw [sm_cut (k := min (k + 1) (2 * g + 1) - 1) k (by omega) (fun i h1 h2 => by rw [if_neg (by omega)]; omega)] at nw
    have e1 : sm (min (k + 1) (2 * g + 1) - 1) (fun i => SS g a (k + 1 - (i + 1)) * a (i + 1)) = - sm (min (k + 1) (2 * g + 1) - 1) fun i => (if i + 1 ≤ 2 * g then a (i + 1) else 0) * tr (2 * g) (HH g a (k + 1 - (i + 1))) := by
      rw [show ∀ x : Int, -x = (-1) * x from fun x => by omega, ← Det.sm_mul]
      refine Det.sm_congr fun i hi => ?_
      rw [if_pos (by omega)]
      show - tr (2 * g) (HH g a (k + 1 - (i + 1))) * a (i + 1) = _
      grind
    rw [e1]
    show - tr (2 * g) (HH g a (k + 1)) = _
    by_cases c : k + 1 ≤ 2 * g
    · rw [if_pos c] at nw ⊢; omega
    · rw [if_neg c] at nw ⊢; omega
  · have : (e + 3) * m ≤ 51 * 160 := Nat.mul_le_mul (by have := G.e48; omega) hm
    omega
theorem Sums.cut {N k c c' : Nat} {a S : Nat → Int} (R : Sums N a S k c) (h : c' ≤ c) : Sums N a S k c' := ⟨R.req, fun m hm => R.szS m (by omega), R.sza⟩
/-- the numbers over the greater field, by Newton's sums -/
theorem Good.newt (G : Good p g a e n) (l m : Nat) : (m : Int) * over g a l m = sm m fun i => SS g a (l * (m - i)) * over g a l i := by
  rw [Det.over_newton, show ∀ x : Int, -x = (-1) * x from fun x => by omega, ← Det.sm_mul]
  refine Det.sm_congr fun i _ => ?_
  show _ = - tr (2 * g) (HH g a (l * (m - i))) * over g a l i
  grind
theorem Good.szo (G : Good p g a e n) (l : Nat) (hl : l ≤ 40) : ∀ m, m ≤ 4 → ∀ i, i ≤ m → Sz (8166 * m + 1) (over g a l i) := by
  intro m
  induction m with
  | zero =>
    intro _ i hi
    rw [show i = 0 by omega, Det.over_0]; exact Sz.one
  | succ m ih =>
    intro hm i hi
    by_cases c : i ≤ m
    · exact (ih (by omega) i c).mono (by omega)
    · have ei : i = m + 1 := by omega
      subst ei
      have nw := G.newt l (m + 1)
      have s : Sz (8164 + (8166 * m + 1) + 2) (sm (m + 1) fun i => SS g a (l * (m + 1 - i)) * over g a l i) := by
        refine Sz.sm (by show m + 1 ≤ 4; omega) fun i hi => ?_
        refine Sz.mul ((G.szS _).mono ?_) (ih (by omega) i (by omega))
        have h1 : l * (m + 1 - i) ≤ 40 * 4 := Nat.mul_le_mul hl (by omega)
        have h2 : (e + 3) * (l * (m + 1 - i)) ≤ 51 * 160 := Nat.mul_le_mul (by have := G.e48; omega) h1
        omega
      rw [← nw] at s
      have : Sz (8164 + (8166 * m + 1) + 2) (over g a l (m + 1)) := by
        unfold Sz at *
        refine Nat.lt_of_le_of_lt ?_ s
        rw [Int.natAbs_mul]
        exact Nat.le_mul_of_pos_left _ (by omega)
      exact this.mono (by omega)
theorem Good.made (G : Good p g a e n) (l : Nat) (h1 : 1 ≤ l) (hl : l ≤ 40) : Made g (over g a l) (fun m => SS g a (l * m)) (p ^ l) 50000 := by
  refine ⟨Det.over_0 l, fun m _ _ => G.newt l m, fun i hi => Det.over_back G.L l i hi, fun m hm => (G.szS _).mono ?_, fun i hi => (G.szo l hl 4 (by omega) i (by have := G.hg; omega)).mono (by omega), (G.szp.pow l).mono (by omega)⟩
  have h1 : l * m ≤ 40 * 4 := Nat.mul_le_mul hl (by have := G.hg; omega)
  have h2 : (e + 3) * (l * m) ≤ 51 * 160 := Nat.mul_le_mul (by have := G.e48; omega) h1
  omega
theorem Good.list_over (G : Good p g a e n) (l : Nat) (h1 : 1 ≤ l) (hl : l ≤ 40) : F_list_over [.int p, dvec (2 * g + 1) a, .int l] = some (dvec (2 * g + 1) (over g a l)) :=
  F_list_over_eq ((Sums.cut G.sums (by
    have : g * l ≤ 4 * 40 := Nat.mul_le_mul G.hg hl
    omega)) |> fun R => ⟨R.req, fun m hm => (R.szS m hm).mono (by omega), fun i hi => (R.sza i hi).mono (by omega)⟩) (G.made l h1 hl) G.hg hl h1 (Nat.le_refl _) G.szp
/-- all the numbers of the list are short -/
theorem Good.szo2 (G : Good p g a e n) (l : Nat) (hl : l ≤ 40) (i : Nat) (hi : i ≤ 2 * g) : Sz 40000 (over g a l i) := by
  have h4 := G.hg
  by_cases c : i ≤ g
  · exact (G.szo l hl 4 (by omega) i (by omega)).mono (by omega)
  · have b := Det.over_back G.L l (2 * g - i) (by omega)
    rw [show 2 * g - (2 * g - i) = i by omega] at b
    rw [b]
    have s1 := (G.szp.pow l).pow (g - (2 * g - i))
    have : (6 * l + 1) * (g - (2 * g - i)) ≤ 241 * 4 := Nat.mul_le_mul (by omega) (by omega)
    exact (s1.mul (G.szo l hl 4 (by omega) (2 * g - i) (by omega))).mono (by omega)
end
end W56
end

section
set_option Elab.async false
set_option linter.all false
set_option maxRecDepth 100000
set_option maxHeartbeats 4000000
namespace W56
open PySem PySem.Spec PyProof.Rows L2 DL
open Det (sm Lst HH over mmul mpow tr)
theorem draw1 {m : Nat} {ds : List PyData} {ρ : DL.Env} {bound : Int} {f : DE} (D : Deck m ds) (hm : m ≤ 100000) (h1 : ρ[1]? = some (some (.ow ds))) (hf : f ρ = some (.sh (.int bound), ρ)) (hb : 0 < bound) (hl : bound.natAbs.log2 < 9000) :
    ∃ v ds', sOp (vCallB F__law_draw) (sCons (sVar 1) (sCons f sNil)) ρ = some (.sh (.int v), ρ.set 1 (some (.ow ds'))) ∧ 0 ≤ v ∧ v < bound ∧ Deck (m + 1) ds' := by
  obtain ⟨v, ds', e, v0, v1, D'⟩ := F_draw_eq D hm bound hb hl
  refine ⟨v, ds', ?_, v0, v1, D'⟩
  rw [op2 (var_ow h1) hf, x_vCallB, h1]
  simp [e]
def P17 : List Int := [3, 5, 7, 11, 13, 17, 19, 23, 29, 31, 37, 41, 43, 47, 53, 59, 61]
theorem at_list {xs : List Int} {v : Int} (h0 : 0 ≤ v) (h1 : v < xs.length) : ∃ x, x ∈ xs ∧ atI (xs.map PyData.int) v = some (.int x) := by
  obtain ⟨k, rfl⟩ := Int.eq_ofNat_of_zero_le h0
  have hk : k < xs.length := by omega
  exact ⟨xs[k], List.getElem_mem hk, atI_nat (by rw [List.getElem?_map, List.getElem?_eq_getElem hk]; rfl)⟩
theorem ixo {ds : List PyData} {i : Int} {d : PyData} {ρ : DL.Env} (h : atI ds i = some d) : vIx [.ow ds, .sh (.int i)] ρ = some (.sh d, ρ) := by rw [x_ix, x_lst_ow]; simp [h]
theorem lg_le {b : Int} (h0 : 0 ≤ b) (h : b ≤ 4294967296) : b.natAbs.log2 < 9000 := by
  have := (szi b h0 h).lg
  omega

theorem law_1 {m : Nat} {ds : List PyData} {L : PyData} (D : Deck m ds) (hm : m ≤ 100) : ∃ (p : Int) (ds' : List PyData), 3 ≤ p ∧ p ≤ 61 ∧ Deck (m + 1) ds' ∧ p_law_1 [some (.sh L), some (.ow ds), none, none, none, none, none, none, none, none, none, none, none, none, none, none, none, none, none, none, none, none] = some (.nx [some (.sh L), some (.ow ds'), some (.sh (.int p)), none, none, none, none, none, none, none, none, none, none, none, none, none, none, none, none, none, none, none]) := by
  obtain ⟨v, ds', e, v0, v1, D'⟩ := draw1 (ρ := [some (.sh L), some (.ow ds), none, none, none, none, none, none, none, none, none, none, none, none, none, none, none, none, none, none, none, none]) (f := sC (.int 17)) D (by omega) rfl rfl (by decide) (by decide)
  obtain ⟨p, hp, ep⟩ := at_list (xs := P17) v0 v1
  have bd : ∀ x ∈ P17, (3 : Int) ≤ x ∧ x ≤ 61 := by decide
  refine ⟨p, ds', (bd p hp).1, (bd p hp).2, D', ?_⟩
  unfold p_law_1
  exact set1 ((op2 (w1 := .ow (P17.map .int)) (by simp [P17]) e).trans (ixo ep)) rfl

theorem law_2 {m : Nat} {ds : List PyData} {L : PyData} {p : Int} (D : Deck m ds) (hm : m ≤ 100) : ∃ (g : Nat) (ds' : List PyData), 1 ≤ g ∧ g ≤ 4 ∧ Deck (m + 1) ds' ∧ p_law_2 [some (.sh L), some (.ow ds), some (.sh (.int p)), none, none, none, none, none, none, none, none, none, none, none, none, none, none, none, none, none, none, none] = some (.nx [some (.sh L), some (.ow ds'), some (.sh (.int p)), some (.sh (.int (g : Nat))), none, none, none, none, none, none, none, none, none, none, none, none, none, none, none, none, none, none]) := by
  obtain ⟨v, ds', e, v0, v1, D'⟩ := draw1 (ρ := [some (.sh L), some (.ow ds), some (.sh (.int p)), none, none, none, none, none, none, none, none, none, none, none, none, none, none, none, none, none, none, none]) (f := sC (.int 4)) D (by omega) rfl rfl (by decide) (by decide)
  refine ⟨(1 + v).toNat, ds', by omega, by omega, D', ?_⟩
  rw [show (((1 + v).toNat : Nat) : Int) = 1 + v by omega]
  unfold p_law_2
  exact set1 ((op2 (w1 := .sh (.int 1)) (by rfl) e).trans x_add) rfl

theorem law_3 {m : Nat} {ds : List PyData} {L : PyData} {p g : Int} (D : Deck m ds) (hm : m ≤ 100) : ∃ (M : Int) (ds' : List PyData), 30 ≤ M ∧ M ≤ 1000000000 ∧ (M ≤ 3000 ∨ 3000 < M) ∧ Deck (m + 1) ds' ∧ p_law_3 [some (.sh L), some (.ow ds), some (.sh (.int p)), some (.sh (.int g)), none, none, none, none, none, none, none, none, none, none, none, none, none, none, none, none, none, none] = some (.nx [some (.sh L), some (.ow ds'), some (.sh (.int p)), some (.sh (.int g)), some (.sh (.int M)), none, none, none, none, none, none, none, none, none, none, none, none, none, none, none, none, none]) := by
  obtain ⟨v, ds', e, v0, v1, D'⟩ := draw1 (ρ := [some (.sh L), some (.ow ds), some (.sh (.int p)), some (.sh (.int g)), none, none, none, none, none, none, none, none, none, none, none, none, none, none, none, none, none, none]) (f := sC (.int 4)) D (by omega) rfl rfl (by decide) (by decide)
  obtain ⟨M, hM, eM⟩ := at_list (xs := [30, 30, 3000, 1000000000]) v0 v1
  have bd : ∀ x ∈ [(30 : Int), 30, 3000, 1000000000], (30 : Int) ≤ x ∧ x ≤ 1000000000 := by decide
  refine ⟨M, ds', (bd M hM).1, (bd M hM).2, by omega, D', ?_⟩
  unfold p_law_3
  have cp : CPowZ 10 9 := by unfold CPowZ; decide
  exact set1 ((op2 (w1 := .ow ([30, 30, 3000, 1000000000].map .int)) (by simp [cp]) e).trans (ixo eM)) rfl

/-- the list of ints as a function -/
theorem ints_fun : ∀ {xs : List PyData} {Q : Int → Prop}, (∀ x ∈ xs, ∃ v : Int, x = .int v ∧ Q v) → ∃ c : Nat → Int, xs = intR xs.length c ∧ ∀ i, i < xs.length → Q (c i) := by
  intro xs Q h
  refine ⟨fun i => match xs[i]? with | some (.int v) => v | _ => 0, ?_, fun i hi => ?_⟩
  · apply List.ext_getElem?
    intro i
    by_cases hi : i < xs.length
    · obtain ⟨v, e, _⟩ := h xs[i] (List.getElem_mem hi)
      rw [intR_get hi, List.getElem?_eq_getElem hi, e]
    · rw [List.getElem?_eq_none (by omega), List.getElem?_eq_none (by rw [intR_len]; omega)]
  · obtain ⟨v, e, q⟩ := h xs[i] (List.getElem_mem hi)
    show Q (match xs[i]? with | some (.int v) => v | _ => 0)
    rw [List.getElem?_eq_getElem hi, e]
    exact q
def aOf (g : Nat) (p : Int) (c : Nat → Int) (i : Nat) : Int := if i = 0 then 1 else if i ≤ g then c (i - 1) else p ^ (i - g) * (if 2 * g - i = 0 then 1 else c (2 * g - i - 1))
theorem aOf_back {g : Nat} {p : Int} {c : Nat → Int} (hg : 0 < g) (i : Nat) (hi : i ≤ g) : aOf g p c (2 * g - i) = p ^ (g - i) * aOf g p c i := by
  unfold aOf
  by_cases e : i = g
  · subst e
    rw [show 2 * i - i = i by omega, Nat.sub_self, Int.pow_zero]; omega
  · rw [if_neg (by omega : ¬ 2 * g - i = 0), if_neg (by omega : ¬ 2 * g - i ≤ g), show 2 * g - i - g = g - i by omega, show 2 * g - (2 * g - i) = i by omega]
    by_cases z : i = 0
    · rw [if_pos z, if_pos z]
    · rw [if_neg z, if_neg z, if_pos hi]

def elt4 : DE := (sOp vSub (sCons (sOp (vCallB F__law_draw) (sCons (sVar 1) (sCons (sOp vAdd (sCons (sOp vMul (sCons (sC (.int 2)) (sCons (sVar 4) sNil))) (sCons (sC (.int 1)) sNil))) sNil))) (sCons (sVar 4) sNil)))
def comp4 : DE := (sComp (sRng (sCons (sVar 3) sNil)) (gN 21) sYes elt4 [21])
theorem lc_draws {L : PyData} {p M : Int} {g : Nat} (hM : 30 ≤ M) (hM2 : M ≤ 1000000000) : ∀ (xs acc ds : List PyData) (m : Nat), Deck m ds → m + xs.length ≤ 1000 → ∃ new ds', lcL (gN 21) sYes elt4 [21] xs acc [some (.sh L), some (.ow ds), some (.sh (.int p)), some (.sh (.int (g : Nat))), some (.sh (.int M)), none, none, none, none, none, none, none, none, none, none, none, none, none, none, none, none, none] = some (acc ++ new, [some (.sh L), some (.ow ds'), some (.sh (.int p)), some (.sh (.int (g : Nat))), some (.sh (.int M)), none, none, none, none, none, none, none, none, none, none, none, none, none, none, none, none, none]) ∧ Deck (m + xs.length) ds' ∧ new.length = xs.length ∧ ∀ x ∈ new, ∃ v : Int, x = .int v ∧ (-M ≤ v ∧ v ≤ M)
  | [], acc, ds, m, D, _ => ⟨[], ds, by simp [lcL], D, rfl, fun _ h => nomatch h⟩
  | x :: xs, acc, ds, m, D, hm => by
    rw [List.length_cons] at hm
    obtain ⟨v, ds2, ev, v0, v1, D2⟩ := draw1 (ρ := [some (.sh L), some (.ow ds), some (.sh (.int p)), some (.sh (.int (g : Nat))), some (.sh (.int M)), none, none, none, none, none, none, none, none, none, none, none, none, none, none, none, none, some (.sh x)]) (f := (sOp vAdd (sCons (sOp vMul (sCons (sC (.int 2)) (sCons (sVar 4) sNil))) (sCons (sC (.int 1)) sNil)))) (bound := 2 * M + 1) D (by omega) rfl (by
      have m1 : CMulZ 2 M := cmul_of (szi 2 (by decide) (by decide)) (szi M (by omega) (by omega)) (by omega)
      simp [x_sVar, m1]) (by omega) (lg_le (by omega) (by omega))
    obtain ⟨new, ds', e, D', hl, hn⟩ := lc_draws hM hM2 xs (acc ++ [.int (v - M)]) ds2 (m + 1) D2 (by omega)
    refine ⟨.int (v - M) :: new, ds', ?_, by rw [List.length_cons, show m + (xs.length + 1) = m + 1 + xs.length by omega]; exact D', by simp [hl], fun y hy => ?_⟩
    · have ee : elt4 [some (.sh L), some (.ow ds), some (.sh (.int p)), some (.sh (.int (g : Nat))), some (.sh (.int M)), none, none, none, none, none, none, none, none, none, none, none, none, none, none, none, none, some (.sh x)] = some (.sh (.int (v - M)), [some (.sh L), some (.ow ds2), some (.sh (.int p)), some (.sh (.int (g : Nat))), some (.sh (.int M)), none, none, none, none, none, none, none, none, none, none, none, none, none, none, none, none, some (.sh x)]) := (op2 ev (var_sh rfl)).trans x_sub
      show (gN 21 x [some (.sh L), some (.ow ds), some (.sh (.int p)), some (.sh (.int (g : Nat))), some (.sh (.int M)), none, none, none, none, none, none, none, none, none, none, none, none, none, none, none, none, none]).bind _ = _
      rw [x_gN]
      simp only [Option.bind_some, x_sYes, if_true]
      show (match elt4 [some (.sh L), some (.ow ds), some (.sh (.int p)), some (.sh (.int (g : Nat))), some (.sh (.int M)), none, none, none, none, none, none, none, none, none, none, none, none, none, none, none, none, some (.sh x)] with
        | some (.sh e, ρ3) => lcL (gN 21) sYes elt4 [21] xs (acc ++ [e]) (wipeE ρ3 [21])
        | _ => none) = _
      rw [ee]
      show lcL (gN 21) sYes elt4 [21] xs (acc ++ [.int (v - M)]) [some (.sh L), some (.ow ds2), some (.sh (.int p)), some (.sh (.int (g : Nat))), some (.sh (.int M)), none, none, none, none, none, none, none, none, none, none, none, none, none, none, none, none, none] = _
      rw [e, List.append_assoc]
      rfl
    · rcases List.mem_cons.mp hy with h | h
      · exact ⟨v - M, h, by omega, by omega⟩
      · exact hn y h
theorem comp_4 {m : Nat} {ds : List PyData} {L : PyData} {p M : Int} {g : Nat} (D : Deck m ds) (hm : m ≤ 100) (hg : g ≤ 4) (hM : 30 ≤ M) (hM2 : M ≤ 1000000000) : ∃ (c : Nat → Int) (ds' : List PyData), (∀ i, i < g → -M ≤ c i ∧ c i ≤ M) ∧ Deck (m + g) ds' ∧ comp4 [some (.sh L), some (.ow ds), some (.sh (.int p)), some (.sh (.int (g : Nat))), some (.sh (.int M)), none, none, none, none, none, none, none, none, none, none, none, none, none, none, none, none, none] = some (.ow (intR g c), [some (.sh L), some (.ow ds'), some (.sh (.int p)), some (.sh (.int (g : Nat))), some (.sh (.int M)), none, none, none, none, none, none, none, none, none, none, none, none, none, none, none, none, none]) := by
  have it : sRng (sCons (sVar 3) sNil) [some (.sh L), some (.ow ds), some (.sh (.int p)), some (.sh (.int (g : Nat))), some (.sh (.int M)), none, none, none, none, none, none, none, none, none, none, none, none, none, none, none, none, none] = some (rngD 0 g, [some (.sh L), some (.ow ds), some (.sh (.int p)), some (.sh (.int (g : Nat))), some (.sh (.int M)), none, none, none, none, none, none, none, none, none, none, none, none, none, none, none, none, none]) := by
    have : -4611686018427387904 ≤ (g : Int) ∧ (g : Int) < 4611686018427387904 := by omega
    simp [x_sVar, this]
  obtain ⟨new, ds', e, D', hl, hn⟩ := lc_draws (L := L) (p := p) (g := g) hM hM2 (rngD 0 g) [] ds m D (by rw [rngD_len]; omega)
  rw [rngD_len] at D' hl
  obtain ⟨c, hc, hb⟩ := ints_fun hn
  rw [hl] at hc hb
  refine ⟨c, ds', hb, D', ?_⟩
  unfold comp4 sComp
  rw [it]
  simp only [Option.bind_some]
  rw [if_pos (by rw [rngD_len]; omega)]
  have w : wipeE [some (.sh L), some (.ow ds), some (.sh (.int p)), some (.sh (.int (g : Nat))), some (.sh (.int M)), none, none, none, none, none, none, none, none, none, none, none, none, none, none, none, none, none] [21] = [some (.sh L), some (.ow ds), some (.sh (.int p)), some (.sh (.int (g : Nat))), some (.sh (.int M)), none, none, none, none, none, none, none, none, none, none, none, none, none, none, none, none, none] := rfl
  rw [w, e, hc]
  rfl
theorem law_4 {m : Nat} {ds : List PyData} {L : PyData} {p M : Int} {g : Nat} (D : Deck m ds) (hm : m ≤ 100) (hg1 : 1 ≤ g) (hg : g ≤ 4) (hM : 30 ≤ M) (hM2 : M ≤ 1000000000) (hp : 3 ≤ p) (hp2 : p ≤ 61) : ∃ (c : Nat → Int) (ds' : List PyData), (∀ i, i < g → -M ≤ c i ∧ c i ≤ M) ∧ Deck (m + g) ds' ∧ p_law_4 [some (.sh L), some (.ow ds), some (.sh (.int p)), some (.sh (.int (g : Nat))), some (.sh (.int M)), none, none, none, none, none, none, none, none, none, none, none, none, none, none, none, none, none] = some (.nx [some (.sh L), some (.ow ds'), some (.sh (.int p)), some (.sh (.int (g : Nat))), some (.sh (.int M)), some (.sh (dvec (2 * g + 1) (aOf g p c))), none, none, none, none, none, none, none, none, none, none, none, none, none, none, none, none]) := by
  obtain ⟨c, ds', hc, D', e⟩ := comp_4 (L := L) (p := p) D hm hg hM hM2
  refine ⟨c, ds', hc, D', ?_⟩
  have szc : ∀ i, i < g → Sz 40 (c i) := fun i hi => Sz.of_le (b := 1000000000) (by have := hc i hi; omega) (by decide)
  have C : Closed p g c (aOf g p c) 50000 := by
    refine ⟨rfl, fun i hi => ?_, fun i hi => aOf_back (by omega) i hi, fun i hi => ?_, (szi p (by omega) (by omega)).mono (by omega)⟩
    · show aOf g p c (i + 1) = c i
      unfold aOf
      rw [if_neg (by omega), if_pos (by omega)]; rfl
    · unfold aOf
      by_cases z : i = 0
      · rw [if_pos z]; exact (Sz.one (k := 0)).mono (by omega)
      · rw [if_neg z, if_pos hi]; exact (szc _ (by omega)).mono (by omega)
  have fl := F_law_list_eq C (by omega) (by omega) (Nat.le_refl _)
  unfold p_law_4
  exact set1 ((op2 (stab_sh (var_sh rfl)) (stab_ow e)).trans (call2 fl)) rfl
theorem law_5 {m : Nat} {ds : List PyData} {L : PyData} {p M : Int} {g : Nat} {it : Option Val} (D : Deck m ds) (hm : m ≤ 100) : ∃ (n : Nat) (ds' : List PyData), 1 ≤ n ∧ n ≤ 40 ∧ (3000 < M → n ≤ 6) ∧ Deck (m + 1) ds' ∧ p_law_5 [some (.sh L), some (.ow ds), some (.sh (.int p)), some (.sh (.int (g : Nat))), some (.sh (.int M)), it, none, none, none, none, none, none, none, none, none, none, none, none, none, none, none, none] = some (.nx [some (.sh L), some (.ow ds'), some (.sh (.int p)), some (.sh (.int (g : Nat))), some (.sh (.int M)), it, some (.sh (.int (n : Nat))), none, none, none, none, none, none, none, none, none, none, none, none, none, none, none]) := by
  by_cases c : 3000 < M
  · obtain ⟨v, ds', e, v0, v1, D'⟩ := draw1 (ρ := [some (.sh L), some (.ow ds), some (.sh (.int p)), some (.sh (.int (g : Nat))), some (.sh (.int M)), it, none, none, none, none, none, none, none, none, none, none, none, none, none, none, none, none]) (f := (sStab (sOp vIx (sCons (sOp vLst (sCons (sC (.int 40)) (sCons (sC (.int 6)) sNil))) (sCons (sOp vInt (sCons (sOp vGt (sCons (sVar 4) (sCons (sC (.int 3000)) sNil))) sNil)) sNil))))) (bound := 6) D (by omega) rfl (by
      have : atI [PyData.int 40, PyData.int 6] 1 = some (.int 6) := rfl
      simp [x_sVar, c, this]) (by decide) (by decide)
    refine ⟨(1 + v).toNat, ds', by omega, by omega, fun _ => by omega, D', ?_⟩
    rw [show (((1 + v).toNat : Nat) : Int) = 1 + v by omega]
    unfold p_law_5
    exact set1 ((op2 (w1 := .sh (.int 1)) (by rfl) e).trans x_add) rfl
  · obtain ⟨v, ds', e, v0, v1, D'⟩ := draw1 (ρ := [some (.sh L), some (.ow ds), some (.sh (.int p)), some (.sh (.int (g : Nat))), some (.sh (.int M)), it, none, none, none, none, none, none, none, none, none, none, none, none, none, none, none, none]) (f := (sStab (sOp vIx (sCons (sOp vLst (sCons (sC (.int 40)) (sCons (sC (.int 6)) sNil))) (sCons (sOp vInt (sCons (sOp vGt (sCons (sVar 4) (sCons (sC (.int 3000)) sNil))) sNil)) sNil))))) (bound := 40) D (by omega) rfl (by
      have : atI [PyData.int 40, PyData.int 6] 0 = some (.int 40) := rfl
      simp [x_sVar, c, this]) (by decide) (by decide)
    refine ⟨(1 + v).toNat, ds', by omega, by omega, fun z => absurd z c, D', ?_⟩
    rw [show (((1 + v).toNat : Nat) : Int) = 1 + v by omega]
    unfold p_law_5
    exact set1 ((op2 (w1 := .sh (.int 1)) (by rfl) e).trans x_add) rfl
end W56
end

section
set_option Elab.async false
set_option linter.all false
set_option maxRecDepth 100000
set_option maxHeartbeats 4000000
namespace W56
open PySem PySem.Spec PyProof.Rows L2 DL
open Det (sm Lst HH over mmul mpow tr)
variable {v_s v_d v_p v_g v_m v_it v_n v_sz v_tb v_hr v_q v_tu v_kp v_td v_pw v_i v_t v_to v_b v_lo v_co v_k : Option Val}
def rowsOf (N : Nat) (A : Det.Mat Int) : List PyData := (List.range N).map fun i => dvec N (A i)
theorem repr1 {d : List PyData} {ρ : DL.Env} (ok : okShow (.list d) = true) : vRepr [.sh (.list d)] ρ = some (.sh (.str (PyData.list d).shown), ρ) := by
  rw [x_repr, x_dat_sh]
  simp only [Option.bind_some]
  rw [if_pos ⟨ok, rfl⟩]
theorem dmat_eq (N : Nat) (A : Det.Mat Int) : dmat N A = .list (rowsOf N A) := rfl
theorem dl_b (i k : Nat) (x y : Int) (hx : x = i) (hy : y = k) : (if (x == y) = true then (1 : Int) else 0) = Det.dl k i := by
  unfold Det.dl
  by_cases e : i = k
  · rw [if_pos e, if_pos (by rw [hx, hy, e]; simp)]
  · rw [if_neg e, if_neg (by rw [hx, hy]; simp; omega)]
theorem rg_ok {g : Nat} (hg : g ≤ 4) {z : Int} (hz : z = 2 * (g : Int)) : (-4611686018427387904 ≤ z ∧ z < 4611686018427387904) ∧ z.toNat = 2 * g := by omega
theorem stab_var {i : Nat} {ρ : DL.Env} {ds : List PyData} (h : ρ[i]? = some (some (.ow ds))) : sStab (sVar i) ρ = some (.sh (.list ds), ρ.set i (some (.sh (.list ds)))) := by
  rw [x_sStab, var_ow h]
  simp only [Option.bind_some]
  rw [x_stab_rf, h]
  rfl

theorem law_6 {g : Nat} (hg : g ≤ 4) : p_law_6 [v_s, v_d, v_p, some (.sh (.int (g : Nat))), v_m, v_it, v_n, v_sz, v_tb, v_hr, v_q, v_tu, v_kp, v_td, v_pw, v_i, v_t, v_to, v_b, v_lo, v_co, v_k] = some (.nx [v_s, v_d, v_p, some (.sh (.int (g : Nat))), v_m, v_it, v_n, some (.sh (.int (2 * (g : Int)))), v_tb, v_hr, v_q, v_tu, v_kp, v_td, v_pw, v_i, v_t, v_to, v_b, v_lo, v_co, v_k]) := by
  have m1 : CMulZ 2 (g : Int) := cmul_of (szi 2 (by decide) (by decide)) (szi g (by omega) (by omega)) (by omega)
  unfold p_law_6
  exact set1 ((op2 x_sC (var_sh rfl)).trans (mul2 m1)) rfl

def inn7 : DE := (sComp (sRng (sCons (sVar 7) sNil)) (gN 15) sYes (sOp vInt (sCons (sOp (vEqD false) (sCons (sVar 15) (sCons (sOp vAdd (sCons (sVar 21) (sCons (sC (.int 1)) sNil))) sNil))) sNil)) [15])
def cmp7 : DE := (sComp (sRng (sCons (sOp vSub (sCons (sVar 7) (sCons (sC (.int 1)) sNil))) sNil)) (gN 21) sYes (sStab (sComp (sRng (sCons (sVar 7) sNil)) (gN 15) sYes (sOp vInt (sCons (sOp (vEqD false) (sCons (sVar 15) (sCons (sOp vAdd (sCons (sVar 21) (sCons (sC (.int 1)) sNil))) sNil))) sNil)) [15])) [21])
theorem inn_7 {g k : Nat} {a : Nat → Int} {z x : Int} (hg : g ≤ 4) (hz : z = 2 * (g : Int)) (hx : x = k) : inn7 [v_s, v_d, v_p, v_g, v_m, some (.sh (dvec (2 * g + 1) a)), v_n, some (.sh (.int z)), v_tb, v_hr, v_q, v_tu, v_kp, v_td, v_pw, v_i, v_t, v_to, v_b, v_lo, v_co, some (.sh (.int x))] = some (.ow (intR (2 * g) (Det.dl (k + 1))), [v_s, v_d, v_p, v_g, v_m, some (.sh (dvec (2 * g + 1) a)), v_n, some (.sh (.int z)), v_tb, v_hr, v_q, v_tu, v_kp, v_td, v_pw, v_i, v_t, v_to, v_b, v_lo, v_co, some (.sh (.int x))]) := by
  obtain ⟨r1, r2⟩ := rg_ok hg hz
  refine comp_int1 (lo := 0) (n := 2 * g) _ (by simp [x_sVar, r1, r2]) (by omega) fun i hi => ?_
  rw [← dl_b i (k + 1) (0 + (i : Nat)) (x + 1) (by omega) (by omega)]
  generalize (0 + (i : Int)) = y
  simp [x_sVar]
theorem cmp_7 {g : Nat} {a : Nat → Int} {z : Int} (hg : g ≤ 4) (hg1 : 1 ≤ g) (hz : z = 2 * (g : Int)) : cmp7 [v_s, v_d, v_p, v_g, v_m, some (.sh (dvec (2 * g + 1) a)), v_n, some (.sh (.int z)), v_tb, v_hr, v_q, v_tu, v_kp, v_td, v_pw, v_i, v_t, v_to, v_b, v_lo, v_co, v_k] = some (.ow ((List.range (2 * g - 1)).map fun k => dvec (2 * g) (Det.dl (k + 1))), [v_s, v_d, v_p, v_g, v_m, some (.sh (dvec (2 * g + 1) a)), v_n, some (.sh (.int z)), v_tb, v_hr, v_q, v_tu, v_kp, v_td, v_pw, v_i, v_t, v_to, v_b, v_lo, v_co, v_k]) := by
  refine comp_rng1 (lo := 0) (n := 2 * g - 1) _ (by
    have : -4611686018427387904 ≤ z - 1 ∧ z - 1 < 4611686018427387904 := by omega
    have e : (z - 1).toNat = 2 * g - 1 := by omega
    have e' : z.toNat - 1 = 2 * g - 1 := by omega
    simp [x_sVar, this, e, e']) (by omega) fun k hk => ?_
  exact stab_ow (inn_7 hg hz (by omega))
theorem last_7 {g : Nat} {a : Nat → Int} {z : Int} (hg : g ≤ 4) (hz : z = 2 * (g : Int)) : (sComp (sRng (sCons (sVar 7) sNil)) (gN 15) sYes (sOp vNeg (sCons (sOp vIx (sCons (sVar 5) (sCons (sOp vSub (sCons (sVar 7) (sCons (sVar 15) sNil))) sNil))) sNil)) [15]) [v_s, v_d, v_p, v_g, v_m, some (.sh (dvec (2 * g + 1) a)), v_n, some (.sh (.int z)), v_tb, v_hr, v_q, v_tu, v_kp, v_td, v_pw, v_i, v_t, v_to, v_b, v_lo, v_co, v_k] = some (.ow (intR (2 * g) fun i => - a (2 * g - i)), [v_s, v_d, v_p, v_g, v_m, some (.sh (dvec (2 * g + 1) a)), v_n, some (.sh (.int z)), v_tb, v_hr, v_q, v_tu, v_kp, v_td, v_pw, v_i, v_t, v_to, v_b, v_lo, v_co, v_k]) := by
  obtain ⟨r1, r2⟩ := rg_ok hg hz
  refine comp_int1 (lo := 0) (n := 2 * g) _ (by simp [x_sVar, r1, r2]) (by omega) fun i hi => ?_
  have a1 : atI (intR (2 * g + 1) a) (z - (0 + (i : Int))) = some (.int (a (2 * g - i))) := intR_at (2 * g - i) (by omega) (by omega)
  generalize (0 + (i : Int)) = y at *
  exact (op1 ((op2 (var_sh rfl) ((op2 (var_sh rfl) (var_sh rfl)).trans x_sub)).trans (ixl a1))).trans x_neg
theorem rows_comp {g : Nat} {a : Nat → Int} (hg1 : 1 ≤ g) : ((List.range (2 * g - 1)).map fun k => dvec (2 * g) (Det.dl (k + 1))) ++ [dvec (2 * g) fun i => - a (2 * g - i)] = rowsOf (2 * g) (Det.comp (2 * g) a) := by
  unfold rowsOf
  obtain ⟨k, hk⟩ : ∃ k, 2 * g = k + 1 := ⟨2 * g - 1, by omega⟩
  rw [hk, Nat.add_sub_cancel, List.range_succ, List.map_append]
  congr 1
  · refine List.map_congr_left fun i hi => ?_
    have := List.mem_range.mp hi
    show PyData.list _ = PyData.list _
    congr 1
    exact intR_congr fun j _ => by unfold Det.comp; rw [if_pos (by omega)]
  · show [PyData.list _] = [PyData.list _]
    congr 2
    exact intR_congr fun j _ => by unfold Det.comp; rw [if_neg (by omega)]

theorem law_7 {g : Nat} {a : Nat → Int} {z : Int} (hg : g ≤ 4) (hg1 : 1 ≤ g) (hz : z = 2 * (g : Int)) : p_law_7 [v_s, v_d, v_p, v_g, v_m, some (.sh (dvec (2 * g + 1) a)), v_n, some (.sh (.int z)), v_tb, v_hr, v_q, v_tu, v_kp, v_td, v_pw, v_i, v_t, v_to, v_b, v_lo, v_co, v_k] = some (.nx [v_s, v_d, v_p, v_g, v_m, some (.sh (dvec (2 * g + 1) a)), v_n, some (.sh (.int z)), some (.ow (rowsOf (2 * g) (Det.comp (2 * g) a))), v_hr, v_q, v_tu, v_kp, v_td, v_pw, v_i, v_t, v_to, v_b, v_lo, v_co, v_k]) := by
  unfold p_law_7
  have e : ((sOp vCat (sCons (sComp (sRng (sCons (sOp vSub (sCons (sVar 7) (sCons (sC (.int 1)) sNil))) sNil)) (gN 21) sYes (sStab (sComp (sRng (sCons (sVar 7) sNil)) (gN 15) sYes (sOp vInt (sCons (sOp (vEqD false) (sCons (sVar 15) (sCons (sOp vAdd (sCons (sVar 21) (sCons (sC (.int 1)) sNil))) sNil))) sNil)) [15])) [21]) (sCons (sOp vLst (sCons (sStab (sComp (sRng (sCons (sVar 7) sNil)) (gN 15) sYes (sOp vNeg (sCons (sOp vIx (sCons (sVar 5) (sCons (sOp vSub (sCons (sVar 7) (sCons (sVar 15) sNil))) sNil))) sNil)) [15])) sNil)) sNil)))) [v_s, v_d, v_p, v_g, v_m, some (.sh (dvec (2 * g + 1) a)), v_n, some (.sh (.int z)), v_tb, v_hr, v_q, v_tu, v_kp, v_td, v_pw, v_i, v_t, v_to, v_b, v_lo, v_co, v_k] = some (.ow (rowsOf (2 * g) (Det.comp (2 * g) a)), [v_s, v_d, v_p, v_g, v_m, some (.sh (dvec (2 * g + 1) a)), v_n, some (.sh (.int z)), v_tb, v_hr, v_q, v_tu, v_kp, v_td, v_pw, v_i, v_t, v_to, v_b, v_lo, v_co, v_k]) := by
    refine (op2 (cmp_7 hg hg1 hz) ((op1 (stab_ow (last_7 (a := a) hg hz))).trans lst1)).trans ?_
    rw [← rows_comp hg1]
    have : (2 * g - 1) + 1 ≤ 16000000 := by omega
    rw [x_cat, x_lst_ow, x_lst_ow]
    simp only [Option.bind_some]
    rw [if_pos (by rw [List.length_map, List.length_range]; exact this)]
    rfl
  exact set1 e rfl

def inn8 : DE := (sComp (sRng (sCons (sVar 7) sNil)) (gN 15) sYes (sOp vInt (sCons (sOp (vEqD false) (sCons (sVar 15) (sCons (sVar 21) sNil))) sNil)) [15])
theorem inn_8 {g k : Nat} {z x : Int} (hg : g ≤ 4) (hz : z = 2 * (g : Int)) (hx : x = k) : inn8 [v_s, v_d, v_p, v_g, v_m, v_it, v_n, some (.sh (.int z)), v_tb, v_hr, v_q, v_tu, v_kp, v_td, v_pw, v_i, v_t, v_to, v_b, v_lo, v_co, some (.sh (.int x))] = some (.ow (intR (2 * g) (Det.uv k)), [v_s, v_d, v_p, v_g, v_m, v_it, v_n, some (.sh (.int z)), v_tb, v_hr, v_q, v_tu, v_kp, v_td, v_pw, v_i, v_t, v_to, v_b, v_lo, v_co, some (.sh (.int x))]) := by
  obtain ⟨r1, r2⟩ := rg_ok hg hz
  refine comp_int1 (lo := 0) (n := 2 * g) _ (by simp [x_sVar, r1, r2]) (by omega) fun i hi => ?_
  have := dl_b i k (0 + (i : Nat)) x (by omega) hx
  show _ = some (Val.sh (PyData.int (Det.dl k i)), _)
  rw [← this]
  generalize (0 + (i : Int)) = y
  simp [x_sVar]

theorem law_8 {g : Nat} {z : Int} (hg : g ≤ 4) (hz : z = 2 * (g : Int)) : p_law_8 [v_s, v_d, v_p, v_g, v_m, v_it, v_n, some (.sh (.int z)), v_tb, v_hr, v_q, v_tu, v_kp, v_td, v_pw, v_i, v_t, v_to, v_b, v_lo, v_co, v_k] = some (.nx [v_s, v_d, v_p, v_g, v_m, v_it, v_n, some (.sh (.int z)), v_tb, some (.ow (rowsOf (2 * g) Det.one)), v_q, v_tu, v_kp, v_td, v_pw, v_i, v_t, v_to, v_b, v_lo, v_co, v_k]) := by
  obtain ⟨r1, r2⟩ := rg_ok hg hz
  unfold p_law_8
  have e : (sComp (sRng (sCons (sVar 7) sNil)) (gN 21) sYes (sStab (sComp (sRng (sCons (sVar 7) sNil)) (gN 15) sYes (sOp vInt (sCons (sOp (vEqD false) (sCons (sVar 15) (sCons (sVar 21) sNil))) sNil)) [15])) [21]) [v_s, v_d, v_p, v_g, v_m, v_it, v_n, some (.sh (.int z)), v_tb, v_hr, v_q, v_tu, v_kp, v_td, v_pw, v_i, v_t, v_to, v_b, v_lo, v_co, v_k] = some (.ow (rowsOf (2 * g) Det.one), [v_s, v_d, v_p, v_g, v_m, v_it, v_n, some (.sh (.int z)), v_tb, v_hr, v_q, v_tu, v_kp, v_td, v_pw, v_i, v_t, v_to, v_b, v_lo, v_co, v_k]) := comp_rng1 (lo := 0) (n := 2 * g) (fun k => dvec (2 * g) (Det.uv k)) (by simp [x_sVar, r1, r2]) (by omega) fun k hk => stab_ow (inn_8 hg hz (by omega))
  exact set1 e rfl

theorem law_9  : p_law_9 [v_s, v_d, v_p, v_g, v_m, v_it, v_n, v_sz, v_tb, v_hr, v_q, v_tu, v_kp, v_td, v_pw, v_i, v_t, v_to, v_b, v_lo, v_co, v_k] = some (.nx [v_s, v_d, v_p, v_g, v_m, v_it, v_n, v_sz, v_tb, v_hr, some (.sh (.int 1)), v_tu, v_kp, v_td, v_pw, v_i, v_t, v_to, v_b, v_lo, v_co, v_k]) := by
  rfl

def bod10 : DS := (sSeq (sSet 9 (sOp (vCall F__law_product) (sCons (sStab (sVar 9)) (sCons (sStab (sVar 8)) sNil)))) (sSet 10 (sOp vMul (sCons (sVar 10) (sCons (sVar 2) sNil)))))
def ready (o : Option Val) (N : Nat) (A : Det.Mat Int) : Prop := o = some (.ow (rowsOf N A)) ∨ o = some (.sh (dmat N A))
theorem stab_ready {o : Option Val} {N i : Nat} {A : Det.Mat Int} {ρ : DL.Env} (hr : ready o N A) (h : ρ[i]? = some o) : sStab (sVar i) ρ = some (.sh (dmat N A), ρ.set i (some (.sh (dmat N A)))) := by
  rcases hr with rfl | rfl
  · exact stab_var h
  · rw [stab_sh (var_sh h)]
    congr 2
    apply List.ext_getElem?
    intro j
    by_cases e : i = j
    · subst e
      rw [h, List.getElem?_set_self (List.getElem?_eq_some_iff.mp h).1]
    · rw [List.getElem?_set_ne e]
theorem bod_10 {p : Int} {g n t e N : Nat} {a : Nat → Int} {x : Int} {tbv hrv : Option Val} (G : Good p g a e N) (ht : t < 40) (h8 : ready tbv (2 * g) (Det.comp (2 * g) a)) (h9 : ready hrv (2 * g) (HH g a t)) : bod10 [v_s, v_d, some (.sh (.int p)), v_g, v_m, v_it, some (.sh (.int (n : Nat))), v_sz, tbv, hrv, some (.sh (.int (p ^ t))), some (.sh (.int x)), v_kp, v_td, v_pw, v_i, v_t, v_to, v_b, v_lo, v_co, v_k] = some (.nx [v_s, v_d, some (.sh (.int p)), v_g, v_m, v_it, some (.sh (.int (n : Nat))), v_sz, some (.sh (dmat (2 * g) (Det.comp (2 * g) a))), some (.sh (dmat (2 * g) (HH g a (t + 1)))), some (.sh (.int (p ^ (t + 1)))), some (.sh (.int x)), v_kp, v_td, v_pw, v_i, v_t, v_to, v_b, v_lo, v_co, v_k]) := by
  have le : (e + 3) * t ≤ 51 * 40 := Nat.mul_le_mul (by have := G.e48; omega) (by omega)
  have pr := F_product_eq (N := 2 * g) (k := (e + 3) * t + 1) (l := e) (A := HH g a t) (B := Det.comp (2 * g) a) (by have := G.hg; omega) (G.hh t) G.comp (by have := G.e48; omega)
  have m1 : CMulZ (p ^ t) p := cmul_of (G.szp.pow t) G.szp (by omega)
  unfold bod10
  rw [x_seq (set1 ((op2 (stab_ready h9 rfl) (stab_ready h8 rfl)).trans (call2 pr)) rfl)]
  rw [Int.pow_succ]
  exact set1 ((op2 (var_sh rfl) (var_sh rfl)).trans (mul2 m1)) rfl

theorem law_10 {p : Int} {g n e : Nat} {a : Nat → Int} (G : Good p g a e n) : ∃ tuv, p_law_10 [v_s, v_d, some (.sh (.int p)), v_g, v_m, v_it, some (.sh (.int (n : Nat))), v_sz, some (.ow (rowsOf (2 * g) (Det.comp (2 * g) a))), some (.ow (rowsOf (2 * g) Det.one)), some (.sh (.int 1)), v_tu, v_kp, v_td, v_pw, v_i, v_t, v_to, v_b, v_lo, v_co, v_k] = some (.nx [v_s, v_d, some (.sh (.int p)), v_g, v_m, v_it, some (.sh (.int (n : Nat))), v_sz, some (.sh (dmat (2 * g) (Det.comp (2 * g) a))), some (.sh (dmat (2 * g) (HH g a n))), some (.sh (.int (p ^ n))), tuv, v_kp, v_td, v_pw, v_i, v_t, v_to, v_b, v_lo, v_co, v_k]) := by
  have n1 := G.n1
  have n40 := G.n40
  obtain ⟨ρ', e1, tbv, hrv, tuv, P, h8, h9, h10⟩ := forL_inv (t := gN 11) (s := bod10) (fun t ρ => ∃ tbv hrv tuv, ρ = [v_s, v_d, some (.sh (.int p)), v_g, v_m, v_it, some (.sh (.int (n : Nat))), v_sz, tbv, hrv, some (.sh (.int (p ^ t))), tuv, v_kp, v_td, v_pw, v_i, v_t, v_to, v_b, v_lo, v_co, v_k] ∧ ready tbv (2 * g) (Det.comp (2 * g) a) ∧ ready hrv (2 * g) (HH g a t) ∧ (0 < t → tbv = some (.sh (dmat (2 * g) (Det.comp (2 * g) a))) ∧ hrv = some (.sh (dmat (2 * g) (HH g a t))))) (rngD 0 n) 0 [v_s, v_d, some (.sh (.int p)), v_g, v_m, v_it, some (.sh (.int (n : Nat))), v_sz, some (.ow (rowsOf (2 * g) (Det.comp (2 * g) a))), some (.ow (rowsOf (2 * g) Det.one)), some (.sh (.int 1)), v_tu, v_kp, v_td, v_pw, v_i, v_t, v_to, v_b, v_lo, v_co, v_k] ⟨_, _, v_tu, by rw [Int.pow_zero]; rfl, .inl rfl, .inl rfl, fun h => absurd h (by omega)⟩ (by
    rintro i d ρ hd ⟨tbv, hrv, tuv, rfl, h8, h9, _⟩
    obtain ⟨hi, rfl⟩ := rngD_some hd
    exact ⟨_, _, rfl, .inl (bod_10 (t := 0 + i) G (by omega) h8 h9), _, _, _, rfl, .inr rfl, .inr rfl, fun _ => ⟨rfl, rfl⟩⟩)
  rw [rngD_len, Nat.zero_add] at P h10
  obtain ⟨rfl, rfl⟩ := h10 (by omega)
  refine ⟨tuv, ?_⟩
  rw [← P, ← e1]
  unfold p_law_10
  have : -4611686018427387904 ≤ (n : Int) ∧ (n : Int) < 4611686018427387904 := by omega
  exact for1 (by simp [x_sVar, this])

theorem law_11 {n : Nat} {f : Nat → Int} (ok : okShow (dvec n f) = true) : p_law_11 [v_s, v_d, v_p, v_g, v_m, some (.sh (dvec n f)), v_n, v_sz, v_tb, v_hr, v_q, v_tu, v_kp, v_td, v_pw, v_i, v_t, v_to, v_b, v_lo, v_co, v_k] = some (.nx [v_s, v_d, v_p, v_g, v_m, some (.sh (dvec n f)), v_n, v_sz, v_tb, v_hr, v_q, v_tu, some (.sh (.str (dvec n f).shown)), v_td, v_pw, v_i, v_t, v_to, v_b, v_lo, v_co, v_k]) := by
  unfold p_law_11
  exact set1 ((op1 (var_sh rfl)).trans (repr1 ok)) rfl

theorem law_12 {p : Int} {g n e : Nat} {a : Nat → Int} (G : Good p g a e n) : p_law_12 [v_s, v_d, some (.sh (.int p)), v_g, v_m, some (.sh (dvec (2 * g + 1) a)), some (.sh (.int (n : Nat))), v_sz, v_tb, v_hr, v_q, v_tu, v_kp, v_td, v_pw, v_i, v_t, v_to, v_b, v_lo, v_co, v_k] = some (.nx [v_s, v_d, some (.sh (.int p)), v_g, v_m, some (.sh (dvec (2 * g + 1) a)), some (.sh (.int (n : Nat))), v_sz, v_tb, v_hr, v_q, v_tu, v_kp, some (.sh (dvec (2 * g + 1) (over g a n))), v_pw, v_i, v_t, v_to, v_b, v_lo, v_co, v_k]) := by
  unfold p_law_12
  exact set1 ((op3 (stab_sh (var_sh rfl)) (stab_sh (var_sh rfl)) (var_sh rfl)).trans (call3 (G.list_over n G.n1 G.n40))) rfl

end W56
end

section
set_option Elab.async false
set_option linter.all false
set_option maxRecDepth 100000
set_option maxHeartbeats 4000000
namespace W56
open PySem PySem.Spec PyProof.Rows L2 DL
open Det (sm Lst HH over mmul mpow tr)
variable {v_s v_d v_p v_g v_m v_it v_n v_sz v_tb v_hr v_q v_tu v_kp v_td v_pw v_i v_t v_to v_b v_lo v_co v_k : Option Val}
section
variable {c d : DT} {f : DE} {ρ ρ1 : DL.Env} {b : Bool}
theorem or_f (h : c ρ = some (false, ρ1)) : sOr c d ρ = d ρ1 := by rw [x_sOr, h]; rfl
theorem and_f (h : c ρ = some (false, ρ1)) : sAnd c d ρ = some (false, ρ1) := by rw [x_sAnd, h]; rfl
theorem and_t (h : c ρ = some (true, ρ1)) : sAnd c d ρ = d ρ1 := by rw [x_sAnd, h]; rfl
theorem not_f (h : c ρ = some (true, ρ1)) : sNot c ρ = some (false, ρ1) := by rw [x_sNot, h]; rfl
theorem tru_b (h : f ρ = some (.sh (.bool b), ρ1)) : sTru f ρ = some (b, ρ1) := by rw [x_sTru, h]; rfl
theorem tst_b (h : f ρ = some (.sh (.bool b), ρ1)) : sTst f ρ = some (b, ρ1) := by rw [x_sTst, h]
theorem isi_l {ds : List PyData} : vIsi [.sh (.list ds), .fx (.ty "list")] ρ = some (.sh (.bool true), ρ) := by
  have : kitB "list" "list" = some true := by decide
  rw [x_isi, x_dat_sh]
  simp only [Option.bind_some, tyD]
  rw [this]; rfl
theorem isi_i {a : Int} : vIsi [.sh (.int a), .fx (.ty "int")] ρ = some (.sh (.bool true), ρ) := by
  have : kitB "int" "int" = some true := by decide
  rw [x_isi, x_dat_sh]
  simp only [Option.bind_some, tyD]
  rw [this]; rfl
theorem isi_b {a : Int} : vIsi [.sh (.int a), .fx (.ty "bool")] ρ = some (.sh (.bool false), ρ) := by
  have : kitB "int" "bool" = some false := by decide
  rw [x_isi, x_dat_sh]
  simp only [Option.bind_some, tyD]
  rw [this]; rfl
theorem ne_same {a b : Int} (h : a = b) : vEqD true [.sh (.int a), .sh (.int b)] ρ = some (.sh (.bool false), ρ) := by rw [x_neI, h]; simp
theorem len1 {ds : List PyData} : vLen [.sh (.list ds)] ρ = some (.sh (.int ds.length), ρ) := rfl
theorem neS_same {a : Str} : vEqS true [.sh (.str a), .sh (.str a)] ρ = some (.sh (.bool false), ρ) := by rw [x_neS]; simp
theorem sum_R {n : Nat} {h : Nat → Int} : vSum [.sh (dvec n h)] ρ = some (.sh (.int (sm n h)), ρ) := by
  show vSum [.sh (.list (intR n h))] ρ = _
  rw [x_sum, x_lst_sh]
  simp [intsOf_R, sum_range]
theorem all_true {n : Nat} : vAll [.ow ((List.range n).map fun _ => PyData.bool true)] ρ = some (.sh (.bool true), ρ) := by
  rw [x_all, x_lst_ow]
  rw [show (List.range n).map (fun _ => PyData.bool true) = ((List.range n).map fun _ => true).map .bool by rw [List.map_map]; rfl]
  simp only [Option.bind_some]
  rw [boolsOf_map]
  have : ((List.range n).map fun _ => true).any (fun b => !b) = false := by simp
  have : ((List.range n).map fun _ => true).all id = true := by simp
  simp only [Option.map_some]
  rw [this]
end

theorem law_13 {N1 : Nat} {a b : Nat → Int} {z : Int} (hz : z + 1 = N1) (ok : okShow (dvec N1 a) = true) : p_law_13 [v_s, v_d, v_p, v_g, v_m, some (.sh (dvec N1 a)), v_n, some (.sh (.int z)), v_tb, v_hr, v_q, v_tu, some (.sh (.str (dvec N1 a).shown)), some (.sh (dvec N1 b)), v_pw, v_i, v_t, v_to, v_b, v_lo, v_co, v_k] = some (.nx [v_s, v_d, v_p, v_g, v_m, some (.sh (dvec N1 a)), v_n, some (.sh (.int z)), v_tb, v_hr, v_q, v_tu, some (.sh (.str (dvec N1 a).shown)), some (.sh (dvec N1 b)), v_pw, v_i, v_t, v_to, v_b, v_lo, v_co, v_k]) := by
  unfold p_law_13
  refine (if_f ((or_f (not_f (tru_b ((op2 (var_sh rfl) (x_sFx)).trans isi_l)))).trans ((or_f (tst_b ((op2 ((op1 (var_sh rfl)).trans len1) ((op2 (var_sh rfl) x_sC).trans x_add)).trans (ne_same ?_)))).trans (tst_b ((op2 ((op1 (var_sh rfl)).trans (repr1 ok)) (var_sh rfl)).trans neS_same))))).trans rfl
  rw [intR_len]; exact hz.symm

theorem cmp_14 {N1 : Nat} {b : Nat → Int} (hN : N1 ≤ 1000) : (sComp (sItems (sVar 13)) (gN 18) sYes (sAndV (sOp vIsi (sCons (sVar 18) (sCons (sFx (.ty "int")) sNil))) (sNotV (sOp vIsi (sCons (sVar 18) (sCons (sFx (.ty "bool")) sNil))))) [18]) [v_s, v_d, v_p, v_g, v_m, v_it, v_n, v_sz, v_tb, v_hr, v_q, v_tu, v_kp, some (.sh (dvec N1 b)), v_pw, v_i, v_t, v_to, v_b, v_lo, v_co, v_k] = some (.ow ((List.range N1).map fun _ => PyData.bool true), [v_s, v_d, v_p, v_g, v_m, v_it, v_n, v_sz, v_tb, v_hr, v_q, v_tu, v_kp, some (.sh (dvec N1 b)), v_pw, v_i, v_t, v_to, v_b, v_lo, v_co, v_k]) := by
  have := comp_items1 (it := sItems (sVar 13)) (f := (sAndV (sOp vIsi (sCons (sVar 18) (sCons (sFx (.ty "int")) sNil))) (sNotV (sOp vIsi (sCons (sVar 18) (sCons (sFx (.ty "bool")) sNil)))))) (v := 18) (ρ := [v_s, v_d, v_p, v_g, v_m, v_it, v_n, v_sz, v_tb, v_hr, v_q, v_tu, v_kp, some (.sh (dvec N1 b)), v_pw, v_i, v_t, v_to, v_b, v_lo, v_co, v_k]) (ρ1 := [v_s, v_d, v_p, v_g, v_m, v_it, v_n, v_sz, v_tb, v_hr, v_q, v_tu, v_kp, some (.sh (dvec N1 b)), v_pw, v_i, v_t, v_to, v_b, v_lo, v_co, v_k]) (ds := intR N1 b) (fun _ => .bool true) (by simp [x_sVar, dvec]) (by rw [intR_len]; omega) (fun d hd => by
    obtain ⟨v, rfl⟩ := all_ints d hd
    rw [x_sAndV, (op2 (var_sh (d := .int v) rfl) x_sFx).trans isi_i]
    show sNotV _ _ = _
    rw [x_sNotV, (op2 (var_sh (d := .int v) rfl) x_sFx).trans isi_b]
    rfl)
  rw [this]
  congr 2
  unfold intR
  rw [List.map_map]
  rfl

theorem law_14 {N1 : Nat} {b : Nat → Int} (hN : N1 ≤ 1000) (h1 : 1 ≤ N1) (b0 : b 0 = 1) : p_law_14 [v_s, v_d, v_p, v_g, v_m, v_it, v_n, v_sz, v_tb, v_hr, v_q, v_tu, v_kp, some (.sh (dvec N1 b)), v_pw, v_i, v_t, v_to, v_b, v_lo, v_co, v_k] = some (.nx [v_s, v_d, v_p, v_g, v_m, v_it, v_n, v_sz, v_tb, v_hr, v_q, v_tu, v_kp, some (.sh (dvec N1 b)), v_pw, v_i, v_t, v_to, v_b, v_lo, v_co, v_k]) := by
  have a0 : atI (intR N1 b) 0 = some (.int (b 0)) := intR_at 0 rfl h1
  unfold p_law_14
  exact (if_f ((or_f (not_f (tru_b ((op1 (cmp_14 hN)).trans all_true)))).trans (tst_b ((op2 ((op2 (var_sh rfl) x_sC).trans (ixl a0)) x_sC).trans (ne_same b0))))).trans rfl

theorem law_15  : p_law_15 [v_s, v_d, v_p, v_g, v_m, v_it, v_n, v_sz, v_tb, v_hr, v_q, v_tu, v_kp, v_td, v_pw, v_i, v_t, v_to, v_b, v_lo, v_co, v_k] = some (.nx [v_s, v_d, v_p, v_g, v_m, v_it, v_n, v_sz, v_tb, v_hr, v_q, v_tu, v_kp, v_td, some (.sh (.int 1)), v_i, v_t, v_to, v_b, v_lo, v_co, v_k]) := by
  rfl

def bod16 : DS := (sSeq (sIf (sTst (sOp (vEqD true) (sCons (sOp vIx (sCons (sVar 13) (sCons (sOp vSub (sCons (sVar 7) (sCons (sVar 15) sNil))) sNil))) (sCons (sOp vMul (sCons (sVar 14) (sCons (sOp vIx (sCons (sVar 13) (sCons (sVar 15) sNil))) sNil))) sNil)))) (sRet (sC (.bool false))) sNext) (sSet 14 (sOp vMul (sCons (sVar 14) (sCons (sVar 10) sNil)))))
theorem bod_16 {p : Int} {g n t e : Nat} {a : Nat → Int} {z x : Int} (G : Good p g a e n) (hz : z = 2 * (g : Int)) (ht : t ≤ g) (hx : x = (g : Int) + (t : Int) * -1) : bod16 [v_s, v_d, v_p, v_g, v_m, v_it, v_n, some (.sh (.int z)), v_tb, v_hr, some (.sh (.int (p ^ n))), v_tu, v_kp, some (.sh (dvec (2 * g + 1) (over g a n))), some (.sh (.int ((p ^ n) ^ t))), some (.sh (.int x)), v_t, v_to, v_b, v_lo, v_co, v_k] = some (.nx [v_s, v_d, v_p, v_g, v_m, v_it, v_n, some (.sh (.int z)), v_tb, v_hr, some (.sh (.int (p ^ n))), v_tu, v_kp, some (.sh (dvec (2 * g + 1) (over g a n))), some (.sh (.int ((p ^ n) ^ (t + 1)))), some (.sh (.int x)), v_t, v_to, v_b, v_lo, v_co, v_k]) := by
  have hg := G.hg
  have n40 := G.n40
  have a1 : atI (intR (2 * g + 1) (over g a n)) (z - x) = some (.int (over g a n (2 * g - (g - t)))) := intR_at _ (by omega) (by omega)
  have a2 : atI (intR (2 * g + 1) (over g a n)) x = some (.int (over g a n (g - t))) := intR_at _ (by omega) (by omega)
  have bk := Det.over_back G.L n (g - t) (by omega)
  rw [show g - (g - t) = t by omega] at bk
  have sq := G.szp.pow n
  have s1 := sq.pow t
  have l1 : (6 * n + 1) * t ≤ 241 * 4 := Nat.mul_le_mul (by omega) (by omega)
  have m1 : CMulZ ((p ^ n) ^ t) (over g a n (g - t)) := cmul_of s1 (G.szo2 n n40 (g - t) (by omega)) (by omega)
  have m2 : CMulZ ((p ^ n) ^ t) (p ^ n) := cmul_of s1 sq (by omega)
  unfold bod16
  rw [x_seq (if_f (tst_b ((op2 ((op2 (var_sh rfl) ((op2 (var_sh rfl) (var_sh rfl)).trans x_sub)).trans (ixl a1)) ((op2 (var_sh rfl) ((op2 (var_sh rfl) (var_sh rfl)).trans (ixl a2))).trans (mul2 m1))).trans (ne_same bk))))]
  rw [Int.pow_succ]
  exact set1 ((op2 (var_sh rfl) (var_sh rfl)).trans (mul2 m2)) rfl

theorem law_16 {p : Int} {g n e : Nat} {a : Nat → Int} {z : Int} (G : Good p g a e n) (hz : z = 2 * (g : Int)) : ∃ iv, p_law_16 [v_s, v_d, v_p, some (.sh (.int (g : Nat))), v_m, v_it, v_n, some (.sh (.int z)), v_tb, v_hr, some (.sh (.int (p ^ n))), v_tu, v_kp, some (.sh (dvec (2 * g + 1) (over g a n))), some (.sh (.int 1)), v_i, v_t, v_to, v_b, v_lo, v_co, v_k] = some (.nx [v_s, v_d, v_p, some (.sh (.int (g : Nat))), v_m, v_it, v_n, some (.sh (.int z)), v_tb, v_hr, some (.sh (.int (p ^ n))), v_tu, v_kp, some (.sh (dvec (2 * g + 1) (over g a n))), some (.sh (.int ((p ^ n) ^ (g + 1)))), iv, v_t, v_to, v_b, v_lo, v_co, v_k]) := by
  have hg := G.hg
  obtain ⟨ρ', e1, iv, P⟩ := forL_inv (t := gN 15) (s := bod16) (fun t ρ => ∃ iv, ρ = [v_s, v_d, v_p, some (.sh (.int (g : Nat))), v_m, v_it, v_n, some (.sh (.int z)), v_tb, v_hr, some (.sh (.int (p ^ n))), v_tu, v_kp, some (.sh (dvec (2 * g + 1) (over g a n))), some (.sh (.int ((p ^ n) ^ t))), iv, v_t, v_to, v_b, v_lo, v_co, v_k]) (rngN (g : Int) (g + 1) (-1)) 0 [v_s, v_d, v_p, some (.sh (.int (g : Nat))), v_m, v_it, v_n, some (.sh (.int z)), v_tb, v_hr, some (.sh (.int (p ^ n))), v_tu, v_kp, some (.sh (dvec (2 * g + 1) (over g a n))), some (.sh (.int 1)), v_i, v_t, v_to, v_b, v_lo, v_co, v_k] ⟨v_i, by rw [Int.pow_zero]⟩ (by
    rintro i d ρ hd ⟨iv, rfl⟩
    have hi : i < g + 1 := by
      have := (List.getElem?_eq_some_iff.mp hd).1
      simpa [rngN] using this
    have ed : d = .int ((g : Int) + (i : Nat) * -1) := by
      unfold rngN at hd
      rw [List.getElem?_map, List.getElem?_range hi] at hd
      exact (Option.some.inj hd).symm
    subst ed
    exact ⟨_, _, rfl, .inl (bod_16 (t := 0 + i) G hz (by omega) (by omega)), _, rfl⟩)
  have ln2 : (rngN (g : Int) (g + 1) (-1)).length = g + 1 := by simp [rngN]
  rw [ln2, Nat.zero_add] at P
  refine ⟨iv, ?_⟩
  rw [← P, ← e1]
  unfold p_law_16
  have : -4611686018427387904 ≤ (g : Int) ∧ (g : Int) < 4611686018427387904 := by omega
  have tn : ((g : Int) - -1).toNat = g + 1 := by omega
  exact for1 (by simp [x_sVar, this, tn])

def par17 : DS := (sPar 17 14 (sCons (sOp vAdd (sCons (sVar 17) (sCons (sOp vMul (sCons (sVar 18) (sCons (sVar 14) sNil))) sNil))) (sCons (sOp vMul (sCons (sVar 14) (sCons (sVar 16) sNil))) sNil)))
theorem par_17 {p : Int} {g n r e : Nat} {a : Nat → Int} {t z : Int} (G : Good p g a e n) (ht : -3 ≤ t) (ht2 : t ≤ 3) (hr : r ≤ 2 * g) : par17 [v_s, v_d, v_p, v_g, v_m, v_it, v_n, some (.sh (.int z)), v_tb, some (.sh (dmat (2 * g) (HH g a n))), v_q, v_tu, v_kp, some (.sh (dvec (2 * g + 1) (over g a n))), some (.sh (.int (t ^ (r)))), v_i, some (.sh (.int t)), some (.sh (.int (sm (r) fun k => over g a n k * t ^ k))), some (.sh (.int (over g a n r))), v_lo, v_co, v_k] = some (.nx [v_s, v_d, v_p, v_g, v_m, v_it, v_n, some (.sh (.int z)), v_tb, some (.sh (dmat (2 * g) (HH g a n))), v_q, v_tu, v_kp, some (.sh (dvec (2 * g + 1) (over g a n))), some (.sh (.int (t ^ (r + 1)))), v_i, some (.sh (.int t)), some (.sh (.int (sm (r + 1) fun k => over g a n k * t ^ k))), some (.sh (.int (over g a n r))), v_lo, v_co, v_k]) := by
  have hg := G.hg
  have st : Sz 2 t := Sz.of_le (b := 3) (by omega) (by decide)
  have s1 := st.pow r
  have m1 : CMulZ (over g a n r) (t ^ r) := cmul_of (G.szo2 n G.n40 r hr) s1 (by omega)
  have m2 : CMulZ (t ^ r) t := cmul_of s1 st (by omega)
  have e : (sCons (sOp vAdd (sCons (sVar 17) (sCons (sOp vMul (sCons (sVar 18) (sCons (sVar 14) sNil))) sNil))) (sCons (sOp vMul (sCons (sVar 14) (sCons (sVar 16) sNil))) sNil)) [v_s, v_d, v_p, v_g, v_m, v_it, v_n, some (.sh (.int z)), v_tb, some (.sh (dmat (2 * g) (HH g a n))), v_q, v_tu, v_kp, some (.sh (dvec (2 * g + 1) (over g a n))), some (.sh (.int (t ^ (r)))), v_i, some (.sh (.int t)), some (.sh (.int (sm (r) fun k => over g a n k * t ^ k))), some (.sh (.int (over g a n r))), v_lo, v_co, v_k] = some ([.sh (.int ((sm r fun k => over g a n k * t ^ k) + over g a n r * t ^ r)), .sh (.int (t ^ r * t))], [v_s, v_d, v_p, v_g, v_m, v_it, v_n, some (.sh (.int z)), v_tb, some (.sh (dmat (2 * g) (HH g a n))), v_q, v_tu, v_kp, some (.sh (dvec (2 * g + 1) (over g a n))), some (.sh (.int (t ^ (r)))), v_i, some (.sh (.int t)), some (.sh (.int (sm (r) fun k => over g a n k * t ^ k))), some (.sh (.int (over g a n r))), v_lo, v_co, v_k]) := by
    rw [x_sCons, (op2 (var_sh rfl) ((op2 (var_sh rfl) (var_sh rfl)).trans (mul2 m1))).trans x_add]
    simp only [Option.bind_some]
    rw [x_sCons, (op2 (var_sh rfl) (var_sh rfl)).trans (mul2 m2)]
    rfl
  unfold par17
  rw [x_sPar, e]
  rw [Int.pow_succ]
  rfl

theorem for_17 {p : Int} {g n e : Nat} {a : Nat → Int} {t z : Int} (G : Good p g a e n) (ht : -3 ≤ t) (ht2 : t ≤ 3) : ∃ bv, (sFor (sItems (sVar 13)) (gN 18) (sPar 17 14 (sCons (sOp vAdd (sCons (sVar 17) (sCons (sOp vMul (sCons (sVar 18) (sCons (sVar 14) sNil))) sNil))) (sCons (sOp vMul (sCons (sVar 14) (sCons (sVar 16) sNil))) sNil)))) [v_s, v_d, v_p, v_g, v_m, v_it, v_n, some (.sh (.int z)), v_tb, some (.sh (dmat (2 * g) (HH g a n))), v_q, v_tu, v_kp, some (.sh (dvec (2 * g + 1) (over g a n))), some (.sh (.int 1)), v_i, some (.sh (.int t)), some (.sh (.int 0)), v_b, v_lo, v_co, v_k] = some (.nx [v_s, v_d, v_p, v_g, v_m, v_it, v_n, some (.sh (.int z)), v_tb, some (.sh (dmat (2 * g) (HH g a n))), v_q, v_tu, v_kp, some (.sh (dvec (2 * g + 1) (over g a n))), some (.sh (.int (t ^ (2 * g + 1)))), v_i, some (.sh (.int t)), some (.sh (.int (sm (2 * g + 1) fun k => over g a n k * t ^ k))), bv, v_lo, v_co, v_k]) := by
  obtain ⟨ρ', e1, bv, P⟩ := forL_inv (t := gN 18) (s := par17) (fun r ρ => ∃ bv, ρ = [v_s, v_d, v_p, v_g, v_m, v_it, v_n, some (.sh (.int z)), v_tb, some (.sh (dmat (2 * g) (HH g a n))), v_q, v_tu, v_kp, some (.sh (dvec (2 * g + 1) (over g a n))), some (.sh (.int (t ^ (r)))), v_i, some (.sh (.int t)), some (.sh (.int (sm (r) fun k => over g a n k * t ^ k))), bv, v_lo, v_co, v_k]) (intR (2 * g + 1) (over g a n)) 0 [v_s, v_d, v_p, v_g, v_m, v_it, v_n, some (.sh (.int z)), v_tb, some (.sh (dmat (2 * g) (HH g a n))), v_q, v_tu, v_kp, some (.sh (dvec (2 * g + 1) (over g a n))), some (.sh (.int 1)), v_i, some (.sh (.int t)), some (.sh (.int 0)), v_b, v_lo, v_co, v_k] ⟨v_b, by rw [Int.pow_zero]; rfl⟩ (by
    rintro i d ρ hd ⟨bv, rfl⟩
    have hi : i < 2 * g + 1 := by
      have := (List.getElem?_eq_some_iff.mp hd).1
      rwa [intR_len] at this
    rw [intR_get hi] at hd
    cases Option.some.inj hd
    have := par_17 (v_s := v_s) (v_d := v_d) (v_p := v_p) (v_g := v_g) (v_m := v_m) (v_it := v_it) (v_n := v_n) (v_tb := v_tb) (v_q := v_q) (v_tu := v_tu) (v_kp := v_kp) (v_i := v_i) (v_lo := v_lo) (v_co := v_co) (v_k := v_k) (z := z) (r := i) G ht ht2 (by omega)
    rw [show 0 + i = i by omega]
    exact ⟨_, _, rfl, .inl this, _, rfl⟩)
  rw [intR_len, Nat.zero_add] at P
  refine ⟨bv, ?_⟩
  rw [← P, ← e1]
  exact for1 (by simp [x_sVar, dvec])

theorem rowsL_of {N : Nat} {A : Det.Mat Int} : rowsL (rowsOf N A) = some ((List.range N).map fun i => (List.range N).map (A i)) := by
  unfold rowsOf
  have key : ∀ xs : List Nat, rowsL (xs.map fun i => dvec N (A i)) = some (xs.map fun i => (List.range N).map (A i)) := by
    intro xs
    induction xs with
    | nil => rfl
    | cons x xs ih =>
      have h1 : intsL (intR N (A x)) = some ((List.range N).map (A x)) := by
        rw [intR_eq]
        have : ∀ ns : List Int, intsL (ns.map .int) = some ns := by
          intro ns
          induction ns with
          | nil => rfl
          | cons y ns ih2 => show (intsL (ns.map .int)).map (y :: ·) = _; rw [ih2]; rfl
        exact this _
      show (intsL (intR N (A x))).bind (fun y => (rowsL (xs.map fun i => dvec N (A i))).map (y :: ·)) = _
      rw [h1, ih]; rfl
  exact key _
theorem F_det_eq {N : Nat} {A : Det.Mat Int} (hN : N ≤ 8) (hA : ∀ i j, i < N → j < N → Sz 1399 (A i j)) : F__law_determinant [dmat N A] = some (.int (Det.det N A)) := by
  show (rowsL (rowsOf N A)).bind _ = _
  rw [rowsL_of]
  simp only [Option.bind_some]
  have ln : ((List.range N).map fun i => (List.range N).map (A i)).length = N := by simp
  have get : ∀ i j, i < N → j < N → matL ((List.range N).map fun i => (List.range N).map (A i)) i j = A i j := by
    intro i j hi hj
    unfold matL
    rw [List.getD_eq_getElem?_getD, List.getD_eq_getElem?_getD, List.getElem?_map, List.getElem?_range hi]
    simp [hj]
  rw [if_pos]
  · congr 2
    rw [ln]
    exact Det.det_congr fun i j hi hj => get i j hi hj
  · refine ⟨by rw [ln]; exact hN, ?_⟩
    rw [ln, List.all_eq_true]
    intro r hr
    obtain ⟨i, hi, rfl⟩ := List.mem_map.mp hr
    have hi := List.mem_range.mp hi
    unfold okRow
    simp only [Bool.and_eq_true, List.all_eq_true, decide_eq_true_eq]
    refine ⟨by simp, fun x hx => ?_⟩
    obtain ⟨j, hj, rfl⟩ := List.mem_map.mp hx
    have := hA i j hi (List.mem_range.mp hj)
    unfold Sz at this
    have e : ((2 : Nat) ^ 1400 : Int) = 2 ^ 1400 := by norm_cast
    have h2 : (2 : Nat) ^ 1399 ≤ 2 ^ 1400 := Nat.pow_le_pow_right (by omega) (by omega)
    have h3 : ((2 ^ 1400 : Nat) : Int) = (2 : Int) ^ 1400 := by rw [Int.natCast_pow]; rfl
    rw [← h3]
    generalize (2 : Nat) ^ 1400 = B at *
    generalize (2 : Nat) ^ 1399 = C at *
    omega

theorem cmp_17b {p : Int} {g n i e : Nat} {a : Nat → Int} {t z x : Int} (G : Good p g a e n) (hz : z = 2 * (g : Int)) (ht : -3 ≤ t) (ht2 : t ≤ 3) (hi : i < 2 * g) (hx : x = i) : (sComp (sRng (sCons (sVar 7) sNil)) (gN 21) sYes (sOp vSub (sCons (sOp vInt (sCons (sOp (vEqD false) (sCons (sVar 15) (sCons (sVar 21) sNil))) sNil)) (sCons (sOp vMul (sCons (sVar 16) (sCons (sOp vIx (sCons (sOp vIx (sCons (sVar 9) (sCons (sVar 15) sNil))) (sCons (sVar 21) sNil))) sNil))) sNil))) [21]) [v_s, v_d, v_p, v_g, v_m, v_it, v_n, some (.sh (.int z)), v_tb, some (.sh (dmat (2 * g) (HH g a n))), v_q, v_tu, v_kp, some (.sh (dvec (2 * g + 1) (over g a n))), v_pw, some (.sh (.int x)), some (.sh (.int t)), v_to, v_b, v_lo, v_co, v_k] = some (.ow (intR (2 * g) fun k => Det.dl i k - t * HH g a n i k), [v_s, v_d, v_p, v_g, v_m, v_it, v_n, some (.sh (.int z)), v_tb, some (.sh (dmat (2 * g) (HH g a n))), v_q, v_tu, v_kp, some (.sh (dvec (2 * g + 1) (over g a n))), v_pw, some (.sh (.int x)), some (.sh (.int t)), v_to, v_b, v_lo, v_co, v_k]) := by
  have hg := G.hg
  obtain ⟨r1, r2⟩ := rg_ok hg hz
  refine comp_int1 (lo := 0) (n := 2 * g) _ (by simp [x_sVar, r1, r2]) (by omega) fun k hk => ?_
  have a1 := mat_at (A := HH g a n) (i := x) i hx hi
  have a2 : atI (intR (2 * g) (HH g a n i)) (0 + (k : Int)) = some (.int (HH g a n i k)) := intR_at k (by omega) hk
  have st : Sz 2 t := Sz.of_le (b := 3) (by omega) (by decide)
  have m1 : CMulZ t (HH g a n i k) := cmul_of st (G.hh n i k hi hk) (by have := G.en; omega)
  have dd : (if (x == 0 + (k : Int)) = true then (1 : Int) else 0) = Det.dl i k := by
    unfold Det.dl
    by_cases c : k = i
    · rw [if_pos c, if_pos (by rw [hx, c]; simp)]
    · rw [if_neg c, if_neg (by rw [hx]; simp; omega)]
  generalize (0 + (k : Int)) = y at *
  refine (op2 ((op1 ((op2 (var_sh rfl) (var_sh rfl)).trans x_eqI)).trans x_intb) ((op2 (var_sh rfl) ((op2 ((op2 (var_sh rfl) (var_sh rfl)).trans (ixl a1)) (var_sh rfl)).trans (ixl a2))).trans (mul2 m1))).trans ?_
  rw [x_sub, dd]
theorem cmp_17 {p : Int} {g n e : Nat} {a : Nat → Int} {t z : Int} (G : Good p g a e n) (hz : z = 2 * (g : Int)) (ht : -3 ≤ t) (ht2 : t ≤ 3) : (sComp (sRng (sCons (sVar 7) sNil)) (gN 15) sYes (sStab (sComp (sRng (sCons (sVar 7) sNil)) (gN 21) sYes (sOp vSub (sCons (sOp vInt (sCons (sOp (vEqD false) (sCons (sVar 15) (sCons (sVar 21) sNil))) sNil)) (sCons (sOp vMul (sCons (sVar 16) (sCons (sOp vIx (sCons (sOp vIx (sCons (sVar 9) (sCons (sVar 15) sNil))) (sCons (sVar 21) sNil))) sNil))) sNil))) [21])) [15]) [v_s, v_d, v_p, v_g, v_m, v_it, v_n, some (.sh (.int z)), v_tb, some (.sh (dmat (2 * g) (HH g a n))), v_q, v_tu, v_kp, some (.sh (dvec (2 * g + 1) (over g a n))), v_pw, v_i, some (.sh (.int t)), v_to, v_b, v_lo, v_co, v_k] = some (.ow (rowsOf (2 * g) fun i k => Det.dl i k - t * HH g a n i k), [v_s, v_d, v_p, v_g, v_m, v_it, v_n, some (.sh (.int z)), v_tb, some (.sh (dmat (2 * g) (HH g a n))), v_q, v_tu, v_kp, some (.sh (dvec (2 * g + 1) (over g a n))), v_pw, v_i, some (.sh (.int t)), v_to, v_b, v_lo, v_co, v_k]) := by
  have hg := G.hg
  obtain ⟨r1, r2⟩ := rg_ok hg hz
  exact comp_rng1 (lo := 0) (n := 2 * g) (fun i => dvec (2 * g) fun k => Det.dl i k - t * HH g a n i k) (by simp [x_sVar, r1, r2]) (by omega) fun i hi => stab_ow (cmp_17b G hz ht ht2 hi (by omega))

def bod17 : DS := (sSeq (sAsgT (sOp vTup (sCons (sC (.int 0)) (sCons (sC (.int 1)) sNil))) (gTu 2 [(gN 17), (gN 14)])) (sSeq (sFor (sItems (sVar 13)) (gN 18) (sPar 17 14 (sCons (sOp vAdd (sCons (sVar 17) (sCons (sOp vMul (sCons (sVar 18) (sCons (sVar 14) sNil))) sNil))) (sCons (sOp vMul (sCons (sVar 14) (sCons (sVar 16) sNil))) sNil)))) (sIf (sTst (sOp (vEqD true) (sCons (sVar 17) (sCons (sOp (vCall F__law_determinant) (sCons (sStab (sComp (sRng (sCons (sVar 7) sNil)) (gN 15) sYes (sStab (sComp (sRng (sCons (sVar 7) sNil)) (gN 21) sYes (sOp vSub (sCons (sOp vInt (sCons (sOp (vEqD false) (sCons (sVar 15) (sCons (sVar 21) sNil))) sNil)) (sCons (sOp vMul (sCons (sVar 16) (sCons (sOp vIx (sCons (sOp vIx (sCons (sVar 9) (sCons (sVar 15) sNil))) (sCons (sVar 21) sNil))) sNil))) sNil))) [21])) [15])) sNil)) sNil)))) (sRet (sC (.bool false))) sNext)))
theorem bod_17 {p : Int} {g n e : Nat} {a : Nat → Int} {t z : Int} (G : Good p g a e n) (hz : z = 2 * (g : Int)) (ht : -3 ≤ t) (ht2 : t ≤ 3) : ∃ tov pwv bv, bod17 [v_s, v_d, v_p, v_g, v_m, v_it, v_n, some (.sh (.int z)), v_tb, some (.sh (dmat (2 * g) (HH g a n))), v_q, v_tu, v_kp, some (.sh (dvec (2 * g + 1) (over g a n))), v_pw, v_i, some (.sh (.int t)), v_to, v_b, v_lo, v_co, v_k] = some (.nx [v_s, v_d, v_p, v_g, v_m, v_it, v_n, some (.sh (.int z)), v_tb, some (.sh (dmat (2 * g) (HH g a n))), v_q, v_tu, v_kp, some (.sh (dvec (2 * g + 1) (over g a n))), pwv, v_i, some (.sh (.int t)), tov, bv, v_lo, v_co, v_k]) := by
  obtain ⟨bv, ef⟩ := for_17 (v_s := v_s) (v_d := v_d) (v_p := v_p) (v_g := v_g) (v_m := v_m) (v_it := v_it) (v_n := v_n) (v_tb := v_tb) (v_q := v_q) (v_tu := v_tu) (v_kp := v_kp) (v_i := v_i) (v_b := v_b) (v_lo := v_lo) (v_co := v_co) (v_k := v_k) (z := z) G ht ht2
  have hA : ∀ i j, i < 2 * g → j < 2 * g → Sz 1399 (Det.dl i j - t * HH g a n i j) := fun i j hi hj => by
    have st : Sz 2 t := Sz.of_le (b := 3) (by omega) (by decide)
    have h1 : Sz (2 + ((e + 3) * n + 1)) (t * HH g a n i j) := st.mul (G.hh n i j hi hj)
    have h2 : Sz 1 (Det.dl i j) := by unfold Det.dl; split; exact Sz.one; exact Sz.zero
    have := G.en
    exact ((h2.mono (l := 1323) (by omega)).sub (h1.mono (l := 1323) (by omega))).mono (by omega)
  have fd := F_det_eq (N := 2 * g) (A := fun i k => Det.dl i k - t * HH g a n i k) (by have := G.hg; omega) hA
  have eq := Det.over_at (g := g) (a := a) n t
  refine ⟨some (.sh (.int (sm (2 * g + 1) fun k => over g a n k * t ^ k))), some (.sh (.int (t ^ (2 * g + 1)))), bv, ?_⟩
  unfold bod17
  rw [x_seq (ρ' := [v_s, v_d, v_p, v_g, v_m, v_it, v_n, some (.sh (.int z)), v_tb, some (.sh (dmat (2 * g) (HH g a n))), v_q, v_tu, v_kp, some (.sh (dvec (2 * g + 1) (over g a n))), some (.sh (.int 1)), v_i, some (.sh (.int t)), some (.sh (.int 0)), v_b, v_lo, v_co, v_k]) (by simp)]
  rw [x_seq ef]
  exact (if_f (tst_b ((op2 (var_sh rfl) ((op1 (stab_ow (cmp_17 G hz ht ht2))).trans (call1 fd))).trans (ne_same eq)))).trans rfl

theorem law_17 {p : Int} {g n e : Nat} {a : Nat → Int} {z : Int} (G : Good p g a e n) (hz : z = 2 * (g : Int)) : ∃ tv tov pwv bv, p_law_17 [v_s, v_d, v_p, v_g, v_m, v_it, v_n, some (.sh (.int z)), v_tb, some (.sh (dmat (2 * g) (HH g a n))), v_q, v_tu, v_kp, some (.sh (dvec (2 * g + 1) (over g a n))), v_pw, v_i, v_t, v_to, v_b, v_lo, v_co, v_k] = some (.nx [v_s, v_d, v_p, v_g, v_m, v_it, v_n, some (.sh (.int z)), v_tb, some (.sh (dmat (2 * g) (HH g a n))), v_q, v_tu, v_kp, some (.sh (dvec (2 * g + 1) (over g a n))), pwv, v_i, tv, tov, bv, v_lo, v_co, v_k]) := by
  obtain ⟨ρ', e1, tv, tov, pwv, bv, P⟩ := forL_inv (t := gN 16) (s := bod17) (fun r ρ => ∃ tv tov pwv bv, ρ = [v_s, v_d, v_p, v_g, v_m, v_it, v_n, some (.sh (.int z)), v_tb, some (.sh (dmat (2 * g) (HH g a n))), v_q, v_tu, v_kp, some (.sh (dvec (2 * g + 1) (over g a n))), pwv, v_i, tv, tov, bv, v_lo, v_co, v_k]) [.int 1, .int (-1), .int 2, .int 3] 0 [v_s, v_d, v_p, v_g, v_m, v_it, v_n, some (.sh (.int z)), v_tb, some (.sh (dmat (2 * g) (HH g a n))), v_q, v_tu, v_kp, some (.sh (dvec (2 * g + 1) (over g a n))), v_pw, v_i, v_t, v_to, v_b, v_lo, v_co, v_k] ⟨v_t, v_to, v_pw, v_b, rfl⟩ (by
    rintro i d ρ hd ⟨tv, tov, pwv, bv, rfl⟩
    have hm : d ∈ [PyData.int 1, .int (-1), .int 2, .int 3] := List.mem_of_getElem? hd
    have : ∃ t : Int, d = .int t ∧ -3 ≤ t ∧ t ≤ 3 := by
      simp only [List.mem_cons, List.not_mem_nil, or_false] at hm
      rcases hm with h | h | h | h <;> exact ⟨_, h, by omega, by omega⟩
    obtain ⟨t, rfl, h1, h2⟩ := this
    obtain ⟨a1, a2, a3, eb⟩ := bod_17 (v_s := v_s) (v_d := v_d) (v_p := v_p) (v_g := v_g) (v_m := v_m) (v_it := v_it) (v_n := v_n) (v_tb := v_tb) (v_q := v_q) (v_tu := v_tu) (v_kp := v_kp) (v_i := v_i) (v_lo := v_lo) (v_co := v_co) (v_k := v_k) (v_pw := pwv) (v_to := tov) (v_b := bv) G hz h1 h2
    exact ⟨_, _, rfl, .inl eb, _, _, _, _, rfl⟩)
  refine ⟨tv, tov, pwv, bv, ?_⟩
  rw [← P, ← e1]
  unfold p_law_17
  exact for1 (by simp)

theorem law_18 {n : Nat} {f : Nat → Int} : p_law_18 [v_s, v_d, v_p, v_g, v_m, some (.sh (dvec n f)), v_n, v_sz, v_tb, v_hr, v_q, v_tu, v_kp, v_td, v_pw, v_i, v_t, v_to, v_b, v_lo, v_co, v_k] = some (.nx [v_s, v_d, v_p, v_g, v_m, some (.sh (dvec n f)), v_n, v_sz, v_tb, v_hr, v_q, v_tu, v_kp, v_td, v_pw, v_i, v_t, v_to, v_b, some (.sh (.int (sm n f))), v_co, v_k]) := by
  unfold p_law_18
  exact set1 ((op1 (var_sh rfl)).trans sum_R) rfl

theorem law_19 {n : Nat} {f : Nat → Int} {low : Int} (h : low ∣ sm n f) : p_law_19 [v_s, v_d, v_p, v_g, v_m, v_it, v_n, v_sz, v_tb, v_hr, v_q, v_tu, v_kp, some (.sh (dvec n f)), v_pw, v_i, v_t, v_to, v_b, some (.sh (.int low)), v_co, v_k] = some (.nx [v_s, v_d, v_p, v_g, v_m, v_it, v_n, v_sz, v_tb, v_hr, v_q, v_tu, v_kp, some (.sh (dvec n f)), v_pw, v_i, v_t, v_to, v_b, some (.sh (.int low)), v_co, v_k]) := by
  unfold p_law_19
  by_cases z : low = 0
  · refine (if_f (and_f (tst_b ((op2 (var_sh rfl) x_sC).trans (ne_same z))))).trans rfl
  · have t1 : (sTst (sOp (vEqD true) (sCons (sVar 19) (sCons (sC (.int 0)) sNil)))) [v_s, v_d, v_p, v_g, v_m, v_it, v_n, v_sz, v_tb, v_hr, v_q, v_tu, v_kp, some (.sh (dvec n f)), v_pw, v_i, v_t, v_to, v_b, some (.sh (.int low)), v_co, v_k] = some (true, [v_s, v_d, v_p, v_g, v_m, v_it, v_n, v_sz, v_tb, v_hr, v_q, v_tu, v_kp, some (.sh (dvec n f)), v_pw, v_i, v_t, v_to, v_b, some (.sh (.int low)), v_co, v_k]) := by
      refine tst_b ((op2 (var_sh rfl) x_sC).trans ?_)
      rw [x_neI]
      simp [z]
    have m0 : (sm n f).fmod low = 0 := by
      obtain ⟨k, hk⟩ := h
      rw [hk]; exact Int.mul_fmod_right _ _
    refine (if_f ((and_t t1).trans (tst_b ((op2 ((op2 ((op1 ((op1 (var_sh rfl)).trans sum_R)).trans x_int) (var_sh rfl)).trans ?_) x_sC).trans (ne_same m0))))).trans rfl
    rw [x_mod, if_pos z]

end W56
end

section
set_option Elab.async false
set_option linter.all false
set_option maxRecDepth 100000
set_option maxHeartbeats 4000000
namespace W56
open PySem PySem.Spec PyProof.Rows L2 DL
open Det (sm Lst HH over mmul mpow tr)
section
variable {v_s v_d v_p v_g v_m v_it v_n v_sz v_tb v_hr v_q v_tu v_kp v_td v_pw v_i v_t v_to v_b v_lo v_co v_k : Option Val}

theorem law_20 {p : Int} {g n e : Nat} {a : Nat → Int} (G : Good p g a e n) : p_law_20 [v_s, v_d, some (.sh (.int p)), v_g, v_m, some (.sh (dvec (2 * g + 1) a)), some (.sh (.int (n : Nat))), v_sz, v_tb, v_hr, v_q, v_tu, v_kp, v_td, v_pw, v_i, v_t, v_to, v_b, v_lo, v_co, v_k] = some (.nx [v_s, v_d, some (.sh (.int p)), v_g, v_m, some (.sh (dvec (2 * g + 1) a)), some (.sh (.int (n : Nat))), v_sz, v_tb, v_hr, v_q, v_tu, v_kp, v_td, v_pw, v_i, v_t, v_to, v_b, v_lo, some (.sh (dvec n fun i => SS g a (i + 1) + p ^ (i + 1) + 1)), v_k]) := by
  have n40 := G.n40
  have hg := G.hg
  have co := F_counts_of_eq (p := p) (most := n) (Sums.cut (c' := n) G.sums (by omega)) (by omega) (by omega) (by omega) (Nat.le_refl _) G.szp (by omega)
  have mn : (if (n : Int) < 40 then (n : Int) else 40) = n := by split <;> omega
  have e3 : ∀ ρ : DL.Env, ρ[6]? = some (some (.sh (.int n))) → (sOp vMin (sCons (sC (.int 40)) (sCons (sVar 6) sNil))) ρ = some (.sh (.int n), ρ) := fun ρ h => by
    rw [op2 x_sC (var_sh h), x_min, mn]
  unfold p_law_20
  exact set1 ((op3 (stab_sh (var_sh rfl)) (stab_sh (var_sh rfl)) (e3 _ rfl)).trans (call3 co)) rfl

theorem law_21 {p : Int} {g n e : Nat} {a : Nat → Int} (G : Good p g a e n) : p_law_21 [v_s, v_d, v_p, v_g, v_m, v_it, some (.sh (.int (n : Nat))), v_sz, v_tb, v_hr, some (.sh (.int (p ^ n))), v_tu, v_kp, some (.sh (dvec (2 * g + 1) (over g a n))), v_pw, v_i, v_t, v_to, v_b, v_lo, some (.sh (dvec n fun i => SS g a (i + 1) + p ^ (i + 1) + 1)), v_k] = some (.nx [v_s, v_d, v_p, v_g, v_m, v_it, some (.sh (.int (n : Nat))), v_sz, v_tb, v_hr, some (.sh (.int (p ^ n))), v_tu, v_kp, some (.sh (dvec (2 * g + 1) (over g a n))), v_pw, v_i, v_t, v_to, v_b, v_lo, some (.sh (dvec n fun i => SS g a (i + 1) + p ^ (i + 1) + 1)), v_k]) := by
  have n1 := G.n1
  have g0 := G.L.g0
  have a1 : atI (intR (2 * g + 1) (over g a n)) 1 = some (.int (over g a n 1)) := intR_at 1 rfl (by omega)
  have a2 : atI (intR n fun i => SS g a (i + 1) + p ^ (i + 1) + 1) (-1) = some (.int (SS g a n + p ^ n + 1)) := by
    obtain ⟨k, rfl⟩ : ∃ k, n = k + 1 := ⟨n - 1, by omega⟩
    rw [intR_succ]; exact atI_last _ _
  have nw := G.newt n 1
  rw [show sm 1 (fun i => SS g a (n * (1 - i)) * over g a n i) = 0 + SS g a (n * (1 - 0)) * over g a n 0 from rfl, Det.over_0, Nat.sub_zero, Nat.mul_one] at nw
  have eqv : over g a n 1 = SS g a n + p ^ n + 1 - p ^ n - 1 := by
    have : ((1 : Nat) : Int) = 1 := rfl
    rw [this] at nw
    omega
  unfold p_law_21
  have t1 : (sTst (sOp (vEqD false) (sCons (sOp vLen (sCons (sVar 20) sNil)) (sCons (sVar 6) sNil)))) [v_s, v_d, v_p, v_g, v_m, v_it, some (.sh (.int (n : Nat))), v_sz, v_tb, v_hr, some (.sh (.int (p ^ n))), v_tu, v_kp, some (.sh (dvec (2 * g + 1) (over g a n))), v_pw, v_i, v_t, v_to, v_b, v_lo, some (.sh (dvec n fun i => SS g a (i + 1) + p ^ (i + 1) + 1)), v_k] = some (true, [v_s, v_d, v_p, v_g, v_m, v_it, some (.sh (.int (n : Nat))), v_sz, v_tb, v_hr, some (.sh (.int (p ^ n))), v_tu, v_kp, some (.sh (dvec (2 * g + 1) (over g a n))), v_pw, v_i, v_t, v_to, v_b, v_lo, some (.sh (dvec n fun i => SS g a (i + 1) + p ^ (i + 1) + 1)), v_k]) := by
    refine tst_b ((op2 ((op1 (var_sh rfl)).trans len1) (var_sh rfl)).trans ?_)
    rw [x_eqI, intR_len]
    simp
  exact (if_f ((and_t t1).trans (tst_b ((op2 ((op2 (var_sh rfl) x_sC).trans (ixl a1)) ((op2 ((op2 ((op2 (var_sh rfl) ((op1 x_sC).trans x_neg)).trans (ixl a2)) (var_sh rfl)).trans x_sub) x_sC).trans x_sub)).trans (ne_same eqv))))).trans rfl

theorem law_22 {p : Int} {g n e : Nat} {a : Nat → Int} (G : Good p g a e n) : ∃ ρ, p_law_22 [v_s, v_d, some (.sh (.int p)), v_g, v_m, some (.sh (dvec (2 * g + 1) a)), v_n, v_sz, v_tb, v_hr, v_q, v_tu, v_kp, v_td, v_pw, v_i, v_t, v_to, v_b, v_lo, v_co, v_k] = some (.rt (.sh (.bool true)) ρ) := by
  have h1 : F_list_over [.int p, dvec (2 * g + 1) a, .int 1] = some (dvec (2 * g + 1) a) := by
    have := G.list_over 1 (Nat.le_refl _) (by omega)
    rw [show ((1 : Nat) : Int) = 1 from rfl] at this
    rw [this]
    congr 1
    show PyData.list _ = PyData.list _
    congr 1
    exact intR_congr fun i hi => Det.over_1 G.L.a0 i (by omega)
  have h2 := F_is_eq (n := 2 * g + 1) (f := a) (by have := G.hg; omega) fun i hi => Nat.lt_of_lt_of_le ((G.sza i (by omega)).mono G.e48) (by decide)
  unfold p_law_22
  exact ⟨_, ret_sh ((op2 (stab_sh ((op3 (stab_sh (var_sh rfl)) (stab_sh (var_sh rfl)) x_sC).trans (call3 h1))) (stab_sh (var_sh rfl))).trans (call2 h2))⟩
end
theorem aOf_sz {g k : Nat} {p M : Int} {c : Nat → Int} (hg1 : 1 ≤ g) (hg : g ≤ 4) (hp : 3 ≤ p) (hp2 : p ≤ 61) (hM : 30 ≤ M) (hc : ∀ i, i < g → -M ≤ c i ∧ c i ≤ M) (hk : 30 ≤ k) (hMk : 226981 * M.natAbs < 2 ^ k) (i : Nat) (hi : i ≤ 2 * g) : Sz k (aOf g p c i) := by
  have pk : (2 : Nat) ^ 30 ≤ 2 ^ k := Nat.pow_le_pow_right (by omega) hk
  have p30 : (2 : Nat) ^ 30 = 1073741824 := by decide
  unfold aOf
  by_cases z : i = 0
  · rw [if_pos z]; exact (Sz.one (k := 0)).mono (by omega)
  · rw [if_neg z]
    by_cases h : i ≤ g
    · rw [if_pos h]
      have := hc (i - 1) (by omega)
      exact Sz.of_le (b := M.natAbs) (by omega) (by omega)
    · rw [if_neg h]
      have pp : ∀ e : Nat, (p ^ e).natAbs ≤ 61 ^ e := fun e => by rw [Int.natAbs_pow]; exact Nat.pow_le_pow_left (by omega) e
      by_cases y : 2 * g - i = 0
      · rw [if_pos y, Int.mul_one]
        have h4 : (61 : Nat) ^ (i - g) ≤ 61 ^ 4 := Nat.pow_le_pow_right (by omega) (by omega)
        have e4 : (61 : Nat) ^ 4 = 13845841 := by decide
        exact Sz.of_le (b := 13845841) (by have := pp (i - g); omega) (by omega)
      · rw [if_neg y]
        have h3 : (61 : Nat) ^ (i - g) ≤ 61 ^ 3 := Nat.pow_le_pow_right (by omega) (by omega)
        have e3 : (61 : Nat) ^ 3 = 226981 := by decide
        have hcc := hc (2 * g - i - 1) (by omega)
        refine Sz.of_le (b := 226981 * M.natAbs) ?_ hMk
        rw [Int.natAbs_mul]
        exact Nat.mul_le_mul (by have := pp (i - g); omega) (by omega)
theorem callL1 {F : List PyData → Option (List PyData)} {ρ : DL.Env} {a : PyData} {ds : List PyData} (h : F [a] = some ds) : vCallL F [.sh a] ρ = some (.ow ds, ρ) := by simp [h]
theorem law_0 {L : PyData} {ds : List PyData} (h : F__law_deck [L] = some ds) : p_law_0 [some (.sh L), none, none, none, none, none, none, none, none, none, none, none, none, none, none, none, none, none, none, none, none, none] = some (.nx [some (.sh L), some (.ow ds), none, none, none, none, none, none, none, none, none, none, none, none, none, none, none, none, none, none, none, none]) := by
  unfold p_law_0
  exact set1 ((op1 (stab_sh (var_sh rfl))).trans (callL1 h)) rfl
theorem law_true (ns : List Int) (hl : ns.length ≤ 63) : F_law [.list (ns.map .int)] = some (.bool true) := by
  obtain ⟨ds0, e0, D0⟩ := F_deck_eq ns hl
  obtain ⟨p, ds1, hp, hp2, D1, e1⟩ := law_1 (L := .list (ns.map .int)) D0 (by omega)
  obtain ⟨g, ds2, hg1, hg, D2, e2⟩ := law_2 (L := .list (ns.map .int)) (p := p) D1 (by omega)
  obtain ⟨M, ds3, hM, hM2, hM3, D3, e3⟩ := law_3 (L := .list (ns.map .int)) (p := p) (g := (g : Int)) D2 (by omega)
  obtain ⟨c, ds4, hc, D4, e4⟩ := law_4 (L := .list (ns.map .int)) D3 (by omega) hg1 hg hM hM2 hp hp2
  obtain ⟨n, ds5, n1, n40, n6, D5, e5⟩ := law_5 (L := .list (ns.map .int)) (p := p) (M := M) (g := g) (it := some (.sh (dvec (2 * g + 1) (aOf g p c)))) D4 (by omega)
  obtain ⟨e, G⟩ : ∃ e, Good p g (aOf g p c) e n := by
    have L : Lst p g (aOf g p c) := ⟨by omega, by omega, rfl, fun i hi => aOf_back (by omega) i hi⟩
    have q30 : (2 : Nat) ^ 30 = 1073741824 := by decide
    have q48 : (2 : Nat) ^ 48 = 281474976710656 := by decide
    rcases hM3 with h | h
    · exact ⟨30, L, hg, hp2, aOf_sz hg1 hg hp hp2 hM hc (by omega) (by rw [q30]; omega), by omega, by omega, by omega, n1, n40⟩
    · exact ⟨48, L, hg, hp2, aOf_sz hg1 hg hp hp2 hM hc (by omega) (by rw [q48]; omega), by omega, by omega, by have := n6 h; omega, n1, n40⟩
  have hz : (2 * (g : Int)) = 2 * (g : Int) := rfl
  have ok : okShow (dvec (2 * g + 1) (aOf g p c)) = true := okShow_R (by omega) fun i hi => Nat.lt_of_lt_of_le ((G.sza i (by omega)).mono G.e48) (by decide)
  show runD b_law 22 1 _ = _
  rw [runD_eq (np := 1) (by rfl)]
  rw [show startE 22 [.list (ns.map .int)] = [some (.sh (.list (ns.map .int))), none, none, none, none, none, none, none, none, none, none, none, none, none, none, none, none, none, none, none, none, none] from rfl]
  unfold b_law
  rw [x_seq (law_0 e0), x_seq e1, x_seq e2, x_seq e3, x_seq e4, x_seq e5]
  rw [x_seq (law_6 hg), x_seq (law_7 hg hg1 hz), x_seq (law_8 hg hz), x_seq law_9]
  obtain ⟨tuv, e10⟩ := law_10 (v_s := some (.sh (.list (ns.map .int)))) (v_d := some (.ow ds5)) (v_g := some (.sh (.int (g : Nat)))) (v_m := some (.sh (.int M))) (v_it := some (.sh (dvec (2 * g + 1) (aOf g p c)))) (v_sz := some (.sh (.int (2 * (g : Int))))) (v_tu := none) (v_kp := none) (v_td := none) (v_pw := none) (v_i := none) (v_t := none) (v_to := none) (v_b := none) (v_lo := none) (v_co := none) (v_k := none) G
  rw [x_seq e10, x_seq (law_11 ok), x_seq (law_12 G), x_seq (law_13 (by omega) ok), x_seq (law_14 (by omega) (by omega) (Det.over_0 n)), x_seq law_15]

  obtain ⟨iv, e16⟩ := law_16 (a := aOf g p c) (z := 2 * (g : Int)) (v_s := some (.sh (.list (ns.map .int)))) (v_d := some (.ow ds5)) (v_p := some (.sh (.int p))) (v_m := some (.sh (.int M))) (v_it := some (.sh (dvec (2 * g + 1) (aOf g p c)))) (v_n := some (.sh (.int (n : Nat)))) (v_tb := some (.sh (dmat (2 * g) (Det.comp (2 * g) (aOf g p c))))) (v_hr := some (.sh (dmat (2 * g) (HH g (aOf g p c) n)))) (v_tu := tuv) (v_kp := some (.sh (.str (dvec (2 * g + 1) (aOf g p c)).shown))) (v_i := none) (v_t := none) (v_to := none) (v_b := none) (v_lo := none) (v_co := none) (v_k := none) G hz
  rw [x_seq e16]

  obtain ⟨tv, tov, pwv, bv, e17⟩ := law_17 (a := aOf g p c) (z := 2 * (g : Int)) (v_s := some (.sh (.list (ns.map .int)))) (v_d := some (.ow ds5)) (v_p := some (.sh (.int p))) (v_g := some (.sh (.int (g : Nat)))) (v_m := some (.sh (.int M))) (v_it := some (.sh (dvec (2 * g + 1) (aOf g p c)))) (v_n := some (.sh (.int (n : Nat)))) (v_tb := some (.sh (dmat (2 * g) (Det.comp (2 * g) (aOf g p c))))) (v_q := some (.sh (.int (p ^ n)))) (v_tu := tuv) (v_kp := some (.sh (.str (dvec (2 * g + 1) (aOf g p c)).shown))) (v_pw := some (.sh (.int ((p ^ n) ^ (g + 1))))) (v_i := iv) (v_t := none) (v_to := none) (v_b := none) (v_lo := none) (v_co := none) (v_k := none) G hz
  rw [x_seq e17, x_seq law_18, x_seq (law_19 (Det.over_dvd G.L.a0 n)), x_seq (law_20 G), x_seq (law_21 G)]
  obtain ⟨ρ, e22⟩ := law_22 (a := aOf g p c) (v_s := some (.sh (.list (ns.map .int)))) (v_d := some (.ow ds5)) (v_g := some (.sh (.int (g : Nat)))) (v_m := some (.sh (.int M))) (v_n := some (.sh (.int (n : Nat)))) (v_sz := some (.sh (.int (2 * (g : Int))))) (v_tb := some (.sh (dmat (2 * g) (Det.comp (2 * g) (aOf g p c))))) (v_hr := some (.sh (dmat (2 * g) (HH g (aOf g p c) n)))) (v_q := some (.sh (.int (p ^ n)))) (v_tu := tuv) (v_kp := some (.sh (.str (dvec (2 * g + 1) (aOf g p c)).shown))) (v_td := some (.sh (dvec (2 * g + 1) (over g (aOf g p c) n)))) (v_pw := pwv) (v_i := iv) (v_t := tv) (v_to := tov) (v_b := bv) (v_lo := some (.sh (.int (sm (2 * g + 1) (aOf g p c))))) (v_co := some (.sh (dvec n fun i => SS g (aOf g p c) (i + 1) + p ^ (i + 1) + 1))) (v_k := none) G
  rw [e22]
  rfl

end W56
end

section
set_option Elab.async false
set_option linter.all false
set_option maxRecDepth 100000
open PySem PySem.W PyProof.Rows
set_option maxHeartbeats 0 in
theorem PySem.Challenge.cw_poleheaps_k56_lists_over_greater_fields_holds : PySem.Challenge.rw_poleheaps_k56_lists_over_greater_fields.Holds := by
  w_on; o_law; k_head; (case hw => w_witness2)
  k_fill
  refine DL.walk_ofG (l := PySem.Challenge.rw_poleheaps_k56_lists_over_greater_fields) (n := 63) (k := 4) (x := "script") (sp := fun K => DL.spD K W56.F_law) rfl (by decide) rfl ⟨rfl, by decide, by decide⟩ (fun w h Y => PySem.W.kIn_of Y) ?F (fun K H a ns hl _ hS => DL.law_spD hS (W56.law_true ns hl))
  case F =>
    intro w mg fa h KX G hmg
    refine' W56.all_mk KX G hmg ?a0 ?l0 ?c0 ?k0 ?a1 ?l1 ?c1 ?k1 ?a2 ?l2 ?c2 ?k2 ?a3 ?l3 ?c3 ?k3 ?a4 ?l4 ?c4 ?k4 ?a5 ?l5 ?c5 ?k5 ?a6 ?l6 ?c6 ?k6 ?a7 ?l7 ?c7 ?k7 ?a8 ?l8 ?c8 ?k8 ?a9 ?l9 ?c9 ?k9 ?a10 ?l10 ?c10 ?k10 ?z0 ?z1 ?z2 ?z3 ?z4 ?z5 ?z6 ?z7 ?z8 ?z9 ?z10 ?z11
    (case a0 => k_is); (case l0 => k_is); (case c0 => k_is); (case k0 => k_is); (case a1 => k_is); (case l1 => k_is); (case c1 => k_is); (case k1 => k_is); (case a2 => k_is); (case l2 => k_is); (case c2 => k_is); (case k2 => k_is); (case a3 => k_is); (case l3 => k_is); (case c3 => k_is); (case k3 => k_is); (case a4 => k_is); (case l4 => k_is); (case c4 => k_is); (case k4 => k_is); (case a5 => k_is); (case l5 => k_is); (case c5 => k_is); (case k5 => k_is); (case a6 => k_is); (case l6 => k_is); (case c6 => k_is); (case k6 => k_is); (case a7 => k_is); (case l7 => k_is); (case c7 => k_is); (case k7 => k_is); (case a8 => k_is); (case l8 => k_is); (case c8 => k_is); (case k8 => k_is); (case a9 => k_is); (case l9 => k_is); (case c9 => k_is); (case k9 => k_is); (case a10 => k_is); (case l10 => k_is); (case c10 => k_is); (case k10 => k_is); (case z0 => k_is); (case z1 => k_is); (case z2 => k_is); (case z3 => k_is); (case z4 => k_is); (case z5 => k_is); (case z6 => k_is); (case z7 => k_is); (case z8 => k_is); (case z9 => k_is); (case z10 => k_is); (case z11 => k_is)
end
