import PyProof.Rows.All
import Wide.All
import OpenK.AllK
import Wide.FinOn
import HandS.ForMost
import HandS.ForExc
import HandS.Walk
import HandS.IsInst
import HandS.CallSlots
import HandS.Wide
import HandS.WideBits
import HandS.TupAny
import HandS.Style
import HandS.StrMore
import HandS.SortRule
import HandS.Defaults
import HandS.TupMul
import HandS.Zip
import HandS.Head0
import HandS.Head1
import HandS.Head2
import HandS.HeadEnd
import HandS.HeadHook1
import HandS.HeadHook2
import HandS.Strs
import KE.GoesMore
import KE.GoesEnum
import HandS.Dict
import HandS.Text
import KE.KIntText
import HandS.ExcIs
import HandS.SortKw
import KE.DataMinMax
import HandS.Deep
import KE.IntTextText
import PyProof.ToksMono
import HandS.Replace
import PyProof.CompFree
import PyProof.WalksMore
import HandS.ExcOwn
import PyProof.Rows.StrStrike
import PySem.Challenge.RW_sayfigures_k07_whole_no_other_texts
set_option Elab.async false
set_option linter.all false
set_option maxRecDepth 100000
set_option maxHeartbeats 4000000
namespace L2.Pz
open PySem PySem.Spec PyProof.Rows

/-! ### results, slots -/
inductive Rs (α : Type) where
  | ok (a : α)
  | er (c : Str)
  | no
def Rs.bind {α β : Type} (x : Rs α) (f : α → Rs β) : Rs β := match x with
  | .ok a => f a
  | .er c => .er c
  | .no => .no
@[simp] theorem Rs.bind_ok {α β : Type} (a : α) (f : α → Rs β) : (Rs.ok a).bind f = f a := rfl
@[simp] theorem Rs.bind_er {α β : Type} (c : Str) (f : α → Rs β) : (Rs.er c : Rs α).bind f = .er c := rfl
@[simp] theorem Rs.bind_no {α β : Type} (f : α → Rs β) : (Rs.no : Rs α).bind f = .no := rfl
inductive Sl where
  | v (d : PyData)
  | own (ds : List PyData)
  | x (a : Addr)
  | g (d : PyData)
abbrev En := List (Option Sl)
abbrev EF := En → Rs PyData
def XC (mg : Str → Option Value) (c : Str) : Value := (mg c).getD .none

/-! ### data stays -/
theorem sqT_mono {K : PySem.W.Frag} {H H' : Hp} {a : Addr} {xs : List V} (e : Same H H') (h : SqT K H a xs) : SqT K H' a xs := by
  rcases h with (h | ⟨o, h⟩) | h
  · exact .inl (.inl (e _ _ h))
  · exact .inl (.inr ⟨o, e _ _ h⟩)
  · exact .inr h
theorem rd_mono {H H' : Hp} {a : Addr} {u : HO} (e : Same H H') (h : Rd H a u) : Rd H' a u := by
  rcases h with h | ⟨o, h⟩
  · exact .inl (e _ _ h)
  · exact .inr ⟨o, e _ _ h⟩
def kD : Key → PyData
  | .inl i => .int i
  | .inr x => .str x
mutual
/-- a value is this data -/
inductive Dq (K : PySem.W.Frag) (H : Hp) : V → PyData → Prop
  | non : Dq K H .non .none
  | bl (b : Bool) : Dq K H (.bl b) (.bool b)
  | int (i : Int) : Dq K H (.int i) (.int i)
  | str (x : Str) : x.length ≤ sizeLine → Dq K H (.str x) (.str x)
  | lst {a : Addr} {xs : List V} {ds : List PyData} : SqL K H a xs → DqAll K H xs ds → Dq K H (.ref a) (.list ds)
  | tup {a : Addr} {xs : List V} {ds : List PyData} : SqT K H a xs → DqAll K H xs ds → Dq K H (.ref a) (.tuple ds)
  | dct {a : Addr} {kvs : List (Key × V)} {ds : List (PyData × PyData)} : H a = some (.dK kvs) → DqKV K H kvs ds → Dq K H (.ref a) (.dict ds)
inductive DqAll (K : PySem.W.Frag) (H : Hp) : List V → List PyData → Prop
  | nil : DqAll K H [] []
  | cons {v : V} {vs : List V} {d : PyData} {ds : List PyData} : Dq K H v d → DqAll K H vs ds → DqAll K H (v :: vs) (d :: ds)
inductive DqKV (K : PySem.W.Frag) (H : Hp) : List (Key × V) → List (PyData × PyData) → Prop
  | nil : DqKV K H [] []
  | cons {k : Key} {v : V} {vs : List (Key × V)} {d : PyData} {ds : List (PyData × PyData)} : Dq K H v d → DqKV K H vs ds → DqKV K H ((k, v) :: vs) ((kD k, d) :: ds)
end
mutual
theorem dp_mono {K : PySem.W.Frag} {H H' : Hp} (e : Same H H') : ∀ {d : PyData} {v : V}, Dq K H v d → Dq K H' v d
  | .none, _, h => by cases h; exact .non
  | .bool b, _, h => by cases h; exact .bl b
  | .int i, _, h => by cases h; exact .int i
  | .str x, _, h => by cases h with | str _ z => exact .str x z
  | .list ds, _, h => by cases h with | lst a b => exact .lst (e.seq a) (dpAll_mono e b)
  | .tuple ds, _, h => by cases h with | tup a b => exact .tup (sqT_mono e a) (dpAll_mono e b)
  | .dict ds, _, h => by cases h with | dct a b => exact .dct (e _ _ a) (dpKV_mono e b)
theorem dpAll_mono {K : PySem.W.Frag} {H H' : Hp} (e : Same H H') : ∀ {ds : List PyData} {vs : List V}, DqAll K H vs ds → DqAll K H' vs ds
  | [], _, h => by cases h; exact .nil
  | d :: ds, _, h => by cases h with | cons a b => exact .cons (dp_mono e a) (dpAll_mono e b)
theorem dpKV_mono {K : PySem.W.Frag} {H H' : Hp} (e : Same H H') : ∀ {ds : List (PyData × PyData)} {vs : List (Key × V)}, DqKV K H vs ds → DqKV K H' vs ds
  | [], _, h => by cases h; exact .nil
  | (_, d) :: ds, _, h => by cases h with | cons a b => exact .cons (dp_mono e a) (dpKV_mono e b)
end
mutual
def noDict : PyData → Bool
  | .none => true
  | .bool _ => true
  | .int _ => true
  | .str _ => true
  | .list ds => noDicts ds
  | .tuple ds => noDicts ds
  | .dict _ => false
def noDicts : List PyData → Bool
  | [] => true
  | d :: ds => noDict d && noDicts ds
end
mutual
theorem dq_dp {K : PySem.W.Frag} {H : Hp} : ∀ {d : PyData} {v : V}, noDict d = true → Dq K H v d → Dp K H v d
  | .none, _, _, h => by cases h; exact .non
  | .bool b, _, _, h => by cases h; exact .bl b
  | .int i, _, _, h => by cases h; exact .int i
  | .str x, _, _, h => by cases h; exact .str x
  | .list ds, _, n, h => by cases h with | lst a b => exact .lst a (dqAll_dp (by simpa [noDict] using n) b)
  | .tuple ds, _, n, h => by cases h with | tup a b => exact .tup a (dqAll_dp (by simpa [noDict] using n) b)
  | .dict ds, _, n, h => by simp [noDict] at n
theorem dqAll_dp {K : PySem.W.Frag} {H : Hp} : ∀ {ds : List PyData} {vs : List V}, noDicts ds = true → DqAll K H vs ds → DpAll K H vs ds
  | [], _, _, h => by cases h; exact .nil
  | d :: ds, _, n, h => by
    have n' : noDict d = true ∧ noDicts ds = true := by simpa [noDicts] using n
    cases h with | cons a b => exact .cons (dq_dp n'.1 a) (dqAll_dp n'.2 b)
end
theorem dpAll_len {K : PySem.W.Frag} {H : Hp} : ∀ {ds : List PyData} {vs : List V}, DqAll K H vs ds → vs.length = ds.length
  | [], _, h => by cases h; rfl
  | d :: ds, _, h => by cases h with | cons a b => simp [dpAll_len b]
theorem dpAll_get {K : PySem.W.Frag} {H : Hp} : ∀ {ds : List PyData} {vs : List V} {i : Nat} {v : V}, DqAll K H vs ds → vs[i]? = some v → ∃ d, ds[i]? = some d ∧ Dq K H v d
  | [], _, i, v, h, e => by cases h; simp at e
  | d :: ds, _, 0, v, h, e => by cases h with | cons a b => simp at e; subst e; exact ⟨d, rfl, a⟩
  | d :: ds, _, i + 1, v, h, e => by
    cases h with
    | cons a b =>
      obtain ⟨d', h1, h2⟩ := dpAll_get (i := i) (v := v) b (by simpa using e)
      exact ⟨d', by simpa using h1, h2⟩
theorem dpAll_app {K : PySem.W.Frag} {H : Hp} : ∀ {ds es : List PyData} {vs ws : List V}, DqAll K H vs ds → DqAll K H ws es → DqAll K H (vs ++ ws) (ds ++ es)
  | [], _, _, _, h, k => by cases h; exact k
  | d :: ds, _, _, _, h, k => by cases h with | cons a b => exact .cons a (dpAll_app b k)

/-! ### growth: G is what is frozen, H all that is tracked -/
structure Gr (G0 H0 G H : Hp) : Prop where
  sub : Same G H
  g : Same G0 G
  h : Same H0 H
  n : ∀ a, H0 a ≠ none → G0 a = none → G a = none
  nf : ∀ a o xs, G a = some (.frz o (.tup xs)) → G0 a = some (.frz o (.tup xs))
theorem Gr.refl {G H : Hp} (s : Same G H) : Gr G H G H := ⟨s, Same.refl _, Same.refl _, fun _ _ z => z, fun _ _ _ z => z⟩
theorem Gr.trans {G H G1 H1 G2 H2 : Hp} (a : Gr G H G1 H1) (b : Gr G1 H1 G2 H2) : Gr G H G2 H2 :=
  ⟨b.sub, a.g.trans b.g, a.h.trans b.h, fun x h0 g0 => b.n x (fun z => h0 (a.h.free z)) (a.n x h0 g0), fun x o xs z => a.nf x o xs (b.nf x o xs z)⟩
theorem same_upd {H : Hp} {p : Addr} {o : HO} (n : H p = none) : Same H (upd H p o) := fun b u e => by
  rw [upd_ne (ne_of_none e n)]; exact e
/-- a new object, frozen -/
theorem nf_upd {G G0 : Hp} {p : Addr} {o : HO} (hf : ∀ ob ys, o ≠ .frz ob (.tup ys)) (h : ∀ a ob ys, G a = some (.frz ob (.tup ys)) → G0 a = some (.frz ob (.tup ys))) : ∀ a ob ys, upd G p o a = some (.frz ob (.tup ys)) → G0 a = some (.frz ob (.tup ys)) := fun a ob ys z => by
  by_cases e : a = p
  · subst e; rw [upd_same] at z; cases z; exact absurd rfl (hf ob ys)
  · rw [upd_ne e] at z; exact h a ob ys z
theorem Gr.new {G H : Hp} {p : Addr} {o : HO} (s : Same G H) (n : H p = none) (hf : ∀ ob ys, o ≠ .frz ob (.tup ys) := by intro _ _ z; cases z) : Gr G H (upd G p o) (upd H p o) := by
  refine ⟨fun b u e => ?_, same_upd (s.free n), same_upd n, fun a h0 g0 => ?_, nf_upd hf fun _ _ _ z => z⟩
  · by_cases hb : b = p
    · subst hb; rw [upd_same] at e ⊢; exact e
    · rw [upd_ne hb] at e ⊢; exact s _ _ e
  · have : a ≠ p := fun z => h0 (by rw [z]; exact n)
    rw [upd_ne this]; exact g0
/-- a new object, not frozen -/
theorem Gr.newH {G H : Hp} {p : Addr} {o : HO} (s : Same G H) (n : H p = none) : Gr G H G (upd H p o) :=
  ⟨fun b u e => by rw [upd_ne (ne_of_none e (s.free n))]; exact s _ _ e, Same.refl _, same_upd n, fun _ _ z => z, fun _ _ _ z => z⟩

/-! ### the environment -/
def SlOk (K : PySem.W.Frag) (H0 G H : Hp) (v : V) : Sl → Prop
  | .v d => Dq K G v d
  | .own ds => ∃ a xs, v = .ref a ∧ H0 a = none ∧ G a = none ∧ H a = some (.lst xs) ∧ DqAll K G xs ds
  | .x a => v = .ref a
  | .g d => Dq K G v d ∧ ∃ a o xs, v = .ref a ∧ G a = some (.frz o (.tup xs))
structure EnvOk (K : PySem.W.Frag) (G0 H0 G H : Hp) (σ : St) (ρ : En) : Prop where
  gr : Gr G0 H0 G H
  len : σ.length = ρ.length
  sl : ∀ (i : Nat) (s : Sl), ρ[i]? = some (some s) → ∃ v, σ[i]? = some (some v) ∧ SlOk K H0 G H v s
  inj : ∀ (i j : Nat) (ds es : List PyData) (a : Addr), ρ[i]? = some (some (.own ds)) → ρ[j]? = some (some (.own es)) → σ[i]? = some (some (.ref a)) → σ[j]? = some (some (.ref a)) → i = j
theorem SlOk.grow {K : PySem.W.Frag} {H0 G H G' H' : Hp} {v : V} {s : Sl} (g : Gr G H G' H') (h : SlOk K H0 G H v s) : SlOk K H0 G' H' v s := by
  cases s with
  | v d => exact dp_mono g.g h
  | x a => exact h
  | g d => obtain ⟨h1, a, o, xs, e, h2⟩ := h; exact ⟨dp_mono g.g h1, a, o, xs, e, g.g _ _ h2⟩
  | own ds =>
    obtain ⟨a, xs, e, h0, g0, ha, hd⟩ := h
    exact ⟨a, xs, e, h0, g.n a (by rw [ha]; exact fun z => nomatch z) g0, g.h _ _ ha, dpAll_mono g.g hd⟩
theorem EnvOk.grow {K : PySem.W.Frag} {G0 H0 G H G' H' : Hp} {σ : St} {ρ : En} (e : EnvOk K G0 H0 G H σ ρ) (g : Gr G H G' H') : EnvOk K G0 H0 G' H' σ ρ :=
  ⟨e.gr.trans g, e.len, fun i s h => let ⟨v, h1, h2⟩ := e.sl i s h; ⟨v, h1, h2.grow g⟩, e.inj⟩

/-! ### expressions -/
def RD (K : PySem.W.Frag) (mg : Str → Option Value) (W : WX) (G H : Hp) (σ : St) (Q : VK) : Rs PyData → Prop
  | .ok d => ∀ v G' H', Gr G H G' H' → Dq K G' v d → Q v H'
  | .er c => ∀ G' H', Gr G H G' H' → W (XC mg c) none σ H'
  | .no => False
/-- a list that may be looked at: frozen, or one that a slot owns -/
def PkOk (K : PySem.W.Frag) (G H : Hp) (v : V) (d : PyData) : Prop := Dq K G v d ∨ ∃ a xs ds, v = .ref a ∧ G a = none ∧ H a = some (.lst xs) ∧ DqAll K G xs ds ∧ d = .list ds
def RP (K : PySem.W.Frag) (mg : Str → Option Value) (W : WX) (G H : Hp) (σ : St) (Q : VK) : Rs PyData → Prop
  | .ok d => ∀ v G' H', Gr G H G' H' → PkOk K G' H' v d → Q v H'
  | .er c => ∀ G' H', Gr G H G' H' → W (XC mg c) none σ H'
  | .no => False
/-- a fresh list: not frozen, not there before -/
def RF (K : PySem.W.Frag) (mg : Str → Option Value) (W : WX) (G H : Hp) (σ : St) (Q : VK) : Rs PyData → Prop
  | .ok (.list ds) => ∀ a xs G' H', Gr G H G' H' → H a = none → G' a = none → H' a = some (.lst xs) → DqAll K G' xs ds → Q (.ref a) H'
  | r => RD K mg W G H σ Q r
def RDs (K : PySem.W.Frag) (mg : Str → Option Value) (W : WX) (G H : Hp) (σ : St) (Q : List V → Hp → Prop) : Rs (List PyData) → Prop
  | .ok ds => ∀ vs G' H', Gr G H G' H' → DqAll K G' vs ds → Q vs H'
  | .er c => ∀ G' H', Gr G H G' H' → W (XC mg c) none σ H'
  | .no => False
def RT (mg : Str → Option Value) (W : WX) (G H : Hp) (σ : St) (Q : Bool → Hp → Prop) : Rs Bool → Prop
  | .ok b => ∀ G' H', Gr G H G' H' → Q b H'
  | .er c => ∀ G' H', Gr G H G' H' → W (XC mg c) none σ H'
  | .no => False
def tD (K : PySem.W.Frag) (mg : Str → Option Value) (W : WX) (f : EF) : TE := fun σ H Q => ∃ G0 H0 G ρ, EnvOk K G0 H0 G H σ ρ ∧ RD K mg W G H σ Q (f ρ)
def tP (K : PySem.W.Frag) (mg : Str → Option Value) (W : WX) (f : EF) : TE := fun σ H Q => ∃ G0 H0 G ρ, EnvOk K G0 H0 G H σ ρ ∧ RP K mg W G H σ Q (f ρ)
def tF (K : PySem.W.Frag) (mg : Str → Option Value) (W : WX) (f : EF) : TE := fun σ H Q => ∃ G0 H0 G ρ, EnvOk K G0 H0 G H σ ρ ∧ RF K mg W G H σ Q (f ρ)
def tDs (K : PySem.W.Frag) (mg : Str → Option Value) (W : WX) (f : En → Rs (List PyData)) : TA := fun σ H Q => ∃ G0 H0 G ρ, EnvOk K G0 H0 G H σ ρ ∧ RDs K mg W G H σ Q (f ρ)
def tTs (K : PySem.W.Frag) (mg : Str → Option Value) (W : WX) (f : En → Rs Bool) : TT := fun σ H Q => ∃ G0 H0 G ρ, EnvOk K G0 H0 G H σ ρ ∧ RT mg W G H σ Q (f ρ)
abbrev PD (X : Cx) (W : WX) (e : Expr) (f : EF) : Prop := PE X e (tD X.K X.mg W f)
abbrev PP (X : Cx) (W : WX) (e : Expr) (f : EF) : Prop := PE X e (tP X.K X.mg W f)
abbrev PF (X : Cx) (W : WX) (e : Expr) (f : EF) : Prop := PE X e (tF X.K X.mg W f)
abbrev PDs (X : Cx) (W : WX) (es : List Expr) (f : En → Rs (List PyData)) : Prop := PA X es (tDs X.K X.mg W f)
abbrev PTD (X : Cx) (W : WX) (e : Expr) (f : En → Rs Bool) : Prop := PT X e (tTs X.K X.mg W f)

section
variable {X : Cx} {W : WX} {e a b : Expr} {es : List Expr} {f g : EF} {pos : Pos}
theorem pe_weak {t t' : TE} (h : PE X e t) (k : ∀ σ H Q, t' σ H Q → t σ H Q) : PE X e t' := ⟨fun pins s σ H Q I q => h.run pins s σ H Q I (k _ _ _ q)⟩
theorem pt_weak {t t' : TT} (h : PT X e t) (k : ∀ σ H Q, t' σ H Q → t σ H Q) : PT X e t' := ⟨fun pins s σ H Q I q => h.run pins s σ H Q I (k _ _ _ q)⟩
theorem pw_weak {t t' : TT} (h : PW X e t) (k : ∀ σ H Q, t' σ H Q → t σ H Q) : PW X e t' := ⟨fun wh pins s σ H Q I q => h.run wh pins s σ H Q I (k _ _ _ q)⟩
theorem pa_weak {t t' : TA} (h : PA X es t) (k : ∀ σ H Q, t' σ H Q → t σ H Q) : PA X es t' := ⟨fun p pins s σ H Q I q => h.run p pins s σ H Q I (k _ _ _ q)⟩
theorem pg_weak {tg : Expr} {t t' : TG} (h : PG X tg t) (k : ∀ v σ H Q, t' v σ H Q → t v σ H Q) : PG X tg t' := ⟨fun pins s σ H v u Q I r q => h.run pins s σ H v u Q I r (k _ _ _ _ q)⟩
theorem pi_weak {tg : Expr} {t t' : TI} (h : PI X tg e t) (k : ∀ σ H Q, t' σ H Q → t σ H Q) : PI X tg e t' := ⟨fun pins s σ H R I q => h.run pins s σ H R I (k _ _ _ q)⟩
theorem ps_weak {st : Stmt} {t t' : TS} (h : PS X st t) (k : ∀ D σ H, t' D σ H → t D σ H) : PS X st t' := ⟨fun pins s σ H D I q => h.run pins s σ H D I (k _ _ _ q)⟩
theorem pss_weak {st : List Stmt} {t t' : TS} (h : PSs X st t) (k : ∀ D σ H, t' D σ H → t D σ H) : PSs X st t' := ⟨fun pins s σ H D I q => h.run pins s σ H D I (k _ _ _ q)⟩
end
section
variable {K : PySem.W.Frag} {mg : Str → Option Value} {W : WX} {G H G' H' : Hp} {σ : St}
theorem RD.grow {Q : VK} {r : Rs PyData} (g : Gr G H G' H') (h : RD K mg W G H σ Q r) : RD K mg W G' H' σ Q r := by
  cases r with
  | ok d => exact fun v G2 H2 k z => h v G2 H2 (g.trans k) z
  | er c => exact fun G2 H2 k => h G2 H2 (g.trans k)
  | no => exact h
theorem RP.grow {Q : VK} {r : Rs PyData} (g : Gr G H G' H') (h : RP K mg W G H σ Q r) : RP K mg W G' H' σ Q r := by
  cases r with
  | ok d => exact fun v G2 H2 k z => h v G2 H2 (g.trans k) z
  | er c => exact fun G2 H2 k => h G2 H2 (g.trans k)
  | no => exact h
theorem RDs.grow {Q : List V → Hp → Prop} {r : Rs (List PyData)} (g : Gr G H G' H') (h : RDs K mg W G H σ Q r) : RDs K mg W G' H' σ Q r := by
  cases r with
  | ok d => exact fun v G2 H2 k z => h v G2 H2 (g.trans k) z
  | er c => exact fun G2 H2 k => h G2 H2 (g.trans k)
  | no => exact h
theorem RT.grow {Q : Bool → Hp → Prop} {r : Rs Bool} (g : Gr G H G' H') (h : RT mg W G H σ Q r) : RT mg W G' H' σ Q r := by
  cases r with
  | ok d => exact fun G2 H2 k => h G2 H2 (g.trans k)
  | er c => exact fun G2 H2 k => h G2 H2 (g.trans k)
  | no => exact h
theorem PkOk.grow {v : V} {d : PyData} (g : Gr G H G' H') (h : PkOk K G H v d) : PkOk K G' H' v d := by
  rcases h with h | ⟨a, xs, ds, e, g0, ha, hd, ed⟩
  · exact .inl (dp_mono g.g h)
  · exact .inr ⟨a, xs, ds, e, g.n a (by rw [ha]; exact fun z => nomatch z) g0, g.h _ _ ha, dpAll_mono g.g hd, ed⟩
/-- what a list that may be looked at is -/
theorem PkOk.lst {v : V} {ds : List PyData} (s : Same G H) (h : PkOk K G H v (.list ds)) : ∃ a xs, v = .ref a ∧ SqL K H a xs ∧ DqAll K G xs ds := by
  rcases h with h | ⟨a, xs, ds', e, _, ha, hd, ed⟩
  · cases h with | lst p q => exact ⟨_, _, rfl, s.seq p, q⟩
  · cases ed
    exact ⟨a, xs, e, SqL.of ha, hd⟩
theorem PkOk.tup {v : V} {ds : List PyData} (s : Same G H) (h : PkOk K G H v (.tuple ds)) : ∃ a xs, v = .ref a ∧ SqT K H a xs ∧ DqAll K G xs ds := by
  rcases h with h | ⟨a, xs, ds', e, _, ha, hd, ed⟩
  · cases h with | tup p q => exact ⟨_, _, rfl, sqT_mono s p, q⟩
  · cases ed
theorem PkOk.int {v : V} {i : Int} (h : PkOk K G H v (.int i)) : v = .int i := by
  rcases h with h | ⟨a, xs, ds', e, _, ha, hd, ed⟩
  · cases h; rfl
  · cases ed
theorem PkOk.str {v : V} {i : Str} (h : PkOk K G H v (.str i)) : v = .str i ∧ i.length ≤ sizeLine := by
  rcases h with h | ⟨a, xs, ds', e, _, ha, hd, ed⟩
  · cases h with | str _ z => exact ⟨rfl, z⟩
  · cases ed
theorem PkOk.bl {v : V} {i : Bool} (h : PkOk K G H v (.bool i)) : v = .bl i := by
  rcases h with h | ⟨a, xs, ds', e, _, ha, hd, ed⟩
  · cases h; rfl
  · cases ed
theorem PkOk.non {v : V} (h : PkOk K G H v .none) : v = .non := by
  rcases h with h | ⟨a, xs, ds', e, _, ha, hd, ed⟩
  · cases h; rfl
  · cases ed
theorem PkOk.dict {v : V} {ds} (s : Same G H) (h : PkOk K G H v (.dict ds)) : ∃ a kvs, v = .ref a ∧ H a = some (.dK kvs) ∧ DqKV K G kvs ds := by
  rcases h with h | ⟨a, xs, ds', e, _, ha, hd, ed⟩
  · cases h with | dct p q => exact ⟨_, _, rfl, s _ _ p, q⟩
  · cases ed
/-- in the whole heap it is data -/
theorem PkOk.dp {v : V} {d : PyData} (s : Same G H) (h : PkOk K G H v d) : Dq K H v d := by
  rcases h with h | ⟨a, xs, ds', e, _, ha, hd, ed⟩
  · exact dp_mono s h
  · subst e ed
    exact .lst (SqL.of ha) (dpAll_mono s hd)
/-- a value without an object -/
theorem RD.val {Q : VK} {v : V} {d : PyData} (s : Same G H) (h : RD K mg W G H σ Q (.ok d)) (p : ∀ G', Dq K G' v d) : Q v H := h v G H (Gr.refl s) (p G)
theorem RD.newT {Q : VK} {xs : List V} {ds : List PyData} (s : Same G H) (h : RD K mg W G H σ Q (.ok (.tuple ds))) (a : DqAll K G xs ds) : ∀ p, H p = none → Q (.ref p) (upd H p (.tup xs)) := fun p n =>
  h (.ref p) _ _ (Gr.new s n) (.tup (SqT.of upd_same) (dpAll_mono (same_upd (s.free n)) a))
theorem RD.newL {Q : VK} {xs : List V} {ds : List PyData} (s : Same G H) (h : RD K mg W G H σ Q (.ok (.list ds))) (a : DqAll K G xs ds) : ∀ p, H p = none → Q (.ref p) (upd H p (.lst xs)) := fun p n =>
  h (.ref p) _ _ (Gr.new s n) (.lst (SqL.of upd_same) (dpAll_mono (same_upd (s.free n)) a))
end

/-! ### the forms -/
@[simp] def e1 (F : PyData → Rs PyData) (f : EF) (ρ : En) : Rs PyData := (f ρ).bind F
@[simp] def e2 (F : PyData → PyData → Rs PyData) (f g : EF) (ρ : En) : Rs PyData := (f ρ).bind fun d => (g ρ).bind fun e => F d e
@[simp] def eC (d : PyData) (_ : En) : Rs PyData := .ok d
/-- a slot's data -/
@[simp] def eV (i : Nat) (ρ : En) : Rs PyData := match ρ[i]? with
  | some (some (.v d)) => .ok d
  | some (some (.g d)) => .ok d
  | _ => .no
/-- a slot looked at -/
@[simp] def eO (i : Nat) (ρ : En) : Rs PyData := match ρ[i]? with
  | some (some (.v d)) => .ok d
  | some (some (.own ds)) => .ok (.list ds)
  | some (some (.g d)) => .ok d
  | _ => .no
section
variable {X : Cx} {W : WX} {e a b c : Expr} {es : List Expr} {f g h : EF} {pos : Pos}
theorem PD_pp (k : PD X W e f) : PP X W e f := pe_weak k fun σ H Q ⟨G0, H0, G, ρ, E, q⟩ => ⟨G0, H0, G, ρ, E, by
  cases r : f ρ with
  | ok d => rw [r] at q; exact fun v G' H' g z => q v G' H' g (.inl z)
  | er c => rw [r] at q; exact q
  | no => rw [r] at q; exact q⟩
theorem RF_of {K : PySem.W.Frag} {mg : Str → Option Value} {W : WX} {G H : Hp} {σ : St} {Q : VK} {r : Rs PyData} (q : RD K mg W G H σ Q r) : RF K mg W G H σ Q r := by
  cases r with
  | ok d =>
    cases d with
    | list ds =>
      refine fun a xs G' H' g h0 g0 ha hd => q (.ref a) (upd G' a (.lst xs)) H' ⟨fun b u eb => ?_, g.g.trans (same_upd g0), g.h, fun b hb gb => ?_, nf_upd (fun _ _ z => nomatch z) g.nf⟩ (.lst (SqL.of upd_same) (dpAll_mono (same_upd g0) hd))
      · by_cases hb : b = a
        · subst hb; rw [upd_same] at eb; cases eb; exact ha
        · rw [upd_ne hb] at eb; exact g.sub _ _ eb
      · have hne : b ≠ a := fun z => hb (by rw [z]; exact h0)
        rw [upd_ne hne]; exact g.n b hb gb
    | _ => exact q
  | er c => exact q
  | no => exact q
theorem PF_pd (k : PF X W e f) : PD X W e f := pe_weak k fun σ H Q ⟨G0, H0, G, ρ, E, q⟩ => ⟨G0, H0, G, ρ, E, RF_of q⟩
end
end L2.Pz

namespace L2.Pz
open PySem PySem.Spec PyProof.Rows

/-! ### names, constants -/
section
variable {X : Cx} {W : WX} {e a b c : Expr} {es : List Expr} {f g h : EF} {pos : Pos}
theorem pd_of_val {v : V} {d : PyData} (k : PE X e (tC v)) (p : ∀ G, Dq X.K G v d) : PD X W e (eC d) := pe_weak k fun σ H Q ⟨G0, H0, G, ρ, E, q⟩ => RD.val E.gr.sub q p
theorem pd_int {i : Int} {j} : PD X W (.Constant (.int i) j pos) (eC (.int i)) := pd_of_val pe_int fun _ => .int i
theorem pd_bl {i : Bool} {j} : PD X W (.Constant (.bool i) j pos) (eC (.bool i)) := pd_of_val pe_bl fun _ => .bl i
theorem pd_non {j} : PD X W (.Constant .none j pos) (eC .none) := pd_of_val pe_non fun _ => .non
theorem pd_str {x : Str} {j} (hz : x.length ≤ sizeLine := by decide +kernel) : PD X W (.Constant (.str x) j pos) (eC (.str x)) := pd_of_val pe_str fun _ => .str x hz
theorem env_v {K : PySem.W.Frag} {G0 H0 G H : Hp} {σ : St} {ρ : En} (E : EnvOk K G0 H0 G H σ ρ) {i : Nat} {d : PyData} (h : eV i ρ = .ok d) : ∃ v, σ[i]? = some (some v) ∧ Dq K G v d := by
  unfold eV at h
  split at h
  · rename_i d' e1
    cases h
    exact E.sl i _ e1
  · rename_i d' e1
    cases h
    obtain ⟨v, h1, h2⟩ := E.sl i _ e1
    exact ⟨v, h1, h2.1⟩
  · cases h
theorem pd_var (i : Nat) {x : Str} (k : PE X (.Name x pos) (tVar i)) : PD X W (.Name x pos) (eV i) := pe_weak k fun σ H Q ⟨G0, H0, G, ρ, E, q⟩ => by
  cases r : eV i ρ with
  | ok d =>
    rw [r] at q
    obtain ⟨v, h1, h2⟩ := env_v E r
    exact ⟨v, h1, q v G H (Gr.refl E.gr.sub) h2⟩
  | er c => unfold eV at r; split at r <;> cases r
  | no => rw [r] at q; exact q.elim
theorem pp_var (i : Nat) {x : Str} (k : PE X (.Name x pos) (tVar i)) : PP X W (.Name x pos) (eO i) := pe_weak k fun σ H Q ⟨G0, H0, G, ρ, E, q⟩ => by
  unfold eO at q
  split at q
  · rename_i d e1
    obtain ⟨v, h1, h2⟩ := E.sl i _ e1
    exact ⟨v, h1, q v G H (Gr.refl E.gr.sub) (.inl h2)⟩
  · rename_i ds e1
    obtain ⟨v, h1, a, xs, e2, _, g0, ha, hd⟩ := E.sl i _ e1
    exact ⟨v, h1, q v G H (Gr.refl E.gr.sub) (.inr ⟨a, xs, ds, e2, g0, ha, hd, rfl⟩)⟩
  · rename_i d e1
    obtain ⟨v, h1, h2⟩ := E.sl i _ e1
    exact ⟨v, h1, q v G H (Gr.refl E.gr.sub) (.inl h2.1)⟩
  · exact q.elim
end

/-! ### one operand, two operands -/
def Spec1 (X : Cx) (W : WX) (r : V → Hp → VK → Prop) (F : PyData → Rs PyData) : Prop :=
  ∀ (G H : Hp) (v : V) (d : PyData) (σ : St) (Q : VK), Same G H → PkOk X.K G H v d → RD X.K X.mg W G H σ Q (F d) → r v H Q
def Spec2 (X : Cx) (W : WX) (r : R2) (F : PyData → PyData → Rs PyData) : Prop :=
  ∀ (G H : Hp) (v w : V) (d e : PyData) (σ : St) (Q : VK), Same G H → PkOk X.K G H v d → PkOk X.K G H w e → RD X.K X.mg W G H σ Q (F d e) → r v w H Q
@[simp] def eL : List EF → En → Rs (List PyData)
  | [], _ => .ok []
  | f :: fs, ρ => (f ρ).bind fun d => (eL fs ρ).bind fun ds => .ok (d :: ds)
abbrev PL (X : Cx) (W : WX) (es : List Expr) (fs : List EF) : Prop := PDs X W es (eL fs)
section
variable {X : Cx} {W : WX} {e a b c : Expr} {es : List Expr} {f g h : EF} {fs : List EF} {pos : Pos} {F : PyData → Rs PyData} {F2 F3 : PyData → PyData → Rs PyData}
theorem run1 {r : V → Hp → VK → Prop} (hF : Spec1 X W r F) {σ : St} {H : Hp} {Q : VK} (q : tD X.K X.mg W (e1 F f) σ H Q) : tP X.K X.mg W f σ H fun x H1 => r x H1 Q := by
  obtain ⟨G0, H0, G, ρ, E, q⟩ := q
  refine ⟨G0, H0, G, ρ, E, ?_⟩
  unfold e1 at q
  cases k : f ρ with
  | ok d => rw [k] at q; exact fun v G' H' g z => hF G' H' v d σ Q g.sub z (RD.grow g q)
  | er c => rw [k] at q; exact q
  | no => rw [k] at q; exact q
theorem run2 {r : R2} (hF : Spec2 X W r F2) {σ : St} {H : Hp} {Q : VK} (q : tD X.K X.mg W (e2 F2 f g) σ H Q) : tP X.K X.mg W f σ H fun x H1 => tP X.K X.mg W g σ H1 fun y H2 => r x y H2 Q := by
  obtain ⟨G0, H0, G, ρ, E, q⟩ := q
  refine ⟨G0, H0, G, ρ, E, ?_⟩
  unfold e2 at q
  cases k : f ρ with
  | ok d =>
    rw [k] at q
    refine fun v G' H' g1 z => ⟨G0, H0, G', ρ, E.grow g1, ?_⟩
    cases k2 : g ρ with
    | ok e => rw [k2] at q; exact fun w G2 H2 g2 z2 => hF G2 H2 v w d e σ Q g2.sub (z.grow g2) z2 (RD.grow (g1.trans g2) q)
    | er c => rw [k2] at q; exact RD.grow g1 q
    | no => rw [k2] at q; exact q
  | er c => rw [k] at q; exact q
  | no => rw [k] at q; exact q
theorem pd_op {op : Operator} {r : R2} (ho : OpR X (binaryOp op) r) (hF : Spec2 X W r F2) (ha : PP X W a f) (hb : PP X W b g) : PD X W (.BinOp a op b pos) (e2 F2 f g) := pe_weak (pe_op ho ha hb) fun _ _ _ q => run2 hF q
theorem pd_un {op : UnaryOp} {r : V → Hp → VK → Prop} (ho : UnR X (unaryOp op) r) (hF : Spec1 X W r F) (ha : PP X W a f) : PD X W (.UnaryOp op a pos) (e1 F f) := pe_weak (pe_un ho ha) fun _ _ _ q => run1 hF q
theorem pd_cmp {op : CmpOp} {r : R2} (ho : OpR X (compareOp op) r) (hF : Spec2 X W r F2) (ha : PP X W a f) (hb : PP X W b g) (hm : behindInMarks op b = false) : PD X W (.Compare a [op] [b] pos) (e2 F2 f g) :=
  pe_weak (pe_cmpR ho ha hb hm) fun _ _ _ q => run2 hF q
theorem pd_ix {r : R2} (hr : IxR X r) (hF : Spec2 X W r F2) (ha : PP X W a f) (hb : PP X W b g) (hs : PlainIx b) : PD X W (.Subscript a b pos) (e2 F2 f g) := pe_weak (pe_ix hr ha hb hs) fun _ _ _ q => run2 hF q
/-- a op b op c -/
@[simp] def eCh (F2 F3 : PyData → PyData → Rs PyData) (f g h : EF) (ρ : En) : Rs PyData := (f ρ).bind fun x => (g ρ).bind fun y => (F2 x y).bind fun z => match z with
  | .bool true => (h ρ).bind fun w => F3 y w
  | .bool false => .ok (.bool false)
  | _ => .no
theorem runCh {r r' : R2} (hF : Spec2 X W r F2) (hF' : Spec2 X W r' F3) {σ : St} {H : Hp} {Q : VK} (q : tD X.K X.mg W (eCh F2 F3 f g h) σ H Q) : tChain r r' (tP X.K X.mg W f) (tP X.K X.mg W g) (tP X.K X.mg W h) σ H Q := by
  obtain ⟨G0, H0, G, ρ, E, q⟩ := q
  refine ⟨G0, H0, G, ρ, E, ?_⟩
  unfold eCh at q
  cases k : f ρ with
  | ok d =>
    rw [k] at q
    refine fun v G' H' g1 z => ⟨G0, H0, G', ρ, E.grow g1, ?_⟩
    cases k2 : g ρ with
    | ok e =>
      rw [k2] at q
      refine fun w G2 H2 g2 z2 => hF G2 H2 v w d e σ _ g2.sub (z.grow g2) z2 ?_
      rw [Rs.bind_ok, Rs.bind_ok] at q
      have q := RD.grow (g1.trans g2) q
      cases k3 : F2 d e with
      | ok t =>
        rw [k3, Rs.bind_ok] at q
        refine fun u G3 H3 g3 z3 => ?_
        cases t with
        | bool t =>
          cases z3
          refine ⟨t, rfl, ?_⟩
          cases t with
          | true =>
            rw [if_pos rfl]
            refine ⟨G0, H0, G3, ρ, E.grow ((g1.trans g2).trans g3), ?_⟩
            have q := RD.grow g3 q
            cases k4 : h ρ with
            | ok u => rw [k4] at q; exact fun y G4 H4 g4 z4 => hF' G4 H4 w y e u σ Q g4.sub ((z2.grow g3).grow g4) z4 (RD.grow g4 q)
            | er c => rw [k4] at q; exact q
            | no => rw [k4] at q; exact q
          | false =>
            rw [if_neg Bool.false_ne_true]
            exact q (.bl false) G3 H3 g3 (.bl false)
        | _ => exact q.elim
      | er c => rw [k3] at q; exact q
      | no => rw [k3] at q; exact q
    | er c => rw [k2] at q; exact RD.grow g1 q
    | no => rw [k2] at q; exact q
  | er c => rw [k] at q; exact q
  | no => rw [k] at q; exact q
theorem pd_chain {op op' : CmpOp} {r r' : R2} (ho : OpR X (compareOp op) r) (ho' : OpR X (compareOp op') r') (hF : Spec2 X W r F2) (hF' : Spec2 X W r' F3) (ha : PP X W a f) (hb : PP X W b g) (hc : PP X W c h)
    (hm : lastMarks [op, op'] [b, c] = false := by with_unfolding_all rfl) : PD X W (.Compare a [op, op'] [b, c] pos) (eCh F2 F3 f g h) := pe_weak (pe_chain ho ho' ha hb hc hm) fun _ _ _ q => runCh hF hF' q

/-! ### argument lists, displays -/
theorem pl_nil : PL X W [] [] := pa_weak pa_nil fun σ H Q ⟨G0, H0, G, ρ, E, q⟩ => q [] G H (Gr.refl E.gr.sub) .nil
theorem pl_cons (ha : PD X W e f) (hr : PL X W es fs) (hs : starEach (e :: es) X.env = (false, eval e X.env) :: starEach es X.env := by rfl) : PL X W (e :: es) (f :: fs) := pa_weak (pa_cons ha hr hs) fun σ H Q ⟨G0, H0, G, ρ, E, q⟩ => by
  refine ⟨G0, H0, G, ρ, E, ?_⟩
  unfold eL at q
  cases k : f ρ with
  | ok d =>
    rw [k] at q
    refine fun v G' H' g1 z => ⟨G0, H0, G', ρ, E.grow g1, ?_⟩
    rw [Rs.bind_ok] at q
    cases k2 : eL fs ρ with
    | ok e => rw [k2] at q; exact fun w G2 H2 g2 z2 => q (v :: w) G2 H2 (g1.trans g2) (.cons (dp_mono g2.g z) z2)
    | er c => rw [k2] at q; exact fun G2 H2 g2 => q G2 H2 (g1.trans g2)
    | no => rw [k2] at q; exact q
  | er c => rw [k] at q; exact q
  | no => rw [k] at q; exact q
theorem eL_len : ∀ {fs : List EF} {ρ : En} {ds : List PyData}, eL fs ρ = .ok ds → ds.length = fs.length
  | [], _, _, h => by cases h; rfl
  | f :: fs, ρ, ds, h => by
    unfold eL at h
    cases k : f ρ with
    | ok d =>
      rw [k, Rs.bind_ok] at h
      cases k2 : eL fs ρ with
      | ok e => rw [k2] at h; cases h; simp [eL_len k2]
      | er c => rw [k2] at h; cases h
      | no => rw [k2] at h; cases h
    | er c => rw [k] at h; cases h
    | no => rw [k] at h; cases h
@[simp] def eTup (fs : List EF) (ρ : En) : Rs PyData := (eL fs ρ).bind fun ds => .ok (.tuple ds)
@[simp] def eLst (fs : List EF) (ρ : En) : Rs PyData := (eL fs ρ).bind fun ds => .ok (.list ds)
theorem pd_tup {j} (k : PL X W es fs) (hl : fs.length ≤ sizeLine := by decide) : PD X W (.Tuple es j pos) (eTup fs) := pe_weak (pe_tup k) fun σ H Q ⟨G0, H0, G, ρ, E, q⟩ => by
  refine ⟨G0, H0, G, ρ, E, ?_⟩
  unfold eTup at q
  cases k : eL fs ρ with
  | ok ds =>
    rw [k] at q
    refine fun vs G' H' g z => ⟨by rw [dpAll_len z, eL_len k]; exact hl, RD.newT g.sub (RD.grow g q) z⟩
  | er c => rw [k] at q; exact q
  | no => rw [k] at q; exact q
theorem pf_lst (k : PL X W es fs) (hl : fs.length ≤ sizeLine := by decide) : PF X W (.List es pos) (eLst fs) := pe_weak (pe_lst k) fun σ H Q ⟨G0, H0, G, ρ, E, q⟩ => by
  refine ⟨G0, H0, G, ρ, E, ?_⟩
  unfold eLst at q
  cases k : eL fs ρ with
  | ok ds =>
    rw [k] at q
    refine fun vs G' H' g z => ⟨by rw [dpAll_len z, eL_len k]; exact hl, fun p n => ?_⟩
    exact q p vs G' (upd H' p (.lst vs)) (g.trans (Gr.newH g.sub n)) (g.h.free n) (g.sub.free n) upd_same z
  | er c => rw [k] at q; exact q
  | no => rw [k] at q; exact q
theorem pd_lst (k : PL X W es fs) (hl : fs.length ≤ sizeLine := by decide) : PD X W (.List es pos) (eLst fs) := PF_pd (pf_lst k hl)

/-! ### built-ins by name -/
theorem run1c {r : List V → Hp → VK → Prop} (hF : Spec1 X W (fun v => r [v]) F) {σ : St} {H : Hp} {Q : VK} (q : tD X.K X.mg W (e1 F f) σ H Q) : tCB r (tCons (tP X.K X.mg W f) tNil) σ H Q := run1 hF q
theorem run2c {r : List V → Hp → VK → Prop} (hF : Spec2 X W (fun v w => r [v, w]) F2) {σ : St} {H : Hp} {Q : VK} (q : tD X.K X.mg W (e2 F2 f g) σ H Q) : tCB r (tCons (tP X.K X.mg W f) (tCons (tP X.K X.mg W g) tNil)) σ H Q := run2 hF q
theorem pd_b1 {x : Str} {id : String} {p : Pos} {r : List V → Hp → VK → Prop} (hc : CallR X (.builtin id) r) (hF : Spec1 X W (fun v => r [v]) F) (hg : Gl X x) (hm : X.mg x = none) (ha : PP X W a f) (hv : bootBuiltins x = some (.builtin id) := by decide +kernel) (hn : x ≠ "__name__" := by decide)
    (hdb : (x == ("__debug__" : Str)) = false := by decide) (he : starEach [a] X.env = [(false, eval a X.env)] := by rfl) : PD X W (.Call (.Name x p) [a] [] pos) (e1 F f) :=
  pe_weak (pe_callB hc hg hm hv (pa_cons ha pa_nil he) hn hdb he rfl) fun _ _ _ q => run1c hF q
theorem pd_t1 {x : Str} {id : String} {p : Pos} {r : List V → Hp → VK → Prop} (hc : CallR X (.type id) r) (hF : Spec1 X W (fun v => r [v]) F) (hg : Gl X x) (hm : X.mg x = none) (ha : PP X W a f) (hv : bootBuiltins x = some (.type id) := by decide +kernel) (hn : x ≠ "__name__" := by decide)
    (hdb : (x == ("__debug__" : Str)) = false := by decide) (he : starEach [a] X.env = [(false, eval a X.env)] := by rfl) : PD X W (.Call (.Name x p) [a] [] pos) (e1 F f) :=
  pe_weak (pe_callTy hc hg hm hv (pa_cons ha pa_nil he) hn hdb he rfl) fun _ _ _ q => run1c hF q
theorem pd_b2 {x : Str} {id : String} {p : Pos} {r : List V → Hp → VK → Prop} (hc : CallR X (.builtin id) r) (hF : Spec2 X W (fun v w => r [v, w]) F2) (hg : Gl X x) (hm : X.mg x = none) (ha : PP X W a f) (hb : PP X W b g) (hv : bootBuiltins x = some (.builtin id) := by decide +kernel) (hn : x ≠ "__name__" := by decide)
    (hdb : (x == ("__debug__" : Str)) = false := by decide) (he2 : starEach [b] X.env = [(false, eval b X.env)] := by rfl) (he : starEach [a, b] X.env = (false, eval a X.env) :: starEach [b] X.env := by rfl) : PD X W (.Call (.Name x p) [a, b] [] pos) (e2 F2 f g) :=
  pe_weak (pe_callB hc hg hm hv (pa_cons ha (pa_cons hb pa_nil he2) he) hn hdb he (by rw [he2]; rfl)) fun _ _ _ q => run2c hF q
end

/-! ### tests -/
def truB : PyData → Rs Bool
  | .bool b => .ok b
  | _ => .no
@[simp] def bT (f : EF) (ρ : En) : Rs Bool := (f ρ).bind truB
@[simp] def bAnd (f g : En → Rs Bool) (ρ : En) : Rs Bool := (f ρ).bind fun b => if b then g ρ else .ok false
@[simp] def bOr (f g : En → Rs Bool) (ρ : En) : Rs Bool := (f ρ).bind fun b => if b then .ok true else g ρ
@[simp] def bNot (f : En → Rs Bool) (ρ : En) : Rs Bool := (f ρ).bind fun b => .ok (!b)
@[simp] def eAnd (f g : EF) (ρ : En) : Rs PyData := (f ρ).bind fun d => match d with
  | .bool true => g ρ
  | .bool false => .ok (.bool false)
  | _ => .no
@[simp] def eOr (f g : EF) (ρ : En) : Rs PyData := (f ρ).bind fun d => match d with
  | .bool true => .ok (.bool true)
  | .bool false => g ρ
  | _ => .no
@[simp] def eNot (f : EF) (ρ : En) : Rs PyData := (f ρ).bind fun d => match d with
  | .bool b => .ok (.bool (!b))
  | _ => .no
@[simp] def eIf (c : En → Rs Bool) (f g : EF) (ρ : En) : Rs PyData := (c ρ).bind fun b => if b then f ρ else g ρ
section
variable {X : Cx} {W : WX} {e a b c : Expr} {es : List Expr} {f g h : EF} {pos : Pos} {F : PyData → Rs PyData} {F2 F3 : PyData → PyData → Rs PyData} {p q : En → Rs Bool} {rest : List Expr}
theorem runT {σ : St} {H : Hp} {Q : Bool → Hp → Prop} (q : tTs X.K X.mg W (bT f) σ H Q) : tD X.K X.mg W f σ H fun x H1 => ∃ k, x = .bl k ∧ Q k H1 := by
  obtain ⟨G0, H0, G, ρ, E, q⟩ := q
  refine ⟨G0, H0, G, ρ, E, ?_⟩
  unfold bT at q
  cases k : f ρ with
  | ok d =>
    rw [k] at q
    cases d with
    | bool b => exact fun v G' H' g1 z => by cases z; exact ⟨b, rfl, q G' H' g1⟩
    | _ => exact q.elim
  | er c => rw [k] at q; exact q
  | no => rw [k] at q; exact q
theorem ptd_val (k : PD X W e f) (he : ∀ whole, isTrue e X.env whole = (do let v ← whole; standAt e.pos; holding [v] (truthy v)) := by intro _; rfl) : PTD X W e (bT f) := pt_weak (pt_val k he) fun _ _ _ q => runT q
theorem ptd_cmp {op : CmpOp} {r : R2} (ho : OpR X (compareOp op) r) (hF : Spec2 X W r F2) (ha : PP X W a f) (hb : PP X W b g) (hm : behindInMarks op b = false) : PTD X W (.Compare a [op] [b] pos) (bT (e2 F2 f g)) :=
  pt_weak (pt_cmpR ho ha hb hm) fun _ _ _ q => run2 hF (runT q)
theorem ptd_chain {op op' : CmpOp} {r r' : R2} (ho : OpR X (compareOp op) r) (ho' : OpR X (compareOp op') r') (hF : Spec2 X W r F2) (hF' : Spec2 X W r' F3) (ha : PP X W a f) (hb : PP X W b g) (hc : PP X W c h)
    (hm : lastMarks [op, op'] [b, c] = false := by with_unfolding_all rfl) : PTD X W (.Compare a [op, op'] [b, c] pos) (bT (eCh F2 F3 f g h)) := pt_weak (pt_chain ho ho' ha hb hc hm) fun _ _ _ q => runCh hF hF' (runT q)
theorem ptd_not (k : PTD X W a p) : PTD X W (.UnaryOp .Not a pos) (bNot p) := pt_weak (pt_not k) fun σ H Q ⟨G0, H0, G, ρ, E, q⟩ => by
  refine ⟨G0, H0, G, ρ, E, ?_⟩
  unfold bNot at q
  cases k : p ρ with
  | ok b => rw [k] at q; exact fun G' H' g1 => q G' H' g1
  | er c => rw [k] at q; exact q
  | no => rw [k] at q; exact q
abbrev PWD (X : Cx) (W : WX) (e : Expr) (f : En → Rs Bool) : Prop := PW X e (tTs X.K X.mg W f)
theorem ptd_w (k : PWD X W e p) : PTD X W e p := k.pt
theorem pwd_and1 (k : PTD X W a p) : PWD X W (.BoolOp .And [a] pos) p := pw_and1 k
theorem pwd_or1 (k : PTD X W a p) : PWD X W (.BoolOp .Or [a] pos) p := pw_or1 k
theorem pwd_and (k : PTD X W a p) (k' : PWD X W (.BoolOp .And (b :: rest) pos) q) : PWD X W (.BoolOp .And (a :: b :: rest) pos) (bAnd p q) := pw_weak (pw_and k k') fun σ H Q ⟨G0, H0, G, ρ, E, z⟩ => by
  refine ⟨G0, H0, G, ρ, E, ?_⟩
  unfold bAnd at z
  cases k : p ρ with
  | ok b =>
    rw [k] at z
    refine fun G' H' g1 => ?_
    cases b with
    | true => exact ⟨G0, H0, G', ρ, E.grow g1, RT.grow g1 z⟩
    | false => exact z G' H' g1
  | er c => rw [k] at z; exact z
  | no => rw [k] at z; exact z
theorem pwd_or (k : PTD X W a p) (k' : PWD X W (.BoolOp .Or (b :: rest) pos) q) : PWD X W (.BoolOp .Or (a :: b :: rest) pos) (bOr p q) := pw_weak (pw_or k k') fun σ H Q ⟨G0, H0, G, ρ, E, z⟩ => by
  refine ⟨G0, H0, G, ρ, E, ?_⟩
  unfold bOr at z
  cases k : p ρ with
  | ok b =>
    rw [k] at z
    refine fun G' H' g1 => ?_
    cases b with
    | false => exact ⟨G0, H0, G', ρ, E.grow g1, RT.grow g1 z⟩
    | true => exact z G' H' g1
  | er c => rw [k] at z; exact z
  | no => rw [k] at z; exact z
theorem pd_one {op} (k : PD X W a f) : PD X W (.BoolOp op [a] pos) f := pe_one k
theorem pd_and (k : PD X W a f) (k' : PD X W (.BoolOp .And (b :: rest) pos) g) : PD X W (.BoolOp .And (a :: b :: rest) pos) (eAnd f g) := pe_weak (pe_and k k') fun σ H Q ⟨G0, H0, G, ρ, E, z⟩ => by
  refine ⟨G0, H0, G, ρ, E, ?_⟩
  unfold eAnd at z
  cases k : f ρ with
  | ok d =>
    rw [k] at z
    cases d with
    | bool b =>
      refine fun v G' H' g1 y => ?_
      cases y
      refine ⟨b, rfl, ?_⟩
      cases b with
      | true => exact ⟨G0, H0, G', ρ, E.grow g1, RD.grow g1 z⟩
      | false => exact z (.bl false) G' H' g1 (.bl false)
    | _ => exact z.elim
  | er c => rw [k] at z; exact z
  | no => rw [k] at z; exact z
theorem pd_or (k : PD X W a f) (k' : PD X W (.BoolOp .Or (b :: rest) pos) g) : PD X W (.BoolOp .Or (a :: b :: rest) pos) (eOr f g) := pe_weak (pe_or k k') fun σ H Q ⟨G0, H0, G, ρ, E, z⟩ => by
  refine ⟨G0, H0, G, ρ, E, ?_⟩
  unfold eOr at z
  cases k : f ρ with
  | ok d =>
    rw [k] at z
    cases d with
    | bool b =>
      refine fun v G' H' g1 y => ?_
      cases y
      refine ⟨b, rfl, ?_⟩
      cases b with
      | false => exact ⟨G0, H0, G', ρ, E.grow g1, RD.grow g1 z⟩
      | true => exact z (.bl true) G' H' g1 (.bl true)
    | _ => exact z.elim
  | er c => rw [k] at z; exact z
  | no => rw [k] at z; exact z
theorem pd_not (k : PD X W a f) : PD X W (.UnaryOp .Not a pos) (eNot f) := pe_weak (pe_not k) fun σ H Q ⟨G0, H0, G, ρ, E, z⟩ => by
  refine ⟨G0, H0, G, ρ, E, ?_⟩
  unfold eNot at z
  cases k : f ρ with
  | ok d =>
    rw [k] at z
    cases d with
    | bool b =>
      refine fun v G' H' g1 y => ?_
      cases y
      exact ⟨b, rfl, z (.bl (!b)) G' H' g1 (.bl (!b))⟩
    | _ => exact z.elim
  | er c => rw [k] at z; exact z
  | no => rw [k] at z; exact z
theorem pd_if (kc : PTD X W c p) (ka : PD X W a f) (kb : PD X W b g) : PD X W (.IfExp c a b pos) (eIf p f g) := pe_weak (pe_ifExp kc ka kb) fun σ H Q ⟨G0, H0, G, ρ, E, z⟩ => by
  refine ⟨G0, H0, G, ρ, E, ?_⟩
  unfold eIf at z
  cases k : p ρ with
  | ok b =>
    rw [k] at z
    refine fun G' H' g1 => ?_
    cases b with
    | true => exact ⟨G0, H0, G', ρ, E.grow g1, RD.grow g1 z⟩
    | false => exact ⟨G0, H0, G', ρ, E.grow g1, RD.grow g1 z⟩
  | er c => rw [k] at z; exact z
  | no => rw [k] at z; exact z
end
end L2.Pz

namespace L2.Pz
open PySem PySem.Spec PyProof.Rows

/-! ### targets -/
abbrev GF := PyData → En → Option En
@[simp] def gN (i : Nat) (d : PyData) (ρ : En) : Option En := some (ρ.set i (some (.v d)))
@[simp] def gL : List GF → List PyData → En → Option En
  | [], [], ρ => some ρ
  | g :: gs, d :: ds, ρ => (g d ρ).bind (gL gs ds)
  | _, _, _ => none
@[simp] def gT (gs : List GF) (d : PyData) (ρ : En) : Option En := match d with
  | .tuple ds => gL gs ds ρ
  | _ => none
/-- the slots is alone have changed -/
def Only (is : List Nat) (σ σ' : St) : Prop := σ'.length = σ.length ∧ ∀ j : Nat, j ∉ is → σ'[j]? = σ[j]?
theorem Only.refl (is : List Nat) (σ : St) : Only is σ σ := ⟨rfl, fun _ _ => rfl⟩
theorem Only.trans {is js : List Nat} {σ σ1 σ2 : St} (a : Only is σ σ1) (b : Only js σ1 σ2) : Only (is ++ js) σ σ2 :=
  ⟨b.1.trans a.1, fun j h => by
    have h' : j ∉ is ∧ j ∉ js := by simpa using h
    rw [b.2 j h'.2, a.2 j h'.1]⟩
theorem Only.set (i : Nat) (v : Option V) (σ : St) : Only [i] σ (σ.set i v) := ⟨by simp, fun j h => by
  have : i ≠ j := by intro e; subst e; simp at h
  rw [List.getElem?_set_ne this]⟩
theorem wipe_get {j : Nat} (σ : St) : ∀ (vs : List Nat), (wipe σ vs)[j]? = if j ∈ vs ∧ j < σ.length then some none else σ[j]? := by
  intro vs
  induction vs with
  | nil => simp [wipe]
  | cons i vs ih =>
    unfold wipe
    by_cases hl : j < σ.length
    · by_cases e : i = j
      · subst e
        rw [List.getElem?_set_self (by rw [wipe_length]; exact hl)]
        simp [hl]
      · rw [List.getElem?_set_ne e, ih]
        have e' : j ≠ i := Ne.symm e
        simp [e']
    · have : σ[j]? = none := List.getElem?_eq_none (by omega)
      rw [List.getElem?_eq_none (by simp [wipe_length]; omega), if_neg (by simp [hl]), this]
theorem Only.wipe {is : List Nat} {σ σ' : St} (o : Only is σ σ') {vs : List Nat} (h : ∀ i ∈ is, i ∈ vs) : wipe σ' vs = wipe σ vs := by
  apply List.ext_getElem?
  intro j
  rw [wipe_get, wipe_get, o.1]
  by_cases hv : j ∈ vs ∧ j < σ.length
  · rw [if_pos hv, if_pos hv]
  · rw [if_neg hv, if_neg hv]
    by_cases hl : j < σ.length
    · exact o.2 j fun z => hv ⟨h j z, hl⟩
    · rw [List.getElem?_eq_none (by rw [o.1]; omega), List.getElem?_eq_none (by omega)]
def tGD (K : PySem.W.Frag) (is : List Nat) (gt : GF) : TG := fun v σ H Q => ∃ G0 H0 G ρ d, EnvOk K G0 H0 G H σ ρ ∧ Dq K G v d ∧ ∃ ρ', gt d ρ = some ρ' ∧ ∀ σ', EnvOk K G0 H0 G H σ' ρ' → Only is σ σ' → Q σ' H
def tGDs (K : PySem.W.Frag) (is : List Nat) (gs : List GF) : TGs := fun vs σ H Q => ∃ G0 H0 G ρ ds, EnvOk K G0 H0 G H σ ρ ∧ DqAll K G vs ds ∧ ∃ ρ', gL gs ds ρ = some ρ' ∧ ∀ σ', EnvOk K G0 H0 G H σ' ρ' → Only is σ σ' → Q σ' H
abbrev PGD (X : Cx) (tg : Expr) (is : List Nat) (gt : GF) : Prop := PG X tg (tGD X.K is gt)
abbrev PGDs (X : Cx) (ts : List Expr) (is : List Nat) (gs : List GF) : Prop := PGs X ts (tGDs X.K is gs)
section
variable {K : PySem.W.Frag} {G0 H0 G H : Hp} {σ : St} {ρ : En} {i : Nat} {v : V} {d : PyData}
theorem EnvOk.set (E : EnvOk K G0 H0 G H σ ρ) (h : Dq K G v d) : EnvOk K G0 H0 G H (σ.set i (some v)) (ρ.set i (some (.v d))) := by
  refine ⟨E.gr, by simp [E.len], fun j s hj => ?_, fun j k ds es a h1 h2 h3 h4 => ?_⟩
  · by_cases e : i = j
    · subst e
      by_cases hl : i < ρ.length
      · rw [List.getElem?_set_self hl] at hj
        cases hj
        exact ⟨v, by rw [List.getElem?_set_self (by rw [E.len]; exact hl)], h⟩
      · rw [List.getElem?_eq_none (by simp; omega)] at hj
        cases hj
    · rw [List.getElem?_set_ne e] at hj
      rw [List.getElem?_set_ne e]
      exact E.sl j s hj
  · have ne : ∀ {j : Nat} {ds : List PyData}, (ρ.set i (some (.v d)))[j]? = some (some (.own ds)) → i ≠ j := fun {j ds} h e => by
      subst e
      by_cases hl : i < ρ.length
      · rw [List.getElem?_set_self hl] at h; cases h
      · rw [List.getElem?_eq_none (by simp; omega)] at h; cases h
    have n1 := ne h1
    have n2 := ne h2
    rw [List.getElem?_set_ne n1] at h1 h3
    rw [List.getElem?_set_ne n2] at h2 h4
    exact E.inj j k ds es a h1 h2 h3 h4
/-- a slot takes a list of its own (new, or the one it had, changed) -/
theorem EnvOk.setOwn {H' : Hp} {a : Addr} {xs : List V} {ds : List PyData} (E : EnvOk K G0 H0 G H σ ρ) (g : Gr G0 H0 G H') (keep : ∀ b o, b ≠ a → H b = some o → H' b = some o) (h0 : H0 a = none) (ga : G a = none) (ha : H' a = some (.lst xs)) (hd : DqAll K G xs ds)
    (ot : ∀ (j : Nat) es, j ≠ i → ρ[j]? = some (some (.own es)) → σ[j]? ≠ some (some (.ref a))) : EnvOk K G0 H0 G H' (σ.set i (some (.ref a))) (ρ.set i (some (.own ds))) := by
  refine ⟨g, by simp [E.len], fun j s hj => ?_, fun j k ds' es b h1 h2 h3 h4 => ?_⟩
  · by_cases e : i = j
    · subst e
      by_cases hl : i < ρ.length
      · rw [List.getElem?_set_self hl] at hj
        cases hj
        exact ⟨.ref a, by rw [List.getElem?_set_self (by rw [E.len]; exact hl)], a, xs, rfl, h0, ga, ha, hd⟩
      · rw [List.getElem?_eq_none (by simp; omega)] at hj
        cases hj
    · rw [List.getElem?_set_ne e] at hj
      rw [List.getElem?_set_ne e]
      obtain ⟨v, h1, h2⟩ := E.sl j s hj
      refine ⟨v, h1, ?_⟩
      cases s with
      | v d => exact h2
      | x a => exact h2
      | g d => exact h2
      | own es =>
        obtain ⟨b, ys, e1, b0, gb, hb, hds⟩ := h2
        subst e1
        have nb : b ≠ a := fun z => ot j es (Ne.symm e) hj (by rw [h1, z])
        exact ⟨b, ys, rfl, b0, gb, keep b _ nb hb, hds⟩
  · by_cases e1 : i = j
    · by_cases e2 : i = k
      · exact e1.symm.trans e2
      · subst e1
        have hl : i < σ.length := by
          have := (List.getElem?_eq_some_iff.mp h3).1
          simpa using this
        rw [List.getElem?_set_self hl] at h3
        cases h3
        rw [List.getElem?_set_ne e2] at h2 h4
        exact absurd h4 (ot k es (Ne.symm e2) h2)
    · rw [List.getElem?_set_ne e1] at h1 h3
      by_cases e2 : i = k
      · subst e2
        have hl : i < σ.length := by
          have := (List.getElem?_eq_some_iff.mp h4).1
          simpa using this
        rw [List.getElem?_set_self hl] at h4
        cases h4
        exact absurd h3 (ot j ds' (Ne.symm e1) h1)
      · rw [List.getElem?_set_ne e2] at h2 h4
        exact E.inj j k ds' es b h1 h2 h3 h4
end
section
variable {X : Cx} {W : WX} {e a b c tg : Expr} {ts : List Expr} {gt : GF} {gs : List GF} {pos : Pos} {is js : List Nat}
theorem pgd_name {i : Nat} {x : Str} (hN : X.N.Nodup) (hi : X.N[i]? = some x) (hx : Loc X.env.scope x) (hf : X.fn x = true ∨ X.env.scope.names.lookup x = some .local := by first | exact .inl rfl | exact .inr rfl | assumption) : PGD X (.Name x pos) [i] (gN i) :=
  pg_weak (pg_name hN hi hx hf) fun v σ H Q ⟨G0, H0, G, ρ, d, E, h, ρ', e, q⟩ => by
    cases e
    exact q _ (E.set h) (Only.set i _ σ)
theorem pgs_weak {t t' : TGs} (h : PGs X ts t) (k : ∀ v σ H Q, t' v σ H Q → t v σ H Q) : PGs X ts t' := ⟨fun pins s σ H v u Q I r q => h.run pins s σ H v u Q I r (k _ _ _ _ q)⟩
theorem pgds_nil : PGDs X [] [] [] := pgs_weak pgs_nil fun vs σ H Q ⟨G0, H0, G, ρ, ds, E, h, ρ', e, q⟩ => by
  cases ds with
  | nil => cases h; cases e; exact ⟨rfl, q _ E (Only.refl _ _)⟩
  | cons d ds => cases e
theorem pgds_cons (h1 : PGD X tg is gt) (h2 : PGDs X ts js gs) (hs : (assignEach (tg :: ts) X.env).map (·.2) = assign tg X.env :: (assignEach ts X.env).map (·.2) := by rfl) : PGDs X (tg :: ts) (is ++ js) (gt :: gs) :=
  pgs_weak (pgs_cons h1 h2 hs) fun vs σ H Q ⟨G0, H0, G, ρ, ds, E, h, ρ', e, q⟩ => by
    cases ds with
    | nil => cases e
    | cons d ds =>
      cases h with
      | cons a b =>
        unfold gL at e
        cases k : gt d ρ with
        | none => rw [k] at e; cases e
        | some ρ1 =>
          rw [k] at e
          exact ⟨_, _, rfl, G0, H0, G, ρ, d, E, a, ρ1, k, fun σ1 E1 o1 => ⟨G0, H0, G, ρ1, ds, E1, b, ρ', e, fun σ2 E2 o2 => q σ2 E2 (o1.trans o2)⟩⟩
theorem gL_len : ∀ {gs : List GF} {ds : List PyData} {ρ ρ' : En}, gL gs ds ρ = some ρ' → gs.length = ds.length
  | [], [], _, _, _ => rfl
  | g :: gs, d :: ds, ρ, ρ', h => by
    unfold gL at h
    cases k : g d ρ with
    | none => rw [k] at h; cases h
    | some ρ1 => rw [k] at h; simp [gL_len h]
  | [], _ :: _, _, _, h => by cases h
  | _ :: _, [], _, _, h => by cases h
theorem pgd_tup {k : Nat} (hc : X.calm = true) (h : PGDs X ts is gs) (hn : (assignEach ts X.env).length = gs.length := by rfl) (hst : (assignEach ts X.env).findIdx? (·.1) = none := by rfl) : PGD X (.Tuple ts k pos) is (gT gs) :=
  pg_weak (pg_tup hc h hn hst) fun v σ H Q ⟨G0, H0, G, ρ, d, E, h, ρ', e, q⟩ => by
    cases d with
    | tuple ds =>
      cases h with
      | tup p r => exact ⟨_, _, rfl, sqT_mono E.gr.sub p, by rw [dpAll_len r]; exact (gL_len e).symm, G0, H0, G, ρ, ds, E, r, ρ', e, q⟩
    | _ => cases e
end

/-! ### statements -/
inductive SR where
  | nx (ρ : En)
  | rt (d : PyData)
  | bk (ρ : En)
  | ct (ρ : En)
  | er (c : Str) (ρ : En)
  | no
abbrev SF := En → SR
def PoS (K : PySem.W.Frag) (mg : Str → Option Value) (W : WX) (G0 H0 G : Hp) (D : Ends) : SR → Prop
  | .nx ρ => ∀ G' H σ, EnvOk K G0 H0 G' H σ ρ → Same G G' → D.nx σ H
  | .rt d => ∀ G' H v, Gr G0 H0 G' H → Dq K G' v d → D.rt v H
  | .bk ρ => ∀ G' H σ, EnvOk K G0 H0 G' H σ ρ → Same G G' → D.bk σ H
  | .ct ρ => ∀ G' H σ, EnvOk K G0 H0 G' H σ ρ → Same G G' → D.ct σ H
  | .er c ρ => ∀ G' H σ, EnvOk K G0 H0 G' H σ ρ → Same G G' → W (XC mg c) none σ H
  | .no => False
theorem PoS.mono {K : PySem.W.Frag} {mg : Str → Option Value} {W : WX} {G0 H0 G G1 : Hp} {D : Ends} {r : SR} (s : Same G G1) (h : PoS K mg W G0 H0 G D r) : PoS K mg W G0 H0 G1 D r := by
  cases r with
  | nx ρ => exact fun G' H σ E k => h G' H σ E (s.trans k)
  | rt d => exact h
  | bk ρ => exact fun G' H σ E k => h G' H σ E (s.trans k)
  | ct ρ => exact fun G' H σ E k => h G' H σ E (s.trans k)
  | er c ρ => exact fun G' H σ E k => h G' H σ E (s.trans k)
  | no => exact h
def tSD (K : PySem.W.Frag) (mg : Str → Option Value) (W : WX) (g : SF) : TS := fun D σ H => ∃ G0 H0 G ρ, EnvOk K G0 H0 G H σ ρ ∧ PoS K mg W G0 H0 G D (g ρ)
abbrev PS1 (X : Cx) (W : WX) (st : Stmt) (g : SF) : Prop := PS X st (tSD X.K X.mg W g)
abbrev PSD (X : Cx) (W : WX) (sts : List Stmt) (g : SF) : Prop := PSs X sts (tSD X.K X.mg W g)
@[simp] def sNx (ρ : En) : SR := .nx ρ
@[simp] def sSeq (g1 g2 : SF) (ρ : En) : SR := match g1 ρ with
  | .nx ρ' => g2 ρ'
  | r => r
@[simp] def sRet (f : EF) (ρ : En) : SR := match f ρ with
  | .ok d => .rt d
  | .er c => .er c ρ
  | .no => .no
@[simp] def sAsg (gt : GF) (f : EF) (ρ : En) : SR := match f ρ with
  | .ok d => match gt d ρ with
    | some ρ' => .nx ρ'
    | none => .no
  | .er c => .er c ρ
  | .no => .no
@[simp] def sDrop (f : EF) (ρ : En) : SR := match f ρ with
  | .ok _ => .nx ρ
  | .er c => .er c ρ
  | .no => .no
@[simp] def sOwn (i : Nat) (f : EF) (ρ : En) : SR := match f ρ with
  | .ok (.list ds) => .nx (ρ.set i (some (.own ds)))
  | .er c => .er c ρ
  | _ => .no
@[simp] def sIf (p : En → Rs Bool) (g1 g2 : SF) (ρ : En) : SR := match p ρ with
  | .ok true => g1 ρ
  | .ok false => g2 ρ
  | .er c => .er c ρ
  | .no => .no
@[simp] def sApp (i : Nat) (f : EF) (ρ : En) : SR := match ρ[i]? with
  | some (some (.own ds)) => match f ρ with
    | .ok d => if ds.length < sizeLine then .nx (ρ.set i (some (.own (ds ++ [d])))) else .no
    | .er c => .er c ρ
    | .no => .no
  | _ => .no
@[simp] def sPut (i : Nat) (fk f : EF) (ρ : En) : SR := match f ρ with
  | .ok d => match ρ[i]? with
    | some (some (.own ds)) => match fk ρ with
      | .ok (.int k) => match ixN ds.length k with
        | some j => .nx (ρ.set i (some (.own (ds.set j d))))
        | none => .no
      | .er c => .er c ρ
      | _ => .no
    | _ => .no
  | .er c => .er c ρ
  | .no => .no
@[simp] def frz (i : Nat) (ρ : En) : En := match ρ[i]? with
  | some (some (.own ds)) => ρ.set i (some (.v (.list ds)))
  | _ => ρ
@[simp] def sFrz (i : Nat) (g : SF) (ρ : En) : SR := g (frz i ρ)
section
variable {X : Cx} {W : WX} {e a b c tg : Expr} {st : Stmt} {sts rest : List Stmt} {f fk : EF} {g g1 g2 : SF} {gt : GF} {p : En → Rs Bool} {pos : Pos} {i : Nat} {is : List Nat}
theorem psd_nil : PSD X W [] sNx := pss_weak pss_nil fun D σ H ⟨G0, H0, G, ρ, E, q⟩ => q G H σ E (Same.refl _)
theorem psd_cons (h1 : PS1 X W st g1) (h2 : PSD X W rest g2) : PSD X W (st :: rest) (sSeq g1 g2) := pss_weak (pss_cons h1 h2) fun D σ H ⟨G0, H0, G, ρ, E, q⟩ => by
  refine ⟨G0, H0, G, ρ, E, ?_⟩
  unfold sSeq at q
  cases k : g1 ρ with
  | nx ρ' => rw [k] at q; exact fun G' H' σ' E' s' => ⟨G0, H0, G', ρ', E', q.mono s'⟩
  | rt d => rw [k] at q; exact q
  | bk d => rw [k] at q; exact q
  | ct d => rw [k] at q; exact q
  | er c d => rw [k] at q; exact q
  | no => rw [k] at q; exact q
theorem psd_one (h1 : PS1 X W st g) : PSD X W [st] g := pss_one h1
theorem ps1_ret (k : PD X W e f) : PS1 X W (.Return (some e) pos) (sRet f) := ps_weak (ps_ret k) fun D σ H ⟨G0, H0, G, ρ, E, q⟩ => by
  refine ⟨G0, H0, G, ρ, E, ?_⟩
  unfold sRet at q
  cases k : f ρ with
  | ok d => rw [k] at q; exact fun v G' H' g z => q G' H' v (E.gr.trans g) z
  | er c => rw [k] at q; exact fun G' H' g => q G' H' σ (E.grow g) g.g
  | no => rw [k] at q; exact q
theorem runAsg {D : Ends} {σ : St} {H : Hp} (q : tSD X.K X.mg W (sAsg gt f) D σ H) : tD X.K X.mg W f σ H fun x H1 => tGD X.K is gt x σ H1 D.nx := by
  obtain ⟨G0, H0, G, ρ, E, q⟩ := q
  refine ⟨G0, H0, G, ρ, E, ?_⟩
  unfold sAsg at q
  cases k : f ρ with
  | ok d =>
    rw [k] at q
    refine fun v G' H' g z => ⟨G0, H0, G', ρ, d, E.grow g, z, ?_⟩
    simp only at q
    cases k2 : gt d ρ with
    | none => rw [k2] at q; exact q.elim
    | some ρ' => rw [k2] at q; exact ⟨ρ', rfl, fun σ' E' _ => q G' H' σ' E' g.g⟩
  | er c => rw [k] at q; exact fun G' H' g => q G' H' σ (E.grow g) g.g
  | no => rw [k] at q; exact q
theorem ps1_asg (k : PD X W e f) (hg : PGD X tg is gt) (hs : swapsWithSole [tg] e pos.line X.env = pure false := by rfl) (hw : swappedStores [tg] e X.env = pure none := by rfl) (h1 : (assignEach [tg] X.env).map (·.2) = [assign tg X.env] := by rfl) :
    PS1 X W (.Assign [tg] e pos) (sAsg gt f) := ps_weak (ps_asg k hg hs hw h1) fun _ _ _ q => runAsg q
theorem ps1_drop (k : PD X W e f) (hx : PS X (.Expr e pos) (tDrop (tD X.K X.mg W f))) : PS1 X W (.Expr e pos) (sDrop f) := ps_weak hx fun D σ H ⟨G0, H0, G, ρ, E, q⟩ => by
  refine ⟨G0, H0, G, ρ, E, ?_⟩
  unfold sDrop at q
  cases k : f ρ with
  | ok d => rw [k] at q; exact fun v G' H' g z => q G' H' σ (E.grow g) g.g
  | er c => rw [k] at q; exact fun G' H' g => q G' H' σ (E.grow g) g.g
  | no => rw [k] at q; exact q
theorem runOwn {D : Ends} {σ : St} {H : Hp} (q : tSD X.K X.mg W (sOwn i f) D σ H) : tF X.K X.mg W f σ H fun x H1 => gName i x σ H1 D.nx := by
  obtain ⟨G0, H0, G, ρ, E, q⟩ := q
  refine ⟨G0, H0, G, ρ, E, ?_⟩
  unfold sOwn at q
  cases k : f ρ with
  | ok d =>
    rw [k] at q
    cases d with
    | list ds =>
      refine fun a xs G' H' g h0 ga ha hd => q G' H' _ ?_ g.g
      have E' := E.grow g
      refine E'.setOwn E'.gr (fun b o _ z => z) (E.gr.h.free h0) ga ha hd fun j es _ h1 h2 => ?_
      obtain ⟨v, h3, b, ys, e1, _, _, hb, _⟩ := E.sl j _ h1
      rw [h2] at h3
      cases h3
      cases e1
      rw [h0] at hb
      cases hb
    | _ => exact q.elim
  | er c => rw [k] at q; exact fun G' H' g => q G' H' σ (E.grow g) g.g
  | no => rw [k] at q; exact q
theorem ps1_own {x : Str} {px : Pos} (k : PF X W e f) (hN : X.N.Nodup) (hi : X.N[i]? = some x) (hx : Loc X.env.scope x) (hf : X.fn x = true ∨ X.env.scope.names.lookup x = some .local := by first | exact .inl rfl | exact .inr rfl | assumption)
    (hs : swapsWithSole [.Name x px] e pos.line X.env = pure false := by rfl) (hw : swappedStores [.Name x px] e X.env = pure none := by rfl) (h1 : (assignEach [.Name x px] X.env).map (·.2) = [assign (.Name x px) X.env] := by rfl) :
    PS1 X W (.Assign [.Name x px] e pos) (sOwn i f) := ps_weak (ps_asg k (pg_name hN hi hx hf) hs hw h1) fun _ _ _ q => runOwn q
theorem ps1_if (hc : PTD X W c p) (h1 : PSD X W sts g1) (h2 : PSD X W rest g2) : PS1 X W (.If c sts rest pos) (sIf p g1 g2) := ps_weak (ps_if hc h1 h2) fun D σ H ⟨G0, H0, G, ρ, E, q⟩ => by
  refine ⟨G0, H0, G, ρ, E, ?_⟩
  unfold sIf at q
  cases k : p ρ with
  | ok b =>
    rw [k] at q
    refine fun G' H' g => ?_
    cases b with
    | true => exact ⟨G0, H0, G', ρ, E.grow g, PoS.mono g.g q⟩
    | false => exact ⟨G0, H0, G', ρ, E.grow g, PoS.mono g.g q⟩
  | er c => rw [k] at q; exact fun G' H' g => q G' H' σ (E.grow g) g.g
  | no => rw [k] at q; exact q
theorem psd_frz (i : Nat) (h : PSD X W sts g) : PSD X W sts (sFrz i g) := pss_weak h fun D σ H ⟨G0, H0, G, ρ, E, q⟩ => by
  unfold sFrz frz at q
  split at q
  · rename_i ds k
    obtain ⟨v, hv, a, xs, rfl, h0, ga, ha, hd⟩ := E.sl i _ k
    have g : Gr G0 H0 (upd G a (.lst xs)) H := by
      refine ⟨fun b u eb => ?_, E.gr.g.trans (same_upd ga), E.gr.h, fun b hb gb => ?_, nf_upd (fun _ _ z => nomatch z) E.gr.nf⟩
      · by_cases hb : b = a
        · subst hb; rw [upd_same] at eb; cases eb; exact ha
        · rw [upd_ne hb] at eb; exact E.gr.sub _ _ eb
      · have hne : b ≠ a := fun z => hb (by rw [z]; exact h0)
        rw [upd_ne hne]; exact E.gr.n b hb gb
    have hl : i < ρ.length := (List.getElem?_eq_some_iff.mp k).1
    refine ⟨G0, H0, upd G a (.lst xs), _, ⟨g, by simp [E.len], fun j s hj => ?_, fun j k' ds' es b h1 h2 h3 h4 => ?_⟩, PoS.mono (same_upd ga) q⟩
    · by_cases e : i = j
      · subst e
        rw [List.getElem?_set_self hl] at hj
        cases hj
        exact ⟨_, hv, .lst (SqL.of upd_same) (dpAll_mono (same_upd ga) hd)⟩
      · rw [List.getElem?_set_ne e] at hj
        obtain ⟨v, h1, h2⟩ := E.sl j s hj
        refine ⟨v, h1, ?_⟩
        cases s with
        | v d => exact dp_mono (same_upd ga) h2
        | x a => exact h2
        | g d => obtain ⟨h3, a', o, ys, e', h4⟩ := h2; exact ⟨dp_mono (same_upd ga) h3, a', o, ys, e', same_upd ga _ _ h4⟩
        | own es =>
          obtain ⟨b, ys, e1, b0, gb, hb, hds⟩ := h2
          subst e1
          have nb : b ≠ a := fun z => e (E.inj i j ds es a k hj hv (by rw [h1, z]))
          exact ⟨b, ys, rfl, b0, by rw [upd_ne nb]; exact gb, hb, dpAll_mono (same_upd ga) hds⟩
    · have ne : ∀ {j : Nat} {ds' : List PyData}, (ρ.set i (some (.v (.list ds))))[j]? = some (some (.own ds')) → i ≠ j := fun {j ds'} h e => by
        subst e
        rw [List.getElem?_set_self hl] at h; cases h
      have n1 := ne h1
      have n2 := ne h2
      rw [List.getElem?_set_ne n1] at h1
      rw [List.getElem?_set_ne n2] at h2
      exact E.inj j k' ds' es b h1 h2 h3 h4
  · exact ⟨G0, H0, G, ρ, E, q⟩
end
end L2.Pz

namespace L2.Pz
open PySem PySem.Spec PyProof.Rows

theorem set_same {σ : St} {i : Nat} {v : Option V} (h : σ[i]? = some v) : σ.set i v = σ := by
  apply List.ext_getElem?
  intro j
  by_cases e : i = j
  · subst e
    rw [List.getElem?_set_self (List.getElem?_eq_some_iff.mp h).1, h]
  · rw [List.getElem?_set_ne e]
/-- the list of a slot is changed in place -/
theorem EnvOk.chg {K : PySem.W.Frag} {G0 H0 G H : Hp} {σ : St} {ρ : En} {i : Nat} {a : Addr} {ys : List V} {ds es : List PyData} (E : EnvOk K G0 H0 G H σ ρ) (k : ρ[i]? = some (some (.own ds))) (hv : σ[i]? = some (some (.ref a))) (h0 : H0 a = none) (ga : G a = none)
    (hd : DqAll K G ys es) : EnvOk K G0 H0 G (upd H a (.lst ys)) σ (ρ.set i (some (.own es))) := by
  have r := E.setOwn (i := i) (H' := upd H a (.lst ys)) (a := a) (xs := ys) (ds := es) ⟨fun b u eb => ?_, E.gr.g, fun b u eb => ?_, E.gr.n, E.gr.nf⟩ (fun b o hb z => by rw [upd_ne hb]; exact z) h0 ga upd_same hd fun j es' hj h1 h2 => hj (E.inj j i es' ds a h1 k h2 hv)
  · rw [set_same hv] at r
    exact r
  · rw [upd_ne (ne_of_none eb ga)]; exact E.gr.sub _ _ eb
  · rw [upd_ne (ne_of_none eb h0)]; exact E.gr.h _ _ eb
section
variable {X : Cx} {W : WX} {e a b c tg : Expr} {st : Stmt} {sts rest : List Stmt} {f fk : EF} {g g1 g2 : SF} {gt : GF} {p : En → Rs Bool} {pos : Pos} {i : Nat} {is : List Nat}
theorem ps1_app {x : Str} {px apos cpos : Pos} (kv : PE X (.Name x px) (tVar i)) (k : PD X W e f)
    (hs : swapsWith (.Call (.Attribute (.Name x px) "append" apos) [e] [] cpos) none pos.line X.env = pure false := by rfl)
    (hbase : attributeBase (.Name x px) "append" X.env (eval (.Name x px) X.env) = eval (.Name x px) X.env := by rfl)
    (hfew : ((backTo cpos (starEach [e] X.env)).all (fun x => !x.1) && (backToKw cpos (keywordEach [] X.env)).all (fun x => x.1.isSome)
      && decide ([e].length + ([] : List Keyword).length + (if ([] : List Keyword).isEmpty then 0 else 1) < 30)) = true := by rfl)
    (hline : (apos.endLine == cpos.line) = true := by rfl) (he : starEach [e] X.env = (false, eval e X.env) :: starEach [] X.env := by rfl) (hplain : (backTo cpos (starEach [] X.env)).any (·.1) = false := by rfl) :
    PS1 X W (.Expr (.Call (.Attribute (.Name x px) "append" apos) [e] [] cpos) pos) (sApp i f) :=
  ps_weak (ps_expr (pe_bm PySem.F.plainAttrs_list PySem.F.slot_list_append PySem.F.type_list_append mt_append kv (pa_cons k pa_nil he) hbase hfew hline he hplain) hs) fun D σ H ⟨G0, H0, G, ρ, E, q⟩ => by
    unfold sApp at q
    split at q
    · rename_i ds k
      obtain ⟨v, hv, a, xs, rfl, h0, ga, ha, hd⟩ := E.sl i _ k
      refine ⟨_, hv, .inl ⟨rfl, xs, SqL.of ha⟩, G0, H0, G, ρ, E, ?_⟩
      cases k2 : f ρ with
      | ok d =>
        rw [k2] at q
        refine fun w G' H' g z => ?_
        have ga' := g.n a (by rw [ha]; exact fun z => nomatch z) ga
        simp only at q
        split at q
        · rename_i hlen
          refine ⟨a, xs, w, rfl, rfl, g.h _ _ ha, by rw [dpAll_len hd]; exact hlen, ?_⟩
          exact q G' _ σ ((E.grow g).chg k hv h0 ga' (dpAll_app (dpAll_mono g.g hd) (.cons z .nil))) g.g
        · exact q.elim
      | er c => rw [k2] at q; exact fun G' H' g => q G' H' σ (E.grow g) g.g
      | no => rw [k2] at q; exact q
    · exact q.elim
theorem dqAll_set {K : PySem.W.Frag} {H : Hp} {v : V} {d : PyData} (h : Dq K H v d) : ∀ {ds : List PyData} {vs : List V} (j : Nat), DqAll K H vs ds → DqAll K H (vs.set j v) (ds.set j d)
  | [], _, _, k => by cases k; exact .nil
  | _ :: _, _, 0, k => by cases k with | cons a b => exact .cons h b
  | _ :: _, _, j + 1, k => by cases k with | cons a b => exact .cons a (dqAll_set h j b)
theorem ps1_put {x : Str} {px ppos : Pos} (kv : PE X (.Name x px) (tVar i)) (ki : PD X W a fk) (k : PD X W e f)
    (ha : ∀ v, assign (.Subscript (.Name x px) a ppos) X.env v = (do
      let ov ← holding [v] (eval (.Name x px) X.env)
      let iv ← holding [v, ov] (eval a X.env)
      standAt ppos
      holding [v, ov, iv] (setItem ov iv v)
      release [v, ov, iv] []) := by intro _; rfl)
    (hs : swapsWithSole [.Subscript (.Name x px) a ppos] e pos.line X.env = pure false := by rfl) (hw : swappedStores [.Subscript (.Name x px) a ppos] e X.env = pure none := by rfl)
    (h1 : (assignEach [.Subscript (.Name x px) a ppos] X.env).map (·.2) = [assign (.Subscript (.Name x px) a ppos) X.env] := by rfl) :
    PS1 X W (.Assign [.Subscript (.Name x px) a ppos] e pos) (sPut i fk f) :=
  ps_weak (ps_asg k (pg_sub kv ki set_list ha) hs hw h1) fun D σ H ⟨G0, H0, G, ρ, E, q⟩ => by
    refine ⟨G0, H0, G, ρ, E, ?_⟩
    unfold sPut at q
    cases k2 : f ρ with
    | ok d =>
      rw [k2] at q
      refine fun w G' H' g z => ?_
      simp only at q
      split at q
      · rename_i ds k
        obtain ⟨v, hv, a, xs, rfl, h0, ga, ha, hd⟩ := E.sl i _ k
        refine ⟨_, hv, G0, H0, G', ρ, E.grow g, ?_⟩
        cases k3 : fk ρ with
        | ok dk =>
          rw [k3] at q
          cases dk with
          | int kk =>
            simp only at q
            refine fun u G2 H2 g2 z2 => ?_
            cases z2
            have gg := g.trans g2
            have ga' := gg.n a (by rw [ha]; exact fun z => nomatch z) ga
            cases k4 : ixN ds.length kk with
            | none => rw [k4] at q; exact q.elim
            | some j =>
              rw [k4] at q
              refine ⟨a, xs, kk, j, rfl, rfl, gg.h _ _ ha, by rw [dpAll_len hd]; exact k4, ?_⟩
              exact q G2 _ σ ((E.grow gg).chg k hv h0 ga' (dqAll_set (dp_mono g2.g z) j (dpAll_mono gg.g hd))) gg.g
          | _ => exact q.elim
        | er c => rw [k3] at q; exact fun G2 H2 g2 => q G2 H2 σ (E.grow (g.trans g2)) (g.trans g2).g
        | no => rw [k3] at q; exact q
      · exact q.elim
    | er c => rw [k2] at q; exact fun G' H' g => q G' H' σ (E.grow g) g.g
    | no => rw [k2] at q; exact q
end

/-! ### what is walked -/
def YlOk (K : PySem.W.Frag) (G H : Hp) (x : V) (H' : Hp) (d : PyData) : Prop := (H' = H ∧ Dq K G x d) ∨ ∃ T xs es, x = .ref T ∧ H T = none ∧ H' = upd H T (.tup xs) ∧ DqAll K G xs es ∧ d = .tuple es
def ItOk (K : PySem.W.Frag) (G : Hp) (J : It) (ds : List PyData) : Prop := ∀ H, Same G H → J.stop ds.length H ∧ ∀ (i : Nat) (d : PyData), ds[i]? = some d → J.go i H ∧ ∀ x H', J.yld i H x H' → YlOk K G H x H' d
theorem YlOk.grow {K : PySem.W.Frag} {G G1 H H' : Hp} {x : V} {d : PyData} (y : YlOk K G H x H' d) (g : Same G G1) (s : Same G1 H) : ∃ G2, Gr G1 H G2 H' ∧ Dq K G2 x d := by
  rcases y with ⟨rfl, h⟩ | ⟨T, xs, es, rfl, n, rfl, h, rfl⟩
  · exact ⟨G1, Gr.refl s, dp_mono g h⟩
  · exact ⟨_, Gr.new s n, .tup (SqT.of upd_same) (dpAll_mono (g.trans (same_upd (s.free n))) h)⟩
abbrev IF := En → Rs (List PyData)
def RI (K : PySem.W.Frag) (mg : Str → Option Value) (W : WX) (G H : Hp) (σ : St) (R : It → Hp → Prop) : Rs (List PyData) → Prop
  | .ok ds => ∀ J G' H', Gr G H G' H' → ItOk K G' J ds → R J H'
  | .er c => ∀ G' H', Gr G H G' H' → W (XC mg c) none σ H'
  | .no => False
def tID (K : PySem.W.Frag) (mg : Str → Option Value) (W : WX) (f : IF) : TI := fun σ H R => ∃ G0 H0 G ρ, EnvOk K G0 H0 G H σ ρ ∧ RI K mg W G H σ R (f ρ)
abbrev PID (X : Cx) (W : WX) (tg e : Expr) (f : IF) : Prop := PI X tg e (tID X.K X.mg W f)
/-- the signs of a text, each as a text -/
def signsD (x : Str) : List PyData := x.cps.toList.map fun c => .str ⟨#[c]⟩
def iterD : PyData → Rs (List PyData)
  | .list ds => .ok ds
  | .tuple ds => .ok ds
  | .str x => .ok (signsD x)
  | _ => .no
@[simp] def iS (f : EF) (ρ : En) : Rs (List PyData) := (f ρ).bind iterD
def rangeD (lo : Int) (n : Nat) : List PyData := (List.range n).map fun i => .int (lo + (i : Nat))
def range1D : PyData → Rs (List PyData)
  | .int j => if j < 2 ^ 62 ∧ -(2 ^ 62) ≤ j then .ok (rangeD 0 j.toNat) else .no
  | _ => .no
@[simp] def iR1 (f : EF) (ρ : En) : Rs (List PyData) := (f ρ).bind range1D
section
variable {X : Cx} {W : WX} {e a b c tg : Expr} {f g h : EF} {pos : Pos}
theorem pi_or {w1 w2 : TI} (h1 : PI X tg e w1) (h2 : PI X tg e w2) : PI X tg e (fun σ H R => w1 σ H R ∨ w2 σ H R) := ⟨fun pins s σ H R I q => by
  rcases q with q | q
  · exact h1.run pins s σ H R I q
  · exact h2.run pins s σ H R I q⟩
theorem itOk_list {K : PySem.W.Frag} {G : Hp} {a : Addr} {xs : List V} {ds : List PyData} (h : SqL K G a xs) (d : DqAll K G xs ds) : ItOk K G (Itl K a) ds := fun H s => by
  have q : SqL K H a xs := s.seq h
  have w := walk_list (K := K) (a := a) (xs := xs)
  have hl := dpAll_len d
  refine ⟨by rw [← hl]; exact w.stops H q, fun i e he => ?_⟩
  have hi : i < xs.length := by rw [hl]; exact (List.getElem?_eq_some_iff.mp he).1
  refine ⟨w.goes i H hi q, fun x H' y => ?_⟩
  obtain ⟨e1, e2⟩ := w.yields i H x H' hi q y
  obtain ⟨e', h1, h2⟩ := dpAll_get d e2
  rw [he] at h1; cases h1
  exact .inl ⟨e1, h2⟩
theorem itOk_tup {K : PySem.W.Frag} {G : Hp} {a : Addr} {xs : List V} {ds : List PyData} (h : SqT K G a xs) (d : DqAll K G xs ds) : ItOk K G (Itt K a) ds := fun H s => by
  have q : SqT K H a xs := sqT_mono s h
  have w := walk_tup (K := K) (a := a) (xs := xs)
  have hl := dpAll_len d
  refine ⟨by rw [← hl]; exact w.stops H q, fun i e he => ?_⟩
  have hi : i < xs.length := by rw [hl]; exact (List.getElem?_eq_some_iff.mp he).1
  refine ⟨w.goes i H hi q, fun x H' y => ?_⟩
  obtain ⟨e1, e2⟩ := w.yields i H x H' hi q y
  obtain ⟨e', h1, h2⟩ := dpAll_get d e2
  rw [he] at h1; cases h1
  exact .inl ⟨e1, h2⟩
theorem itOk_str {K : PySem.W.Frag} {G : Hp} {x : Str} : ItOk K G (Its x) (signsD x) := fun H s => by
  have hl : (signsD x).length = x.cps.size := by simp [signsD]
  have w := walk_str (z := x)
  refine ⟨by rw [hl]; exact w.stops H trivial, fun i e he => ?_⟩
  have hi : i < x.cps.size := by rw [← hl]; exact (List.getElem?_eq_some_iff.mp he).1
  refine ⟨w.goes i H hi trivial, fun v H' y => ?_⟩
  obtain ⟨e1, c, e2, rfl⟩ := w.yields i H v H' hi trivial y
  have : e = .str ⟨#[c]⟩ := by
    unfold signsD at he
    rw [List.getElem?_map] at he
    have e3 : x.cps.toList[i]? = some c := by simpa using e2
    rw [e3] at he
    simpa using he.symm
  subst this
  exact .inl ⟨e1, .str _ (by show 1 ≤ sizeLine; decide)⟩
theorem itOk_range {K : PySem.W.Frag} {G : Hp} {lo : Int} {n : Nat} : ItOk K G (Itr lo n) (rangeD lo n) := fun H s => by
  have hl : (rangeD lo n).length = n := by simp [rangeD]
  have w := walk_range (lo := lo) (n := n)
  refine ⟨by rw [hl]; exact w.stops H trivial, fun i e he => ?_⟩
  have hi : i < n := by rw [← hl]; exact (List.getElem?_eq_some_iff.mp he).1
  refine ⟨w.goes i H hi trivial, fun v H' y => ?_⟩
  obtain ⟨e1, rfl⟩ := w.yields i H v H' hi trivial y
  have : e = .int (lo + i) := by
    unfold rangeD at he
    rw [List.getElem?_map, List.getElem?_range hi] at he
    simpa using he.symm
  subst this
  exact .inl ⟨e1, .int _⟩
theorem pid_seq (k : PD X W e f) : PID X W tg e (iS f) := pi_weak (pi_or (pi_list k) (pi_or (pi_tup k) (pi_str k))) fun σ H R ⟨G0, H0, G, ρ, E, q⟩ => by
  unfold iS at q
  cases k : f ρ with
  | ok d =>
    rw [k] at q
    cases d with
    | list ds =>
      refine .inl ⟨G0, H0, G, ρ, E, ?_⟩
      rw [k]
      exact fun v G' H' g z => by
        cases z with
        | lst p r => exact ⟨_, rfl, ⟨_, g.sub.seq p⟩, q _ G' H' g (itOk_list p r)⟩
    | tuple ds =>
      refine .inr (.inl ⟨G0, H0, G, ρ, E, ?_⟩)
      rw [k]
      exact fun v G' H' g z => by
        cases z with
        | tup p r => exact ⟨_, rfl, ⟨_, sqT_mono g.sub p⟩, q _ G' H' g (itOk_tup p r)⟩
    | str x =>
      refine .inr (.inr ⟨G0, H0, G, ρ, E, ?_⟩)
      rw [k]
      exact fun v G' H' g z => by
        cases z
        exact ⟨_, rfl, q _ G' H' g itOk_str⟩
    | _ => exact q.elim
  | er c =>
    rw [k] at q
    refine .inl ⟨G0, H0, G, ρ, E, ?_⟩
    rw [k]
    exact q
  | no => rw [k] at q; exact q.elim
theorem pid_range1 {p : Pos} (hg : Gl X "range") (hm : X.mg "range" = none) (k : PD X W a f) (hs : starEach [a] X.env = [(false, eval a X.env)] := by rfl) : PID X W tg (.Call (.Name "range" p) [a] [] pos) (iR1 f) :=
  pi_weak (pi_range1 hg hm (pa_cons k pa_nil hs) hs) fun σ H R ⟨G0, H0, G, ρ, E, q⟩ => by
    refine ⟨G0, H0, G, ρ, E, ?_⟩
    unfold iR1 at q
    cases k : f ρ with
    | ok d =>
      rw [k] at q
      cases d with
      | int j =>
        rw [Rs.bind_ok] at q
        unfold range1D at q
        simp only at q
        split at q
        · rename_i hj
          exact fun v G' H' g z => by
            cases z
            exact ⟨j, rfl, hj.2, hj.1, q _ G' H' g itOk_range⟩
        · exact q.elim
      | _ => exact q.elim
    | er c => rw [k] at q; exact q
    | no => rw [k] at q; exact q
end

/-! ### loops -/
def forL (bd : PyData → SF) : List PyData → SF
  | [], ρ => .nx ρ
  | d :: ds, ρ => match bd d ρ with
    | .nx ρ' => forL bd ds ρ'
    | .ct ρ' => forL bd ds ρ'
    | .bk ρ' => .nx ρ'
    | r => r
@[simp] def tgt (gt : GF) (g : SF) (d : PyData) (ρ : En) : SR := match gt d ρ with
  | some ρ' => g ρ'
  | none => .no
@[simp] def sFor (gt : GF) (f : IF) (g : SF) (ρ : En) : SR := match f ρ with
  | .ok ds => forL (tgt gt g) ds ρ
  | .er c => .er c ρ
  | .no => .no
def whL (p : En → Rs Bool) (g : SF) : Nat → SF
  | 0, _ => .no
  | n + 1, ρ => match p ρ with
    | .ok true => match g ρ with
      | .nx ρ' => whL p g n ρ'
      | .ct ρ' => whL p g n ρ'
      | .bk ρ' => .nx ρ'
      | r => r
    | .ok false => .nx ρ
    | .er c => .er c ρ
    | .no => .no
section
variable {X : Cx} {W : WX} {e a b c tg : Expr} {body : List Stmt} {f : IF} {g : SF} {gt : GF} {p : En → Rs Bool} {pos : Pos} {is : List Nat}
theorem ps1_for (hp : PassesOwn (model X.prog X.w) X.A X.env X.xe) (hc : X.calm = true) (ki : PID X W tg e f) (kg : PGD X tg is gt) (kb : PSD X W body g)
    (hs : ∀ x, foldedSetIterable e X.env x = pure x := by intro _; rfl) : PS1 X W (.For tg e body [] pos) (sFor gt f g) := ps_weak (ps_for hp hc ki kg kb hs) fun D σ H ⟨G0, H0, G, ρ, E, q⟩ => by
  refine ⟨G0, H0, G, ρ, E, ?_⟩
  unfold sFor at q
  cases k : f ρ with
  | ok ds =>
    rw [k] at q
    refine fun J G1 H1 g1 it => ⟨fun i m σ H => m = ds.length - i ∧ i ≤ ds.length ∧ ∃ ρ G, EnvOk X.K G0 H0 G H σ ρ ∧ Same G1 G ∧ PoS X.K X.mg W G0 H0 G D (forL (tgt gt g) (ds.drop i) ρ), ⟨ds.length, by simp, Nat.zero_le _, ρ, G1, E.grow g1, Same.refl _, PoS.mono g1.g q⟩, ?_⟩
    rintro i m σ H ⟨rfl, hi, ρ, G, E, sG, q⟩
    obtain ⟨st, go⟩ := it H (sG.trans E.gr.sub)
    by_cases hlt : i < ds.length
    · have hd : ds[i]? = some ds[i] := by simp [hlt]
      obtain ⟨go1, yl⟩ := go i _ hd
      have ed : ds.drop i = ds[i] :: ds.drop (i + 1) := by rw [List.drop_eq_getElem_cons hlt]
      rw [ed] at q
      unfold forL at q
      refine .inr ⟨go1, fun σ' H' => ∃ ρ' G', EnvOk X.K G0 H0 G' H' σ' ρ' ∧ Same G1 G' ∧ PoS X.K X.mg W G0 H0 G' D (forL (tgt gt g) (ds.drop (i + 1)) ρ'), fun σ' H' n => ⟨ds.length - (i + 1), by omega, rfl, hlt, n⟩, fun x H' y => ?_⟩
      obtain ⟨G2, g2, z⟩ := (yl x H' y).grow sG E.gr.sub
      have E2 := E.grow g2
      unfold tgt at q
      cases k2 : gt ds[i] ρ with
      | none => rw [k2] at q; exact q.elim
      | some ρ' =>
        rw [k2] at q
        refine ⟨G0, H0, G2, ρ, _, E2, z, ρ', k2, fun σ' E' _ => ⟨G0, H0, G2, ρ', E', ?_⟩⟩
        simp only at q
        have q := PoS.mono g2.g q
        cases k3 : g ρ' with
        | nx ρ1 => rw [k3] at q; exact fun G3 H3 σ3 E3 s3 => ⟨ρ1, G3, E3, (sG.trans g2.g).trans s3, PoS.mono s3 q⟩
        | ct ρ1 => rw [k3] at q; exact fun G3 H3 σ3 E3 s3 => ⟨ρ1, G3, E3, (sG.trans g2.g).trans s3, PoS.mono s3 q⟩
        | bk ρ1 => rw [k3] at q; exact q
        | rt d => rw [k3] at q; exact q
        | er c ρ1 => rw [k3] at q; exact q
        | no => rw [k3] at q; exact q
    · have e : i = ds.length := by omega
      subst e
      rw [List.drop_length] at q
      exact .inl ⟨st, q G H σ E (Same.refl _)⟩
  | er c => rw [k] at q; exact fun G' H' g1 => q G' H' σ (E.grow g1) g1.g
  | no => rw [k] at q; exact q
theorem ps1_while (n : Nat) (hp : PassesOwn (model X.prog X.w) X.A X.env X.xe) (kc : PTD X W c p) (kb : PSD X W body g) : PS1 X W (.While c body [] pos) (whL p g n) := ps_weak (ps_while hp kc kb) fun D σ H ⟨G0, H0, G, ρ, E, q⟩ => by
  refine ⟨fun m σ H => ∃ ρ G, EnvOk X.K G0 H0 G H σ ρ ∧ PoS X.K X.mg W G0 H0 G D (whL p g m ρ), ⟨n, ρ, G, E, q⟩, ?_⟩
  rintro m σ H ⟨ρ, G, E, q⟩
  cases m with
  | zero => exact q.elim
  | succ m =>
    refine ⟨G0, H0, G, ρ, E, ?_⟩
    unfold whL at q
    cases k : p ρ with
    | ok b =>
      rw [k] at q
      refine fun G1 H1 g1 => ?_
      have q := PoS.mono g1.g q
      have E1 := E.grow g1
      cases b with
      | true =>
        refine ⟨fun σ' H' => ∃ ρ' G', EnvOk X.K G0 H0 G' H' σ' ρ' ∧ PoS X.K X.mg W G0 H0 G' D (whL p g m ρ'), fun σ' H' z => ⟨m, Nat.lt_succ_self _, z⟩, G0, H0, G1, ρ, E1, ?_⟩
        simp only at q
        cases k3 : g ρ with
        | nx ρ1 => rw [k3] at q; exact fun G3 H3 σ3 E3 s3 => ⟨ρ1, G3, E3, PoS.mono s3 q⟩
        | ct ρ1 => rw [k3] at q; exact fun G3 H3 σ3 E3 s3 => ⟨ρ1, G3, E3, PoS.mono s3 q⟩
        | bk ρ1 => rw [k3] at q; exact q
        | rt d => rw [k3] at q; exact q
        | er c ρ1 => rw [k3] at q; exact q
        | no => rw [k3] at q; exact q
      | false => exact q G1 H1 σ E1 (Same.refl _)
    | er c => rw [k] at q; exact fun G' H' g1 => q G' H' σ (E.grow g1) g1.g
    | no => rw [k] at q; exact q
end
end L2.Pz

namespace L2.Pz
open PySem PySem.Spec PyProof.Rows

/-! ### comprehensions -/
@[simp] def wipeE (ρ : En) : List Nat → En
  | [] => ρ
  | v :: vs => (wipeE ρ vs).set v none
theorem EnvOk.wipe {K : PySem.W.Frag} {G0 H0 G H : Hp} {σ : St} {ρ : En} (E : EnvOk K G0 H0 G H σ ρ) : ∀ vs : List Nat, EnvOk K G0 H0 G H (wipe σ vs) (wipeE ρ vs)
  | [] => E
  | v :: vs => by
    have E' := E.wipe vs
    unfold L2.wipe wipeE
    have ne : ∀ {j : Nat} {s : Sl}, ((wipeE ρ vs).set v none)[j]? = some (some s) → v ≠ j := fun {j s} h e => by
      subst e
      by_cases hl : v < (wipeE ρ vs).length
      · rw [List.getElem?_set_self hl] at h; cases h
      · rw [List.getElem?_eq_none (by simp; omega)] at h; cases h
    refine ⟨E'.gr, by simpa using E'.len, fun j s hj => ?_, fun j k ds es a h1 h2 h3 h4 => ?_⟩
    · have n := ne hj
      rw [List.getElem?_set_ne n] at hj ⊢
      exact E'.sl j s hj
    · have n1 := ne h1
      have n2 := ne h2
      rw [List.getElem?_set_ne n1] at h1 h3
      rw [List.getElem?_set_ne n2] at h2 h4
      exact E'.inj j k ds es a h1 h2 h3 h4
theorem wipeE_own {ρ : En} {j : Nat} {s : Sl} : ∀ {vs : List Nat}, (wipeE ρ vs)[j]? = some (some s) → ρ[j]? = some (some s)
  | [], h => h
  | v :: vs, h => by
    unfold wipeE at h
    by_cases e : v = j
    · subst e
      by_cases hl : v < (wipeE ρ vs).length
      · rw [List.getElem?_set_self hl] at h; cases h
      · rw [List.getElem?_eq_none (by simp; omega)] at h; cases h
    · rw [List.getElem?_set_ne e] at h
      exact wipeE_own h
def W0 : WX := fun _ _ _ _ => False
def lcL (h : PyData → Rs (List PyData)) : List PyData → Rs (List PyData)
  | [] => .ok []
  | d :: ds => (h d).bind fun r => (lcL h ds).bind fun rs => .ok (r ++ rs)
/-- one item of a comprehension -/
@[simp] def lc1 (gt : GF) (p : En → Rs Bool) (f : EF) (ρ : En) (d : PyData) : Rs (List PyData) := match gt d ρ with
  | none => .no
  | some ρ' => match p ρ' with
    | .ok true => match f ρ' with
      | .ok r => .ok [r]
      | _ => .no
    | .ok false => .ok []
    | _ => .no
@[simp] def eLc (vs : List Nat) (fi : IF) (gt : GF) (p : En → Rs Bool) (f : EF) (ρ : En) : Rs PyData := (fi ρ).bind fun ds =>
  if ds.length ≤ sizeLine then (lcL (lc1 gt p f (wipeE ρ vs)) ds).bind fun rs => .ok (.list rs) else .no
@[simp] def bYes (_ : En) : Rs Bool := .ok true
abbrev PTsD (X : Cx) (W : WX) (ifs : List Expr) (p : En → Rs Bool) : Prop := PTs X ifs (tTs X.K X.mg W p)
section
variable {X : Cx} {W : WX} {e a b c tg elt iter : Expr} {ifs : List Expr} {f : EF} {fi : IF} {gt : GF} {p : En → Rs Bool} {pos : Pos} {is : List Nat} {scope : Scope} {own : List (Str × Nat)}
theorem ptsd_nil : PTsD X W [] bYes := ⟨fun pins s σ H Q I q => pts_nil.run pins s σ H Q I (by
  obtain ⟨G0, H0, G, ρ, E, q⟩ := q
  exact q G H (Gr.refl E.gr.sub))⟩
theorem ptsd_one (k : PTD X W c p) : PTsD X W [c] p := pts_one k
theorem lcL_ok {h : PyData → Rs (List PyData)} : ∀ {ds : List PyData} {rs : List PyData} {i : Nat} {d : PyData}, lcL h (ds.drop i) = .ok rs → ds[i]? = some d → ∃ r rs', h d = .ok r ∧ lcL h (ds.drop (i + 1)) = .ok rs' ∧ rs = r ++ rs' := by
  intro ds rs i d hq hd
  have hlt : i < ds.length := (List.getElem?_eq_some_iff.mp hd).1
  have e : d = ds[i] := by
    have := hd
    rw [List.getElem?_eq_getElem hlt] at this
    exact (Option.some.inj this).symm
  rw [List.drop_eq_getElem_cons hlt, ← e] at hq
  unfold lcL at hq
  cases k : h d with
  | ok r =>
    rw [k, Rs.bind_ok] at hq
    cases k2 : lcL h (ds.drop (i + 1)) with
    | ok rs' => rw [k2, Rs.bind_ok] at hq; cases hq; exact ⟨r, rs', rfl, rfl, rfl⟩
    | er c => rw [k2] at hq; cases hq
    | no => rw [k2] at hq; cases hq
  | er c => rw [k] at hq; cases hq
  | no => rw [k] at hq; cases hq
theorem lcL_er {h : PyData → Rs (List PyData)} (hh : ∀ d c, h d ≠ .er c) : ∀ (ds : List PyData) (c : Str), lcL h ds ≠ .er c
  | [], c, q => by cases q
  | d :: ds, c, q => by
    unfold lcL at q
    cases k : h d with
    | ok r =>
      rw [k, Rs.bind_ok] at q
      cases k2 : lcL h ds with
      | ok rs' => rw [k2] at q; cases q
      | er c => exact lcL_er hh ds c k2
      | no => rw [k2] at q; cases q
    | er c => exact hh d c k
    | no => rw [k] at q; cases q
theorem lc1_er {gt : GF} {p : En → Rs Bool} {f : EF} {ρ : En} (d : PyData) (c : Str) : lc1 gt p f ρ d ≠ .er c := by
  intro q
  unfold lc1 at q
  split at q
  · cases q
  · split at q
    · split at q <;> cases q
    · cases q
    · cases q
theorem lc1_len {gt : GF} {p : En → Rs Bool} {f : EF} {ρ : En} {d : PyData} {r : List PyData} (q : lc1 gt p f ρ d = .ok r) : r.length ≤ 1 := by
  unfold lc1 at q
  split at q
  · cases q
  · split at q
    · split at q <;> cases q
      simp
    · cases q; simp
    · cases q
/-- what was there and not frozen stays so; no known tuple is new -/
def Nn (H1 G1 G : Hp) : Prop := (∀ a, H1 a ≠ none → G1 a = none → G a = none) ∧ ∀ a o xs, G a = some (.frz o (.tup xs)) → G1 a = some (.frz o (.tup xs))
/-- an object that no slot owns is changed -/
theorem EnvOk.updD {K : PySem.W.Frag} {G0 H0 G H : Hp} {σ : St} {ρ : En} {D : Addr} {o : HO} (E : EnvOk K G0 H0 G H σ ρ) (gD : G D = none) (hD : H0 D = none) (no : ∀ (j : Nat) es, ρ[j]? = some (some (.own es)) → σ[j]? ≠ some (some (.ref D))) : EnvOk K G0 H0 G (upd H D o) σ ρ := by
  refine ⟨⟨fun b u eb => by rw [upd_ne (ne_of_none eb gD)]; exact E.gr.sub _ _ eb, E.gr.g, fun b u eb => by rw [upd_ne (ne_of_none eb hD)]; exact E.gr.h _ _ eb, E.gr.n, E.gr.nf⟩, E.len, fun j s hj => ?_, E.inj⟩
  obtain ⟨v, h1, h2⟩ := E.sl j s hj
  refine ⟨v, h1, ?_⟩
  cases s with
  | v d => exact h2
  | x a => exact h2
  | g d => exact h2
  | own es =>
    obtain ⟨b, ys, e1, b0, gb, hb, hds⟩ := h2
    subst e1
    have nb : b ≠ D := fun z => no j es hj (by rw [h1, z])
    exact ⟨b, ys, rfl, b0, gb, by rw [upd_ne nb]; exact hb, hds⟩
/-- the reading of a comprehension -/
theorem runLc (hiv : ∀ i ∈ is, i ∈ own.map (·.2)) {σ : St} {H : Hp} {Q : VK} (q : tF X.K X.mg W (eLc (own.map (·.2)) fi gt p f) σ H Q) :
    tLc (tID X.K X.mg W fi) (tGD X.K is gt) (tTs X.K X.mg W0 p) (tD X.K X.mg W0 f) (own.map (·.2)) σ H Q := by
  obtain ⟨G0, H0, Gs, ρ, Es, q⟩ := q
  refine ⟨G0, H0, Gs, ρ, Es, ?_⟩
  unfold eLc at q
  cases k : fi ρ with
  | er c => rw [k] at q; exact q
  | no => rw [k] at q; exact q
  | ok ds =>
    rw [k, Rs.bind_ok] at q
    by_cases hz : ds.length ≤ sizeLine
    · rw [if_pos hz] at q
      cases k2 : lcL (lc1 gt p f (wipeE ρ (own.map (·.2)))) ds with
      | er c => exact absurd k2 (lcL_er lc1_er ds c)
      | no => rw [k2] at q; exact q.elim
      | ok rs =>
        rw [k2, Rs.bind_ok] at q
        refine fun J G1 H1 g1 it D hD => ?_
        have hsD := g1.h.free hD
        have h0D := Es.gr.h.free hsD
        have nown : ∀ (j : Nat) es, (wipeE ρ (own.map (·.2)))[j]? = some (some (.own es)) → (wipe σ (own.map (·.2)))[j]? ≠ some (some (.ref D)) := fun j es h1 h2 => by
          obtain ⟨v, h3, b, ys, e1, _, _, hb, _⟩ := Es.sl j _ (wipeE_own h1)
          rw [(wipe_some h2).1] at h3
          cases h3
          cases e1
          rw [hsD] at hb
          cases hb
        -- the invariant
        refine ⟨fun i m H => m = ds.length - i ∧ i ≤ ds.length ∧ ∃ G acc as rest, EnvOk X.K G0 H0 G H (wipe σ (own.map (·.2))) (wipeE ρ (own.map (·.2))) ∧ Same G1 G ∧ Same H1 H ∧ Nn H1 G1 G ∧ G D = none ∧ H D = some (.lst acc) ∧ DqAll X.K G acc as ∧
          acc.length ≤ i ∧ lcL (lc1 gt p f (wipeE ρ (own.map (·.2)))) (ds.drop i) = .ok rest ∧ rs = as ++ rest, ⟨ds.length, by simp, Nat.zero_le _, ?_⟩, ?_⟩
        · have E1 := (Es.grow g1).wipe (own.map (·.2))
          exact ⟨G1, [], [], rs, E1.grow (Gr.newH g1.sub hD), Same.refl _, same_upd hD, ⟨fun _ _ z => z, fun _ _ _ z => z⟩, g1.sub.free hD, upd_same, .nil, Nat.le_refl _, k2, rfl⟩
        · rintro i m H ⟨rfl, hi, G, acc, as, rest, E, sG, sH, nG, gD, hHD, hda, hla, hl, er⟩
          obtain ⟨st, go⟩ := it H (sG.trans E.gr.sub)
          by_cases hlt : i < ds.length
          · have hd : ds[i]? = some ds[i] := by simp [hlt]
            obtain ⟨go1, yl⟩ := go i _ hd
            obtain ⟨r, rs', l1, l2, l3⟩ := lcL_ok hl hd
            refine .inr ⟨go1, fun H => ∃ G acc as rest, EnvOk X.K G0 H0 G H (wipe σ (own.map (·.2))) (wipeE ρ (own.map (·.2))) ∧ Same G1 G ∧ Same H1 H ∧ Nn H1 G1 G ∧ G D = none ∧ H D = some (.lst acc) ∧ DqAll X.K G acc as ∧
              acc.length ≤ i + 1 ∧ lcL (lc1 gt p f (wipeE ρ (own.map (·.2)))) (ds.drop (i + 1)) = .ok rest ∧ rs = as ++ rest, fun H' z => ⟨ds.length - (i + 1), by omega, rfl, hlt, z⟩, fun x H2 y => ?_⟩
            obtain ⟨G2, g2, z⟩ := (yl x H2 y).grow sG E.gr.sub
            unfold lc1 at l1
            cases k3 : gt ds[i] (wipeE ρ (own.map (·.2))) with
            | none => rw [k3] at l1; cases l1
            | some ρ' =>
              rw [k3] at l1
              simp only at l1
              refine ⟨G0, H0, G2, _, _, E.grow g2, z, ρ', k3, fun σ2 E2 on => ⟨?_, G0, H0, G2, ρ', E2, ?_⟩⟩
              · have w1 := on.wipe hiv
                have w2 : wipe (wipe σ (own.map (·.2))) (own.map (·.2)) = wipe σ (own.map (·.2)) := by
                  apply List.ext_getElem?
                  intro j
                  rw [wipe_get, wipe_get, wipe_length]
                  by_cases hv : j ∈ own.map (·.2) ∧ j < σ.length
                  · rw [if_pos hv, if_pos hv]
                  · rw [if_neg hv]
                rw [w1, w2]
              · -- the tests
                have fin : ∀ (G3 H3 : Hp) (acc' : List V) (as' : List PyData), Gr G H G3 H3 → DqAll X.K G3 acc' as' → acc'.length ≤ i + 1 → as' = as ++ r →
                    ∃ G4 acc4 as4 rest4, EnvOk X.K G0 H0 G4 (upd H3 D (.lst acc')) (wipe σ (own.map (·.2))) (wipeE ρ (own.map (·.2))) ∧ Same G1 G4 ∧ Same H1 (upd H3 D (.lst acc')) ∧ Nn H1 G1 G4 ∧ G4 D = none ∧ (upd H3 D (.lst acc')) D = some (.lst acc4) ∧ DqAll X.K G4 acc4 as4 ∧
                      acc4.length ≤ i + 1 ∧ lcL (lc1 gt p f (wipeE ρ (own.map (·.2)))) (ds.drop (i + 1)) = .ok rest4 ∧ rs = as4 ++ rest4 := by
                  intro G3 H3 acc' as' g3 hd3 hl3 e3
                  have gD3 := g3.n D (by rw [hHD]; exact fun z => nomatch z) gD
                  refine ⟨G3, acc', as', rs', (E.grow g3).updD gD3 h0D nown, sG.trans g3.g, fun b u eb => ?_, ⟨fun a h1 h2 => g3.n a (fun z => h1 (sH.free z)) (nG.1 a h1 h2), fun a o xs z => nG.2 a o xs (g3.nf a o xs z)⟩, gD3, upd_same, hd3, hl3, l2, ?_⟩
                  · rw [upd_ne (ne_of_none eb hD)]; exact g3.h _ _ (sH _ _ eb)
                  · rw [er, l3, e3, List.append_assoc]
                cases k4 : p ρ' with
                | er c => rw [k4] at l1; cases l1
                | no => rw [k4] at l1; cases l1
                | ok b =>
                  rw [k4] at l1
                  refine fun G3 H3 g3 => ?_
                  cases b with
                  | false =>
                    simp only at l1
                    cases l1
                    rw [if_neg Bool.false_ne_true]
                    have gg := g2.trans g3
                    have hh := gg.h _ _ hHD
                    have r := fin G3 H3 acc as gg (dpAll_mono gg.g hda) (by omega) (by simp)
                    have eu : upd H3 D (.lst acc) = H3 := by
                      funext b
                      by_cases hb : b = D
                      · subst hb; rw [upd_same, hh]
                      · rw [upd_ne hb]
                    rw [eu] at r
                    exact r
                  | true =>
                    simp only at l1
                    rw [if_pos rfl]
                    cases k5 : f ρ' with
                    | er c => rw [k5] at l1; cases l1
                    | no => rw [k5] at l1; cases l1
                    | ok w =>
                      rw [k5] at l1
                      cases l1
                      refine ⟨G0, H0, G3, ρ', E2.grow g3, ?_⟩
                      rw [k5]
                      refine fun v G4 H4 g4 z4 => ?_
                      have gg := (g2.trans g3).trans g4
                      refine ⟨acc, gg.h _ _ hHD, by have := hz; omega, fin G4 H4 (acc ++ [v]) (as ++ [w]) gg (dpAll_app (dpAll_mono gg.g hda) (.cons z4 .nil)) (by simp; omega) rfl⟩
          · have e : i = ds.length := by omega
            subst e
            rw [List.drop_length] at hl
            cases hl
            rw [List.append_nil] at er
            subst er
            refine .inl ⟨st, q D acc G H ⟨E.gr.sub, g1.g.trans sG, g1.h.trans sH, fun a h0 g0 => nG.1 a (fun z => h0 (g1.h.free z)) (g1.n a h0 g0), fun a o xs z => g1.nf a o xs (nG.2 a o xs z)⟩ (g1.h.free hD) gD hHD hda⟩
    · rw [if_neg hz] at q; exact q.elim
theorem pf_lc (hc : X.calm = true) (hN : X.N.Nodup) (ki : PID X W tg iter fi) (ok : BlkOk X.N X.env.scope scope own) (hiv : ∀ i ∈ is, i ∈ own.map (·.2))
    (hg : ∀ (s : Shared) (H : Hp) (C : Addr) (cl : List (Str × Addr)) (fp : List Addr), PGD (X.blk s H scope (compEnvC scope cl C X.env) fp) tg is gt) (ht : ∀ (s : Shared) (H : Hp) (C : Addr) (cl : List (Str × Addr)) (fp : List Addr), PTsD (X.blk s H scope (compEnvC scope cl C X.env) fp) W0 ifs p)
    (he : ∀ (s : Shared) (H : Hp) (C : Addr) (cl : List (Str × Addr)) (fp : List Addr), PD (X.blk s H scope (compEnvC scope cl C X.env) fp) W0 elt f) (hs : ∀ x, foldedSetIterable iter X.env x = pure x := by intro _; rfl) :
    PF X W (.ListComp elt [⟨tg, iter, ifs, 0⟩] scope pos) (eLc (own.map (·.2)) fi gt p f) := pe_weak (pe_lc hc hN ki ok hg ht he hs) fun _ _ _ q => runLc hiv q
theorem tD_tF {K : PySem.W.Frag} {mg : Str → Option Value} {f : EF} {σ : St} {H : Hp} {Q : VK} : tD K mg W f σ H Q → tF K mg W f σ H Q := fun ⟨G0, H0, G, ρ, E, q⟩ => ⟨G0, H0, G, ρ, E, RF_of q⟩
theorem runAsgN {i : Nat} {D : Ends} {σ : St} {H : Hp} (q : tSD X.K X.mg W (sAsg (gN i) f) D σ H) : tD X.K X.mg W f σ H fun x H1 => gName i x σ H1 D.nx := by
  obtain ⟨G0, H0, G, ρ, E, q⟩ := q
  refine ⟨G0, H0, G, ρ, E, ?_⟩
  unfold sAsg gN at q
  cases k : f ρ with
  | ok d =>
    rw [k] at q
    exact fun v G' H' g z => q G' H' _ ((E.grow g).set z) g.g
  | er c => rw [k] at q; exact fun G' H' g => q G' H' σ (E.grow g) g.g
  | no => rw [k] at q; exact q
/-- y = [..], y a local -/
theorem ps1_setLc {i : Nat} {y : Str} {py spos : Pos} (hc : X.calm = true) (hN : X.N.Nodup) (hy : X.N[i]? = some y) (hyl : X.env.scope.names.lookup y = some .local) (hsw : swapsWith (.ListComp elt [⟨tg, iter, ifs, 0⟩] scope pos) (some (.Name y py)) spos.line X.env = pure true)
    (ki : PID X W tg iter fi) (ok : BlkOk X.N X.env.scope scope own) (hiv : ∀ i ∈ is, i ∈ own.map (·.2))
    (hg : ∀ (s : Shared) (H : Hp) (C : Addr) (cl : List (Str × Addr)) (fp : List Addr), PGD (X.blk s H scope (compEnvC scope cl C X.env) fp) tg is gt) (ht : ∀ (s : Shared) (H : Hp) (C : Addr) (cl : List (Str × Addr)) (fp : List Addr), PTsD (X.blk s H scope (compEnvC scope cl C X.env) fp) W0 ifs p)
    (he : ∀ (s : Shared) (H : Hp) (C : Addr) (cl : List (Str × Addr)) (fp : List Addr), PD (X.blk s H scope (compEnvC scope cl C X.env) fp) W0 elt f) (hs : ∀ x, foldedSetIterable iter X.env x = pure x := by intro _; rfl) :
    PS1 X W (.Assign [.Name y py] (.ListComp elt [⟨tg, iter, ifs, 0⟩] scope pos) spos) (sAsg (gN i) (eLc (own.map (·.2)) fi gt p f)) := ps_weak (ps_setLc hc hN hy hyl hsw ki ok hg ht he hs) fun _ _ _ q => runLc hiv (tD_tF (runAsgN q))
theorem ps1_ownLc {i : Nat} {y : Str} {py spos : Pos} (hc : X.calm = true) (hN : X.N.Nodup) (hy : X.N[i]? = some y) (hyl : X.env.scope.names.lookup y = some .local) (hsw : swapsWith (.ListComp elt [⟨tg, iter, ifs, 0⟩] scope pos) (some (.Name y py)) spos.line X.env = pure true)
    (ki : PID X W tg iter fi) (ok : BlkOk X.N X.env.scope scope own) (hiv : ∀ i ∈ is, i ∈ own.map (·.2))
    (hg : ∀ (s : Shared) (H : Hp) (C : Addr) (cl : List (Str × Addr)) (fp : List Addr), PGD (X.blk s H scope (compEnvC scope cl C X.env) fp) tg is gt) (ht : ∀ (s : Shared) (H : Hp) (C : Addr) (cl : List (Str × Addr)) (fp : List Addr), PTsD (X.blk s H scope (compEnvC scope cl C X.env) fp) W0 ifs p)
    (he : ∀ (s : Shared) (H : Hp) (C : Addr) (cl : List (Str × Addr)) (fp : List Addr), PD (X.blk s H scope (compEnvC scope cl C X.env) fp) W0 elt f) (hs : ∀ x, foldedSetIterable iter X.env x = pure x := by intro _; rfl) :
    PS1 X W (.Assign [.Name y py] (.ListComp elt [⟨tg, iter, ifs, 0⟩] scope pos) spos) (sOwn i (eLc (own.map (·.2)) fi gt p f)) := ps_weak (ps_setLc hc hN hy hyl hsw ki ok hg ht he hs) fun _ _ _ q => runLc hiv (runOwn q)
end
end L2.Pz

namespace L2.Pz
open PySem PySem.Spec PyProof.Rows

/-! ### defs -/
abbrev FF := List PyData → Rs PyData
def RFn (K : PySem.W.Frag) (mg : Str → Option Value) (G H : Hp) (Q : VK) (E : XK) : Rs PyData → Prop
  | .ok d => ∀ v G' H', Gr G H G' H' → Dq K G' v d → Q v H'
  | .er c => ∀ G' H', Gr G H G' H' → E (XC mg c) none H'
  | .no => False
def spF (K : PySem.W.Frag) (mg : Str → Option Value) (n : Nat) (F : FF) : Sp := fun vs H Q E => ∃ G ds, Same G H ∧ DqAll K G vs ds ∧ vs.length = n ∧ RFn K mg G H Q E (F ds)
structure Has (P : Program) (w : World) (K : PySem.W.Frag) (mg : Str → Option Value) (base : Heap) (k : Nat) (x : Str) (n : Nat) (F : FF) : Prop where
  ex : ∃ (f : Addr) (fd : FuncData) (ps : List Str), FnOk P w K mg base (L2.CX P w) k f fd ps (spF K mg n F) ∧ mg x = some (.ref f) ∧ PySem.W.keepIn K (.ref f) = true ∧ Binds K fd ps []
theorem Has.mono {P : Program} {w : World} {K : PySem.W.Frag} {mg : Str → Option Value} {base : Heap} {k k' : Nat} {x : Str} {n : Nat} {F : FF} (h : Has P w K mg base k x n F) (hk : k ≤ k') : Has P w K mg base k' x n F := by
  obtain ⟨f, fd, ps, h1, h2⟩ := h.ex
  exact ⟨f, fd, ps, h1.mono hk, h2⟩
/-- what a body's rules want of the place where one stands -/
structure Cok (X : Cx) (W : WX) (k : Nat) : Prop where
  hr : Room k X.A
  tk : Takes X W
  po : PassesOwn (model X.prog X.w) X.A X.env X.xe
theorem Cok.blk {X : Cx} {W : WX} {k : Nat} (c : Cok X W k) (s : Shared) (H : Hp) (scope : Scope) (cenv : Env) (fp : List Addr) : Cok (X.blk s H scope cenv fp) W0 k := ⟨c.hr, takes0, PassesOwn.never⟩
@[simp] def eCall (F : FF) (fs : List EF) (ρ : En) : Rs PyData := (eL fs ρ).bind F
section
variable {X : Cx} {W : WX} {e : Expr} {es : List Expr} {fs : List EF} {f : EF} {p pos : Pos} {x : Str} {k j n : Nat} {F : FF}
theorem pd_call (c : Cok X W j) (h : Has X.prog X.w X.K X.mg X.base k x n F) (hj : k ≤ j) (hg : Gl X x) (ka : PL X W (e :: es) fs) (hn : fs.length = n) (hdb : (x == ("__debug__" : Str)) = false := by decide)
    (he : starEach (e :: es) X.env = (false, eval e X.env) :: starEach es X.env := by rfl) (hpl : (backTo pos (starEach es X.env)).any (·.1) = false := by rfl) : PD X W (.Call (.Name x p) (e :: es) [] pos) (eCall F fs) := by
  obtain ⟨fa, fd, ps, h1, h2, h3, h4⟩ := h.ex
  refine pe_weak (pe_callSD (dvs := []) (E := WE W) h1 (c.hr.mono hj) hg h2 h3 h4 .nil (fun σ => passAt c.tk σ) ka hdb he hpl) fun σ H Q ⟨G0, H0, G, ρ, E, q⟩ => ⟨G0, H0, G, ρ, E, ?_⟩
  unfold eCall at q
  cases k : eL fs ρ with
  | ok ds =>
    rw [k, Rs.bind_ok] at q
    refine fun vs G' H' g z => ⟨G', ds, g.sub, by rw [List.append_nil]; exact z, by rw [List.append_nil, dpAll_len z, eL_len k]; exact hn, ?_⟩
    cases k2 : F ds with
    | ok d => rw [k2] at q; exact fun v G2 H2 g2 z2 => q v G2 H2 (g.trans g2) z2
    | er c => rw [k2] at q; exact fun G2 H2 g2 => q G2 H2 (g.trans g2)
    | no => rw [k2] at q; exact q
  | er c => rw [k] at q; exact q
  | no => rw [k] at q; exact q
end
@[simp] def startE (n : Nat) (ds : List PyData) : En := ds.map (fun d => some (.v d)) ++ List.replicate (n - ds.length) none
@[simp] def outF : SR → Rs PyData
  | .rt d => .ok d
  | .nx _ => .ok .none
  | .er c _ => .er c
  | _ => .no
@[simp] def fnF (n : Nat) (g : SF) (ds : List PyData) : Rs PyData := outF (g (startE n ds))
/-- a function that nothing unfolds but by its equation -/
noncomputable def lock (F : FF) : FF := Classical.choose (⟨F, rfl⟩ : ∃ G : FF, G = F)
@[simp] theorem lock_eq (F : FF) : lock F = F := Classical.choose_spec (⟨F, rfl⟩ : ∃ G : FF, G = F)
theorem env_start {K : PySem.W.Frag} {G H : Hp} {vs : List V} {ds : List PyData} {N : List Str} (s : Same G H) (h : DqAll K G vs ds) : EnvOk K G H G H (start N vs) (startE N.length ds) := by
  have hl := dpAll_len h
  refine ⟨Gr.refl s, by simp [start, startE, hl], fun i sl hi => ?_, fun i j ds' es a h1 => ?_⟩
  · unfold startE at hi
    by_cases hlt : i < ds.length
    · rw [List.getElem?_append_left (by simpa using hlt), List.getElem?_map] at hi
      cases k : ds[i]? with
      | none => rw [k] at hi; cases hi
      | some d =>
        rw [k] at hi
        have hi' : i < vs.length := by rw [hl]; exact hlt
        have e1 : vs[i]? = some vs[i] := by simp [hi']
        obtain ⟨d', h1, h2⟩ := dpAll_get h e1
        rw [k] at h1
        cases h1
        simp only [Option.map_some, Option.some.injEq] at hi
        subst hi
        refine ⟨vs[i], ?_, h2⟩
        unfold start
        rw [List.getElem?_append_left (by simpa using hi'), List.getElem?_map, e1]
        rfl
    · rw [List.getElem?_append_right (by simp; omega)] at hi
      rw [List.getElem?_replicate] at hi
      split at hi <;> simp at hi
  · unfold startE at h1
    by_cases hlt : i < ds.length
    · rw [List.getElem?_append_left (by simpa using hlt), List.getElem?_map] at h1
      cases k : ds[i]? with
      | none => rw [k] at h1; cases h1
      | some d => rw [k] at h1; cases h1
    · rw [List.getElem?_append_right (by simp; omega), List.getElem?_replicate] at h1
      split at h1 <;> simp at h1
section
variable {P : Program} {w : World} {K : PySem.W.Frag} {mg : Str → Option Value} {base : Heap}
/-- a def by its body's derivation -/
theorem fn_ok {x qual : Str} {params : Arguments} {body : List Stmt} {scope : Scope} {kws : List (Str × V)} {f : Addr} {fd : FuncData} {N ps : List Str} {k : Nat} {g : SF} (F : FunD K x qual params body scope [] kws f fd) (S : FnScope N ps scope)
    (hb : ∀ (cdv : Value) (A : Around) (outer : List Env) (s : Shared) (H : Hp) (E : XK), Cok (cxOf (L2.CX P w) P w K mg base N qual scope f cdv A outer s H E) (fun cls d _ H => E cls d H) k →
      PSD (cxOf (L2.CX P w) P w K mg base N qual scope f cdv A outer s H E) (fun cls d _ H => E cls d H) body g) : FnOk P w K mg base (L2.CX P w) (k + 1) f fd ps (spF K mg ps.length (fnF N.length g)) := by
  refine F.ok S (fun vs H Q E h => ?_) (fun cdv A outer s H vs Q E hr h => ?_)
  · obtain ⟨G, ds, _, _, hl, _⟩ := h
    exact hl
  · obtain ⟨G, ds, sG, hd, hl, q⟩ := h
    refine ⟨_, hb cdv A outer s H E ⟨hr, takes_of rfl rfl rfl rfl, passes_of rfl⟩, G, H, G, startE N.length ds, env_start sG hd, ?_⟩
    unfold fnF at q
    cases k : g (startE N.length ds) with
    | nx ρ => rw [k] at q; exact fun G' H' σ E' _ => q .non G' H' E'.gr .non
    | rt d => rw [k] at q; exact fun G' H' v g' z => q v G' H' g' z
    | bk ρ => rw [k] at q; exact q.elim
    | ct ρ => rw [k] at q; exact q.elim
    | er c ρ => rw [k] at q; exact fun G' H' σ E' _ => q G' H' E'.gr
    | no => rw [k] at q; exact q.elim
theorem fn_has {x qual : Str} {params : Arguments} {body : List Stmt} {scope : Scope} {kws : List (Str × V)} {f : Addr} {fd : FuncData} {N ps : List Str} {k : Nat} {g : SF} (F : FunD K x qual params body scope [] kws f fd) (S : FnScope N ps scope) (hm : mg x = some (.ref f))
    (hbd : ∀ (kV doc pm : Value) (an : Option Addr) (cdv ct : Value) (us : List Value), us.length = ps.length → bindArgs (PySem.W.fnOf x qual params body scope .none kV doc pm an cdv ct) ⟨us, []⟩ = pure (ps.zip us))
    (hb : ∀ (cdv : Value) (A : Around) (outer : List Env) (s : Shared) (H : Hp) (E : XK), Cok (cxOf (L2.CX P w) P w K mg base N qual scope f cdv A outer s H E) (fun cls d _ H => E cls d H) k →
      PSD (cxOf (L2.CX P w) P w K mg base N qual scope f cdv A outer s H E) (fun cls d _ H => E cls d H) body g) : Has P w K mg base (k + 1) x ps.length (fnF N.length g) :=
  ⟨f, fd, ps, fn_ok F S hb, hm, F.kp, F.bindsN hbd⟩
end

theorem has_lock {P : Program} {w : World} {K : PySem.W.Frag} {mg : Str → Option Value} {base : Heap} {k : Nat} {x : Str} {n : Nat} {F : FF} (h : Has P w K mg base k x n F) : Has P w K mg base k x n (lock F) := by rw [lock_eq]; exact h
/-! ### operators on data -/
theorem opR_or {X : Cx} {f : Value → Value → Sem Value} {r r' : R2} (h : OpR X f r) (h' : OpR X f r') : OpR X f (fun x y H Q => r x y H Q ∨ r' x y H Q) := by
  intro pins s σ H x y v u Q I rx ry q
  rcases q with q | q
  · exact h pins s σ H x y v u Q I rx ry q
  · exact h' pins s σ H x y v u Q I rx ry q
theorem callR_or {X : Cx} {f : Value} {r r' : List V → Hp → VK → Prop} (h : CallR X f r) (h' : CallR X f r') : CallR X f (fun x H Q => r x H Q ∨ r' x H Q) := by
  intro pins s σ H xs us Q I r q
  rcases q with q | q
  · exact h pins s σ H xs us Q I r q
  · exact h' pins s σ H xs us Q I r q
/-- list + list, read -/
def rCatR (K : PySem.W.Frag) : R2 := fun x y H Q => ∃ l b xs zs, x = .ref l ∧ y = .ref b ∧ SqL K H l xs ∧ SqL K H b zs ∧ xs.length + zs.length ≤ sizeLine ∧ ∀ p, H p = none → Q (.ref p) (upd H p (.lst (xs ++ zs)))
theorem op_catR {X : Cx} : OpR X (binaryOp .Add) (rCatR X.K) := by
  intro pins s σ H x y v u Q I rx ry h
  obtain ⟨l, b, xs, zs, rfl, rfl, hH, hB, hz, q⟩ := h
  cases rx
  cases ry
  obtain ⟨its, r, p1, _⟩ := I.list hH
  obtain ⟨its2, r2, p2, _⟩ := I.list hB
  have l1 := r.length
  have l2 := r2.length
  obtain ⟨⟨cls, dd, data, sl⟩, ho, hc, n, hd⟩ := p1.isList
  obtain ⟨⟨cls2, dd2, data2, sl2⟩, ho2, hc2, n2, hd2⟩ := p2.isList
  simp only at hc hd hc2 hd2
  subst hc hd hc2 hd2
  have e : its.toArray ++ its2.toArray = (its ++ its2).toArray := by simp
  refine concat_meets ⟨_, ho, rfl⟩ ⟨_, ho2, rfl⟩ noFill_list_add seq_list_add PySem.F.slot_list_add PySem.F.entry_list_add (PySem.F.args_list_add_2 _ _) (list_addW l b its.toArray its2.toArray n n2 dd dd2 sl sl2 (by rw [List.size_toArray, List.size_toArray]; omega)) ⟨ho, ho2, ?_⟩
  rw [e]
  exact ⟨.ref _, _, I.lnew (t' := s.toks) (r.append r2) (by rw [List.length_append]; omega), rfl, q _ I.fresh⟩
theorem PkOk.tupD {K : PySem.W.Frag} {G H : Hp} {v : V} {ds : List PyData} (h : PkOk K G H v (.tuple ds)) : Dq K G v (.tuple ds) := by
  rcases h with h | ⟨a, xs, ds', e, _, ha, hd, ed⟩
  · exact h
  · cases ed
def addD : PyData → PyData → Rs PyData
  | .int i, .int j => .ok (.int (i + j))
  | .str a, .str b => if a.length + b.length ≤ sizeLine then .ok (.str (a ++ b)) else .no
  | .list a, .list b => if a.length + b.length ≤ sizeLine then .ok (.list (a ++ b)) else .no
  | .tuple a, .tuple b => if a.length + b.length ≤ sizeLine then .ok (.tuple (a ++ b)) else .no
  | _, _ => .no
theorem str_append_length (a b : Str) : (a ++ b).length = a.length + b.length := by
  show (a.cps ++ b.cps).size = a.cps.size + b.cps.size
  simp
section
variable {X : Cx} {W : WX} {e a b c : Expr} {f g h : EF} {pos : Pos}
def rAddA (K : PySem.W.Frag) : R2 := fun x y H Q => rI0 (fun i j => .int (i + j)) x y H Q ∨ (∃ i j, x = .str i ∧ y = .str j ∧ i.length + j.length ≤ sizeLine ∧ Q (.str (i ++ j)) H) ∨ rCatR K x y H Q ∨ rCatA K x y H Q
theorem op_addA : OpR X (binaryOp .Add) (rAddA X.K) := opR_or op_add (opR_or op_add_str (opR_or op_catR op_catA))
theorem sp_add : Spec2 X W (rAddA X.K) addD := by
  intro G H v w d e σ Q s hv hw q
  unfold addD at q
  split at q
  · cases hv.int; cases hw.int
    exact .inl ⟨_, _, rfl, rfl, RD.val s q fun _ => .int _⟩
  · obtain ⟨rfl, _⟩ := hv.str
    obtain ⟨rfl, _⟩ := hw.str
    split at q
    · rename_i hz
      exact .inr (.inl ⟨_, _, rfl, rfl, hz, RD.val s q fun _ => .str _ (by rw [str_append_length]; exact hz)⟩)
    · exact q.elim
  · obtain ⟨p, xs, rfl, h1, h2⟩ := hv.lst s
    obtain ⟨p', ys, rfl, h3, h4⟩ := hw.lst s
    split at q
    · rename_i hz
      exact .inr (.inr (.inl ⟨_, _, _, _, rfl, rfl, h1, h3, by rw [dpAll_len h2, dpAll_len h4]; exact hz, RD.newL s q (dpAll_app h2 h4)⟩))
    · exact q.elim
  · obtain ⟨p, xs, rfl, h1, h2⟩ := hv.tup s
    obtain ⟨p', ys, rfl, h3, h4⟩ := hw.tup s
    split at q
    · rename_i hz
      refine .inr (.inr (.inr ⟨_, _, _, _, rfl, rfl, h1, h3, by rw [dpAll_len h2, dpAll_len h4]; exact hz, fun e => ?_, fun _ e => ?_, fun _ _ => RD.newT s q (dpAll_app h2 h4)⟩))
      · subst e
        cases h2
        exact q _ G H (Gr.refl s) hw.tupD
      · subst e
        cases h4
        rw [List.append_nil] at q
        exact q _ G H (Gr.refl s) hv.tupD
    · exact q.elim
  · exact q.elim
theorem pd_add (ha : PP X W a f) (hb : PP X W b g) : PD X W (.BinOp a .Add b pos) (e2 addD f g) := pd_op op_addA sp_add ha hb
end
end L2.Pz

namespace L2.Pz
open PySem PySem.Spec PyProof.Rows

section
variable {X : Cx} {W : WX} {e a b c : Expr} {f g h : EF} {pos : Pos}
/-! ### ints -/
def subD : PyData → PyData → Rs PyData
  | .int i, .int j => .ok (.int (i - j))
  | _, _ => .no
def mulOk (i j : Int) : Bool := decide (i.natAbs < 2 ^ 64) || decide (j.natAbs < 2 ^ 64) || decide (i.natAbs.log2 + j.natAbs.log2 < 1000000)
def mulD : PyData → PyData → Rs PyData
  | .int i, .int j => if mulOk i j then .ok (.int (i * j)) else .no
  | .tuple xs, .int k => if xs ≠ [] ∧ 2 ≤ k ∧ k ≤ 1000 ∧ xs.length ≤ 1000 then .ok (.tuple (List.replicate k.toNat xs).flatten) else .no
  | _, _ => .no
def fdivD : PyData → PyData → Rs PyData
  | .int i, .int j => if 0 < j ∧ j.natAbs.log2 < 9000 then .ok (.int (i / j)) else .no
  | _, _ => .no
def modD : PyData → PyData → Rs PyData
  | .int i, .int j => if 0 < j then .ok (.int (i % j)) else .no
  | _, _ => .no
def powD : PyData → PyData → Rs PyData
  | .int i, .int j => if 0 ≤ j ∧ j ≤ 1000000 ∧ i.natAbs < 2 ^ 64 then .ok (.int (i ^ j.toNat)) else .no
  | _, _ => .no
def negD : PyData → Rs PyData
  | .int i => .ok (.int (-i))
  | _ => .no
theorem sp_I {r : R2} {F : PyData → PyData → Rs PyData} {h : Int → Int → V} {t : Int → Int → PyData} {C : Int → Int → Prop} (hF : ∀ d e, F d e ≠ .no → ∃ i j, d = .int i ∧ e = .int j ∧ C i j ∧ F d e = .ok (t i j)) (hv : ∀ i j K G, Dq K G (h i j) (t i j)) : Spec2 X W (rI C h) F := by
  intro G H v w d e σ Q s hv1 hw1 q
  have hn : F d e ≠ .no := fun z => by rw [z] at q; exact q
  obtain ⟨i, j, rfl, rfl, hc, e1⟩ := hF d e hn
  cases hv1.int; cases hw1.int
  rw [e1] at q
  exact ⟨i, j, rfl, rfl, hc, RD.val s q fun G => hv i j _ G⟩
theorem sp_I0 {F : PyData → PyData → Rs PyData} {h : Int → Int → V} {t : Int → Int → PyData} (hF : ∀ d e, F d e ≠ .no → ∃ i j, d = .int i ∧ e = .int j ∧ F d e = .ok (t i j)) (hv : ∀ i j K G, Dq K G (h i j) (t i j)) : Spec2 X W (rI0 h) F := by
  intro G H v w d e σ Q s hv1 hw1 q
  have hn : F d e ≠ .no := fun z => by rw [z] at q; exact q
  obtain ⟨i, j, rfl, rfl, e1⟩ := hF d e hn
  cases hv1.int; cases hw1.int
  rw [e1] at q
  exact ⟨i, j, rfl, rfl, RD.val s q fun G => hv i j _ G⟩
theorem pd_sub (ha : PP X W a f) (hb : PP X W b g) : PD X W (.BinOp a .Sub b pos) (e2 subD f g) :=
  pd_op op_sub (sp_I0 (t := fun i j => .int (i - j)) (fun d e hn => by unfold subD at hn ⊢; split at hn <;> first | exact ⟨_, _, rfl, rfl, rfl⟩ | exact absurd rfl hn) fun i j _ _ => .int _) ha hb
def rMulA (K : PySem.W.Frag) : R2 := fun x y H Q => rI (fun i j => IntMulOk i j) (fun i j => .int (i * j)) x y H Q ∨ rRepT K x y H Q
theorem op_mulA : OpR X (binaryOp .Mult) (rMulA X.K) := opR_or (opI fun _ _ _ _ _ _ _ hc q => mul_int q hc) op_repT
theorem mulOk_ok {i j : Int} (h : mulOk i j = true) : IntMulOk i j := by
  unfold mulOk at h
  rw [Bool.or_eq_true, Bool.or_eq_true] at h
  rcases h with (h | h) | h
  · have := of_decide_eq_true h
    exact CMul.ok (.inl ⟨by omega, by omega⟩)
  · have := of_decide_eq_true h
    exact CMul.ok (.inr ⟨by omega, by omega⟩)
  · have h : i.natAbs.log2 + j.natAbs.log2 < 1000000 := of_decide_eq_true h
    exact CMulW.ok h
theorem dqAll_rep {K : PySem.W.Frag} {G : Hp} {xs : List V} {ds : List PyData} (h : DqAll K G xs ds) : ∀ n : Nat, DqAll K G (List.replicate n xs).flatten (List.replicate n ds).flatten
  | 0 => .nil
  | n + 1 => by
    rw [List.replicate_succ, List.replicate_succ, List.flatten_cons, List.flatten_cons]
    exact dpAll_app h (dqAll_rep h n)
theorem sp_mul : Spec2 X W (rMulA X.K) mulD := by
  intro G H v w d e σ Q s hv hw q
  unfold mulD at q
  split at q
  · cases hv.int; cases hw.int
    split at q
    · rename_i hz
      exact .inl ⟨_, _, rfl, rfl, mulOk_ok hz, RD.val s q fun _ => .int _⟩
    · exact q.elim
  · cases hw.int
    obtain ⟨p, xs, rfl, h1, h2⟩ := hv.tup s
    split at q
    · rename_i hz
      have hl := dpAll_len h2
      refine .inr ⟨_, _, xs, rfl, rfl, h1, ?_, hz.2.1, hz.2.2.1, by rw [hl]; exact hz.2.2.2, RD.newT s q (dqAll_rep h2 _)⟩
      intro e
      subst e
      cases h2
      exact hz.1 rfl
    · exact q.elim
  · exact q.elim
theorem pd_mul (ha : PP X W a f) (hb : PP X W b g) : PD X W (.BinOp a .Mult b pos) (e2 mulD f g) := pd_op op_mulA sp_mul ha hb
theorem pd_fdiv (ha : PP X W a f) (hb : PP X W b g) : PD X W (.BinOp a .FloorDiv b pos) (e2 fdivD f g) :=
  pd_op op_fdivW (sp_I (r := rI CDivW fun i j => .int (i / j)) (t := fun i j => .int (i / j)) (fun d e hn => by
    unfold fdivD at hn ⊢
    split at hn
    · split at hn
      · rename_i hz; exact ⟨_, _, rfl, rfl, hz, by simp only [if_pos hz]⟩
      · exact absurd rfl hn
    · exact absurd rfl hn) fun i j _ _ => .int _) ha hb
theorem pd_mod (ha : PP X W a f) (hb : PP X W b g) : PD X W (.BinOp a .Mod b pos) (e2 modD f g) :=
  pd_op op_mod (sp_I (r := rI (fun _ j => 0 < j) fun i j => .int (i % j)) (t := fun i j => .int (i % j)) (fun d e hn => by
    unfold modD at hn ⊢
    split at hn
    · split at hn
      · rename_i hz; exact ⟨_, _, rfl, rfl, hz, by simp only [if_pos hz]⟩
      · exact absurd rfl hn
    · exact absurd rfl hn) fun i j _ _ => .int _) ha hb
theorem pd_pow (ha : PP X W a f) (hb : PP X W b g) : PD X W (.BinOp a .Pow b pos) (e2 powD f g) :=
  pd_op op_pow (sp_I (r := rI CPow fun i j => .int (i ^ j.toNat)) (t := fun i j => .int (i ^ j.toNat)) (fun d e hn => by
    unfold powD at hn ⊢
    split at hn
    · split at hn
      · rename_i hz; exact ⟨_, _, rfl, rfl, hz, by simp only [if_pos hz]⟩
      · exact absurd rfl hn
    · exact absurd rfl hn) fun i j _ _ => .int _) ha hb
theorem pd_neg (ha : PP X W a f) : PD X W (.UnaryOp .USub a pos) (e1 negD f) := pd_un un_neg (fun G H v d σ Q s hv q => by
  unfold negD at q
  split at q
  · cases hv.int
    exact ⟨_, rfl, RD.val s q fun _ => .int _⟩
  · exact q.elim) ha

/-! ### comparisons -/
def cmpI (r : Int → Int → Bool) : PyData → PyData → Rs PyData
  | .int i, .int j => .ok (.bool (r i j))
  | _, _ => .no
abbrev ltD := cmpI fun i j => decide (i < j)
abbrev leD := cmpI fun i j => decide (i ≤ j)
abbrev gtD := cmpI fun i j => decide (j < i)
abbrev geD := cmpI fun i j => decide (j ≤ i)
theorem sp_cmp {r : Int → Int → Bool} : Spec2 X W (rI0 fun i j => .bl (r i j)) (cmpI r) :=
  sp_I0 (t := fun i j => .bool (r i j)) (fun d e hn => by unfold cmpI at hn ⊢; split at hn <;> first | exact ⟨_, _, rfl, rfl, rfl⟩ | exact absurd rfl hn) fun i j _ _ => .bl _
theorem pd_lt (ha : PP X W a f) (hb : PP X W b g) (hm : behindInMarks .Lt b = false) : PD X W (.Compare a [.Lt] [b] pos) (e2 ltD f g) := pd_cmp op_lt sp_cmp ha hb hm
theorem pd_le (ha : PP X W a f) (hb : PP X W b g) (hm : behindInMarks .LtE b = false) : PD X W (.Compare a [.LtE] [b] pos) (e2 leD f g) := pd_cmp op_le sp_cmp ha hb hm
theorem pd_gt (ha : PP X W a f) (hb : PP X W b g) (hm : behindInMarks .Gt b = false) : PD X W (.Compare a [.Gt] [b] pos) (e2 gtD f g) := pd_cmp op_gt sp_cmp ha hb hm
theorem pd_ge (ha : PP X W a f) (hb : PP X W b g) (hm : behindInMarks .GtE b = false) : PD X W (.Compare a [.GtE] [b] pos) (e2 geD f g) := pd_cmp op_ge sp_cmp ha hb hm
theorem pd_lele (ha : PP X W a f) (hb : PP X W b g) (hc : PP X W c h) (hm : lastMarks [.LtE, .LtE] [b, c] = false := by with_unfolding_all rfl) : PD X W (.Compare a [.LtE, .LtE] [b, c] pos) (eCh leD leD f g h) := pd_chain op_le op_le sp_cmp sp_cmp ha hb hc hm
theorem pt_lt (ha : PP X W a f) (hb : PP X W b g) (hm : behindInMarks .Lt b = false) : PTD X W (.Compare a [.Lt] [b] pos) (bT (e2 ltD f g)) := ptd_cmp op_lt sp_cmp ha hb hm
theorem pt_le (ha : PP X W a f) (hb : PP X W b g) (hm : behindInMarks .LtE b = false) : PTD X W (.Compare a [.LtE] [b] pos) (bT (e2 leD f g)) := ptd_cmp op_le sp_cmp ha hb hm
theorem pt_gt (ha : PP X W a f) (hb : PP X W b g) (hm : behindInMarks .Gt b = false) : PTD X W (.Compare a [.Gt] [b] pos) (bT (e2 gtD f g)) := ptd_cmp op_gt sp_cmp ha hb hm
theorem pt_ge (ha : PP X W a f) (hb : PP X W b g) (hm : behindInMarks .GtE b = false) : PTD X W (.Compare a [.GtE] [b] pos) (bT (e2 geD f g)) := ptd_cmp op_ge sp_cmp ha hb hm
theorem pt_lele (ha : PP X W a f) (hb : PP X W b g) (hc : PP X W c h) (hm : lastMarks [.LtE, .LtE] [b, c] = false := by with_unfolding_all rfl) : PTD X W (.Compare a [.LtE, .LtE] [b, c] pos) (bT (eCh leD leD f g h)) := ptd_chain op_le op_le sp_cmp sp_cmp ha hb hc hm
/-- == of scalars at once, of all else by shape -/
def eqQ : PyData → PyData → Option Bool
  | .int i, .int j => some (decide (i = j))
  | .str x, .str y => some (decide (x = y))
  | .bool x, .bool y => some (decide (x = y))
  | .none, .none => some true
  | .none, .int _ | .int _, .none | .none, .bool _ | .bool _, .none | .none, .str _ | .str _, .none => some false
  | .int _, .str _ | .str _, .int _ | .bool _, .str _ | .str _, .bool _ => some false
  | d, e => if SeqAt.shaped d && SeqAt.shaped e && noDict d && noDict e then some (PyData.eqv d e) else none
def eqD (d e : PyData) : Rs PyData := match eqQ d e with
  | some b => .ok (.bool b)
  | none => .no
def neD (d e : PyData) : Rs PyData := match eqQ d e with
  | some b => .ok (.bool (!b))
  | none => .no
theorem eqQ_ok {K : PySem.W.Frag} {G H : Hp} {v w : V} {d e : PyData} {b : Bool} (s : Same G H) (hv : PkOk K G H v d) (hw : PkOk K G H w e) (q : eqQ d e = some b) :
    (scal v w = true ∧ b = decide (v = w)) ∨ ∃ d e, Dp K H v d ∧ Dp K H w e ∧ SeqAt.shaped d = true ∧ SeqAt.shaped e = true ∧ b = PyData.eqv d e := by
  unfold eqQ at q
  split at q
  · cases hv.int; cases hw.int; cases q; exact .inl ⟨rfl, by simp⟩
  · obtain ⟨rfl, _⟩ := hv.str; obtain ⟨rfl, _⟩ := hw.str; cases q; exact .inl ⟨rfl, by simp⟩
  · cases hv.bl; cases hw.bl; cases q; exact .inl ⟨rfl, by simp⟩
  · cases hv.non; cases hw.non; cases q; exact .inl ⟨rfl, by simp⟩
  · cases hv.non; cases hw.int; cases q; exact .inl ⟨rfl, by simp⟩
  · cases hv.int; cases hw.non; cases q; exact .inl ⟨rfl, by simp⟩
  · cases hv.non; cases hw.bl; cases q; exact .inl ⟨rfl, by simp⟩
  · cases hv.bl; cases hw.non; cases q; exact .inl ⟨rfl, by simp⟩
  · cases hv.non; obtain ⟨rfl, _⟩ := hw.str; cases q; exact .inl ⟨rfl, by simp⟩
  · obtain ⟨rfl, _⟩ := hv.str; cases hw.non; cases q; exact .inl ⟨rfl, by simp⟩
  · cases hv.int; obtain ⟨rfl, _⟩ := hw.str; cases q; exact .inl ⟨rfl, by simp⟩
  · obtain ⟨rfl, _⟩ := hv.str; cases hw.int; cases q; exact .inl ⟨rfl, by simp⟩
  · cases hv.bl; obtain ⟨rfl, _⟩ := hw.str; cases q; exact .inl ⟨rfl, by simp⟩
  · obtain ⟨rfl, _⟩ := hv.str; cases hw.bl; cases q; exact .inl ⟨rfl, by simp⟩
  · split at q
    · rename_i hz
      rw [Bool.and_eq_true, Bool.and_eq_true, Bool.and_eq_true] at hz
      cases q
      exact .inr ⟨_, _, dq_dp hz.1.2 (hv.dp s), dq_dp hz.2 (hw.dp s), hz.1.1.1, hz.1.1.2, rfl⟩
    · cases q
def rEqA (K : PySem.W.Frag) : R2 := fun x y H Q => rEq x y H Q ∨ rEqD K x y H Q
def rNeA (K : PySem.W.Frag) : R2 := fun x y H Q => rNe x y H Q ∨ rNeD K x y H Q
theorem sp_eq : Spec2 X W (rEqA X.K) eqD := by
  intro G H v w d e σ Q s hv hw q
  unfold eqD at q
  cases k : eqQ d e with
  | none => rw [k] at q; exact q.elim
  | some b =>
    rw [k] at q
    have q' : Q (.bl b) H := RD.val s q fun _ => .bl b
    rcases eqQ_ok s hv hw k with ⟨h1, h2⟩ | ⟨d, e, h1, h2, h3, h4, h5⟩
    · rw [h2] at q'; exact .inl ⟨h1, q'⟩
    · rw [h5] at q'; exact .inr ⟨d, e, h1, h2, h3, h4, q'⟩
theorem sp_ne : Spec2 X W (rNeA X.K) neD := by
  intro G H v w d e σ Q s hv hw q
  unfold neD at q
  cases k : eqQ d e with
  | none => rw [k] at q; exact q.elim
  | some b =>
    rw [k] at q
    have q' : Q (.bl (!b)) H := RD.val s q fun _ => .bl _
    rcases eqQ_ok s hv hw k with ⟨h1, h2⟩ | ⟨d, e, h1, h2, h3, h4, h5⟩
    · rw [h2] at q'; exact .inl ⟨h1, q'⟩
    · rw [h5] at q'; exact .inr ⟨d, e, h1, h2, h3, h4, q'⟩
theorem pd_eq {j : Nat} (k : Cok X W j) (ha : PP X W a f) (hb : PP X W b g) (hm : behindInMarks .Eq b = false) : PD X W (.Compare a [.Eq] [b] pos) (e2 eqD f g) := pd_cmp (opR_or op_eq (op_eqD k.hr.units)) sp_eq ha hb hm
theorem pd_ne {j : Nat} (k : Cok X W j) (ha : PP X W a f) (hb : PP X W b g) (hm : behindInMarks .NotEq b = false) : PD X W (.Compare a [.NotEq] [b] pos) (e2 neD f g) := pd_cmp (opR_or op_ne (op_neD k.hr.units)) sp_ne ha hb hm
theorem pt_eq {j : Nat} (k : Cok X W j) (ha : PP X W a f) (hb : PP X W b g) (hm : behindInMarks .Eq b = false) : PTD X W (.Compare a [.Eq] [b] pos) (bT (e2 eqD f g)) := ptd_cmp (opR_or op_eq (op_eqD k.hr.units)) sp_eq ha hb hm
theorem pt_ne {j : Nat} (k : Cok X W j) (ha : PP X W a f) (hb : PP X W b g) (hm : behindInMarks .NotEq b = false) : PTD X W (.Compare a [.NotEq] [b] pos) (bT (e2 neD f g)) := ptd_cmp (opR_or op_ne (op_neD k.hr.units)) sp_ne ha hb hm
/-- is None, is True | False (of a truth) -/
def isQ : PyData → PyData → Option Bool
  | .none, .none => some true
  | _, .none => some false
  | .bool x, .bool y => some (decide (x = y))
  | _, _ => none
def isD (d e : PyData) : Rs PyData := match isQ d e with
  | some b => .ok (.bool b)
  | none => .no
def isnD (d e : PyData) : Rs PyData := match isQ d e with
  | some b => .ok (.bool (!b))
  | none => .no
theorem isQ_ok {K : PySem.W.Frag} {G H : Hp} {v w : V} {d e : PyData} {b : Bool} (hv : PkOk K G H v d) (hw : PkOk K G H w e) (q : isQ d e = some b) :
    (w = .non ∧ b = decide (v = .non)) ∨ ∃ x y, v = .bl x ∧ w = .bl y ∧ b = decide (x = y) := by
  unfold isQ at q
  split at q
  · cases hv.non; cases hw.non; cases q; exact .inl ⟨rfl, by simp⟩
  · rename_i d hd
    cases hw.non
    cases q
    refine .inl ⟨rfl, ?_⟩
    have : v ≠ .non := by
      rintro rfl
      rcases hv with h | ⟨a, xs, ds', e, _⟩
      · cases h; exact hd rfl
      · cases e
    simp [this]
  · cases hv.bl; cases hw.bl; cases q; exact .inr ⟨_, _, rfl, rfl, rfl⟩
  · cases q
def rIsA : R2 := fun x y H Q => (y = .non ∧ Q (.bl (decide (x = .non))) H) ∨ ∃ a b : Bool, x = .bl a ∧ y = .bl b ∧ Q (.bl (decide (a = b))) H
def rIsnA : R2 := fun x y H Q => (y = .non ∧ Q (.bl (!decide (x = .non))) H) ∨ ∃ a b : Bool, x = .bl a ∧ y = .bl b ∧ Q (.bl (!decide (a = b))) H
theorem sp_is : Spec2 X W rIsA isD := by
  intro G H v w d e σ Q s hv hw q
  unfold isD at q
  cases k : isQ d e with
  | none => rw [k] at q; exact q.elim
  | some b =>
    rw [k] at q
    have q' : Q (.bl b) H := RD.val s q fun _ => .bl b
    rcases isQ_ok hv hw k with ⟨h1, h2⟩ | ⟨x, y, h1, h2, h3⟩
    · rw [h2] at q'; exact .inl ⟨h1, q'⟩
    · rw [h3] at q'; exact .inr ⟨x, y, h1, h2, q'⟩
theorem sp_isn : Spec2 X W rIsnA isnD := by
  intro G H v w d e σ Q s hv hw q
  unfold isnD at q
  cases k : isQ d e with
  | none => rw [k] at q; exact q.elim
  | some b =>
    rw [k] at q
    have q' : Q (.bl (!b)) H := RD.val s q fun _ => .bl _
    rcases isQ_ok hv hw k with ⟨h1, h2⟩ | ⟨x, y, h1, h2, h3⟩
    · rw [h2] at q'; exact .inl ⟨h1, q'⟩
    · rw [h3] at q'; exact .inr ⟨x, y, h1, h2, q'⟩
theorem pd_is (ha : PP X W a f) (hb : PP X W b g) (hm : behindInMarks .Is b = false) : PD X W (.Compare a [.Is] [b] pos) (e2 isD f g) := pd_cmp (opR_or op_isN op_isBl) sp_is ha hb hm
theorem pd_isn (ha : PP X W a f) (hb : PP X W b g) (hm : behindInMarks .IsNot b = false) : PD X W (.Compare a [.IsNot] [b] pos) (e2 isnD f g) := pd_cmp (opR_or op_notN op_notBl) sp_isn ha hb hm
theorem pt_is (ha : PP X W a f) (hb : PP X W b g) (hm : behindInMarks .Is b = false) : PTD X W (.Compare a [.Is] [b] pos) (bT (e2 isD f g)) := ptd_cmp (opR_or op_isN op_isBl) sp_is ha hb hm
theorem pt_isn (ha : PP X W a f) (hb : PP X W b g) (hm : behindInMarks .IsNot b = false) : PTD X W (.Compare a [.IsNot] [b] pos) (bT (e2 isnD f g)) := ptd_cmp (opR_or op_notN op_notBl) sp_isn ha hb hm
end
end L2.Pz

namespace L2.Pz
open PySem PySem.Spec PyProof.Rows

/-! ### in, not in -/
def flatD : PyData → Bool
  | .none | .bool _ | .int _ | .str _ => true
  | _ => false
def eqF : PyData → PyData → Bool
  | .none, .none => true
  | .bool a, .bool b => a == b
  | .bool a, .int b => (if a then 1 else 0) == b
  | .int a, .bool b => a == (if b then 1 else 0)
  | .int a, .int b => a == b
  | .str a, .str b => a == b
  | _, _ => false
def inL (x : PyData) (ds : List PyData) : Bool := ds.any fun y => eqF y x
def inS (x y : Str) : Bool := match x.cps.toList with
  | [c] => decide (c ∈ y.cps.toList)
  | _ => !(Builtin.Str.occurrences y x 0 y.length 1).isEmpty
def inQ : PyData → PyData → Option Bool
  | .str x, .str y => some (inS x y)
  | x, .list ds => if flatD x && ds.all flatD then some (inL x ds) else none
  | x, .tuple ds => if flatD x && ds.all flatD then some (inL x ds) else none
  | _, _ => none
def inD (d e : PyData) : Rs PyData := match inQ d e with
  | some b => .ok (.bool b)
  | none => .no
def ninD (d e : PyData) : Rs PyData := match inQ d e with
  | some b => .ok (.bool (!b))
  | none => .no
section
variable {K : PySem.W.Frag} {G H : Hp} {v w : V} {d e : PyData}
theorem flat_ok (h : Dq K G v d) (f : flatD d = true) : flatV v = true := by
  cases h <;> first | rfl | cases f
theorem eqF_ok (h : Dq K G v d) (k : Dq K G w e) (f : flatD d = true) (f' : flatD e = true) : eqV v w = eqF d e := by
  cases h <;> cases k <;> first | rfl | cases f | cases f'
theorem inL_ok (h : Dq K G v d) (f : flatD d = true) : ∀ {ds : List PyData} {vs : List V}, DqAll K G vs ds → ds.all flatD = true → vs.all flatV = true ∧ inV v vs = inL d ds
  | [], _, k, _ => by cases k; exact ⟨rfl, rfl⟩
  | e :: ds, _, k, g => by
    cases k with
    | cons a b =>
      rw [List.all_cons, Bool.and_eq_true] at g
      obtain ⟨h1, h2⟩ := inL_ok h f b g.2
      refine ⟨by rw [List.all_cons, flat_ok a g.1, h1]; rfl, ?_⟩
      unfold inV inL at h2 ⊢
      rw [List.any_cons, List.any_cons, h2, eqF_ok a h g.1 f]
end
theorem PkOk.flat {K : PySem.W.Frag} {G H : Hp} {v : V} {d : PyData} (h : PkOk K G H v d) (f : flatD d = true) : Dq K G v d := by
  rcases h with h | ⟨a, xs, ds', e, _, ha, hd, ed⟩
  · exact h
  · subst ed; cases f
def rInA (K : PySem.W.Frag) (neg : Bool) : R2 := fun x y H Q => (∃ (c : Nat) (z : Str), x = .str ⟨#[c]⟩ ∧ y = .str z ∧ Q (.bl (if neg then !decide (c ∈ z.cps.toList) else decide (c ∈ z.cps.toList))) H) ∨
  (∃ i j, x = .str i ∧ y = .str j ∧ Q (.bl (if neg then !(!(Builtin.Str.occurrences j i 0 j.length 1).isEmpty) else (!(Builtin.Str.occurrences j i 0 j.length 1).isEmpty))) H) ∨ rIn K neg x y H Q
section
variable {X : Cx} {W : WX} {e a b c : Expr} {f g h : EF} {pos : Pos}
theorem op_inA : OpR X (compareOp .In) (rInA X.K false) := opR_or op_in_sign (opR_or op_in_str op_in_seq)
theorem op_ninA : OpR X (compareOp .NotIn) (rInA X.K true) := opR_or op_notIn_sign (opR_or op_notin_str op_notIn_seq)
theorem inQ_ok {neg : Bool} {G H : Hp} {v w : V} {d e : PyData} {b : Bool} {Q : VK} (s : Same G H) (hv : PkOk X.K G H v d) (hw : PkOk X.K G H w e) (q : inQ d e = some b) (k : Q (.bl (if neg then !b else b)) H) : rInA X.K neg v w H Q := by
  unfold inQ at q
  split at q
  · rename_i x y
    obtain ⟨rfl, _⟩ := hv.str; obtain ⟨rfl, _⟩ := hw.str
    cases q
    by_cases h1 : ∃ c, x.cps.toList = [c]
    · obtain ⟨c, hc⟩ := h1
      have e1 : inS x y = decide (c ∈ y.cps.toList) := by unfold inS; rw [hc]
      rw [e1] at k
      have ex : x = ⟨#[c]⟩ := by
        obtain ⟨cps⟩ := x
        have : cps = #[c] := by
          apply Array.toList_inj.mp
          simpa using hc
        rw [this]
      subst ex
      exact .inl ⟨c, y, rfl, rfl, k⟩
    · have e1 : inS x y = !(Builtin.Str.occurrences y x 0 y.length 1).isEmpty := by
        unfold inS
        split
        · rename_i c hc; exact absurd ⟨c, hc⟩ h1
        · rfl
      rw [e1] at k
      exact .inr (.inl ⟨x, y, rfl, rfl, k⟩)
  · split at q
    · rename_i x ds _ hz
      rw [Bool.and_eq_true] at hz
      cases q
      obtain ⟨p, xs, rfl, h1, h2⟩ := hw.lst s
      have hd := hv.flat hz.1
      obtain ⟨h3, h4⟩ := inL_ok hd hz.1 h2 hz.2
      exact .inr (.inr ⟨p, xs, rfl, .inl h1, flat_ok hd hz.1, h3, by rw [h4]; exact k⟩)
    · cases q
  · split at q
    · rename_i x ds _ hz
      rw [Bool.and_eq_true] at hz
      cases q
      obtain ⟨p, xs, rfl, h1, h2⟩ := hw.tup s
      have hd := hv.flat hz.1
      obtain ⟨h3, h4⟩ := inL_ok hd hz.1 h2 hz.2
      exact .inr (.inr ⟨p, xs, rfl, .inr h1, flat_ok hd hz.1, h3, by rw [h4]; exact k⟩)
    · cases q
  · cases q
theorem sp_in : Spec2 X W (rInA X.K false) inD := by
  intro G H v w d e σ Q s hv hw q
  unfold inD at q
  cases k : inQ d e with
  | none => rw [k] at q; exact q.elim
  | some b => rw [k] at q; exact inQ_ok s hv hw k (RD.val s q fun _ => .bl b)
theorem sp_nin : Spec2 X W (rInA X.K true) ninD := by
  intro G H v w d e σ Q s hv hw q
  unfold ninD at q
  cases k : inQ d e with
  | none => rw [k] at q; exact q.elim
  | some b => rw [k] at q; exact inQ_ok s hv hw k (RD.val s q fun _ => .bl _)
theorem pd_in (ha : PP X W a f) (hb : PP X W b g) (hm : behindInMarks .In b = false := by with_unfolding_all rfl) : PD X W (.Compare a [.In] [b] pos) (e2 inD f g) := pd_cmp op_inA sp_in ha hb hm
theorem pd_nin (ha : PP X W a f) (hb : PP X W b g) (hm : behindInMarks .NotIn b = false := by with_unfolding_all rfl) : PD X W (.Compare a [.NotIn] [b] pos) (e2 ninD f g) := pd_cmp op_ninA sp_nin ha hb hm
theorem pt_in (ha : PP X W a f) (hb : PP X W b g) (hm : behindInMarks .In b = false := by with_unfolding_all rfl) : PTD X W (.Compare a [.In] [b] pos) (bT (e2 inD f g)) := ptd_cmp op_inA sp_in ha hb hm
theorem pt_nin (ha : PP X W a f) (hb : PP X W b g) (hm : behindInMarks .NotIn b = false := by with_unfolding_all rfl) : PTD X W (.Compare a [.NotIn] [b] pos) (bT (e2 ninD f g)) := ptd_cmp op_ninA sp_nin ha hb hm

/-! ### places, slices -/
def ixD : PyData → PyData → Rs PyData
  | .list ds, .int i => match atI ds i with
    | some d => .ok d
    | none => .no
  | .tuple ds, .int i => match atI ds i with
    | some d => .ok d
    | none => .no
  | .str z, .int i => match atI z.cps.toList i with
    | some c => .ok (.str ⟨#[c]⟩)
    | none => .no
  | _, _ => .no
theorem atI_dq {K : PySem.W.Frag} {G : Hp} {ds : List PyData} {vs : List V} {i : Int} {d : PyData} (h : DqAll K G vs ds) (k : atI ds i = some d) : ∃ v, atI vs i = some v ∧ Dq K G v d := by
  unfold atI at k ⊢
  rw [dpAll_len h]
  cases k2 : ixN ds.length i with
  | none => rw [k2] at k; cases k
  | some j =>
    rw [k2] at k
    have k : ds[j]? = some d := k
    have hj : j < vs.length := by rw [dpAll_len h]; exact (List.getElem?_eq_some_iff.mp k).1
    have e : vs[j]? = some vs[j] := by simp [hj]
    obtain ⟨d', h1, h2⟩ := dpAll_get h e
    rw [k] at h1
    cases h1
    exact ⟨vs[j], e, h2⟩
theorem sp_ix : Spec2 X W (rIx X.K) ixD := by
  intro G H v w d e σ Q s hv hw q
  unfold ixD at q
  split at q
  · cases hw.int
    obtain ⟨p, xs, rfl, h1, h2⟩ := hv.lst s
    split at q
    · rename_i d k
      obtain ⟨u, h3, h4⟩ := atI_dq h2 k
      exact .inl ⟨p, xs, _, u, rfl, rfl, h1, h3, q u G H (Gr.refl s) h4⟩
    · exact q.elim
  · cases hw.int
    obtain ⟨p, xs, rfl, h1, h2⟩ := hv.tup s
    split at q
    · rename_i d k
      obtain ⟨u, h3, h4⟩ := atI_dq h2 k
      exact .inr (.inl ⟨p, xs, _, u, rfl, rfl, h1, h3, q u G H (Gr.refl s) h4⟩)
    · exact q.elim
  · cases hw.int
    obtain ⟨rfl, hz⟩ := hv.str
    split at q
    · rename_i c k
      exact .inr (.inr ⟨_, _, c, rfl, rfl, hz, k, RD.val s q fun _ => .str _ (by show 1 ≤ sizeLine; decide)⟩)
    · exact q.elim
  · exact q.elim
theorem pd_sub_ix (ha : PP X W a f) (hb : PP X W b g) (hs : PlainIx b := by intro _ _; rfl) : PD X W (.Subscript a b pos) (e2 ixD f g) := pd_ix ix_seq sp_ix ha hb hs
def cutL {α : Type} (xs : List α) (lo hi : Option Int) : List α := (xs.drop (HT.sIx xs.length 0 lo)).take (HT.sIx xs.length xs.length hi - HT.sIx xs.length 0 lo)
def slD : PyData → Option Int → Option Int → Rs PyData
  | .str z, lo, hi => .ok (.str (cutS z lo hi))
  | .list ds, lo, hi => .ok (.list (cutL ds lo hi))
  | .tuple ds, lo, hi => .ok (.tuple (cutL ds lo hi))
  | _, _, _ => .no
@[simp] def eOpt : Option EF → En → Rs (Option Int)
  | none, _ => .ok none
  | some f, ρ => (f ρ).bind fun d => match d with
    | .int i => .ok (some i)
    | _ => .no
@[simp] def eSl (f : EF) (lo hi : Option EF) (ρ : En) : Rs PyData := (f ρ).bind fun d => (eOpt lo ρ).bind fun l => (eOpt hi ρ).bind fun u => slD d l u
def RO (mg : Str → Option Value) (W : WX) (G H : Hp) (σ : St) (Q : Option Int → Hp → Prop) : Rs (Option Int) → Prop
  | .ok o => ∀ G' H', Gr G H G' H' → Q o H'
  | .er c => ∀ G' H', Gr G H G' H' → W (XC mg c) none σ H'
  | .no => False
def tO (K : PySem.W.Frag) (mg : Str → Option Value) (W : WX) (f : En → Rs (Option Int)) : TO := fun σ H Q => ∃ G0 H0 G ρ, EnvOk K G0 H0 G H σ ρ ∧ RO mg W G H σ Q (f ρ)
abbrev POD (X : Cx) (W : WX) (e : Option Expr) (f : Option EF) : Prop := PO X e (tO X.K X.mg W (eOpt f))
theorem pod_none : POD X W none none := ⟨fun pins s σ H Q I q => po_none.run pins s σ H Q I (by
  obtain ⟨G0, H0, G, ρ, E, q⟩ := q
  exact q G H (Gr.refl E.gr.sub))⟩
theorem pod_some (k : PD X W e f) : POD X W (some e) (some f) := ⟨fun pins s σ H Q I q => (po_some k).run pins s σ H Q I (by
  obtain ⟨G0, H0, G, ρ, E, q⟩ := q
  refine ⟨G0, H0, G, ρ, E, ?_⟩
  have q : RO X.mg W G H σ Q ((f ρ).bind fun d => match d with
    | .int i => .ok (some i)
    | _ => .no) := q
  cases k : f ρ with
  | ok d =>
    rw [k] at q
    cases d with
    | int i => exact fun v G' H' g z => by cases z; exact ⟨i, rfl, q G' H' g⟩
    | _ => exact q.elim
  | er c => rw [k] at q; exact q
  | no => rw [k] at q; exact q)⟩
theorem cutL_dq {K : PySem.W.Frag} {G : Hp} {ds : List PyData} {vs : List V} {lo hi : Option Int} (h : DqAll K G vs ds) : DqAll K G (cutV vs lo hi) (cutL ds lo hi) := by
  unfold cutV cutL
  rw [dpAll_len h]
  have hd : ∀ (n : Nat) {ds : List PyData} {vs : List V}, DqAll K G vs ds → DqAll K G (vs.drop n) (ds.drop n) := by
    intro n
    induction n with
    | zero => intro ds vs h; exact h
    | succ n ih => intro ds vs h; cases h with
      | nil => exact .nil
      | cons a b => exact ih b
  have ht : ∀ (n : Nat) {ds : List PyData} {vs : List V}, DqAll K G vs ds → DqAll K G (vs.take n) (ds.take n) := by
    intro n
    induction n with
    | zero => intro ds vs h; exact .nil
    | succ n ih => intro ds vs h; cases h with
      | nil => exact .nil
      | cons a b => exact .cons a (ih b)
  exact ht _ (hd _ h)
theorem cutS_len (z : Str) (lo hi : Option Int) : (cutS z lo hi).length ≤ z.length := by
  unfold cutS Str.length
  simp only [List.size_toArray, List.length_take, List.length_drop]
  have : z.cps.toList.length = z.cps.size := by simp
  omega
def rSlAll (K : PySem.W.Frag) : V → Option Int → Option Int → Hp → VK → Prop := fun x lo hi H Q => rSlS x lo hi H Q ∨ rSlL K x lo hi H Q ∨ rSlA K x lo hi H Q
theorem sl_all : SlR X (rSlAll X.K) := sl_str.or (sl_list.or sl_tupA)
theorem pd_slice {lo hi : Option Expr} {fl fh : Option EF} {p2 : Pos} (ka : PP X W a f) (kl : POD X W lo fl) (kh : POD X W hi fh) : PD X W (.Subscript a (.Slice lo hi none p2) pos) (eSl f fl fh) := pe_weak (pe_slice sl_all ka kl kh) fun σ H Q ⟨G0, H0, G, ρ, E, q⟩ => by
  refine ⟨G0, H0, G, ρ, E, ?_⟩
  unfold eSl at q
  cases k : f ρ with
  | er c => rw [k] at q; exact q
  | no => rw [k] at q; exact q
  | ok d =>
    rw [k, Rs.bind_ok] at q
    refine fun v G1 H1 g1 z => ⟨G0, H0, G1, ρ, E.grow g1, ?_⟩
    have q := RD.grow g1 q
    cases k2 : eOpt fl ρ with
    | er c => rw [k2] at q; exact q
    | no => rw [k2] at q; exact q
    | ok l =>
      rw [k2, Rs.bind_ok] at q
      refine fun G2 H2 g2 => ⟨G0, H0, G2, ρ, (E.grow g1).grow g2, ?_⟩
      have q := RD.grow g2 q
      cases k3 : eOpt fh ρ with
      | er c => rw [k3] at q; exact q
      | no => rw [k3] at q; exact q
      | ok u =>
        rw [k3, Rs.bind_ok] at q
        refine fun G3 H3 g3 => ?_
        have q := RD.grow g3 q
        have z := (z.grow g2).grow g3
        have s := g3.sub
        cases d with
        | str zz =>
          obtain ⟨rfl, hz⟩ := z.str
          exact .inl ⟨_, rfl, hz, RD.val s q fun _ => .str _ (Nat.le_trans (cutS_len _ _ _) hz)⟩
        | list ds =>
          obtain ⟨p, xs, rfl, h1, h2⟩ := z.lst s
          exact .inr (.inl ⟨p, xs, rfl, h1, RD.newL s q (cutL_dq h2)⟩)
        | tuple ds =>
          have zd := z.tupD
          obtain ⟨p, xs, rfl, h1, h2⟩ := z.tup s
          refine .inr (.inr ⟨p, xs, rfl, h1, fun hw => ?_, fun _ => RD.newT s q (cutL_dq h2)⟩)
          have q : RD X.K X.mg W G3 H3 σ Q (.ok (.tuple (cutL ds l u))) := q
          have e : cutL ds l u = ds := by
            unfold cutL
            rw [← dpAll_len h2, hw.1, hw.2, dpAll_len h2]
            simp
          rw [e] at q
          exact q _ G3 H3 (Gr.refl s) zd
        | _ => exact q.elim

/-! ### built-ins -/
def lenD : PyData → Rs PyData
  | .str z => .ok (.int z.length)
  | .list ds => .ok (.int ds.length)
  | .tuple ds => .ok (.int ds.length)
  | _ => .no
theorem sp_len : Spec1 X W (fun v H Q => ∃ x n, [v] = [x] ∧ LenV X.K x H n ∧ Q (.int n) H) lenD := by
  intro G H v d σ Q s hv q
  unfold lenD at q
  split at q
  · obtain ⟨rfl, hz⟩ := hv.str
    exact ⟨_, _, rfl, ⟨hz, rfl⟩, RD.val s q fun _ => .int _⟩
  · obtain ⟨p, xs, rfl, h1, h2⟩ := hv.lst s
    rw [← dpAll_len h2] at q
    exact ⟨_, _, rfl, .inl ⟨xs, h1, rfl⟩, RD.val s q fun _ => .int _⟩
  · obtain ⟨p, xs, rfl, h1, h2⟩ := hv.tup s
    rw [← dpAll_len h2] at q
    exact ⟨_, _, rfl, .inr ⟨xs, h1, rfl⟩, RD.val s q fun _ => .int _⟩
  · exact q.elim
theorem pd_len {p : Pos} (hg : Gl X "len") (hm : X.mg "len" = none) (ha : PP X W a f) (he : starEach [a] X.env = [(false, eval a X.env)] := by rfl) : PD X W (.Call (.Name "len" p) [a] [] pos) (e1 lenD f) := pd_b1 call_len sp_len hg hm ha (by decide +kernel) (by decide) (by decide) he
def absD : PyData → Rs PyData
  | .int i => .ok (.int (i.natAbs : Nat))
  | _ => .no
theorem pd_abs {p : Pos} (hg : Gl X "abs") (hm : X.mg "abs" = none) (ha : PP X W a f) (he : starEach [a] X.env = [(false, eval a X.env)] := by rfl) : PD X W (.Call (.Name "abs" p) [a] [] pos) (e1 absD f) :=
  pd_b1 call_abs (fun G H v d σ Q s hv q => by
    unfold absD at q
    split at q
    · cases hv.int
      rename_i i
      refine ⟨i, rfl, ?_⟩
      have e : (if i < 0 then -i else i) = ((i.natAbs : Nat) : Int) := by split <;> omega
      rw [e]
      exact RD.val s q fun _ => .int _
    · exact q.elim) hg hm ha (by decide +kernel) (by decide) (by decide) he
def max2D : PyData → PyData → Rs PyData
  | .int i, .int j => .ok (.int (max i j))
  | _, _ => .no
def min2D : PyData → PyData → Rs PyData
  | .int i, .int j => .ok (.int (min i j))
  | _, _ => .no
theorem pd_max2 {p : Pos} (hc : X.calm = true) (hg : Gl X "max") (hm : X.mg "max" = none) (ha : PP X W a f) (hb : PP X W b g) (he2 : starEach [b] X.env = [(false, eval b X.env)] := by rfl) (he : starEach [a, b] X.env = (false, eval a X.env) :: starEach [b] X.env := by rfl) :
    PD X W (.Call (.Name "max" p) [a, b] [] pos) (e2 max2D f g) := pd_b2 (call_max2 hc) (fun G H v w d e σ Q s hv hw q => by
    unfold max2D at q
    split at q
    · cases hv.int; cases hw.int
      rename_i i j
      refine ⟨i, j, rfl, ?_⟩
      have e : (if j > i then j else i) = max i j := by split <;> omega
      rw [e]
      exact RD.val s q fun _ => .int _
    · exact q.elim) hg hm ha hb (by decide +kernel) (by decide) (by decide) he2 he
theorem pd_min2 {p : Pos} (hc : X.calm = true) (hg : Gl X "min") (hm : X.mg "min" = none) (ha : PP X W a f) (hb : PP X W b g) (he2 : starEach [b] X.env = [(false, eval b X.env)] := by rfl) (he : starEach [a, b] X.env = (false, eval a X.env) :: starEach [b] X.env := by rfl) :
    PD X W (.Call (.Name "min" p) [a, b] [] pos) (e2 min2D f g) := pd_b2 (call_min2 hc) (fun G H v w d e σ Q s hv hw q => by
    unfold min2D at q
    split at q
    · cases hv.int; cases hw.int
      rename_i i j
      refine ⟨i, j, rfl, ?_⟩
      have e : (if j < i then j else i) = min i j := by split <;> omega
      rw [e]
      exact RD.val s q fun _ => .int _
    · exact q.elim) hg hm ha hb (by decide +kernel) (by decide) (by decide) he2 he
def divmodD : PyData → PyData → Rs PyData
  | .int i, .int j => if 0 < j ∧ Builtin.divisionGoesByPylong i j = false then .ok (.tuple [.int (i / j), .int (i % j)]) else .no
  | _, _ => .no
theorem pd_divmod {p : Pos} (hg : Gl X "divmod") (hm : X.mg "divmod" = none) (ha : PP X W a f) (hb : PP X W b g) (he2 : starEach [b] X.env = [(false, eval b X.env)] := by rfl) (he : starEach [a, b] X.env = (false, eval a X.env) :: starEach [b] X.env := by rfl) :
    PD X W (.Call (.Name "divmod" p) [a, b] [] pos) (e2 divmodD f g) := pd_b2 call_divmodW (fun G H v w d e σ Q s hv hw q => by
    unfold divmodD at q
    split at q
    · cases hv.int; cases hw.int
      split at q
      · rename_i hz
        exact ⟨_, _, rfl, hz, RD.newT s q (.cons (.int _) (.cons (.int _) .nil))⟩
      · exact q.elim
    · exact q.elim) hg hm ha hb (by decide +kernel) (by decide) (by decide) he2 he
def intD : PyData → Rs PyData
  | .int i => .ok (.int i)
  | .bool b => .ok (.int (if b then 1 else 0))
  | .str x => match PySem.intText? x with
    | some n => if x.length ≤ 640 then .ok (.int n) else .no
    | none => .no
  | _ => .no
theorem pd_int_of {p : Pos} (hg : Gl X "int") (hm : X.mg "int" = none) (ha : PP X W a f) (he : starEach [a] X.env = [(false, eval a X.env)] := by rfl) : PD X W (.Call (.Name "int" p) [a] [] pos) (e1 intD f) :=
  pd_t1 (callR_or call_int1 call_int_str) (fun G H v d σ Q s hv q => by
    unfold intD at q
    split at q
    · cases hv.int
      exact .inl (.inl ⟨_, rfl, RD.val s q fun _ => .int _⟩)
    · cases hv.bl
      exact .inl (.inr ⟨_, rfl, RD.val s q fun _ => .int _⟩)
    · obtain ⟨rfl, _⟩ := hv.str
      split at q
      · rename_i n k
        split at q
        · rename_i hz
          exact .inr ⟨_, n, rfl, k, hz, RD.val s q fun _ => .int _⟩
        · exact q.elim
      · exact q.elim
    · exact q.elim) hg hm ha (by decide +kernel) (by decide) (by decide) he
def strI (i : Int) : Str := Str.ofString (toString i)
def strD : PyData → Rs PyData
  | .int i => if i.natAbs.log2 < 1920 then .ok (.str (strI i)) else .no
  | _ => .no
theorem pd_str_of {p : Pos} (hg : Gl X "str") (hm : X.mg "str" = none) (ha : PP X W a f) (he : starEach [a] X.env = [(false, eval a X.env)] := by rfl) : PD X W (.Call (.Name "str" p) [a] [] pos) (e1 strD f) :=
  pd_t1 call_str_int (fun G H v d σ Q s hv q => by
    unfold strD at q
    split at q
    · cases hv.int
      split at q
      · rename_i hz
        exact ⟨_, rfl, hz, RD.val s q fun _ => .str _ (int_text_fits hz)⟩
      · exact q.elim
    · exact q.elim) hg hm ha (by decide +kernel) (by decide) (by decide) he
def bools : List PyData → Option (List Bool)
  | [] => some []
  | .bool b :: ds => (bools ds).map (b :: ·)
  | _ :: _ => none
theorem bools_dq {K : PySem.W.Frag} {G : Hp} : ∀ {ds : List PyData} {vs : List V} {bs : List Bool}, DqAll K G vs ds → bools ds = some bs → vs = bs.map V.bl
  | [], _, _, h, k => by cases h; cases k; rfl
  | .bool b :: ds, _, bs, h, k => by
    unfold bools at k
    cases k2 : bools ds with
    | none => rw [k2] at k; cases k
    | some cs =>
      rw [k2] at k
      cases k
      cases h with
      | cons x y => cases x; rw [bools_dq y k2]; rfl
  | .none :: _, _, _, _, k => by cases k
  | .int _ :: _, _, _, _, k => by cases k
  | .str _ :: _, _, _, _, k => by cases k
  | .list _ :: _, _, _, _, k => by cases k
  | .tuple _ :: _, _, _, _, k => by cases k
  | .dict _ :: _, _, _, _, k => by cases k
def anyD : PyData → Rs PyData
  | .list ds => match bools ds with
    | some bs => .ok (.bool (bs.any id))
    | none => .no
  | _ => .no
def allD : PyData → Rs PyData
  | .list ds => match bools ds with
    | some bs => .ok (.bool (bs.all id))
    | none => .no
  | _ => .no
theorem pd_any {p : Pos} (hc : X.calm = true) (hg : Gl X "any") (hm : X.mg "any" = none) (ha : PP X W a f) (he : starEach [a] X.env = [(false, eval a X.env)] := by rfl) : PD X W (.Call (.Name "any" p) [a] [] pos) (e1 anyD f) :=
  pd_b1 (cr_any hc) (fun G H v d σ Q s hv q => by
    unfold anyD at q
    split at q
    · obtain ⟨p, xs, rfl, h1, h2⟩ := hv.lst s
      split at q
      · rename_i bs k
        have e := bools_dq h2 k
        subst e
        exact ⟨p, bs, rfl, h1, RD.val s q fun _ => .bl _⟩
      · exact q.elim
    · exact q.elim) hg hm ha (by decide +kernel) (by decide) (by decide) he
theorem pd_all {p : Pos} (hc : X.calm = true) (hg : Gl X "all") (hm : X.mg "all" = none) (ha : PP X W a f) (he : starEach [a] X.env = [(false, eval a X.env)] := by rfl) : PD X W (.Call (.Name "all" p) [a] [] pos) (e1 allD f) :=
  pd_b1 (cr_all hc) (fun G H v d σ Q s hv q => by
    unfold allD at q
    split at q
    · obtain ⟨p, xs, rfl, h1, h2⟩ := hv.lst s
      split at q
      · rename_i bs k
        have e := bools_dq h2 k
        subst e
        exact ⟨p, bs, rfl, h1, RD.val s q fun _ => .bl _⟩
      · exact q.elim
    · exact q.elim) hg hm ha (by decide +kernel) (by decide) (by decide) he
def tupleD : PyData → Rs PyData
  | .list ds => .ok (.tuple ds)
  | .tuple ds => .ok (.tuple ds)
  | _ => .no
theorem pd_tuple {p : Pos} (hg : Gl X "tuple") (hm : X.mg "tuple" = none) (ha : PP X W a f) (he : starEach [a] X.env = [(false, eval a X.env)] := by rfl) : PD X W (.Call (.Name "tuple" p) [a] [] pos) (e1 tupleD f) :=
  pd_t1 call_tuple_of (fun G H v d σ Q s hv q => by
    unfold tupleD at q
    split at q
    · obtain ⟨p, xs, rfl, h1, h2⟩ := hv.lst s
      exact ⟨p, xs, rfl, .inl ⟨h1, RD.newT s q h2⟩⟩
    · have hd := hv.tupD
      obtain ⟨p, xs, rfl, h1, h2⟩ := hv.tup s
      exact ⟨p, xs, rfl, .inr ⟨h1, q _ G H (Gr.refl s) hd⟩⟩
    · exact q.elim) hg hm ha (by decide +kernel) (by decide) (by decide) he
def listD : PyData → Rs PyData
  | .list ds => .ok (.list ds)
  | .tuple ds => .ok (.list ds)
  | _ => .no
theorem pd_list {p : Pos} (hg : Gl X "list") (hm : X.mg "list" = none) (ha : PP X W a f) (he : starEach [a] X.env = [(false, eval a X.env)] := by rfl) : PD X W (.Call (.Name "list" p) [a] [] pos) (e1 listD f) :=
  pd_t1 call_list_of (fun G H v d σ Q s hv q => by
    unfold listD at q
    split at q
    · obtain ⟨p, xs, rfl, h1, h2⟩ := hv.lst s
      exact ⟨p, xs, rfl, .inl h1, RD.newL s q h2⟩
    · obtain ⟨p, xs, rfl, h1, h2⟩ := hv.tup s
      exact ⟨p, xs, rfl, .inr h1, RD.newL s q h2⟩
    · exact q.elim) hg hm ha (by decide +kernel) (by decide) (by decide) he

/-! ### isinstance -/
def tyN : PyData → String
  | .none => "NoneType"
  | .bool _ => "bool"
  | .int _ => "int"
  | .str _ => "str"
  | .list _ => "list"
  | .tuple _ => "tuple"
  | .dict _ => "dict"
theorem tyX_of {K : PySem.W.Frag} {G H : Hp} {v : V} {d : PyData} (s : Same G H) (h : PkOk K G H v d) : TyX K H v (.type (tyN d)) := by
  cases d with
  | none => cases h.non; exact .base .non
  | bool b => cases h.bl; exact .base (.bl b)
  | int i => cases h.int; exact .base (.int i)
  | str x => obtain ⟨rfl, _⟩ := h.str; exact .base (.str x)
  | list ds =>
    obtain ⟨p, xs, rfl, (h1 | ⟨o, h1⟩) | ⟨o, its, n, h1, h3, _⟩, h2⟩ := h.lst s
    · exact .base (.lst h1)
    · exact .base (.frz h1)
    · exact .kList h1 h3
  | tuple ds =>
    obtain ⟨p, xs, rfl, (h1 | ⟨o, h1⟩) | ⟨o, its, n, h1, h3, _⟩, h2⟩ := h.tup s
    · exact .base (.tup h1)
    · exact .fTuple h1
    · exact .kTuple h1 h3
  | dict ds =>
    obtain ⟨p, kvs, rfl, h1, h2⟩ := h.dict s
    exact .base (.dK h1)
/-- is data of this built-in class -/
def isiQ (T : String) : PyData → Bool
  | .none => T == "NoneType"
  | .bool _ => T == "bool" || T == "int"
  | .int _ => T == "int"
  | .str _ => T == "str"
  | .list _ => T == "list"
  | .tuple _ => T == "tuple"
  | .dict _ => T == "dict"
def isiD (T : String) (d : PyData) : Rs PyData := .ok (.bool (isiQ T d))
/-- the class answers as it should -/
def KitT (T : String) : Prop := ∀ d : PyData, kitB (tyN d) T = some (isiQ T d)
theorem kitT_of {T : String} (h0 : kitB "NoneType" T = some (T == "NoneType")) (h1 : kitB "bool" T = some (T == "bool" || T == "int")) (h2 : kitB "int" T = some (T == "int")) (h3 : kitB "str" T = some (T == "str")) (h4 : kitB "list" T = some (T == "list")) (h5 : kitB "tuple" T = some (T == "tuple")) (h6 : kitB "dict" T = some (T == "dict")) : KitT T := fun d => by
  cases d
  · exact h0
  · exact h1
  · exact h2
  · exact h3
  · exact h4
  · exact h5
  · exact h6
theorem kit_int : KitT "int" := kitT_of (by decide +kernel) (by decide +kernel) (by decide +kernel) (by decide +kernel) (by decide +kernel) (by decide +kernel) (by decide +kernel)
theorem kit_bool : KitT "bool" := kitT_of (by decide +kernel) (by decide +kernel) (by decide +kernel) (by decide +kernel) (by decide +kernel) (by decide +kernel) (by decide +kernel)
theorem kit_str : KitT "str" := kitT_of (by decide +kernel) (by decide +kernel) (by decide +kernel) (by decide +kernel) (by decide +kernel) (by decide +kernel) (by decide +kernel)
theorem kit_tuple : KitT "tuple" := kitT_of (by decide +kernel) (by decide +kernel) (by decide +kernel) (by decide +kernel) (by decide +kernel) (by decide +kernel) (by decide +kernel)
theorem kit_list : KitT "list" := kitT_of (by decide +kernel) (by decide +kernel) (by decide +kernel) (by decide +kernel) (by decide +kernel) (by decide +kernel) (by decide +kernel)
theorem pd_isi {n : Str} {T : String} {p p2 : Pos} (hT : KitT T) (hg : Gl X "isinstance") (hm : X.mg "isinstance" = none) (hg2 : Gl X n) (hm2 : X.mg n = none) (hb : bootBuiltins n = some (.type T)) (ha : PP X W a f) (hn : n ≠ "__name__" := by decide) (hd : (n == ("__debug__" : Str)) = false := by decide)
    (he2 : starEach [.Name n p2] X.env = [(false, eval (.Name n p2) X.env)] := by rfl) (he : starEach [a, .Name n p2] X.env = (false, eval a X.env) :: starEach [.Name n p2] X.env := by rfl) : PD X W (.Call (.Name "isinstance" p) [a, .Name n p2] [] pos) (e1 (isiD T) f) :=
  pe_weak (pe_callB call_isi hg hm (by decide +kernel) (pa_cons ha (pa_cons (pe_bltn (v := .ty T) hg2 hm2 hb rfl hn hd) pa_nil he2) he) (by decide) (by decide) he (by rw [he2]; rfl)) fun σ H Q q =>
    run1 (r := fun v H Q => rIsi X.K [v, .ty T] H Q) (fun G H v d σ Q s hv q => ⟨v, .ty T, _, _, _, rfl, .ty T, tyX_of s hv, kit_ty (hT d), RD.val s q fun _ => .bl _⟩) q
def isi2D (T U : String) (d : PyData) : Rs PyData := .ok (.bool (isiQ T d || isiQ U d))
theorem pd_isi2 {n m : Str} {T U : String} {p p2 p3 tp : Pos} {tk} (hT : KitT T) (hU : KitT U) (hg : Gl X "isinstance") (hm : X.mg "isinstance" = none) (hg2 : Gl X n) (hm2 : X.mg n = none) (hb : bootBuiltins n = some (.type T)) (hg3 : Gl X m) (hm3 : X.mg m = none) (hb3 : bootBuiltins m = some (.type U)) (ha : PP X W a f) (hn : n ≠ "__name__" := by decide) (hd : (n == ("__debug__" : Str)) = false := by decide)
    (hn3 : m ≠ "__name__" := by decide) (hd3 : (m == ("__debug__" : Str)) = false := by decide) (he4 : starEach [.Name m p3] X.env = [(false, eval (.Name m p3) X.env)] := by rfl) (he3 : starEach [.Name n p2, .Name m p3] X.env = (false, eval (.Name n p2) X.env) :: starEach [.Name m p3] X.env := by rfl)
    (he2 : starEach [.Tuple [.Name n p2, .Name m p3] tk tp] X.env = [(false, eval (.Tuple [.Name n p2, .Name m p3] tk tp) X.env)] := by rfl) (he : starEach [a, .Tuple [.Name n p2, .Name m p3] tk tp] X.env = (false, eval a X.env) :: starEach [.Tuple [.Name n p2, .Name m p3] tk tp] X.env := by rfl) :
    PD X W (.Call (.Name "isinstance" p) [a, .Tuple [.Name n p2, .Name m p3] tk tp] [] pos) (e1 (isi2D T U) f) :=
  pe_weak (pe_callB call_isiT hg hm (by decide +kernel) (pa_cons ha (pa_cons (pe_tup (pa_cons (pe_bltn (v := .ty T) hg2 hm2 hb rfl hn hd) (pa_cons (pe_bltn (v := .ty U) hg3 hm3 hb3 rfl hn3 hd3) pa_nil he4) he3)) pa_nil he2) he) (by decide) (by decide) he (by rw [he2]; rfl)) fun σ H Q q =>
    run1 (r := fun v H Q => (2 ≤ sizeLine ∧ ∀ p, H p = none → rIsiT X.K [v, .ref p] (upd H p (.tup [.ty T, .ty U])) Q)) (fun G H v d σ Q s hv q => ⟨by decide, fun p n => by
      have g : Gr G H G (upd H p (.tup [.ty T, .ty U])) := Gr.newH s n
      refine ⟨v, p, _, _, [.type T, .type U], _, rfl, upd_same, .cons (.ty T) (.cons (.ty U) .nil), tyX_of g.sub (hv.grow g), ?_, (RD.grow g q) (.bl (isiQ T d || isiQ U d)) _ _ (Gr.refl g.sub) (.bl _)⟩
      refine kitAny_cons (kit_ty (hT d)) (fun h1 => kitAny_cons (kit_ty (hU d)) (fun h2 => ?_) fun h2 => ?_) fun h1 => ?_
      · rw [h1, h2]; exact kitAny_nil
      · rw [h1, h2]; rfl
      · rw [h1]; rfl⟩) q
end
end L2.Pz

namespace L2.Pz
open PySem PySem.Spec PyProof.Rows
@[simp] def pairD (x y : PyData) : PyData := .tuple [x, y]
def zipD : PyData → PyData → Rs (List PyData)
  | .list xs, .list ys => .ok (List.zipWith pairD xs ys)
  | .tuple xs, .tuple ys => .ok (List.zipWith pairD xs ys)
  | _, _ => .no
@[simp] def iZ (f g : EF) (ρ : En) : Rs (List PyData) := (f ρ).bind fun d => (g ρ).bind fun e => zipD d e
theorem zipW_get {xs ys : List PyData} {i : Nat} {d : PyData} (h : (List.zipWith pairD xs ys)[i]? = some d) : ∃ x y, xs[i]? = some x ∧ ys[i]? = some y ∧ d = .tuple [x, y] := by
  rw [List.getElem?_zipWith] at h
  cases h1 : xs[i]? with
  | none => rw [h1] at h; cases h
  | some x =>
    cases h2 : ys[i]? with
    | none => rw [h1, h2] at h; cases h
    | some y =>
      rw [h1, h2] at h
      exact ⟨x, y, rfl, rfl, (Option.some.inj h).symm⟩
section
variable {K : PySem.W.Frag} {G : Hp} {a b : Addr} {vs ws : List V} {xs ys : List PyData}
theorem itOk_zip (h1 : SqL K G a vs) (h2 : SqL K G b ws) (k1 : DqAll K G vs xs) (k2 : DqAll K G ws ys) : ItOk K G (Itz K a b) (List.zipWith pairD xs ys) := fun H s => by
  have q : SqL K H a vs ∧ SqL K H b ws := ⟨s.seq h1, s.seq h2⟩
  have l1 := dpAll_len k1
  have l2 := dpAll_len k2
  have hn : (List.zipWith pairD xs ys).length = min vs.length ws.length := by rw [List.length_zipWith, l1, l2]
  have w := walk_zip (K := K) (a := a) (b := b) (xs := vs) (ys := ws) hn
  refine ⟨w.stops H q, fun i d hd => ?_⟩
  have hi : i < (List.zipWith pairD xs ys).length := (List.getElem?_eq_some_iff.mp hd).1
  refine ⟨w.goes i H hi q, fun v H' y => ?_⟩
  obtain ⟨T, x, z, e1, e2, e3, e4, e5⟩ := w.yields i H v H' hi q y
  obtain ⟨x', y', g1, g2, g3⟩ := zipW_get hd
  obtain ⟨x2, f1, f2⟩ := dpAll_get k1 e4
  obtain ⟨y2, f3, f4⟩ := dpAll_get k2 e5
  rw [g1] at f1; cases f1
  rw [g2] at f3; cases f3
  exact .inr ⟨T, [x, z], [x', y'], e1, e2, e3, .cons f2 (.cons f4 .nil), g3⟩
theorem itOk_zipT (h1 : SqT K G a vs) (h2 : SqT K G b ws) (k1 : DqAll K G vs xs) (k2 : DqAll K G ws ys) : ItOk K G (RZ.ItzT K a b) (List.zipWith pairD xs ys) := fun H s => by
  have q1 : SqT K H a vs := sqT_mono s h1
  have q2 : SqT K H b ws := sqT_mono s h2
  have l1 := dpAll_len k1
  have l2 := dpAll_len k2
  have hn : (List.zipWith pairD xs ys).length = min vs.length ws.length := by rw [List.length_zipWith, l1, l2]
  refine ⟨⟨vs, ws, q1, q2, by rw [hn]; omega⟩, fun i d hd => ?_⟩
  have hi : i < (List.zipWith pairD xs ys).length := (List.getElem?_eq_some_iff.mp hd).1
  have hv : i < vs.length := by omega
  have hw : i < ws.length := by omega
  refine ⟨⟨vs, ws, vs[i], ws[i], q1, q2, by simp [hv], by simp [hw]⟩, fun v H' y => ?_⟩
  obtain ⟨T, x, z, e1, e2, e3, e4, e5⟩ := y
  have e4 := e4 vs q1
  have e5 := e5 ws q2
  obtain ⟨x', y', g1, g2, g3⟩ := zipW_get hd
  obtain ⟨x2, f1, f2⟩ := dpAll_get k1 e4
  obtain ⟨y2, f3, f4⟩ := dpAll_get k2 e5
  rw [g1] at f1; cases f1
  rw [g2] at f3; cases f3
  exact .inr ⟨T, [x, z], [x', y'], e1, e2, e3, .cons f2 (.cons f4 .nil), g3⟩
end
section
variable {X : Cx} {W : WX} {e e2 : Expr} {f g : EF} {pos : Pos}
theorem pid_zip {p tpos : Pos} {elts : List Expr} {kk : Nat} (hg : Gl X "zip") (hm : X.mg "zip" = none) (ka : PD X W e f) (kb : PD X W e2 g) (he2 : starEach [e2] X.env = [(false, eval e2 X.env)] := by rfl)
    (hs : starEach [e, e2] X.env = (false, eval e X.env) :: starEach [e2] X.env := by rfl) : PID X W (.Tuple elts kk tpos) (.Call (.Name "zip" p) [e, e2] [] pos) (iZ f g) :=
  pi_weak (RZ.pi_zipA hg hm (pa_cons ka (pa_cons kb pa_nil he2) hs) hs (by rw [he2]; rfl)) fun σ H R ⟨G0, H0, G, ρ, E, q⟩ => by
    refine ⟨G0, H0, G, ρ, E, ?_⟩
    unfold iZ at q
    cases k : f ρ with
    | er c => rw [k] at q; exact q
    | no => rw [k] at q; exact q
    | ok d =>
      rw [k, Rs.bind_ok] at q
      refine fun v G1 H1 g1 z1 => ⟨G0, H0, G1, ρ, E.grow g1, ?_⟩
      cases k2 : g ρ with
      | er c => rw [k2] at q; exact fun G2 H2 g2 => q G2 H2 (g1.trans g2)
      | no => rw [k2] at q; exact q
      | ok d2 =>
        rw [k2, Rs.bind_ok] at q
        refine fun w G2 H2 g2 z2 => ?_
        have z1 := dp_mono g2.g z1
        have s := g2.sub
        unfold zipD at q
        split at q
        · cases z1 with
          | lst a1 a2 =>
            cases z2 with
            | lst b1 b2 => exact ⟨_, _, _, _, rfl,   .inl ⟨s.seq a1, s.seq b1, q _ G2 H2 (g1.trans g2) (itOk_zip a1 b1 a2 b2)⟩⟩
        · cases z1 with
          | tup a1 a2 =>
            cases z2 with
            | tup b1 b2 => exact ⟨_, _, _, _, rfl, .inr ⟨sqT_mono s a1, sqT_mono s b1, q _ G2 H2 (g1.trans g2) (itOk_zipT a1 b1 a2 b2)⟩⟩
        · exact q.elim
end
end L2.Pz

namespace L2.Pz
open PySem PySem.Spec PyProof.Rows
/-- a text by its codes -/
def S (l : List Nat) : Str := ⟨⟨l⟩⟩
section
variable {X : Cx} {W : WX} {e a b c : Expr} {f g h : EF} {pos : Pos}
theorem pd_strS {x : Str} {j} (l : List Nat) (h : x = S l := by decide +kernel) (hz : l.length ≤ sizeLine := by decide) : PD X W (.Constant (.str x) j pos) (eC (.str (S l))) := by
  subst h
  exact pd_str hz
def truD : PyData → Rs Bool
  | .none => .ok false
  | .bool b => .ok b
  | .int i => .ok (i != 0)
  | .str y => .ok ((y.length : Int) != 0)
  | .list ds => .ok (!ds.isEmpty)
  | .tuple ds => .ok (!ds.isEmpty)
  | _ => .no
@[simp] def bD (f : EF) (ρ : En) : Rs Bool := (f ρ).bind truD
theorem dqAll_empty {K : PySem.W.Frag} {G : Hp} {vs : List V} {ds : List PyData} (h : DqAll K G vs ds) : vs.isEmpty = ds.isEmpty := by
  cases h <;> rfl
theorem ptd_truth (k : PP X W e f) (he : ∀ whole, isTrue e X.env whole = (do let v ← whole; standAt e.pos; holding [v] (truthy v)) := by intro _; rfl) : PTD X W e (bD f) := pt_weak (pt_truth k he) fun σ H Q ⟨G0, H0, G, ρ, E, q⟩ => by
  refine ⟨G0, H0, G, ρ, E, ?_⟩
  unfold bD at q
  cases k : f ρ with
  | er c => rw [k] at q; exact q
  | no => rw [k] at q; exact q
  | ok d =>
    rw [k, Rs.bind_ok] at q
    refine fun v G1 H1 g1 z => ?_
    have s := g1.sub
    cases d with
    | none => cases z.non; exact ⟨false, rfl, q G1 H1 g1⟩
    | bool b => cases z.bl; exact ⟨b, rfl, q G1 H1 g1⟩
    | int i => cases z.int; exact ⟨_, rfl, q G1 H1 g1⟩
    | str x => obtain ⟨rfl, hz⟩ := z.str; exact ⟨_, ⟨hz, rfl⟩, q G1 H1 g1⟩
    | list ds =>
      obtain ⟨p, xs, rfl, h1, h2⟩ := z.lst s
      exact ⟨_, .inl ⟨xs, h1, by rw [dqAll_empty h2]⟩, q G1 H1 g1⟩
    | tuple ds =>
      obtain ⟨p, xs, rfl, h1, h2⟩ := z.tup s
      exact ⟨_, .inr (.inl ⟨xs, h1, by rw [dqAll_empty h2]⟩), q G1 H1 g1⟩
    | dict ds => exact q.elim
end
section
variable {P : Program} {w : World} {K : PySem.W.Frag} {mg : Str → Option Value} {base : Heap}
theorem has_zero {x qual : Str} {params : Arguments} {body : List Stmt} {scope : Scope} {kws : List (Str × V)} {f : Addr} {fd : FuncData} {N ps : List Str} {k : Nat} (F : FunD K x qual params body scope [] kws f fd) (S : FnScope N ps scope) (hm : mg x = some (.ref f))
    (hbd : ∀ (kV doc pm : Value) (an : Option Addr) (cdv ct : Value) (us : List Value), us.length = ps.length → bindArgs (PySem.W.fnOf x qual params body scope .none kV doc pm an cdv ct) ⟨us, []⟩ = pure (ps.zip us)) :
    Has P w K mg base k x ps.length (fun _ => .no) :=
  ⟨f, fd, ps, ⟨fun vs H Q E h => by obtain ⟨G, ds, _, _, hl, _⟩ := h; exact hl, fun A outer s H args us vs Q E _ _ _ _ h => by obtain ⟨G, ds, _, _, hl, q⟩ := h; exact q.elim⟩, hm, F.kp, F.bindsN hbd⟩
/-- the law's end -/
theorem law_sp {F : FF} {H : Hp} {a : Addr} {ns : List Int} (hS : SqL K H a (ns.map V.int)) (h : F [.list (ns.map PyData.int)] = .ok (.bool true)) : spF K mg 1 F [.ref a] H (fun v _ => v = .bl true) fun _ _ _ => False := by
  have hd : ∀ (ns : List Int), DqAll K H (ns.map V.int) (ns.map PyData.int) := fun ns => by
    induction ns with
    | nil => exact .nil
    | cons n ns ih => exact .cons (.int n) ih
  refine ⟨H, [.list (ns.map PyData.int)], Same.refl _, .cons (.lst hS (hd ns)) .nil, rfl, ?_⟩
  rw [h]
  intro v G' H' _ z
  cases z
  rfl
end
/-- the law's end, where what may be let out hangs on the world -/
theorem walk_ofEW {l : PySem.W.OpenLaw} {n k : Nat} {q : Program} {loose : List Str} {XP : (Str → Option Value) → Heap → Prop} {YP : World → Heap → Prop} {d : DefRec} {CX : World → CXT} {x : Str}
    (hn : l.most = some n) (hn2 : n ≤ sizeLine) (hdf : d.params.defaults = []) (hr : Room k callerA)
    (F : ∀ (w : World) (mg : Str → Option Value) (fa : Addr) (h : Heap), YP w h → h.Ns mainGlobals mg → mg d.name = some (.ref fa) →
      ∃ (K : PySem.W.Frag) (fd : FuncData) (sp : Sp), K.In h ∧ (∀ (s : Shared) (u : Value), BindsTo s fd ⟨[u], []⟩ [(x, u)]) ∧
        (∀ (H : Hp) (a : Addr) (ns : List Int), ns.length ≤ n → SqL K H a (ns.map V.int) → sp [.ref a] H (fun v _ => v = .bl true) fun _ _ _ => False) ∧
        ∀ base : Heap, K.In base → base.Ns mainGlobals mg → FnOk l.prog w K mg base (CX w) k fa fd [x] sp)
    (hCX : ∀ (w : World) (H : Hp) (s : Shared) (e : Value) (s' : Shared), CX w [] H s (fun _ _ _ => False) e s' → False) :
    PySem.W.WalkO q loose XP YP l.row.toRowW d [] (fun f vs => PySem.call f vs) := by
  refine Att.attach_call hn hdf fun w s0 s1 mg mb fa o pm cd doc a vs ns G Y ho hd hcd hmg hobj hints hlen hg => ?_
  obtain ⟨K, fd, sp, KX, hb, hsp, hF⟩ := F w mg fa _ Y G.T.g hmg
  exact law_call KX G.T.g G.T.b G.T.builtins G.T.nolimit hg hobj hints (Nat.le_trans hlen hn2) hr hF hb (fun H _ hS => hsp H a ns hlen hS) fun H e s' => hCX w H s1 e s'
end L2.Pz

namespace L2.Pz
open PySem PySem.Spec L2
/-! ### the operations on data, case by case -/
@[simp] theorem truB_b (b : Bool) : truB (.bool b) = .ok b := rfl
@[simp] theorem truD_n : truD .none = .ok false := rfl
@[simp] theorem truD_b (b : Bool) : truD (.bool b) = .ok b := rfl
@[simp] theorem truD_i (i : Int) : truD (.int i) = .ok (i != 0) := rfl
@[simp] theorem truD_s (y : Str) : truD (.str y) = .ok ((y.length : Int) != 0) := rfl
@[simp] theorem truD_l (ds : List PyData) : truD (.list ds) = .ok (!ds.isEmpty) := rfl
@[simp] theorem truD_t (ds : List PyData) : truD (.tuple ds) = .ok (!ds.isEmpty) := rfl
@[simp] theorem iterD_l (ds : List PyData) : iterD (.list ds) = .ok ds := rfl
@[simp] theorem iterD_t (ds : List PyData) : iterD (.tuple ds) = .ok ds := rfl
@[simp] theorem iterD_s (x : Str) : iterD (.str x) = .ok (signsD x) := rfl
@[simp] theorem range1D_i (j : Int) : range1D (.int j) = if j < 2 ^ 62 ∧ -(2 ^ 62) ≤ j then .ok (rangeD 0 j.toNat) else .no := rfl
@[simp] theorem addD_i (i j : Int) : addD (.int i) (.int j) = .ok (.int (i + j)) := rfl
@[simp] theorem addD_s (a b : Str) : addD (.str a) (.str b) = if a.length + b.length ≤ sizeLine then .ok (.str (a ++ b)) else .no := rfl
@[simp] theorem addD_l (a b : List PyData) : addD (.list a) (.list b) = if a.length + b.length ≤ sizeLine then .ok (.list (a ++ b)) else .no := rfl
@[simp] theorem addD_t (a b : List PyData) : addD (.tuple a) (.tuple b) = if a.length + b.length ≤ sizeLine then .ok (.tuple (a ++ b)) else .no := rfl
@[simp] theorem subD_i (i j : Int) : subD (.int i) (.int j) = .ok (.int (i - j)) := rfl
@[simp] theorem mulD_i (i j : Int) : mulD (.int i) (.int j) = if mulOk i j then .ok (.int (i * j)) else .no := rfl
@[simp] theorem fdivD_i (i j : Int) : fdivD (.int i) (.int j) = if 0 < j ∧ j.natAbs.log2 < 9000 then .ok (.int (i / j)) else .no := rfl
@[simp] theorem modD_i (i j : Int) : modD (.int i) (.int j) = if 0 < j then .ok (.int (i % j)) else .no := rfl
@[simp] theorem powD_i (i j : Int) : powD (.int i) (.int j) = if 0 ≤ j ∧ j ≤ 1000000 ∧ i.natAbs < 2 ^ 64 then .ok (.int (i ^ j.toNat)) else .no := rfl
@[simp] theorem negD_i (i : Int) : negD (.int i) = .ok (.int (-i)) := rfl
@[simp] theorem cmpI_i (r : Int → Int → Bool) (i j : Int) : cmpI r (.int i) (.int j) = .ok (.bool (r i j)) := rfl
@[simp] theorem eqD_ii (i j : Int) : eqD (.int i) (.int j) = .ok (.bool (decide (i = j))) := rfl
@[simp] theorem eqD_ss (i j : Str) : eqD (.str i) (.str j) = .ok (.bool (decide (i = j))) := rfl
@[simp] theorem eqD_bb (i j : Bool) : eqD (.bool i) (.bool j) = .ok (.bool (decide (i = j))) := rfl
@[simp] theorem eqD_nn : eqD .none .none = .ok (.bool true) := rfl
@[simp] theorem eqD_ni (i : Int) : eqD .none (.int i) = .ok (.bool false) := rfl
@[simp] theorem eqD_in (i : Int) : eqD (.int i) .none = .ok (.bool false) := rfl
@[simp] theorem eqD_is (i : Int) (x : Str) : eqD (.int i) (.str x) = .ok (.bool false) := rfl
@[simp] theorem eqD_si (i : Int) (x : Str) : eqD (.str x) (.int i) = .ok (.bool false) := rfl
@[simp] theorem eqD_sn (x : Str) : eqD (.str x) .none = .ok (.bool false) := rfl
@[simp] theorem eqD_ns (x : Str) : eqD .none (.str x) = .ok (.bool false) := rfl
@[simp] theorem neD_ii (i j : Int) : neD (.int i) (.int j) = .ok (.bool (!decide (i = j))) := rfl
@[simp] theorem neD_ss (i j : Str) : neD (.str i) (.str j) = .ok (.bool (!decide (i = j))) := rfl
@[simp] theorem neD_bb (i j : Bool) : neD (.bool i) (.bool j) = .ok (.bool (!decide (i = j))) := rfl
theorem eqD_tt {a b : List PyData} (h : (SeqAt.shaped (.tuple a) && SeqAt.shaped (.tuple b) && noDict (.tuple a) && noDict (.tuple b)) = true) : eqD (.tuple a) (.tuple b) = .ok (.bool (PyData.eqv (.tuple a) (.tuple b))) := by
  unfold eqD eqQ
  simp only [h, if_true]
theorem neD_tt {a b : List PyData} (h : (SeqAt.shaped (.tuple a) && SeqAt.shaped (.tuple b) && noDict (.tuple a) && noDict (.tuple b)) = true) : neD (.tuple a) (.tuple b) = .ok (.bool (!PyData.eqv (.tuple a) (.tuple b))) := by
  unfold neD eqQ
  simp only [h, if_true]
@[simp] theorem isD_bb (a b : Bool) : isD (.bool a) (.bool b) = .ok (.bool (decide (a = b))) := rfl
@[simp] theorem isD_nn : isD .none .none = .ok (.bool true) := rfl
@[simp] theorem isD_bn (b : Bool) : isD (.bool b) .none = .ok (.bool false) := rfl
@[simp] theorem isD_in (i : Int) : isD (.int i) .none = .ok (.bool false) := rfl
@[simp] theorem isD_sn (i : Str) : isD (.str i) .none = .ok (.bool false) := rfl
@[simp] theorem isD_ln (i : List PyData) : isD (.list i) .none = .ok (.bool false) := rfl
@[simp] theorem isD_tn (i : List PyData) : isD (.tuple i) .none = .ok (.bool false) := rfl
@[simp] theorem isnD_bb (a b : Bool) : isnD (.bool a) (.bool b) = .ok (.bool (!decide (a = b))) := rfl
@[simp] theorem isnD_nn : isnD .none .none = .ok (.bool false) := rfl
@[simp] theorem isnD_bn (b : Bool) : isnD (.bool b) .none = .ok (.bool true) := rfl
@[simp] theorem isnD_in (i : Int) : isnD (.int i) .none = .ok (.bool true) := rfl
@[simp] theorem isnD_sn (i : Str) : isnD (.str i) .none = .ok (.bool true) := rfl
@[simp] theorem isnD_ln (i : List PyData) : isnD (.list i) .none = .ok (.bool true) := rfl
@[simp] theorem isnD_tn (i : List PyData) : isnD (.tuple i) .none = .ok (.bool true) := rfl
@[simp] theorem flatD_n : flatD .none = true := rfl
@[simp] theorem flatD_b (b : Bool) : flatD (.bool b) = true := rfl
@[simp] theorem flatD_i (b : Int) : flatD (.int b) = true := rfl
@[simp] theorem flatD_s (b : Str) : flatD (.str b) = true := rfl
@[simp] theorem inD_ss (x y : Str) : inD (.str x) (.str y) = .ok (.bool (inS x y)) := rfl
@[simp] theorem ninD_ss (x y : Str) : ninD (.str x) (.str y) = .ok (.bool (!inS x y)) := rfl
theorem inD_t {x : PyData} {ds : List PyData} (h : (flatD x && ds.all flatD) = true) : inD x (.tuple ds) = .ok (.bool (inL x ds)) := by
  cases x <;> first | cases h | (unfold inD inQ; simp only [h, if_true])
theorem ninD_t {x : PyData} {ds : List PyData} (h : (flatD x && ds.all flatD) = true) : ninD x (.tuple ds) = .ok (.bool (!inL x ds)) := by
  cases x <;> first | cases h | (unfold ninD inQ; simp only [h, if_true])
theorem inD_l {x : PyData} {ds : List PyData} (h : (flatD x && ds.all flatD) = true) : inD x (.list ds) = .ok (.bool (inL x ds)) := by
  cases x <;> first | cases h | (unfold inD inQ; simp only [h, if_true])
theorem ninD_l {x : PyData} {ds : List PyData} (h : (flatD x && ds.all flatD) = true) : ninD x (.list ds) = .ok (.bool (!inL x ds)) := by
  cases x <;> first | cases h | (unfold ninD inQ; simp only [h, if_true])
@[simp] theorem inL_nil (x : PyData) : inL x [] = false := rfl
@[simp] theorem inL_cons (x y : PyData) (ds : List PyData) : inL x (y :: ds) = (eqF y x || inL x ds) := rfl
@[simp] theorem eqF_ii (i j : Int) : eqF (.int i) (.int j) = (i == j) := rfl
@[simp] theorem eqF_ss (i j : Str) : eqF (.str i) (.str j) = (i == j) := rfl
@[simp] theorem eqF_is (i : Int) (j : Str) : eqF (.int i) (.str j) = false := rfl
@[simp] theorem eqF_si (i : Int) (j : Str) : eqF (.str j) (.int i) = false := rfl
@[simp] theorem ixD_l (ds : List PyData) (i : Int) : ixD (.list ds) (.int i) = match atI ds i with
  | some d => .ok d
  | none => .no := rfl
@[simp] theorem ixD_t (ds : List PyData) (i : Int) : ixD (.tuple ds) (.int i) = match atI ds i with
  | some d => .ok d
  | none => .no := rfl
@[simp] theorem ixD_s (z : Str) (i : Int) : ixD (.str z) (.int i) = match atI z.cps.toList i with
  | some c => .ok (.str ⟨#[c]⟩)
  | none => .no := rfl
@[simp] theorem slD_s (z : Str) (l h : Option Int) : slD (.str z) l h = .ok (.str (cutS z l h)) := rfl
@[simp] theorem slD_l (z : List PyData) (l h : Option Int) : slD (.list z) l h = .ok (.list (cutL z l h)) := rfl
@[simp] theorem slD_t (z : List PyData) (l h : Option Int) : slD (.tuple z) l h = .ok (.tuple (cutL z l h)) := rfl
@[simp] theorem lenD_s (z : Str) : lenD (.str z) = .ok (.int z.length) := rfl
@[simp] theorem lenD_l (z : List PyData) : lenD (.list z) = .ok (.int z.length) := rfl
@[simp] theorem lenD_t (z : List PyData) : lenD (.tuple z) = .ok (.int z.length) := rfl
@[simp] theorem absD_i (i : Int) : absD (.int i) = .ok (.int (i.natAbs : Nat)) := rfl
@[simp] theorem max2D_i (i j : Int) : max2D (.int i) (.int j) = .ok (.int (max i j)) := rfl
@[simp] theorem min2D_i (i j : Int) : min2D (.int i) (.int j) = .ok (.int (min i j)) := rfl
@[simp] theorem divmodD_i (i j : Int) : divmodD (.int i) (.int j) = if 0 < j ∧ Builtin.divisionGoesByPylong i j = false then .ok (.tuple [.int (i / j), .int (i % j)]) else .no := rfl
@[simp] theorem intD_i (i : Int) : intD (.int i) = .ok (.int i) := rfl
@[simp] theorem intD_b (b : Bool) : intD (.bool b) = .ok (.int (if b then 1 else 0)) := rfl
@[simp] theorem strD_i (i : Int) : strD (.int i) = if i.natAbs.log2 < 1920 then .ok (.str (strI i)) else .no := rfl
@[simp] theorem bools_nil : bools [] = some [] := rfl
@[simp] theorem bools_cons (b : Bool) (ds : List PyData) : bools (.bool b :: ds) = (bools ds).map (b :: ·) := rfl
@[simp] theorem anyD_l (ds : List PyData) : anyD (.list ds) = match bools ds with
  | some bs => .ok (.bool (bs.any id))
  | none => .no := rfl
@[simp] theorem allD_l (ds : List PyData) : allD (.list ds) = match bools ds with
  | some bs => .ok (.bool (bs.all id))
  | none => .no := rfl
@[simp] theorem tupleD_l (ds : List PyData) : tupleD (.list ds) = .ok (.tuple ds) := rfl
@[simp] theorem tupleD_t (ds : List PyData) : tupleD (.tuple ds) = .ok (.tuple ds) := rfl
@[simp] theorem listD_l (ds : List PyData) : listD (.list ds) = .ok (.list ds) := rfl
@[simp] theorem listD_t (ds : List PyData) : listD (.tuple ds) = .ok (.list ds) := rfl
@[simp] theorem isiD_d (T : String) (d : PyData) : isiD T d = .ok (.bool (isiQ T d)) := rfl
@[simp] theorem isi2D_d (T U : String) (d : PyData) : isi2D T U d = .ok (.bool (isiQ T d || isiQ U d)) := rfl
@[simp] theorem isiQ_n (T : String) : isiQ T .none = (T == "NoneType") := rfl
@[simp] theorem isiQ_b (T : String) (b : Bool) : isiQ T (.bool b) = (T == "bool" || T == "int") := rfl
@[simp] theorem isiQ_i (T : String) (b : Int) : isiQ T (.int b) = (T == "int") := rfl
@[simp] theorem isiQ_s (T : String) (b : Str) : isiQ T (.str b) = (T == "str") := rfl
@[simp] theorem isiQ_l (T : String) (b : List PyData) : isiQ T (.list b) = (T == "list") := rfl
@[simp] theorem isiQ_t (T : String) (b : List PyData) : isiQ T (.tuple b) = (T == "tuple") := rfl
@[simp] theorem zipD_l (a b : List PyData) : zipD (.list a) (.list b) = .ok (List.zipWith pairD a b) := rfl
@[simp] theorem zipD_t (a b : List PyData) : zipD (.tuple a) (.tuple b) = .ok (List.zipWith pairD a b) := rfl
/-! ### texts by their codes -/
@[simp] theorem S_eq {a b : List Nat} : (S a = S b) ↔ (a = b) := by simp [S]
@[simp] theorem S_beq {a b : List Nat} : (S a == S b) = decide (a = b) := by
  by_cases h : a = b
  · subst h; simp
  · have : S a ≠ S b := fun z => h (S_eq.mp z)
    simp [h]
@[simp] theorem S_len (a : List Nat) : (S a).length = a.length := rfl
@[simp] theorem S_app (a b : List Nat) : S a ++ S b = S (a ++ b) := by
  show Str.append (S a) (S b) = S (a ++ b)
  simp [Str.append, S]
@[simp] theorem S_list (a : List Nat) : (S a).cps.toList = a := rfl
theorem S_one (c : Nat) : (⟨#[c]⟩ : Str) = S [c] := rfl
end L2.Pz

namespace L2.Pz.Fn
open PySem PySem.Spec PyProof.Rows L2 L2.Pz
noncomputable def b_is_whole : SF :=
    (sRet (eAnd (e1 (isiD "int") (eV 0)) (eAnd (eNot (e1 (isiD "bool") (eV 0))) (eCh leD leD (eV 1) (eV 0) (eV 2)))))
noncomputable def F_is_whole : FF := lock (fnF 3 b_is_whole)
noncomputable def b_is_number : SF :=
    (sSeq (sIf (bOr (bNot (bT (e1 (isiD "tuple") (eV 0)))) (bOr (bT (e2 neD (e1 lenD (eV 0)) (eC (.int 2)))) (bNot (bT (eCall F_is_whole [(e2 ixD (eV 0) (eC (.int 1))), (eC (.int 0)), (eC (.int 9))]))))) (sRet (eC (.bool false))) sNx)
    (sSeq (sIf (bOr (bNot (bT (e1 (isiD "int") (e2 ixD (eV 0) (eC (.int 0)))))) (bT (e1 (isiD "bool") (e2 ixD (eV 0) (eC (.int 0)))))) (sRet (eC (.bool false))) sNx)
    (sRet (eOr (e2 eqD (e2 ixD (eV 0) (eC (.int 1))) (eC (.int 0))) (e2 neD (e2 modD (e2 ixD (eV 0) (eC (.int 0))) (eC (.int 10))) (eC (.int 0)))))))
noncomputable def F_is_number : FF := lock (fnF 1 b_is_number)
noncomputable def L1_ten_to (ρ : En) : SR :=
    (sAsg (gN 1) (e2 mulD (eV 1) (eC (.int 10)))) ρ
noncomputable def b_ten_to : SF :=
    (sSeq (sAsg (gN 1) (eC (.int 1)))
    (sSeq (sFor (gN 2) (iR1 (eV 0)) L1_ten_to)
    (sRet (eV 1))))
noncomputable def F_ten_to : FF := lock (fnF 3 b_ten_to)
noncomputable def T1_normal (ρ : En) : Rs Bool :=
    (bAnd (bT (e2 gtD (eV 1) (eC (.int 0)))) (bT (e2 eqD (e2 modD (eV 0) (eC (.int 10))) (eC (.int 0))))) ρ
noncomputable def L1_normal (ρ : En) : SR :=
    (sSeq (sAsg (gN 0) (e2 fdivD (eV 0) (eC (.int 10))))
    (sAsg (gN 1) (e2 subD (eV 1) (eC (.int 1))))) ρ
noncomputable def b_normal : SF :=
    (sSeq (whL T1_normal L1_normal 1000)
    (sRet (eTup [(eV 0), (eV 1)])))
noncomputable def F_normal : FF := lock (fnF 2 b_normal)
noncomputable def b_sum_of : SF :=
    (sSeq (sAsg (gN 2) (e2 max2D (e2 ixD (eV 0) (eC (.int 1))) (e2 ixD (eV 1) (eC (.int 1)))))
    (sRet (eCall F_normal [(e2 addD (e2 mulD (e2 ixD (eV 0) (eC (.int 0))) (eCall F_ten_to [(e2 subD (eV 2) (e2 ixD (eV 0) (eC (.int 1))))])) (e2 mulD (e2 ixD (eV 1) (eC (.int 0))) (eCall F_ten_to [(e2 subD (eV 2) (e2 ixD (eV 1) (eC (.int 1))))]))), (eV 2)])))
noncomputable def F_sum_of : FF := lock (fnF 3 b_sum_of)
noncomputable def b_is_less : SF :=
    (sRet (e2 ltD (e2 ixD (eCall F_sum_of [(eV 0), (eTup [(e1 negD (e2 ixD (eV 1) (eC (.int 0)))), (e2 ixD (eV 1) (eC (.int 1)))])]) (eC (.int 0))) (eC (.int 0))))
noncomputable def F_is_less : FF := lock (fnF 2 b_is_less)
noncomputable def b__law_cell : SF :=
    (sSeq (sIf (bT (e2 ltD (eV 1) (e1 lenD (eV 0)))) (sRet (e2 ixD (eV 0) (eV 1))) sNx)
    (sRet (eC (.int 0))))
noncomputable def F__law_cell : FF := lock (fnF 2 b__law_cell)
noncomputable def b__law_mix : SF :=
    (sRet (e2 modD (e2 modD (e2 mulD (eV 0) (eC (.int 48271))) (eV 1)) (eV 2)))
noncomputable def F__law_mix : FF := lock (fnF 3 b__law_mix)
noncomputable def C1__law_same (rec_ : FF) (ρ : En) : Rs PyData :=
    (eCall rec_ [(eV 2), (eV 3)]) ρ
noncomputable def b__law_same (rec_ : FF) : SF :=
    (sSeq (sIf (bT (e1 (isiD "tuple") (eV 1))) (sSeq (sIf (bOr (bNot (bT (e1 (isiD "tuple") (eV 0)))) (bT (e2 neD (e1 lenD (eV 0)) (e1 lenD (eV 1))))) (sRet (eC (.bool false))) sNx)
    (sRet (e1 allD (eLc [2, 3] (iZ (eV 0) (eV 1)) (gT [(gN 2), (gN 3)]) bYes (C1__law_same rec_))))) sNx)
    (sSeq (sIf (bT (e2 isD (eV 1) (eC .none))) (sRet (e2 isD (eV 0) (eC .none))) sNx)
    (sSeq (sIf (bOr (bT (e1 (isiD "bool") (eV 1))) (bT (e1 (isiD "bool") (eV 0)))) (sRet (eAnd (e1 (isiD "bool") (eV 1)) (eAnd (e1 (isiD "bool") (eV 0)) (e2 eqD (eV 0) (eV 1))))) sNx)
    (sRet (eAnd (e1 (isi2D "int" "str") (eV 0)) (e2 eqD (eV 0) (eV 1)))))))
noncomputable def F__law_same : Nat → FF
  | 0 => fun _ => .no
  | k + 1 => lock (fnF 4 (b__law_same (F__law_same k)))
noncomputable def T1__law_normal (ρ : En) : Rs Bool :=
    (bAnd (bT (e2 gtD (eV 1) (eC (.int 0)))) (bT (e2 eqD (e2 modD (eV 0) (eC (.int 10))) (eC (.int 0))))) ρ
noncomputable def L1__law_normal (ρ : En) : SR :=
    (sSeq (sAsg (gN 0) (e2 fdivD (eV 0) (eC (.int 10))))
    (sAsg (gN 1) (e2 subD (eV 1) (eC (.int 1))))) ρ
noncomputable def b__law_normal : SF :=
    (sSeq (whL T1__law_normal L1__law_normal 1000)
    (sRet (eTup [(eV 0), (eV 1)])))
noncomputable def F__law_normal : FF := lock (fnF 2 b__law_normal)
noncomputable def b__law_number : SF :=
    (sSeq (sAsg (gN 1) (eCall F__law_mix [(eV 0), (eC (.int 9973)), (eC (.int 8))]))
    (sSeq (sAsg (gN 2) (eCall F__law_mix [(eV 0), (eC (.int 9967)), (eC (.int 10))]))
    (sSeq (sIf (bT (e2 eqD (eV 1) (eC (.int 0)))) (sRet (eTup [(e2 subD (eCall F__law_mix [(eV 0), (eC (.int 9949)), (eC (.int 41))]) (eC (.int 20))), (eC (.int 0))])) sNx)
    (sSeq (sIf (bT (e2 eqD (eV 1) (eC (.int 1)))) (sRet (eCall F__law_normal [(e2 mulD (e2 subD (eCall F__law_mix [(eV 0), (eC (.int 9941)), (eC (.int 3))]) (eC (.int 1))) (e2 subD (e2 powD (eC (.int 10)) (eC (.int 12))) (eC (.int 1)))), (eV 2)])) sNx)
    (sSeq (sIf (bT (e2 eqD (eV 1) (eC (.int 2)))) (sRet (eCall F__law_normal [(e2 mulD (e2 subD (eCall F__law_mix [(eV 0), (eC (.int 9931)), (eC (.int 19))]) (eC (.int 9))) (eC (.int 5))), (eV 2)])) sNx)
    (sSeq (sIf (bT (e2 eqD (eV 1) (eC (.int 3)))) (sRet (eTup [(e2 modD (eV 0) (e2 powD (eC (.int 10)) (eC (.int 15)))), (eC (.int 0))])) sNx)
    (sSeq (sIf (bT (e2 eqD (eV 1) (eC (.int 4)))) (sRet (eCall F__law_normal [(e2 addD (e2 mulD (eC (.int 995)) (e2 subD (eCall F__law_mix [(eV 0), (eC (.int 9929)), (eC (.int 21))]) (eC (.int 10)))) (eCall F__law_mix [(eV 0), (eC (.int 9923)), (eC (.int 9))])), (e2 modD (eV 2) (eC (.int 4)))])) sNx)
    (sSeq (sIf (bT (e2 eqD (eV 1) (eC (.int 5)))) (sRet (eCall F__law_normal [(e2 subD (e2 modD (e2 mulD (eV 0) (eC (.int 7919))) (e2 powD (eC (.int 10)) (eC (.int 20)))) (e2 mulD (eC (.int 5)) (e2 powD (eC (.int 10)) (eC (.int 19))))), (eV 2)])) sNx)
    (sRet (eCall F__law_normal [(e2 subD (eCall F__law_mix [(eV 0), (eC (.int 9907)), (eC (.int 9907))]) (eC (.int 4953))), (e2 modD (eV 2) (eC (.int 5)))]))))))))))
noncomputable def F__law_number : FF := lock (fnF 3 b__law_number)
noncomputable def L1__law_digits (ρ : En) : SR :=
    (sAsg (gN 1) (e2 mulD (eV 1) (eC (.int 10)))) ρ
noncomputable def b__law_digits : SF :=
    (sSeq (sAsg (gN 1) (e2 ixD (eV 0) (eC (.int 0))))
    (sSeq (sFor (gN 2) (iR1 (e2 subD (eC (.int 9)) (e2 ixD (eV 0) (eC (.int 1))))) L1__law_digits)
    (sRet (eV 1))))
noncomputable def F__law_digits : FF := lock (fnF 3 b__law_digits)
noncomputable def b_to_whole : SF :=
    (sSeq (sIf (bT (e2 ltD (eV 1) (eC (.int 0)))) (sSeq (sAsg (gN 0) (e1 negD (eV 0)))
    (sAsg (gN 1) (e1 negD (eV 1)))) sNx)
    (sSeq (sAsg (gT [(gN 3), (gN 4)]) (e2 divmodD (eV 0) (eV 1)))
    (sSeq (sIf (bOr (bT (e2 eqD (eV 4) (eC (.int 0)))) (bT (e2 eqD (eV 2) (eC (.str (S [100, 111, 119, 110])))))) (sRet (eV 3)) sNx)
    (sSeq (sIf (bT (e2 eqD (eV 2) (eC (.str (S [117, 112]))))) (sRet (e2 addD (eV 3) (eC (.int 1)))) sNx)
    (sSeq (sIf (bT (e2 eqD (eV 2) (eC (.str (S [110, 111, 117, 103, 104, 116]))))) (sRet (e2 addD (eV 3) (e1 intD (e2 ltD (eV 3) (eC (.int 0)))))) sNx)
    (sSeq (sIf (bT (e2 neD (e2 mulD (eC (.int 2)) (eV 4)) (eV 1))) (sRet (e2 addD (eV 3) (e1 intD (e2 gtD (e2 mulD (eC (.int 2)) (eV 4)) (eV 1))))) sNx)
    (sSeq (sIf (bT (e2 eqD (eV 2) (eC (.str (S [101, 118, 101, 110]))))) (sRet (e2 addD (eV 3) (e2 modD (eV 3) (eC (.int 2))))) sNx)
    (sRet (e2 addD (eV 3) (e1 intD (e2 geD (eV 3) (eC (.int 0)))))))))))))
noncomputable def F_to_whole : FF := lock (fnF 5 b_to_whole)
noncomputable def b_made : SF :=
    (sRet (eCall F_normal [(eCall F_to_whole [(e2 mulD (eV 0) (eCall F_ten_to [(eV 2)])), (eV 1), (eV 3)]), (eV 2)]))
noncomputable def F_made : FF := lock (fnF 4 b_made)
noncomputable def L1__law_ten (ρ : En) : SR :=
    (sAsg (gN 1) (e2 mulD (eV 1) (eC (.int 10)))) ρ
noncomputable def b__law_ten : SF :=
    (sSeq (sAsg (gN 1) (eC (.int 1)))
    (sSeq (sFor (gN 2) (iR1 (eV 0)) L1__law_ten)
    (sRet (eV 1))))
noncomputable def F__law_ten : FF := lock (fnF 3 b__law_ten)
noncomputable def b__law_whole : SF :=
    (sSeq (sAsg (gN 3) (e2 fdivD (eV 0) (eV 1)))
    (sSeq (sAsg (gN 4) (e2 subD (eV 0) (e2 mulD (eV 3) (eV 1))))
    (sSeq (sIf (bT (e2 eqD (eV 4) (eC (.int 0)))) (sRet (eV 3)) sNx)
    (sSeq (sIf (bT (e2 eqD (eV 2) (eC (.str (S [110, 111, 117, 103, 104, 116]))))) (sAsg (gN 2) (e2 ixD (eTup [(eC (.str (S [100, 111, 119, 110]))), (eC (.str (S [117, 112])))]) (e1 intD (e2 ltD (eV 0) (eC (.int 0)))))) sNx)
    (sSeq (sIf (bT (e2 inD (eV 2) (eTup [(eC (.str (S [117, 112]))), (eC (.str (S [100, 111, 119, 110])))]))) (sRet (e2 addD (eV 3) (e1 intD (e2 eqD (eV 2) (eC (.str (S [117, 112]))))))) sNx)
    (sSeq (sIf (bAnd (bT (e2 eqD (e2 mulD (eC (.int 2)) (eV 4)) (eV 1))) (bT (e2 eqD (eV 2) (eC (.str (S [101, 118, 101, 110])))))) (sRet (e2 addD (eV 3) (e1 intD (e2 eqD (e2 modD (eV 3) (eC (.int 2))) (eC (.int 1)))))) sNx)
    (sSeq (sIf (bT (e2 eqD (e2 mulD (eC (.int 2)) (eV 4)) (eV 1))) (sRet (e2 addD (eV 3) (e1 intD (e2 gtD (eV 0) (eC (.int 0)))))) sNx)
    (sRet (e2 addD (eV 3) (e1 intD (e2 gtD (e2 mulD (eC (.int 2)) (eV 4)) (eV 1))))))))))))
noncomputable def F__law_whole : FF := lock (fnF 5 b__law_whole)
noncomputable def b__law_made (rec_ : FF) : SF :=
    (sSeq (sIf (bT (e2 ltD (eV 1) (eC (.int 0)))) (sRet (eCall rec_ [(e1 negD (eV 0)), (e1 negD (eV 1)), (eV 2), (eV 3)])) sNx)
    (sRet (eCall F__law_normal [(eCall F__law_whole [(e2 mulD (eV 0) (eCall F__law_ten [(eV 2)])), (eV 1), (eV 3)]), (eV 2)])))
noncomputable def F__law_made : Nat → FF
  | 0 => fun _ => .no
  | k + 1 => lock (fnF 4 (b__law_made (F__law_made k)))
noncomputable def b_to_step : SF :=
    (sRet (eCall F_to_whole [(e2 mulD (eV 0) (eCall F_ten_to [(e1 negD (eV 2))])), (e2 mulD (eV 1) (eCall F_ten_to [(eV 2)])), (eV 3)]))
noncomputable def F_to_step : FF := lock (fnF 4 b_to_step)
noncomputable def b_height_for : SF :=
    (sSeq (sAsg (gN 0) (e1 absD (eV 0)))
    (sSeq (sAsg (gN 3) (e2 subD (e2 subD (e1 lenD (e1 strD (eV 0))) (e1 lenD (e1 strD (eV 1)))) (eV 2)))
    (sSeq (sIf (bT (e2 geD (e2 mulD (eV 0) (eCall F_ten_to [(e1 negD (eV 3))])) (e2 mulD (e2 mulD (eV 1) (eCall F_ten_to [(eV 3)])) (eCall F_ten_to [(eV 2)])))) (sAsg (gN 3) (e2 addD (eV 3) (eC (.int 1)))) sNx)
    (sRet (eV 3)))))
noncomputable def F_height_for : FF := lock (fnF 4 b_height_for)
noncomputable def b_to_figures : SF :=
    (sSeq (sIf (bT (e2 eqD (eV 0) (eC (.int 0)))) (sRet (eTup [(eC (.int 0)), (eC (.int 0))])) sNx)
    (sSeq (sAsg (gN 4) (eCall F_height_for [(eV 0), (eV 1), (eV 2)]))
    (sRet (eTup [(eCall F_to_step [(eV 0), (eV 1), (eV 4), (eV 3)]), (eV 4)]))))
noncomputable def F_to_figures : FF := lock (fnF 5 b_to_figures)
noncomputable def b_rounded : SF :=
    (sSeq (sAsg (gT [(gN 3), (gN 4)]) (eV 0))
    (sSeq (sIf (bT (e2 eqD (e2 ixD (eV 1) (eC (.int 0))) (eC (.str (S [112, 108, 97, 99, 101, 115]))))) (sRet (eCall F_made [(eV 3), (eCall F_ten_to [(eV 4)]), (e2 ixD (eV 1) (eC (.int 2))), (eV 2)])) sNx)
    (sSeq (sAsg (gT [(gN 5), (gN 6)]) (eCall F_to_figures [(eV 3), (eCall F_ten_to [(eV 4)]), (e2 ixD (eV 1) (eC (.int 1))), (eV 2)]))
    (sSeq (sIf (bT (e2 geD (eV 6) (eC (.int 0)))) (sRet (eTup [(e2 mulD (eV 5) (eCall F_ten_to [(eV 6)])), (eC (.int 0))])) sNx)
    (sRet (eCall F_normal [(eV 5), (e1 negD (eV 6))]))))))
noncomputable def F_rounded : FF := lock (fnF 7 b_rounded)
noncomputable def b__law_form : SF :=
    (sSeq (sIf (bT (e2 eqD (e2 modD (eV 0) (eC (.int 3))) (eC (.int 0)))) (sRet (eTup [(eC (.str (S [102, 105, 103, 117, 114, 101, 115]))), (e2 addD (eC (.int 1)) (eCall F__law_mix [(eV 0), (eC (.int 9901)), (eC (.int 9))]))])) sNx)
    (sSeq (sAsg (gN 1) (eCall F__law_mix [(eV 0), (eC (.int 9887)), (eC (.int 5))]))
    (sRet (eTup [(eC (.str (S [112, 108, 97, 99, 101, 115]))), (eV 1), (e2 min2D (eC (.int 9)) (e2 addD (eV 1) (eCall F__law_mix [(eV 0), (eC (.int 9883)), (eC (.int 4))])))]))))
noncomputable def F__law_form : FF := lock (fnF 2 b__law_form)
noncomputable def T1__law_height (ρ : En) : Rs Bool :=
    (bT (e2 ltD (e2 mulD (e1 absD (eV 0)) (eCall F__law_ten [(e1 negD (eV 3))])) (e2 mulD (eV 4) (eCall F__law_ten [(eV 3)])))) ρ
noncomputable def L1__law_height (ρ : En) : SR :=
    (sAsg (gN 3) (e2 subD (eV 3) (eC (.int 1)))) ρ
noncomputable def b__law_height : SF :=
    (sSeq (sAsg (gN 3) (eC (.int 25)))
    (sSeq (sAsg (gN 4) (e2 mulD (eV 1) (eCall F__law_ten [(e2 subD (eV 2) (eC (.int 1)))])))
    (sSeq (whL T1__law_height L1__law_height 1000)
    (sRet (eV 3)))))
noncomputable def F__law_height : FF := lock (fnF 5 b__law_height)
noncomputable def b__law_figures : SF :=
    (sSeq (sIf (bT (e2 eqD (eV 0) (eC (.int 0)))) (sRet (eTup [(eC (.int 0)), (eC (.int 0))])) sNx)
    (sSeq (sAsg (gN 4) (eCall F__law_height [(eV 0), (eV 1), (eV 2)]))
    (sSeq (sAsg (gN 5) (eCall F__law_whole [(e2 mulD (eV 0) (eCall F__law_ten [(e1 negD (eV 4))])), (e2 mulD (eV 1) (eCall F__law_ten [(eV 4)])), (eV 3)]))
    (sSeq (sIf (bT (e2 gtD (eV 4) (eC (.int 0)))) (sRet (eTup [(e2 mulD (eV 5) (eCall F__law_ten [(eV 4)])), (eC (.int 0))])) sNx)
    (sRet (eCall F__law_normal [(eV 5), (e1 negD (eV 4))]))))))
noncomputable def F__law_figures : FF := lock (fnF 6 b__law_figures)
noncomputable def b__law_rounded : SF :=
    (sSeq (sIf (bT (e2 eqD (e2 ixD (eV 1) (eC (.int 0))) (eC (.str (S [112, 108, 97, 99, 101, 115]))))) (sRet (eCall (F__law_made 2) [(e2 ixD (eV 0) (eC (.int 0))), (eCall F__law_ten [(e2 ixD (eV 0) (eC (.int 1)))]), (e2 ixD (eV 1) (eC (.int 2))), (eV 2)])) sNx)
    (sRet (eCall F__law_figures [(e2 ixD (eV 0) (eC (.int 0))), (eCall F__law_ten [(e2 ixD (eV 0) (eC (.int 1)))]), (e2 ixD (eV 1) (eC (.int 1))), (eV 2)])))
noncomputable def F__law_rounded : FF := lock (fnF 3 b__law_rounded)
noncomputable def C1_is_sizes (ρ : En) : Rs PyData :=
    (eCall F_is_whole [(eV 1), (eC (.int 1)), (eC (.int 5))]) ρ
noncomputable def b_is_sizes : SF :=
    (sRet (eAnd (e1 (isiD "tuple") (eV 0)) (eAnd (e2 inD (e1 lenD (eV 0)) (eTup [(eC (.int 1)), (eC (.int 2))])) (e1 allD (eLc [1] (iS (eV 0)) (gN 1) bYes C1_is_sizes)))))
noncomputable def F_is_sizes : FF := lock (fnF 2 b_is_sizes)
noncomputable def C1_is_manner (ρ : En) : Rs PyData :=
    (e1 (isiD "str") (e2 ixD (eV 0) (eV 6))) ρ
noncomputable def b_is_manner : SF :=
    (sSeq (sIf (bOr (bNot (bT (e1 (isiD "tuple") (eV 0)))) (bOr (bT (e2 neD (e1 lenD (eV 0)) (eC (.int 5)))) (bNot (bT (e1 allD (eLc [6] (iS (eTup [(eC (.int 0)), (eC (.int 1)), (eC (.int 3))])) (gN 6) bYes C1_is_manner)))))) (sRet (eC (.bool false))) sNx)
    (sSeq (sAsg (gT [(gN 1), (gN 2), (gN 3), (gN 4), (gN 5)]) (eV 0))
    (sSeq (sIf (bOr (bT (e2 ninD (eV 1) (eTup [(eC (.str (S [46]))), (eC (.str (S [44]))), (eC (.str (S [39]))), (eC (.str (S [59])))]))) (bOr (bT (e2 ninD (eV 2) (eTup [(eC (.str (S []))), (eC (.str (S [46]))), (eC (.str (S [44]))), (eC (.str (S [39]))), (eC (.str (S [59]))), (eC (.str (S [32]))), (eC (.str (S [95])))]))) (bT (e2 eqD (eV 2) (eV 1))))) (sRet (eC (.bool false))) sNx)
    (sRet (eAnd (eCall F_is_sizes [(eV 3)]) (eAnd (e2 inD (eV 4) (eTup [(eC (.str (S [97, 104, 101, 97, 100]))), (eC (.str (S [98, 101, 104, 105, 110, 100]))), (eC (.str (S [98, 114, 97, 99, 107, 101, 116, 115])))])) (eCall F_is_whole [(eV 5), (eC (.int 1)), (eC (.int 4))])))))))
noncomputable def F_is_manner : FF := lock (fnF 7 b_is_manner)
noncomputable def C1__law_manner (ρ : En) : Rs PyData :=
    (eV 4) ρ
noncomputable def b__law_manner : SF :=
    (sSeq (sAsg (gN 1) (e2 ixD (eC (.str (S [46, 44, 39, 59]))) (eCall F__law_mix [(eV 0), (eC (.int 9859)), (eC (.int 4))])))
    (sSeq (sAsg (gN 2) (e2 ixD (eLc [4] (iS (eTup [(eC (.str (S []))), (eC (.str (S [46]))), (eC (.str (S [44]))), (eC (.str (S [39]))), (eC (.str (S [59]))), (eC (.str (S [32]))), (eC (.str (S [95])))])) (gN 4) (bT (e2 neD (eV 4) (eV 1))) C1__law_manner) (eCall F__law_mix [(eV 0), (eC (.int 9857)), (eC (.int 6))])))
    (sSeq (sAsg (gN 3) (eTup [(e2 addD (eC (.int 1)) (eCall F__law_mix [(eV 0), (eC (.int 9851)), (eC (.int 5))]))]))
    (sSeq (sIf (bT (e2 eqD (eCall F__law_mix [(eV 0), (eC (.int 9839)), (eC (.int 3))]) (eC (.int 0)))) (sAsg (gN 3) (e2 addD (eV 3) (eTup [(e2 addD (eC (.int 1)) (eCall F__law_mix [(eV 0), (eC (.int 9833)), (eC (.int 5))]))]))) sNx)
    (sSeq (sAsg (gN 4) (e2 ixD (eTup [(eC (.str (S [97, 104, 101, 97, 100]))), (eC (.str (S [98, 101, 104, 105, 110, 100]))), (eC (.str (S [98, 114, 97, 99, 107, 101, 116, 115])))]) (eCall F__law_mix [(eV 0), (eC (.int 9829)), (eC (.int 3))])))
    (sRet (eTup [(eV 1), (eV 2), (eV 3), (eV 4), (e2 addD (eC (.int 1)) (eCall F__law_mix [(eV 0), (eC (.int 9817)), (eC (.int 4))]))])))))))
noncomputable def F__law_manner : FF := lock (fnF 5 b__law_manner)
noncomputable def b_signed : SF :=
    (sSeq (sIf (bT (e2 eqD (e2 ixD (eV 1) (eC (.int 3))) (eC (.str (S [97, 104, 101, 97, 100]))))) (sRet (e2 addD (eC (.str (S [45]))) (eV 0))) sNx)
    (sSeq (sIf (bT (e2 eqD (e2 ixD (eV 1) (eC (.int 3))) (eC (.str (S [98, 101, 104, 105, 110, 100]))))) (sRet (e2 addD (eV 0) (eC (.str (S [45]))))) sNx)
    (sRet (e2 addD (e2 addD (eC (.str (S [40]))) (eV 0)) (eC (.str (S [41])))))))
noncomputable def F_signed : FF := lock (fnF 2 b_signed)
noncomputable def b__law_way : SF :=
    (sRet (e2 ixD (eTup [(eC (.str (S [101, 118, 101, 110]))), (eC (.str (S [97, 119, 97, 121]))), (eC (.str (S [110, 111, 117, 103, 104, 116]))), (eC (.str (S [117, 112]))), (eC (.str (S [100, 111, 119, 110])))]) (eCall F__law_mix [(eV 0), (eC (.int 9871)), (eC (.int 5))])))
noncomputable def F__law_way : FF := lock (fnF 1 b__law_way)
noncomputable def T1__law_grouped (ρ : En) : Rs Bool :=
    (bT (e2 neD (eV 8) (eC (.str (S []))))) ρ
noncomputable def L1__law_grouped (ρ : En) : SR :=
    (sSeq (sAsg (gN 7) (e2 addD (e2 addD (eSl (eV 8) (some (e1 negD (e2 ixD (eV 4) (e1 negD (eC (.int 1)))))) none) (eV 3)) (eV 7)))
    (sAsg (gN 8) (eSl (eV 8) none (some (e1 negD (e2 ixD (eV 4) (e1 negD (eC (.int 1))))))))) ρ
noncomputable def b__law_grouped : SF :=
    (sSeq (sAsg (gT [(gN 2), (gN 3), (gN 4), (gN 5), (gN 6)]) (eV 1))
    (sSeq (sIf (bT (e2 ltD (e1 lenD (eV 0)) (e2 addD (e2 ixD (eV 4) (eC (.int 0))) (eV 6)))) (sRet (eV 0)) sNx)
    (sSeq (sAsg (gN 7) (eSl (eV 0) (some (e1 negD (e2 ixD (eV 4) (eC (.int 0))))) none))
    (sSeq (sAsg (gN 8) (eSl (eV 0) none (some (e1 negD (e2 ixD (eV 4) (eC (.int 0)))))))
    (sSeq (whL T1__law_grouped L1__law_grouped 1000)
    (sRet (eV 7)))))))
noncomputable def F__law_grouped : FF := lock (fnF 9 b__law_grouped)
noncomputable def C1_are_figures (ρ : En) : Rs PyData :=
    (e2 inD (eV 1) (eC (.str (S [48, 49, 50, 51, 52, 53, 54, 55, 56, 57])))) ρ
noncomputable def b_are_figures : SF :=
    (sRet (eAnd (e2 neD (eV 0) (eC (.str (S [])))) (e1 allD (eLc [1] (iS (eV 0)) (gN 1) bYes C1_are_figures))))
noncomputable def F_are_figures : FF := lock (fnF 2 b_are_figures)
noncomputable def b_unsigned : SF :=
    (sSeq (sIf (bAnd (bT (e2 eqD (e2 ixD (eV 1) (eC (.int 3))) (eC (.str (S [97, 104, 101, 97, 100]))))) (bT (e2 eqD (eSl (eV 0) none (some (eC (.int 1)))) (eC (.str (S [45])))))) (sRet (eTup [(eSl (eV 0) (some (eC (.int 1))) none), (eC (.bool true))])) sNx)
    (sSeq (sIf (bAnd (bT (e2 eqD (e2 ixD (eV 1) (eC (.int 3))) (eC (.str (S [98, 101, 104, 105, 110, 100]))))) (bT (e2 eqD (eSl (eV 0) (some (e1 negD (eC (.int 1)))) none) (eC (.str (S [45])))))) (sRet (eTup [(eSl (eV 0) none (some (e1 negD (eC (.int 1))))), (eC (.bool true))])) sNx)
    (sSeq (sIf (bAnd (bT (e2 eqD (e2 ixD (eV 1) (eC (.int 3))) (eC (.str (S [98, 114, 97, 99, 107, 101, 116, 115]))))) (bAnd (bT (e2 eqD (eSl (eV 0) none (some (eC (.int 1)))) (eC (.str (S [40]))))) (bT (e2 eqD (eSl (eV 0) (some (e1 negD (eC (.int 1)))) none) (eC (.str (S [41]))))))) (sRet (eTup [(eSl (eV 0) (some (eC (.int 1))) (some (e1 negD (eC (.int 1))))), (eC (.bool true))])) sNx)
    (sRet (eTup [(eV 0), (eC (.bool false))])))))
noncomputable def F_unsigned : FF := lock (fnF 2 b_unsigned)
noncomputable def b__law_changed : SF :=
    (sSeq (sAsg (gN 3) (eCall F__law_mix [(eV 1), (eC (.int 9811)), (e2 addD (e1 lenD (eV 0)) (eC (.int 1)))]))
    (sSeq (sAsg (gN 4) (e2 ixD (eV 2) (eCall F__law_mix [(eV 1), (eC (.int 9803)), (e1 lenD (eV 2))])))
    (sSeq (sAsg (gN 5) (eCall F__law_mix [(eV 1), (eC (.int 9791)), (eC (.int 3))]))
    (sSeq (sIf (bT (e2 eqD (eV 5) (eC (.int 0)))) (sRet (e2 addD (e2 addD (eSl (eV 0) none (some (eV 3))) (eV 4)) (eSl (eV 0) (some (eV 3)) none))) sNx)
    (sSeq (sIf (bT (e2 eqD (eV 5) (eC (.int 1)))) (sRet (e2 addD (eSl (eV 0) none (some (eV 3))) (eSl (eV 0) (some (e2 addD (eV 3) (eC (.int 1)))) none))) sNx)
    (sRet (e2 addD (e2 addD (eSl (eV 0) none (some (eV 3))) (eV 4)) (eSl (eV 0) (some (e2 addD (eV 3) (eC (.int 1)))) none))))))))
noncomputable def F__law_changed : FF := lock (fnF 6 b__law_changed)
noncomputable def b__law_texts : SF :=
    (sSeq (sAsg (gT [(gN 1), (gN 2), (gN 3), (gN 4), (gN 5)]) (eV 0))
    (sSeq (sAsg (gN 6) (eLst [(eC (.str (S []))), (eC (.str (S [45]))), (eV 1), (e2 addD (eC (.str (S [46]))) (eV 1)), (eC (.str (S [48, 48]))), (eC (.str (S [48, 49]))), (e2 addD (eC (.str (S [48]))) (eV 1))]))
    (sSeq (sAsg (gN 6) (e2 addD (eV 6) (eLst [(e2 addD (eV 1) (eC (.str (S [53])))), (e2 addD (e2 addD (e2 addD (e2 addD (eC (.str (S [49]))) (eV 1)) (eC (.str (S [50])))) (eV 1)) (eC (.str (S [51])))), (eC (.str (S [43, 49]))), (eC (.str (S [32, 49]))), (eC (.str (S [49, 32]))), (eC (.str (S [97])))])))
    (sSeq (sAsg (gN 6) (e2 addD (eV 6) (eLst [(e2 addD (e2 addD (eC (.str (S [49]))) (eV 1)) (eC (.str (S [48, 49, 50, 51, 52, 53, 54, 55, 56, 57])))), (eC (.str (S [45, 45, 49]))), (eC (.str (S [40, 49]))), (eC (.str (S [49, 41]))), (eC (.str (S [40, 40, 49, 41, 41]))), (eC (.str (S [45, 40, 49, 41])))])))
    (sSeq (sAsg (gN 6) (e2 addD (eV 6) (eLst [(eC (.str (S [40, 45, 49, 41]))), (eC (.str (S [40, 41]))), (eC (.str (S [49, 101, 53]))), (eC (.str (S [49, 45, 50]))), (eC (.str (S [49, 45, 45])))])))
    (sSeq (sAsg (gN 7) (eLst [(eC (.str (S [45, 49]))), (eC (.str (S [40, 49, 41]))), (eC (.str (S [48, 45])))]))
    (sSeq (sIf (bT (e2 eqD (eV 4) (eC (.str (S [97, 104, 101, 97, 100]))))) (sAsg (gN 7) (eLst [(eC (.str (S [49, 45]))), (eC (.str (S [40, 49, 41]))), (eC (.str (S [45, 48]))), (e2 addD (e2 addD (eC (.str (S [45, 48]))) (eV 1)) (eC (.str (S [48]))))])) sNx)
    (sSeq (sIf (bT (e2 eqD (eV 4) (eC (.str (S [98, 114, 97, 99, 107, 101, 116, 115]))))) (sAsg (gN 7) (eLst [(eC (.str (S [45, 49]))), (eC (.str (S [49, 45]))), (eC (.str (S [40, 48, 41])))])) sNx)
    (sSeq (sIf (bT (e2 neD (eV 2) (eC (.str (S []))))) (sSeq (sAsg (gN 6) (e2 addD (eV 6) (eLst [(e2 addD (eV 2) (eC (.str (S [49])))), (e2 addD (eC (.str (S [49]))) (eV 2)), (e2 addD (eC (.str (S [49]))) (eV 2))])))
    (sSeq (sAsg (gN 6) (e2 addD (eV 6) (eLst [(e2 addD (e2 addD (e2 addD (eC (.str (S [49]))) (eV 2)) (eV 2)) (eC (.str (S [50])))), (e2 addD (e2 addD (eC (.str (S [48]))) (eV 2)) (eC (.str (S [48, 48, 48, 48, 48, 48]))))])))
    (sAsg (gN 6) (e2 addD (eV 6) (eLst [(e2 addD (e2 addD (e2 addD (e2 addD (eC (.str (S [49]))) (eV 1)) (eC (.str (S [48])))) (eV 2)) (eC (.str (S [48]))))]))))) sNx)
    (sRet (e2 addD (eV 6) (eV 7))))))))))))
noncomputable def F__law_texts : FF := lock (fnF 8 b__law_texts)
noncomputable def b_figures_ahead : SF :=
    (sRet (e1 lenD (e1 strD (e2 fdivD (e1 absD (e2 ixD (eV 0) (eC (.int 0)))) (eCall F_ten_to [(e2 addD (e2 ixD (eV 0) (eC (.int 1))) (eV 1))])))))
noncomputable def F_figures_ahead : FF := lock (fnF 2 b_figures_ahead)
noncomputable def b_led : SF :=
    (sSeq (sAsg (gN 4) (e2 max2D (eV 2) (eCall F_figures_ahead [(eV 0), (eV 1)])))
    (sRet (eCall F_to_figures [(e2 ixD (eV 0) (eC (.int 0))), (eCall F_ten_to [(e2 addD (e2 ixD (eV 0) (eC (.int 1))) (eV 1))]), (eV 4), (eV 3)])))
noncomputable def F_led : FF := lock (fnF 5 b_led)
noncomputable def b__law_led : SF :=
    (sSeq (sAsg (gN 4) (eCall F__law_ten [(e2 addD (e2 ixD (eV 0) (eC (.int 1))) (eV 1))]))
    (sRet (eCall F__law_figures [(e2 ixD (eV 0) (eC (.int 0))), (eV 4), (e2 max2D (eV 2) (e1 lenD (e1 strD (e2 fdivD (e1 absD (e2 ixD (eV 0) (eC (.int 0)))) (eV 4))))), (eV 3)])))
noncomputable def F__law_led : FF := lock (fnF 5 b__law_led)
noncomputable def T1__law_short (ρ : En) : Rs Bool :=
    (bAnd (bT (e2 ltD (e2 addD (eV 7) (eC (.int 1))) (e1 lenD (eV 2)))) (bT (e2 geD (e1 absD (eV 5)) (eCall F__law_ten [(e2 addD (eV 6) (e2 ixD (e2 ixD (eV 2) (e2 addD (eV 7) (eC (.int 1)))) (eC (.int 0))))])))) ρ
noncomputable def L1__law_short (ρ : En) : SR :=
    (sAsg (gN 7) (e2 addD (eV 7) (eC (.int 1)))) ρ
noncomputable def b__law_short : SF :=
    (sSeq (sAsg (gT [(gN 5), (gN 6)]) (eV 0))
    (sSeq (sAsg (gN 7) (eC (.int 0)))
    (sSeq (whL T1__law_short L1__law_short 1000)
    (sSeq (sAsg (gN 8) (eCall F__law_led [(eV 0), (e2 ixD (e2 ixD (eV 2) (eV 7)) (eC (.int 0))), (eV 3), (eV 4)]))
    (sSeq (sIf (bT (e2 ltD (e2 addD (eV 7) (eC (.int 1))) (e1 lenD (eV 2)))) (sSeq (sAsg (gN 9) (e2 subD (e2 ixD (e2 ixD (eV 2) (e2 addD (eV 7) (eC (.int 1)))) (eC (.int 0))) (e2 ixD (e2 ixD (eV 2) (eV 7)) (eC (.int 0)))))
    (sIf (bT (e2 geD (e1 absD (e2 ixD (eV 8) (eC (.int 0)))) (eCall F__law_ten [(e2 addD (eV 9) (e2 ixD (eV 8) (eC (.int 1))))]))) (sSeq (sAsg (gN 7) (e2 addD (eV 7) (eC (.int 1))))
    (sAsg (gN 8) (eCall F__law_led [(eV 0), (e2 ixD (e2 ixD (eV 2) (eV 7)) (eC (.int 0))), (eV 3), (eV 4)]))) sNx)) sNx)
    (sRet (eTup [(eV 8), (e2 ixD (eV 2) (eV 7))])))))))
noncomputable def F__law_short : FF := lock (fnF 10 b__law_short)
noncomputable def b_is_test (rec_ : FF) : SF :=
    (sSeq (sIf (bOr (bT (e2 eqD (eV 1) (eC (.int 0)))) (bOr (bNot (bT (e1 (isiD "tuple") (eV 0)))) (bOr (bT (e2 eqD (e1 lenD (eV 0)) (eC (.int 0)))) (bNot (bT (e1 (isiD "str") (e2 ixD (eV 0) (eC (.int 0))))))))) (sRet (eC (.bool false))) sNx)
    (sSeq (sAsg (gN 2) (e2 ixD (eV 0) (eC (.int 0))))
    (sSeq (sIf (bT (e2 inD (eV 2) (eTup [(eC (.str (S [97, 108, 108]))), (eC (.str (S [119, 104, 111, 108, 101])))]))) (sRet (e2 eqD (e1 lenD (eV 0)) (eC (.int 1)))) sNx)
    (sSeq (sIf (bT (e2 eqD (eV 2) (eC (.str (S [105, 115]))))) (sRet (eAnd (e2 eqD (e1 lenD (eV 0)) (eC (.int 2))) (eCall F_is_whole [(e2 ixD (eV 0) (eC (.int 1))), (eC (.int 0)), (eC (.int 99))]))) sNx)
    (sSeq (sIf (bT (e2 eqD (eV 2) (eC (.str (S [101, 110, 100, 115]))))) (sSeq (sIf (bOr (bT (e2 neD (e1 lenD (eV 0)) (eC (.int 4)))) (bNot (bT (eCall F_is_whole [(e2 ixD (eV 0) (eC (.int 1))), (eC (.int 1)), (eC (.int 2))])))) (sRet (eC (.bool false))) sNx)
    (sSeq (sAsg (gN 3) (e2 addD (eC (.int 9)) (e2 mulD (eC (.int 90)) (e1 intD (e2 eqD (e2 ixD (eV 0) (eC (.int 1))) (eC (.int 2)))))))
    (sRet (eAnd (eCall F_is_whole [(e2 ixD (eV 0) (eC (.int 3))), (eC (.int 0)), (eV 3)]) (eCall F_is_whole [(e2 ixD (eV 0) (eC (.int 2))), (eC (.int 0)), (e2 ixD (eV 0) (eC (.int 3)))]))))) sNx)
    (sSeq (sIf (bT (e2 eqD (eV 2) (eC (.str (S [110, 111, 116]))))) (sRet (eAnd (e2 eqD (e1 lenD (eV 0)) (eC (.int 2))) (eCall rec_ [(e2 ixD (eV 0) (eC (.int 1))), (e2 subD (eV 1) (eC (.int 1)))]))) sNx)
    (sRet (eAnd (e2 inD (eV 2) (eTup [(eC (.str (S [97, 110, 100]))), (eC (.str (S [111, 114])))])) (eAnd (e2 eqD (e1 lenD (eV 0)) (eC (.int 3))) (eAnd (eCall rec_ [(e2 ixD (eV 0) (eC (.int 1))), (e2 subD (eV 1) (eC (.int 1)))]) (eCall rec_ [(e2 ixD (eV 0) (eC (.int 2))), (e2 subD (eV 1) (eC (.int 1)))])))))))))))
noncomputable def F_is_test : Nat → FF
  | 0 => fun _ => .no
  | k + 1 => lock (fnF 4 (b_is_test (F_is_test k)))
noncomputable def C1_is_word (ρ : En) : Rs PyData :=
    (e2 inD (eV 2) (eV 1)) ρ
noncomputable def b_is_word : SF :=
    (sSeq (sAsg (gN 1) (eC (.str (S [97, 98, 99, 100, 101, 102, 103, 104, 105, 106, 107, 108, 109, 110, 111, 112, 113, 114, 115, 116, 117, 118, 119, 120, 121, 122]))))
    (sRet (eAnd (e1 (isiD "str") (eV 0)) (eAnd (eCh leD leD (eC (.int 1)) (e1 lenD (eV 0)) (eC (.int 8))) (e1 allD (eLc [2] (iS (eV 0)) (gN 2) bYes C1_is_word))))))
noncomputable def F_is_word : FF := lock (fnF 3 b_is_word)
noncomputable def L1_is_rule (ρ : En) : SR :=
    (sIf (bOr (bNot (bT (e1 (isiD "tuple") (eV 1)))) (bOr (bT (e2 neD (e1 lenD (eV 1)) (eC (.int 2)))) (bOr (bNot (bT (eCall (F_is_test 6) [(e2 ixD (eV 1) (eC (.int 0))), (eC (.int 4))]))) (bNot (bT (eCall F_is_word [(e2 ixD (eV 1) (eC (.int 1)))])))))) (sRet (eC (.bool false))) sNx) ρ
noncomputable def b_is_rule : SF :=
    (sSeq (sIf (bOr (bNot (bT (e1 (isiD "tuple") (eV 0)))) (bNot (bT (eCh leD leD (eC (.int 1)) (e1 lenD (eV 0)) (eC (.int 6)))))) (sRet (eC (.bool false))) sNx)
    (sSeq (sFor (gN 1) (iS (eV 0)) L1_is_rule)
    (sRet (e2 eqD (e2 ixD (e2 ixD (eV 0) (e1 negD (eC (.int 1)))) (eC (.int 0))) (eTup [(eC (.str (S [97, 108, 108])))])))))
noncomputable def F_is_rule : FF := lock (fnF 2 b_is_rule)
noncomputable def b_holds (rec_ : FF) : SF :=
    (sSeq (sAsg (gT [(gN 2), (gN 3)]) (eV 1))
    (sSeq (sAsg (gN 4) (e2 ixD (eV 0) (eC (.int 0))))
    (sSeq (sIf (bT (e2 eqD (eV 4) (eC (.str (S [97, 108, 108]))))) (sRet (eC (.bool true))) sNx)
    (sSeq (sIf (bT (e2 eqD (eV 4) (eC (.str (S [119, 104, 111, 108, 101]))))) (sRet (e2 eqD (eV 3) (eC (.int 0)))) sNx)
    (sSeq (sIf (bT (e2 eqD (eV 4) (eC (.str (S [105, 115]))))) (sRet (eAnd (e2 eqD (eV 3) (eC (.int 0))) (e2 eqD (e1 absD (eV 2)) (e2 ixD (eV 0) (eC (.int 1)))))) sNx)
    (sSeq (sIf (bT (e2 eqD (eV 4) (eC (.str (S [101, 110, 100, 115]))))) (sSeq (sAsg (gN 5) (e2 addD (eC (.int 10)) (e2 mulD (eC (.int 90)) (e1 intD (e2 eqD (e2 ixD (eV 0) (eC (.int 1))) (eC (.int 2)))))))
    (sRet (eAnd (e2 eqD (eV 3) (eC (.int 0))) (eCh leD leD (e2 ixD (eV 0) (eC (.int 2))) (e2 modD (e1 absD (eV 2)) (eV 5)) (e2 ixD (eV 0) (eC (.int 3))))))) sNx)
    (sSeq (sIf (bT (e2 eqD (eV 4) (eC (.str (S [110, 111, 116]))))) (sRet (eNot (eCall rec_ [(e2 ixD (eV 0) (eC (.int 1))), (eV 1)]))) sNx)
    (sSeq (sIf (bT (e2 eqD (eV 4) (eC (.str (S [97, 110, 100]))))) (sRet (eAnd (eCall rec_ [(e2 ixD (eV 0) (eC (.int 1))), (eV 1)]) (eCall rec_ [(e2 ixD (eV 0) (eC (.int 2))), (eV 1)]))) sNx)
    (sRet (eOr (eCall rec_ [(e2 ixD (eV 0) (eC (.int 1))), (eV 1)]) (eCall rec_ [(e2 ixD (eV 0) (eC (.int 2))), (eV 1)])))))))))))
noncomputable def F_holds : Nat → FF
  | 0 => fun _ => .no
  | k + 1 => lock (fnF 6 (b_holds (F_holds k)))
noncomputable def b__law_test (rec_ : FF) : SF :=
    (sSeq (sAsg (gN 2) (eCall F__law_mix [(eV 0), (eC (.int 9719)), (e2 addD (eC (.int 4)) (e2 mulD (eC (.int 4)) (e1 intD (e2 gtD (eV 1) (eC (.int 1))))))]))
    (sSeq (sIf (bT (e2 eqD (eV 2) (eC (.int 0)))) (sRet (eTup [(eC (.str (S [105, 115]))), (eCall F__law_mix [(eV 0), (eC (.int 9697)), (eC (.int 13))])])) sNx)
    (sSeq (sIf (bT (e2 eqD (eV 2) (eC (.int 1)))) (sSeq (sAsg (gN 3) (eCall F__law_mix [(eV 0), (eC (.int 9689)), (eC (.int 100))]))
    (sRet (eTup [(eC (.str (S [101, 110, 100, 115]))), (eC (.int 2)), (eCall F__law_mix [(eV 0), (eC (.int 9679)), (e2 addD (eV 3) (eC (.int 1)))]), (eV 3)]))) sNx)
    (sSeq (sIf (bT (e2 eqD (eV 2) (eC (.int 2)))) (sSeq (sAsg (gN 3) (eCall F__law_mix [(eV 0), (eC (.int 9677)), (eC (.int 10))]))
    (sRet (eTup [(eC (.str (S [101, 110, 100, 115]))), (eC (.int 1)), (eCall F__law_mix [(eV 0), (eC (.int 9661)), (e2 addD (eV 3) (eC (.int 1)))]), (eV 3)]))) sNx)
    (sSeq (sIf (bT (e2 eqD (eV 2) (eC (.int 3)))) (sRet (eTup [(eC (.str (S [119, 104, 111, 108, 101])))])) sNx)
    (sSeq (sIf (bT (e2 ltD (eV 2) (eC (.int 6)))) (sRet (eTup [(eC (.str (S [110, 111, 116]))), (eCall rec_ [(e2 addD (eV 0) (eC (.int 3))), (e2 subD (eV 1) (eC (.int 1)))])])) sNx)
    (sRet (eTup [(e2 ixD (eTup [(eC (.str (S [97, 110, 100]))), (eC (.str (S [111, 114])))]) (e2 subD (eV 2) (eC (.int 6)))), (eCall rec_ [(e2 addD (eV 0) (eC (.int 5))), (e2 subD (eV 1) (eC (.int 1)))]), (eCall rec_ [(e2 addD (eV 0) (eC (.int 7))), (e2 subD (eV 1) (eC (.int 1)))])]))))))))
noncomputable def F__law_test : Nat → FF
  | 0 => fun _ => .no
  | k + 1 => lock (fnF 4 (b__law_test (F__law_test k)))
noncomputable def L1__law_rule (ρ : En) : SR :=
    (sApp 2 (eTup [(eCall (F__law_test 6) [(e2 addD (eV 0) (e2 mulD (eC (.int 11)) (eV 3))), (eC (.int 4))]), (e2 ixD (eV 1) (eCall F__law_mix [(e2 addD (eV 0) (e2 mulD (eC (.int 13)) (eV 3))), (eC (.int 9643)), (eC (.int 6))]))])) ρ
noncomputable def b__law_rule : SF :=
    (sSeq (sAsg (gN 1) (eTup [(eC (.str (S [111, 110, 101]))), (eC (.str (S [116, 119, 111]))), (eC (.str (S [102, 101, 119]))), (eC (.str (S [109, 97, 110, 121]))), (eC (.str (S [111, 116, 104, 101, 114]))), (eC (.str (S [112, 97, 114, 116, 115])))]))
    (sSeq (sOwn 2 (eLst []))
    (sSeq (sFor (gN 3) (iR1 (eCall F__law_mix [(eV 0), (eC (.int 9649)), (eC (.int 6))])) L1__law_rule)
    (sRet (e2 addD (e1 tupleD (eO 2)) (eTup [(eTup [(eTup [(eC (.str (S [97, 108, 108])))]), (e2 ixD (eV 1) (eCall F__law_mix [(eV 0), (eC (.int 9631)), (eC (.int 6))]))])]))))))
noncomputable def F__law_rule : FF := lock (fnF 4 b__law_rule)
noncomputable def C1__law_holds (rec_ : FF) (ρ : En) : Rs PyData :=
    (eCall rec_ [(eV 4), (eV 1)]) ρ
noncomputable def b__law_holds (rec_ : FF) : SF :=
    (sSeq (sAsg (gN 2) (e2 eqD (e2 ixD (eV 1) (eC (.int 1))) (eC (.int 0))))
    (sSeq (sIf (bT (e2 eqD (e2 ixD (eV 0) (eC (.int 0))) (eC (.str (S [97, 108, 108]))))) (sRet (eC (.bool true))) sNx)
    (sSeq (sIf (bT (e2 eqD (e2 ixD (eV 0) (eC (.int 0))) (eC (.str (S [110, 111, 116]))))) (sRet (eNot (eCall rec_ [(e2 ixD (eV 0) (eC (.int 1))), (eV 1)]))) sNx)
    (sSeq (sIf (bT (e2 inD (e2 ixD (eV 0) (eC (.int 0))) (eTup [(eC (.str (S [97, 110, 100]))), (eC (.str (S [111, 114])))]))) (sSeq (sAsg (gN 3) (eLc [4] (iS (eSl (eV 0) (some (eC (.int 1))) none)) (gN 4) bYes (C1__law_holds rec_)))
    (sRet (e2 ixD (eLst [(e1 allD (eV 3)), (e1 anyD (eV 3))]) (e1 intD (e2 eqD (e2 ixD (eV 0) (eC (.int 0))) (eC (.str (S [111, 114])))))))) sNx)
    (sSeq (sIf (bOr (bNot (bD (eV 2))) (bT (e2 eqD (e2 ixD (eV 0) (eC (.int 0))) (eC (.str (S [119, 104, 111, 108, 101])))))) (sRet (eV 2)) sNx)
    (sSeq (sIf (bT (e2 eqD (e2 ixD (eV 0) (eC (.int 0))) (eC (.str (S [105, 115]))))) (sRet (e2 eqD (e1 absD (e2 ixD (eV 1) (eC (.int 0)))) (e2 ixD (eV 0) (eC (.int 1))))) sNx)
    (sRet (eCh leD leD (e2 ixD (eV 0) (eC (.int 2))) (e1 intD (eSl (e1 strD (e1 absD (e2 ixD (eV 1) (eC (.int 0))))) (some (e1 negD (e2 ixD (eV 0) (eC (.int 1))))) none)) (e2 ixD (eV 0) (eC (.int 3)))))))))))
noncomputable def F__law_holds : Nat → FF
  | 0 => fun _ => .no
  | k + 1 => lock (fnF 5 (b__law_holds (F__law_holds k)))
noncomputable def L1__law_no_pairs (ρ : En) : SR :=
    (sAsg (gN 4) (eTup [(eC (.str (S [110, 111, 116]))), (eV 4)])) ρ
noncomputable def C1__law_no_pairs (ρ : En) : Rs PyData :=
    (eTup [(eV 7), (eV 2)]) ρ
noncomputable def b__law_no_pairs : SF :=
    (sSeq (sAsg (gT [(gN 1), (gN 2)]) (eV 0))
    (sSeq (sAsg (gN 3) (eLst [(eTup [(eC (.str (S [97, 108, 108]))), (eC (.int 1))]), (eTup [(eC (.str (S [105, 115])))]), (eTup [(eC (.str (S [105, 115]))), (eC (.int 100))]), (eTup [(eC (.str (S [105, 115]))), (e1 negD (eC (.int 1)))])]))
    (sSeq (sAsg (gN 3) (e2 addD (eV 3) (eLst [(eTup [(eC (.str (S [105, 115]))), (eC (.bool true))]), (eTup [(eC (.str (S [105, 115]))), (eC (.str (S [53])))]), (eTup [(eC (.str (S [101, 110, 100, 115]))), (eC (.int 1)), (eC (.int 0)), (eC (.int 10))]), (eTup [(eC (.str (S [101, 110, 100, 115]))), (eC (.int 3)), (eC (.int 0)), (eC (.int 5))])])))
    (sSeq (sAsg (gN 3) (e2 addD (eV 3) (eLst [(eTup [(eC (.str (S [101, 110, 100, 115]))), (eC (.int 2)), (eC (.int 5)), (eC (.int 4))]), (eTup [(eC (.str (S [101, 110, 100, 115]))), (eC (.int 1)), (e1 negD (eC (.int 1))), (eC (.int 5))]), (eTup [(eC (.str (S [101, 110, 100, 115]))), (eC (.int 2)), (eC (.int 0)), (eC (.int 100))]), (eTup [(eC (.str (S [101, 110, 100, 115]))), (eC (.int 2)), (eC (.int 0))])])))
    (sSeq (sAsg (gN 3) (e2 addD (eV 3) (eLst [(eTup [(eC (.str (S [119, 104, 111, 108, 101]))), (eC (.int 1))]), (eTup [(eC (.str (S [110, 111, 116])))]), (eTup [(eC (.str (S [110, 111, 116]))), (eC (.str (S [97, 108, 108])))])])))
    (sSeq (sAsg (gN 3) (e2 addD (eV 3) (eLst [(eTup [(eC (.str (S [97, 110, 100]))), (eV 1)]), (eTup [(eC (.str (S [111, 114]))), (eV 1), (eV 1), (eV 1)]), (eTup [(eC (.str (S [119, 111, 114, 100])))]), (eTup []), (eC .none)])))
    (sSeq (sAsg (gN 3) (e2 addD (eV 3) (eLst [(eC (.str (S [97, 108, 108]))), (eLst [(eC (.str (S [97, 108, 108])))]), (eTup [(eC (.str (S [110, 111, 116]))), (eTup [(eC (.str (S [105, 115]))), (eC (.int 100))])]), (eTup [(eC (.str (S [101, 110, 100, 115]))), (eC (.bool true)), (eC (.int 1)), (eC (.int 2))])])))
    (sSeq (sAsg (gN 4) (eTup [(eC (.str (S [119, 104, 111, 108, 101])))]))
    (sSeq (sFor (gN 5) (iR1 (eC (.int 4))) L1__law_no_pairs)
    (sSeq (sAsg (gN 6) (eLc [7] (iS (e2 addD (eV 3) (eLst [(eV 4), (eTup [(eC (.str (S [97, 110, 100]))), (eV 1), (eV 4)])]))) (gN 7) bYes C1__law_no_pairs))
    (sSeq (sAsg (gN 6) (e2 addD (eV 6) (eLst [(eTup [(eV 1), (eC (.str (S [])))]), (eTup [(eV 1), (eC (.str (S [97, 98, 99, 100, 101, 102, 103, 104, 105])))]), (eTup [(eV 1), (eC (.str (S [65])))]), (eTup [(eV 1), (eC (.int 5))])])))
    (sSeq (sAsg (gN 6) (e2 addD (eV 6) (eLst [(eTup [(eV 1)]), (eTup [(eV 1), (eV 2), (eV 2)]), (eLst [(eV 1), (eV 2)]), (eC .none)])))
    (sRet (e2 addD (eV 6) (eLst [(eTup [(eV 1), (eC (.str (S [97, 32, 98])))]), (eTup [(eV 1), (eC .none)]), (eV 1), (eV 2)])))))))))))))))
noncomputable def F__law_no_pairs : FF := lock (fnF 8 b__law_no_pairs)
noncomputable def C1_word_for (ρ : En) : Rs PyData :=
    (eV 3) ρ
noncomputable def b_word_for : SF :=
    (sRet (e2 ixD (eLc [2, 3] (iS (eV 1)) (gT [(gN 2), (gN 3)]) (bT (eCall (F_holds 6) [(eV 2), (eV 0)])) C1_word_for) (eC (.int 0))))
noncomputable def F_word_for : FF := lock (fnF 4 b_word_for)
noncomputable def L1__law_word (ρ : En) : SR :=
    (sIf (bT (eCall (F__law_holds 6) [(eV 2), (eV 0)])) (sRet (eV 3)) sNx) ρ
noncomputable def b__law_word : SF :=
    (sSeq (sFor (gT [(gN 2), (gN 3)]) (iS (eV 1)) L1__law_word)
    (sRet (eC .none)))
noncomputable def F__law_word : FF := lock (fnF 4 b__law_word)
noncomputable def b_is_too_great : SF :=
    (sSeq (sIf (bT (e2 eqD (e1 lenD (e2 ixD (eV 1) (eC (.int 2)))) (eC (.int 1)))) (sRet (e2 geD (eV 0) (eC (.int 1000)))) sNx)
    (sRet (e2 geD (eV 0) (e2 mulD (eC (.int 1000)) (e2 ixD (eC (.tuple [(.int 100), (.int 1000), (.int 1000000), (.int 1000000000)])) (e2 subD (e1 lenD (e2 ixD (eV 1) (eC (.int 2)))) (eC (.int 1))))))))
noncomputable def F_is_too_great : FF := lock (fnF 2 b_is_too_great)
noncomputable def b__law_most : SF :=
    (sRet (e2 ixD (eTup [(eC (.int 1000)), (e2 powD (eC (.int 10)) (eC (.int 6))), (e2 powD (eC (.int 10)) (eC (.int 9))), (e2 powD (eC (.int 10)) (eC (.int 12)))]) (e2 subD (e1 lenD (e2 ixD (eV 0) (eC (.int 2)))) (eC (.int 1)))))
noncomputable def F__law_most : FF := lock (fnF 1 b__law_most)
noncomputable def b__law_turned : SF :=
    (sSeq (sAsg (gN 3) (eCall F__law_mix [(eV 1), (eC (.int 9613)), (e1 lenD (eV 0))]))
    (sSeq (sAsg (gN 4) (eCall F__law_mix [(eV 1), (eC (.int 9601)), (eC (.int 4))]))
    (sSeq (sIf (bT (e2 eqD (eV 4) (eC (.int 0)))) (sRet (e2 addD (eSl (eV 0) none (some (eV 3))) (eSl (eV 0) (some (e2 addD (eV 3) (eC (.int 1)))) none))) sNx)
    (sSeq (sIf (bT (e2 eqD (eV 4) (eC (.int 1)))) (sRet (e2 addD (e2 addD (eSl (eV 0) none (some (eV 3))) (eSl (eV 0) (some (eV 3)) (some (e2 addD (eV 3) (eC (.int 1)))))) (eSl (eV 0) (some (eV 3)) none))) sNx)
    (sSeq (sIf (bT (e2 eqD (eV 4) (eC (.int 2)))) (sRet (e2 addD (e2 addD (eSl (eV 0) none (some (eV 3))) (eLst [(e2 ixD (eV 2) (eCall F__law_mix [(eV 1), (eC (.int 9587)), (e1 lenD (eV 2))]))])) (eSl (eV 0) (some (eV 3)) none))) sNx)
    (sSeq (sAsg (gN 5) (e2 addD (eSl (eV 0) (some (e2 addD (eV 3) (eC (.int 1)))) (some (e2 addD (eV 3) (eC (.int 2))))) (eSl (eV 0) (some (eV 3)) (some (e2 addD (eV 3) (eC (.int 1)))))))
    (sRet (e2 addD (e2 addD (eSl (eV 0) none (some (eV 3))) (eV 5)) (eSl (eV 0) (some (e2 addD (eV 3) (eC (.int 2)))) none)))))))))
noncomputable def F__law_turned : FF := lock (fnF 6 b__law_turned)
noncomputable def b_led_v1 : SF :=
    (sSeq (sAsg (gT [(gN 4), (gN 5)]) (eV 0))
    (sSeq (sAsg (gN 6) (e2 mulD (e2 mulD (eV 4) (e2 ixD (eV 2) (eC (.int 0)))) (eCall F_ten_to [(e2 ixD (eV 1) (eC (.int 1)))])))
    (sRet (eTup [(e2 ixD (eCall F_made [(eV 6), (eCall F_ten_to [(e2 addD (e2 ixD (eV 5) (eC (.int 1))) (e2 ixD (eV 2) (eC (.int 1))))]), (eC (.int 0)), (eV 3)]) (eC (.int 0))), (eV 1)]))))
noncomputable def F_led_v1 : FF := lock (fnF 7 b_led_v1)
noncomputable def L1__law_sum_v1 (ρ : En) : SR :=
    (sAsg (gN 1) (eCall F_sum_of [(eV 1), (eV 2)])) ρ
noncomputable def b__law_sum_v1 : SF :=
    (sSeq (sAsg (gN 1) (eTup [(eC (.int 0)), (eC (.int 0))]))
    (sSeq (sFor (gN 2) (iS (eV 0)) L1__law_sum_v1)
    (sRet (eV 1))))
noncomputable def F__law_sum_v1 : FF := lock (fnF 3 b__law_sum_v1)
noncomputable def C1_is_name (ρ : En) : Rs PyData :=
    (e2 inD (eV 1) (eC (.str (S [97, 98, 99, 100, 101, 102, 103, 104, 105, 106, 107, 108, 109, 110, 111, 112, 113, 114, 115, 116, 117, 118, 119, 120, 121, 122])))) ρ
noncomputable def b_is_name : SF :=
    (sRet (eAnd (e1 (isiD "str") (eV 0)) (eAnd (eCh leD leD (eC (.int 1)) (e1 lenD (eV 0)) (eC (.int 6))) (e1 allD (eLc [1] (iS (eV 0)) (gN 1) bYes C1_is_name)))))
noncomputable def F_is_name : FF := lock (fnF 2 b_is_name)
end L2.Pz.Fn

namespace L2.Pz
open PySem PySem.Spec L2
/-! ### loops -/
theorem forL_inv {bd : PyData → SF} (P : En → Prop) : ∀ {ds : List PyData} {ρ : En}, P ρ → (∀ d ∈ ds, ∀ ρ, P ρ → ∃ ρ', bd d ρ = .nx ρ' ∧ P ρ') → ∃ ρ', forL bd ds ρ = .nx ρ' ∧ P ρ'
  | [], ρ, h, _ => ⟨ρ, rfl, h⟩
  | d :: ds, ρ, h, k => by
    obtain ⟨ρ1, h1, h2⟩ := k d (List.mem_cons_self ..) ρ h
    obtain ⟨ρ2, h3, h4⟩ := forL_inv P (ds := ds) h2 fun e he => k e (List.mem_cons_of_mem _ he)
    exact ⟨ρ2, by unfold forL; rw [h1]; exact h3, h4⟩
theorem forL_st {bd : PyData → SF} (st : Nat → En) : ∀ {ds : List PyData} (n : Nat), (∀ (i : Nat) d, ds[i]? = some d → bd d (st (n + i)) = .nx (st (n + i + 1))) → forL bd ds (st n) = .nx (st (n + ds.length))
  | [], n, _ => rfl
  | d :: ds, n, k => by
    have h0 := k 0 d rfl
    unfold forL
    rw [Nat.add_zero] at h0
    rw [h0]
    have := forL_st st (ds := ds) (n + 1) fun i e he => by
      have := k (i + 1) e (by simpa using he)
      have e1 : n + 1 + i = n + (i + 1) := by omega
      rw [e1]
      exact this
    show forL bd ds (st (n + 1)) = _
    rw [this]
    congr 2
    simp
    omega
theorem range_len (lo : Int) (n : Nat) : (rangeD lo n).length = n := by simp [rangeD]
theorem range_get {lo : Int} {n i : Nat} {d : PyData} (h : (rangeD lo n)[i]? = some d) : i < n ∧ d = .int (lo + (i : Nat)) := by
  have hi : i < n := by
    have := (List.getElem?_eq_some_iff.mp h).1
    simpa [rangeD] using this
  unfold rangeD at h
  rw [List.getElem?_map, List.getElem?_range hi] at h
  exact ⟨hi, by simpa using h.symm⟩
theorem forR_st {bd : PyData → SF} {lo : Int} {n : Nat} (st : Nat → En) (k : ∀ i : Nat, i < n → bd (.int (lo + (i : Nat))) (st i) = .nx (st (i + 1))) : forL bd (rangeD lo n) (st 0) = .nx (st n) := by
  have := forL_st (bd := bd) st (ds := rangeD lo n) 0 fun i d hd => by
    obtain ⟨h1, rfl⟩ := range_get hd
    rw [Nat.zero_add]
    exact k i h1
  rw [Nat.zero_add, range_len] at this
  exact this
theorem whL_st {p : En → Rs Bool} {g : SF} (st : Nat → En) (m : Nat) (h1 : ∀ i : Nat, i < m → p (st i) = .ok true ∧ g (st i) = .nx (st (i + 1))) (h2 : p (st m) = .ok false) : ∀ {n j : Nat}, j ≤ m → m - j < n → whL p g n (st j) = .nx (st m) := by
  intro n
  induction n with
  | zero => intro j _ h; omega
  | succ n ih =>
    intro j hj h
    unfold whL
    by_cases e : j = m
    · subst e; rw [h2]
    · obtain ⟨a, b⟩ := h1 j (by omega)
      rw [a, b]
      exact ih (by omega) (by omega)
theorem sSeq_nx {g1 g2 : SF} {ρ ρ' : En} (h : g1 ρ = .nx ρ') : sSeq g1 g2 ρ = g2 ρ' := by simp [h]
/-! ### sizes -/
theorem mulOk_l {i j : Int} (h : i.natAbs < 2 ^ 64) : mulOk i j = true := by simp [mulOk, h]
theorem mulOk_r {i j : Int} (h : j.natAbs < 2 ^ 64) : mulOk i j = true := by simp [mulOk, h]
theorem log2_lt {n k : Nat} (h : n < 2 ^ k) (hk : 0 < k) : n.log2 < k := by
  by_cases e : n = 0
  · subst e; simpa using hk
  · exact (Nat.log2_lt e).mpr h
theorem mulOk_b {i j : Int} (h1 : i.natAbs < 2 ^ 400000) (h2 : j.natAbs < 2 ^ 400000) : mulOk i j = true := by
  have a := log2_lt h1 (by decide)
  have b := log2_lt h2 (by decide)
  have : i.natAbs.log2 + j.natAbs.log2 < 1000000 := by omega
  simp [mulOk, this]
end L2.Pz

namespace L2.Pz
open PySem PySem.Spec L2 L2.Pz.Fn
/-- a loop variable's slot behind i turns -/
def sl (f : Nat → PyData) : Nat → Option Sl
  | 0 => none
  | i + 1 => some (.v (f i))
theorem ten_loop (n : Int) (x : Int) (i : Nat) : tgt (gN 2) L1_ten_to (.int (0 + (i : Nat))) [some (.v (.int n)), some (.v (.int (x * 10 ^ i))), sl (fun i => .int (0 + (i : Nat))) i] =
    .nx [some (.v (.int n)), some (.v (.int (x * 10 ^ (i + 1)))), sl (fun i => .int (0 + (i : Nat))) (i + 1)] := by
  have h : mulOk (x * 10 ^ i) 10 = true := mulOk_r (by decide)
  simp [h, sl, Int.pow_succ, Int.mul_assoc, L1_ten_to]
theorem ten_to_eq {n : Int} (h1 : n < 2 ^ 62) (h2 : -(2 ^ 62) ≤ n) : F_ten_to [.int n] = .ok (.int (10 ^ n.toNat)) := by
  have h := forR_st (bd := tgt (gN 2) L1_ten_to) (lo := 0) (n := n.toNat) (fun i => [some (.v (.int n)), some (.v (.int (1 * 10 ^ i))), sl (fun i => .int (0 + (i : Nat))) i]) fun i _ => ten_loop n 1 i
  simp only [Int.pow_zero, Int.mul_one, Int.one_mul, sl] at h
  unfold F_ten_to b_ten_to
  simp at h1 h2
  simp [h1, h2, h]
theorem law_ten_eq {n : Int} (h1 : n < 2 ^ 62) (h2 : -(2 ^ 62) ≤ n) : F__law_ten [.int n] = .ok (.int (10 ^ n.toNat)) := ten_to_eq h1 h2
/-! ### normal -/
def nrm : Int → Nat → Int × Nat
  | d, 0 => (d, 0)
  | d, p + 1 => if d % 10 = 0 then nrm (d / 10) p else (d, p + 1)
theorem normal_wh (d : Int) (p n : Nat) (h : p < n) : whL T1_normal L1_normal n [some (.v (.int d)), some (.v (.int (p : Nat)))] =
    .nx [some (.v (.int (nrm d p).1)), some (.v (.int ((nrm d p).2 : Nat)))] := by
  induction n generalizing d p with
  | zero => omega
  | succ n ih =>
    unfold whL
    cases p with
    | zero => simp [nrm, T1_normal]
    | succ p =>
      have hp : (0 : Int) < (p : Int) + 1 := by omega
      by_cases hd : d % 10 = 0
      · have e : (p : Int) + 1 - 1 = (p : Nat) := by omega
        have hl : Nat.log2 10 < 9000 := by decide
        simp [nrm, hd, hp, e, hl, ih (d / 10) p (by omega), T1_normal, L1_normal]
      · simp [nrm, hd, hp, T1_normal]
def nrmD (d : Int) (p : Nat) : PyData := .tuple [.int (nrm d p).1, .int ((nrm d p).2 : Nat)]
theorem normal_eq {d : Int} {p : Nat} (h : p < 1000) : F_normal [.int d, .int (p : Nat)] = .ok (nrmD d p) := by
  unfold F_normal b_normal
  simp [normal_wh d p 1000 h, nrmD]
theorem law_normal_eq {d : Int} {p : Nat} (h : p < 1000) : F__law_normal [.int d, .int (p : Nat)] = .ok (nrmD d p) := normal_eq h
/-- a number's form -/
def IsN (d : Int) (p : Nat) : Prop := p ≤ 9 ∧ (p = 0 ∨ d % 10 ≠ 0)
theorem nrm_le (d : Int) (p : Nat) : (nrm d p).2 ≤ p := by
  induction p generalizing d with
  | zero => simp [nrm]
  | succ p ih =>
    unfold nrm
    split
    · have := ih (d / 10); omega
    · simp
theorem nrm_form (d : Int) (p : Nat) : (nrm d p).2 = 0 ∨ (nrm d p).1 % 10 ≠ 0 := by
  induction p generalizing d with
  | zero => simp [nrm]
  | succ p ih =>
    unfold nrm
    split
    · exact ih (d / 10)
    · right; assumption
theorem nrm_isN {d : Int} {p : Nat} (h : p ≤ 9) : IsN (nrm d p).1 (nrm d p).2 := ⟨Nat.le_trans (nrm_le d p) h, nrm_form d p⟩
theorem nrm_val (d : Int) (p : Nat) : (nrm d p).1 * 10 ^ (p - (nrm d p).2) = d := by
  induction p generalizing d with
  | zero => simp [nrm]
  | succ p ih =>
    unfold nrm
    split
    · rename_i h
      have hl := nrm_le (d / 10) p
      have e : p + 1 - (nrm (d / 10) p).2 = (p - (nrm (d / 10) p).2) + 1 := by omega
      rw [e, Int.pow_succ, ← Int.mul_assoc, ih (d / 10)]
      omega
    · simp
theorem nrm_of_isN {d : Int} {p : Nat} (h : p = 0 ∨ d % 10 ≠ 0) : nrm d p = (d, p) := by
  cases p with
  | zero => rfl
  | succ p =>
    unfold nrm
    rcases h with h | h
    · omega
    · rw [if_neg h]
theorem nrm_scale (d : Int) (p k : Nat) : nrm (d * 10 ^ k) (p + k) = nrm d p := by
  induction k with
  | zero => simp
  | succ k ih =>
    have e : p + (k + 1) = (p + k) + 1 := by omega
    rw [e]
    unfold nrm
    have h1 : d * 10 ^ (k + 1) = (d * 10 ^ k) * 10 := by rw [Int.pow_succ, Int.mul_assoc]
    rw [h1, if_pos (by omega), show d * 10 ^ k * 10 / 10 = d * 10 ^ k by omega]
    rw [ih]
    cases p <;> rfl
theorem ten_pos (k : Nat) : (0 : Int) < 10 ^ k := Int.pow_pos (by decide)
theorem nrm_neg (d : Int) (p : Nat) : nrm (-d) p = (-(nrm d p).1, (nrm d p).2) := by
  induction p generalizing d with
  | zero => rfl
  | succ p ih =>
    unfold nrm
    by_cases h : d % 10 = 0
    · have h' : (-d) % 10 = 0 := by omega
      rw [if_pos h, if_pos h', show -d / 10 = -(d / 10) by omega, ih]
    · have h' : ¬ (-d) % 10 = 0 := by omega
      rw [if_neg h, if_neg h']
theorem nrm_lt (d : Int) (p : Nat) : (nrm d p).1 < 0 ↔ d < 0 := by
  have h := nrm_val d p
  have ht := ten_pos (p - (nrm d p).2)
  constructor
  · intro k
    rw [← h]
    exact Int.mul_neg_of_neg_of_pos k ht
  · intro k
    apply Int.not_le.mp
    intro k2
    have := Int.mul_nonneg k2 (Int.le_of_lt ht)
    omega
/-- two forms of one value are one -/
theorem nrm_unique {d e : Int} {p r n : Nat} (hp : p ≤ n) (hr : r ≤ n) (h1 : p = 0 ∨ d % 10 ≠ 0) (h2 : r = 0 ∨ e % 10 ≠ 0) (h : d * 10 ^ (n - p) = e * 10 ^ (n - r)) : d = e ∧ p = r := by
  have a := nrm_scale d p (n - p)
  have b := nrm_scale e r (n - r)
  rw [show p + (n - p) = n by omega, nrm_of_isN h1] at a
  rw [show r + (n - r) = n by omega, nrm_of_isN h2, ← h, a] at b
  exact ⟨congrArg Prod.fst b, congrArg Prod.snd b⟩
/-! ### small defs of numbers -/
theorem is_whole_int (i lo hi : Int) : F_is_whole [.int i, .int lo, .int hi] = .ok (.bool (decide (lo ≤ i ∧ i ≤ hi))) := by
  simp [F_is_whole, b_is_whole]
  by_cases h : lo ≤ i <;> simp [h]
theorem is_whole_non (lo hi : PyData) : F_is_whole [.none, lo, hi] = .ok (.bool false) := by simp [F_is_whole, b_is_whole]
theorem is_whole_bool (b : Bool) (lo hi : PyData) : F_is_whole [.bool b, lo, hi] = .ok (.bool false) := by simp [F_is_whole, b_is_whole]
theorem is_whole_str (x : Str) (lo hi : PyData) : F_is_whole [.str x, lo, hi] = .ok (.bool false) := by simp [F_is_whole, b_is_whole]
theorem is_whole_list (x : List PyData) (lo hi : PyData) : F_is_whole [.list x, lo, hi] = .ok (.bool false) := by simp [F_is_whole, b_is_whole]
theorem is_whole_tuple (x : List PyData) (lo hi : PyData) : F_is_whole [.tuple x, lo, hi] = .ok (.bool false) := by simp [F_is_whole, b_is_whole]
theorem atI0 {α : Type} (x : α) (xs : List α) : atI (x :: xs) 0 = some x := by
  have : (0 : Int) < (xs.length : Int) + 1 := by omega
  simp [atI, ixN, this]
theorem atI1 {α : Type} (x y : α) (xs : List α) : atI (x :: y :: xs) 1 = some y := by
  have : (1 : Int) < (xs.length : Int) + 1 + 1 := by omega
  simp [atI, ixN, this]
theorem atI2 {α : Type} (x y z : α) (xs : List α) : atI (x :: y :: z :: xs) 2 = some z := by
  have : (2 : Int) < (xs.length : Int) + 1 + 1 + 1 := by omega
  simp [atI, ixN, this]
/-- is_number of a pair of whole numbers -/
theorem is_number_ii (d p : Int) : F_is_number [.tuple [.int d, .int p]] = .ok (.bool (decide (0 ≤ p ∧ p ≤ 9) && (decide (p = 0) || !decide (d % 10 = 0)))) := by
  unfold F_is_number b_is_number
  by_cases h : 0 ≤ p ∧ p ≤ 9
  · by_cases h0 : p = 0
    · subst h0; simp [is_whole_int, atI0, atI1]
    · simp [is_whole_int, atI0, atI1, h, h0]
  · simp [is_whole_int, atI0, atI1, h]
end L2.Pz

namespace L2.Pz
open PySem PySem.Spec L2 L2.Pz.Fn
/-! ### the laws' own helpers -/
def scr (ns : List Int) : PyData := .list (ns.map PyData.int)
def cellI (ns : List Int) (k : Nat) : Int := ns.getD k 0
theorem cell_eq (ns : List Int) (k : Nat) : F__law_cell [scr ns, .int (k : Nat)] = .ok (.int (cellI ns k)) := by
  unfold F__law_cell b__law_cell scr cellI
  by_cases h : k < ns.length
  · have h' : (k : Int) < (ns.length : Int) := by omega
    have e : atI (ns.map PyData.int) (k : Int) = some (.int ns[k]) := atI_nat (by simp [h])
    simp [h', e, h]
  · have h' : ¬ (k : Int) < (ns.length : Int) := by omega
    have h2 : ns.length ≤ k := by omega
    simp [h', h2]
def mixI (c p m : Int) : Int := c * 48271 % p % m
theorem mix_eq (c : Int) {p m : Int} (hp : 0 < p) (hm : 0 < m) : F__law_mix [.int c, .int p, .int m] = .ok (.int (mixI c p m)) := by
  have : mulOk c 48271 = true := mulOk_r (by decide)
  simp [F__law_mix, b__law_mix, hp, hm, this, mixI]
theorem mix_nn (c p : Int) {m : Int} (hm : 0 < m) : 0 ≤ mixI c p m := Int.emod_nonneg _ (by omega)
theorem mix_lt (c p : Int) {m : Int} (hm : 0 < m) : mixI c p m < m := Int.emod_lt_of_pos _ hm
/-- plain data of a depth -/
def sameOk : Nat → PyData → Bool
  | 0, _ => false
  | k + 1, .tuple ds => decide (ds.length ≤ 1000) && ds.all (sameOk k)
  | _ + 1, .list _ => false
  | _ + 1, .dict _ => false
  | _ + 1, _ => true
theorem lcL_map {h : PyData → Rs (List PyData)} {g : PyData → PyData} : ∀ {ds : List PyData}, (∀ d ∈ ds, h d = .ok [g d]) → lcL h ds = .ok (ds.map g)
  | [], _ => rfl
  | d :: ds, k => by
    unfold lcL
    rw [k d (List.mem_cons_self ..), Rs.bind_ok, lcL_map fun e he => k e (List.mem_cons_of_mem _ he)]
    rfl
theorem bools_true : ∀ n : Nat, bools (List.replicate n (.bool true)) = some (List.replicate n true)
  | 0 => rfl
  | n + 1 => by rw [List.replicate_succ, bools, bools_true n]; rfl
theorem zip_self : ∀ ds : List PyData, List.zipWith pairD ds ds = ds.map fun d => .tuple [d, d]
  | [] => rfl
  | d :: ds => by rw [List.zipWith_cons_cons, zip_self ds]; rfl
theorem same_refl : ∀ (k : Nat) (d : PyData), sameOk k d = true → F__law_same k [d, d] = .ok (.bool true)
  | 0, d, h => by cases h
  | k + 1, d, h => by
    cases d with
    | tuple ds =>
      have h' : ds.length ≤ 1000 ∧ ∀ x ∈ ds, sameOk k x = true := by simpa [sameOk] using h
      have hz : ds.length ≤ sizeLine := Nat.le_trans h'.1 (by decide)
      have e : lcL (lc1 (gT [gN 2, gN 3]) bYes (C1__law_same (F__law_same k)) [some (.v (.tuple ds)), some (.v (.tuple ds)), none, none]) (ds.map fun d => .tuple [d, d]) = .ok (List.replicate ds.length (.bool true)) := by
        have := lcL_map (h := lc1 (gT [gN 2, gN 3]) bYes (C1__law_same (F__law_same k)) [some (.v (.tuple ds)), some (.v (.tuple ds)), none, none]) (g := fun _ => .bool true) (ds := ds.map fun d => .tuple [d, d]) fun d hd => by
          obtain ⟨x, hx, rfl⟩ := List.mem_map.mp hd
          simp [same_refl k x (h'.2 x hx), C1__law_same]
        rw [this, List.map_map]
        congr 1
        exact List.map_const' ..
      unfold F__law_same b__law_same
      simp [zip_self, hz, e, bools_true]
    | none => simp [F__law_same, b__law_same]
    | bool b => simp [F__law_same, b__law_same]
    | int i => simp [F__law_same, b__law_same]
    | str x => simp [F__law_same, b__law_same]
    | list ds => cases h
    | dict ds => cases h
/-! ### numbers as the laws draw them -/
def numD (n : Int × Nat) : PyData := .tuple [.int n.1, .int (n.2 : Nat)]
theorem numD_nrm (d : Int) (p : Nat) : nrmD d p = numD (nrm d p) := rfl
/-- what _law_number tells -/
def drawn (c : Int) : Int × Nat :=
  let w := mixI c 9973 8
  let p := (mixI c 9967 10).toNat
  if w = 0 then (mixI c 9949 41 - 20, 0)
  else if w = 1 then nrm ((mixI c 9941 3 - 1) * (10 ^ 12 - 1)) p
  else if w = 2 then nrm ((mixI c 9931 19 - 9) * 5) p
  else if w = 3 then (c % 10 ^ 15, 0)
  else if w = 4 then nrm (995 * (mixI c 9929 21 - 10) + mixI c 9923 9) (p % 4)
  else if w = 5 then nrm (c * 7919 % 10 ^ 20 - 5 * 10 ^ 19) p
  else nrm (mixI c 9907 9907 - 4953) (p % 5)
theorem number_eq (c : Int) : F__law_number [.int c] = .ok (numD (drawn c)) := by
  have hp0 := mix_nn c 9967 (m := 10) (by decide)
  have hp1 := mix_lt c 9967 (m := 10) (by decide)
  have ep : mixI c 9967 10 = ((mixI c 9967 10).toNat : Nat) := by omega
  have hlt : (mixI c 9967 10).toNat < 1000 := by omega
  have m1 : mulOk (mixI c 9941 3 - 1) 999999999999 = true := mulOk_r (by decide)
  have m2 : mulOk (mixI c 9931 19 - 9) 5 = true := mulOk_r (by decide)
  have m3 : mulOk 995 (mixI c 9929 21 - 10) = true := mulOk_l (by decide)
  have m4 : mulOk c 7919 = true := mulOk_r (by decide)
  have m5 : mulOk 5 10000000000000000000 = true := mulOk_l (by decide)
  unfold F__law_number b__law_number drawn
  generalize hw : mixI c 9973 8 = w
  generalize hq : (mixI c 9967 10).toNat = p at *
  have e4 : ∀ x, F__law_normal [.int x, .int ((p : Int) % 4)] = .ok (nrmD x (p % 4)) := fun x => by
    rw [show ((p : Int) % 4) = ((p % 4 : Nat) : Int) by omega]
    exact law_normal_eq (by omega)
  have e5 : ∀ x, F__law_normal [.int x, .int ((p : Int) % 5)] = .ok (nrmD x (p % 5)) := fun x => by
    rw [show ((p : Int) % 5) = ((p % 5 : Nat) : Int) by omega]
    exact law_normal_eq (by omega)
  by_cases h0 : w = 0
  · simp [mix_eq, hw, h0, ep, numD]
  by_cases h1 : w = 1
  · simp [mix_eq, hw, h1, ep, m1, law_normal_eq hlt, numD_nrm]
  by_cases h2 : w = 2
  · simp [mix_eq, hw, h2, ep, m2, law_normal_eq hlt, numD_nrm]
  by_cases h3 : w = 3
  · simp [mix_eq, hw, h3, ep, numD]
  by_cases h4 : w = 4
  · simp [mix_eq, hw, h4, ep, m3, e4, numD_nrm]
  by_cases h5 : w = 5
  · simp [mix_eq, hw, h5, ep, m4, m5, law_normal_eq hlt, numD_nrm]
  · simp [mix_eq, hw, h0, h1, h2, h3, h4, h5, ep, e5, numD_nrm]
theorem drawn_isN (c : Int) : IsN (drawn c).1 (drawn c).2 := by
  have hp0 := mix_nn c 9967 (m := 10) (by decide)
  have hp1 := mix_lt c 9967 (m := 10) (by decide)
  unfold drawn
  simp only
  repeat' split
  all_goals first | exact ⟨by simp, .inl rfl⟩ | exact nrm_isN (by omega)
theorem nrm_abs (d : Int) (p : Nat) : (nrm d p).1.natAbs ≤ d.natAbs := by
  have h := nrm_val d p
  have ht : 1 ≤ (10 : Nat) ^ (p - (nrm d p).2) := Nat.one_le_pow _ _ (by decide)
  have e : d.natAbs = (nrm d p).1.natAbs * 10 ^ (p - (nrm d p).2) := by
    conv => lhs; rw [← h]
    rw [Int.natAbs_mul]
    congr 1
  rw [e]
  exact Nat.le_mul_of_pos_right _ ht
theorem drawn_abs (c : Int) : (drawn c).1.natAbs < 10 ^ 20 := by
  have a1 := mix_nn c 9949 (m := 41) (by decide)
  have a2 := mix_lt c 9949 (m := 41) (by decide)
  have b1 := mix_nn c 9941 (m := 3) (by decide)
  have b2 := mix_lt c 9941 (m := 3) (by decide)
  have c1 := mix_nn c 9931 (m := 19) (by decide)
  have c2 := mix_lt c 9931 (m := 19) (by decide)
  have d1 := mix_nn c 9929 (m := 21) (by decide)
  have d2 := mix_lt c 9929 (m := 21) (by decide)
  have e1 := mix_nn c 9923 (m := 9) (by decide)
  have e2 := mix_lt c 9923 (m := 9) (by decide)
  have f1 := mix_nn c 9907 (m := 9907) (by decide)
  have f2 := mix_lt c 9907 (m := 9907) (by decide)
  unfold drawn
  simp only
  split
  · simp; omega
  split
  · exact Nat.lt_of_le_of_lt (nrm_abs _ _) (by simp; omega)
  split
  · exact Nat.lt_of_le_of_lt (nrm_abs _ _) (by simp; omega)
  split
  · simp; omega
  split
  · exact Nat.lt_of_le_of_lt (nrm_abs _ _) (by simp; omega)
  split
  · exact Nat.lt_of_le_of_lt (nrm_abs _ _) (by simp; omega)
  · exact Nat.lt_of_le_of_lt (nrm_abs _ _) (by simp; omega)
end L2.Pz

namespace L2.Pz
open PySem PySem.Spec L2 L2.Pz.Fn
/-! ### rounding -/
inductive Way where
  | even | away | nought | up | down
  deriving DecidableEq
def wS : Way → Str
  | .even => S [101, 118, 101, 110]
  | .away => S [97, 119, 97, 121]
  | .nought => S [110, 111, 117, 103, 104, 116]
  | .up => S [117, 112]
  | .down => S [100, 111, 119, 110]
def wD (w : Way) : PyData := .str (wS w)
/-- u / l rounded, l above 0 -/
def rnd (w : Way) (u l : Int) : Int :=
  if u % l = 0 then u / l else match w with
  | .down => u / l
  | .up => u / l + 1
  | .nought => if u / l < 0 then u / l + 1 else u / l
  | .even => if 2 * (u % l) = l then u / l + (u / l) % 2 else if l < 2 * (u % l) then u / l + 1 else u / l
  | .away => if 2 * (u % l) = l then (if 0 ≤ u / l then u / l + 1 else u / l) else if l < 2 * (u % l) then u / l + 1 else u / l
abbrev Sml (x : Int) : Prop := x.natAbs < 10 ^ 100
theorem sml_log {x : Int} (h : Sml x) : x.natAbs.log2 < 400 := log2_lt (Nat.lt_of_lt_of_le h (by decide +kernel)) (by decide)
theorem mulOk_s {x y : Int} (h1 : Sml x) (h2 : Sml y) : mulOk x y = true := by
  have a := sml_log h1
  have b := sml_log h2
  have : x.natAbs.log2 + y.natAbs.log2 < 1000000 := by omega
  simp [mulOk, this]
theorem pylong {u l : Int} (h1 : Sml u) (h2 : 0 < l) : Builtin.divisionGoesByPylong u l = false := by
  have a := sml_log h1
  refine (divp_ok h2 ?_).2
  unfold Builtin.Int.intBits
  split <;> omega
/-- any of the five ways by its text -/
theorem to_whole_pos {w : Way} {u l : Int} (hl : 0 < l) (hu : Sml u) : F_to_whole [.int u, .int l, wD w] = .ok (.int (rnd w u l)) := by
  have p := pylong hu hl
  have n : ¬ l < 0 := by omega
  have m : ∀ x : Int, mulOk 2 x = true := fun x => mulOk_l (by decide)
  unfold F_to_whole b_to_whole rnd wD
  generalize hq : u / l = q
  generalize hr : u % l = r
  by_cases h0 : r = 0
  · cases w <;> simp [wS, n, p, hl, m, hq, hr, h0]
  by_cases h1 : 2 * r = l
  · by_cases h3 : q < 0
    · have h4 : ¬ 0 ≤ q := by omega
      cases w <;> simp [wS, n, p, hl, m, hq, hr, h0, h1, h3, h4]
    · have h4 : 0 ≤ q := by omega
      cases w <;> simp [wS, n, p, hl, m, hq, hr, h0, h1, h3, h4]
  · by_cases h2 : l < 2 * r
    · by_cases h3 : q < 0 <;> cases w <;> simp [wS, n, p, hl, m, hq, hr, h0, h1, h2, h3]
    · by_cases h3 : q < 0 <;> cases w <;> simp [wS, n, p, hl, m, hq, hr, h0, h1, h2, h3]
theorem to_whole_neg {w : Way} {u l : Int} (hl : l < 0) (hu : Sml u) : F_to_whole [.int u, .int l, wD w] = .ok (.int (rnd w (-u) (-l))) := by
  have h := to_whole_pos (w := w) (u := -u) (l := -l) (by omega) (by unfold Sml; omega)
  rw [← h]
  have n : ¬ -l < 0 := by omega
  unfold F_to_whole b_to_whole
  rw [lock_eq]
  unfold fnF
  refine (congrArg outF (sSeq_nx (ρ' := [some (.v (.int (-u))), some (.v (.int (-l))), some (.v (wD w)), none, none]) (by simp [hl]))).trans ?_
  exact (congrArg outF (sSeq_nx (ρ' := [some (.v (.int (-u))), some (.v (.int (-l))), some (.v (wD w)), none, none]) (by simp [show ¬ 0 < l by omega]))).symm
theorem law_whole_eq {w : Way} {u l : Int} (hl : 0 < l) (hu : Sml u) (hl2 : Sml l) : F__law_whole [.int u, .int l, wD w] = .ok (.int (rnd w u l)) := by
  have hg : l.natAbs.log2 < 9000 := by have := sml_log hl2; omega
  have hq' : (u / l).natAbs ≤ u.natAbs := Int.natAbs_ediv_le_natAbs u l
  have mq : mulOk (u / l) l = true := mulOk_s (by unfold Sml; omega) hl2
  have m : ∀ x : Int, mulOk 2 x = true := fun x => mulOk_l (by decide)
  have er : u - u / l * l = u % l := by
    have := Int.emod_def u l
    rw [Int.mul_comm] at this
    exact this.symm
  have r0 := Int.emod_nonneg u (show l ≠ 0 by omega)
  have r1 := Int.emod_lt_of_pos u hl
  have eu : u = u / l * l + u % l := by omega
  have e1 : 2 * (u % l) = l → (0 < u ↔ 0 ≤ u / l) := fun e => by
    constructor
    · intro h
      apply Int.not_lt.mp
      intro k
      have : u / l * l ≤ -1 * l := Int.mul_le_mul_of_nonneg_right (by omega) (by omega)
      omega
    · intro h
      have : 0 ≤ u / l * l := Int.mul_nonneg h (by omega)
      omega
  have e2 : u % l ≠ 0 → (u < 0 ↔ u / l < 0) := fun e => by
    constructor
    · intro h
      apply Int.not_le.mp
      intro k
      have : 0 ≤ u / l * l := Int.mul_nonneg k (by omega)
      omega
    · intro h
      have : u / l * l ≤ -1 * l := Int.mul_le_mul_of_nonneg_right (by omega) (by omega)
      omega
  unfold F__law_whole b__law_whole rnd
  rw [lock_eq]
  unfold fnF
  clear eu
  generalize hq : u / l = q at *
  generalize u % l = r at *
  refine (congrArg outF (sSeq_nx (ρ' := [some (.v (.int u)), some (.v (.int l)), some (.v (wD w)), some (.v (.int q)), none]) (by simp [hl, hg, hq]))).trans ?_
  refine (congrArg outF (sSeq_nx (ρ' := [some (.v (.int u)), some (.v (.int l)), some (.v (wD w)), some (.v (.int q)), some (.v (.int r))]) (by simp [mq, er]))).trans ?_
  unfold wD
  have q2 : q % 2 = 0 ∨ q % 2 = 1 := by omega
  by_cases h0 : r = 0
  · cases w <;> simp [wS, hl, hg, mq, m, er, h0]
  have e2 := e2 h0
  by_cases h1 : 2 * r = l
  · have e1 := e1 h1
    by_cases h3 : q < 0
    · have h4 : ¬ 0 ≤ q := by omega
      have h5 : u < 0 := e2.mpr h3
      have h6 : ¬ 0 < u := by omega
      rcases q2 with q2 | q2 <;> cases w <;> simp [wS, hl, hg, mq, m, er, h0, h1, h3, h4, h5, h6, q2, inD_t, atI0, atI1]
    · have h4 : 0 ≤ q := by omega
      have h5 : ¬ u < 0 := fun z => h3 (e2.mp z)
      have h6 : 0 < u := e1.mpr h4
      rcases q2 with q2 | q2 <;> cases w <;> simp [wS, hl, hg, mq, m, er, h0, h1, h3, h4, h5, h6, q2, inD_t, atI0, atI1]
  · by_cases h3 : q < 0
    · have h5 : u < 0 := e2.mpr h3
      by_cases h2 : l < 2 * r <;> cases w <;> simp [wS, hl, hg, mq, m, er, h0, h1, h2, h3, h5, inD_t, atI0, atI1]
    · have h5 : ¬ u < 0 := fun z => h3 (e2.mp z)
      by_cases h2 : l < 2 * r <;> cases w <;> simp [wS, hl, hg, mq, m, er, h0, h1, h2, h3, h5, inD_t, atI0, atI1]
/-! what is rounded lies near -/
theorem rnd_near (w : Way) {u l : Int} (hl : 0 < l) : -l < rnd w u l * l - u ∧ rnd w u l * l - u < l := by
  have r0 := Int.emod_nonneg u (show l ≠ 0 by omega)
  have r1 := Int.emod_lt_of_pos u hl
  have er := Int.emod_def u l
  rw [Int.mul_comm] at er
  have hm : (u / l + 1) * l = u / l * l + l := by rw [Int.add_mul, Int.one_mul]
  have q2 : u / l % 2 = 0 ∨ u / l % 2 = 1 := by omega
  unfold rnd
  generalize hq : u / l = q at *
  generalize u % l = r at *
  split
  · omega
  · cases w
    all_goals simp only
    · rcases q2 with q2 | q2
      · rw [q2, Int.add_zero]
        repeat' split
        all_goals omega
      · rw [q2]
        repeat' split
        all_goals omega
    all_goals (repeat' split) <;> omega
theorem rnd_half {w : Way} (hw : w = .even ∨ w = .away) {u l : Int} (hl : 0 < l) : -l ≤ 2 * (rnd w u l * l - u) ∧ 2 * (rnd w u l * l - u) ≤ l := by
  have r0 := Int.emod_nonneg u (show l ≠ 0 by omega)
  have r1 := Int.emod_lt_of_pos u hl
  have er := Int.emod_def u l
  rw [Int.mul_comm] at er
  have hm : (u / l + 1) * l = u / l * l + l := by rw [Int.add_mul, Int.one_mul]
  have q2 : u / l % 2 = 0 ∨ u / l % 2 = 1 := by omega
  unfold rnd
  generalize hq : u / l = q at *
  generalize u % l = r at *
  split
  · omega
  · rcases hw with rfl | rfl
    all_goals simp only
    · rcases q2 with q2 | q2
      · rw [q2, Int.add_zero]
        repeat' split
        all_goals omega
      · rw [q2]
        repeat' split
        all_goals omega
    all_goals (repeat' split) <;> omega
end L2.Pz

namespace L2.Pz
open PySem PySem.Spec L2 L2.Pz.Fn
/-! ### made -/
/-- any divisor but 0 -/
def rndZ (w : Way) (u l : Int) : Int := if l < 0 then rnd w (-u) (-l) else rnd w u l
theorem rnd_abs (w : Way) {u l : Int} (hl : 0 < l) : (rnd w u l).natAbs ≤ u.natAbs + 1 := by
  have hq : (u / l).natAbs ≤ u.natAbs := Int.natAbs_ediv_le_natAbs u l
  have q2 : u / l % 2 = 0 ∨ u / l % 2 = 1 := by omega
  unfold rnd
  generalize u / l = q at *
  generalize u % l = r at *
  cases w <;> simp only <;> repeat' split
  all_goals omega
theorem rndZ_abs (w : Way) {u l : Int} (hl : l ≠ 0) : (rndZ w u l).natAbs ≤ u.natAbs + 1 := by
  unfold rndZ
  split
  · have := rnd_abs w (u := -u) (l := -l) (by omega); omega
  · exact rnd_abs w (by omega)
theorem to_whole_eq {w : Way} {u l : Int} (hl : l ≠ 0) (hu : Sml u) : F_to_whole [.int u, .int l, wD w] = .ok (.int (rndZ w u l)) := by
  unfold rndZ
  split
  · exact to_whole_neg (by assumption) hu
  · exact to_whole_pos (by omega) hu
theorem ten_nat {p : Nat} (h : p ≤ 1000) : F_ten_to [.int (p : Nat)] = .ok (.int (10 ^ p)) := by
  rw [ten_to_eq (by omega) (by omega)]
  simp
theorem law_ten_nat {p : Nat} (h : p ≤ 1000) : F__law_ten [.int (p : Nat)] = .ok (.int (10 ^ p)) := ten_nat h
theorem made_eq {w : Way} {u l : Int} {p : Nat} (hl : l ≠ 0) (hp : p ≤ 18) (hu : Sml (u * 10 ^ p)) : F_made [.int u, .int l, .int (p : Nat), wD w] = .ok (nrmD (rndZ w (u * 10 ^ p) l) p) := by
  have m : mulOk u (10 ^ p) = true := mulOk_r (by rw [Int.natAbs_pow]; exact Nat.lt_of_le_of_lt (Nat.pow_le_pow_right (by decide) hp) (by decide))
  unfold F_made b_made
  simp [ten_nat (show p ≤ 1000 by omega), m, to_whole_eq hl hu, normal_eq (show p < 1000 by omega)]
theorem law_made_pos {k : Nat} {w : Way} {u l : Int} {p : Nat} (hl : 0 < l) (hl2 : Sml l) (hp : p ≤ 18) (hu : Sml (u * 10 ^ p)) : F__law_made (k + 1) [.int u, .int l, .int (p : Nat), wD w] = .ok (nrmD (rnd w (u * 10 ^ p) l) p) := by
  have m : mulOk u (10 ^ p) = true := mulOk_r (by rw [Int.natAbs_pow]; exact Nat.lt_of_le_of_lt (Nat.pow_le_pow_right (by decide) hp) (by decide))
  have n : ¬ l < 0 := by omega
  unfold F__law_made b__law_made
  simp [n, law_ten_nat (show p ≤ 1000 by omega), m, law_whole_eq hl hu hl2, law_normal_eq (show p < 1000 by omega)]
theorem law_made_eq {w : Way} {u l : Int} {p : Nat} (hl : l ≠ 0) (hl2 : Sml l) (hp : p ≤ 18) (hu : Sml (u * 10 ^ p)) : F__law_made 2 [.int u, .int l, .int (p : Nat), wD w] = .ok (nrmD (rndZ w (u * 10 ^ p) l) p) := by
  unfold rndZ
  split
  · rename_i h
    have := law_made_pos (k := 0) (w := w) (u := -u) (l := -l) (p := p) (by omega) (by unfold Sml; omega) hp (by rw [Int.neg_mul]; unfold Sml; omega)
    rw [Int.neg_mul] at this
    unfold F__law_made b__law_made
    simp at this
    simp [h, this]
  · exact law_made_pos (by omega) hl2 hp hu
theorem rndZ_near (w : Way) {u l : Int} (hl : l ≠ 0) : (rndZ w u l * l - u).natAbs < l.natAbs := by
  unfold rndZ
  split
  · have := rnd_near w (u := -u) (l := -l) (by omega)
    rw [Int.mul_neg] at this
    omega
  · have := rnd_near w (u := u) (l := l) (by omega)
    omega
theorem rndZ_half {w : Way} (hw : w = .even ∨ w = .away) {u l : Int} (hl : l ≠ 0) : 2 * (rndZ w u l * l - u).natAbs ≤ l.natAbs := by
  unfold rndZ
  split
  · have := rnd_half hw (u := -u) (l := -l) (by omega)
    rw [Int.mul_neg] at this
    omega
  · have := rnd_half hw (u := u) (l := l) (by omega)
    omega
theorem eqD_ii2 (a b c d : Int) : eqD (.tuple [.int a, .int b]) (.tuple [.int c, .int d]) = .ok (.bool (a == c && b == d)) := by
  rw [eqD_tt (by rfl)]
  simp [PyData.eqv, PyData.eqvAll]
end L2.Pz

/-! ### enumerate(v), told by how it begins -/
namespace PySem
theorem pz_enum_new {v : Value} {o : Obj} {H : Heap → Prop} (B : Begins v o H) :
    Meets (Builtin.«enumerate.__new__» ⟨[.type "enumerate", v], []⟩) (fun _ R s => H s.heap ∧
      R (.ok (.ret (.ref (s.heap.push o).objs.size))) { s with heap := (s.heap.push o).push { cls := .type "enumerate", data := .fields #[.none, .bool false, .ref s.heap.objs.size, rawInt 0, .none, .none] } }) :=
  .of_wp fun prog w A R s h => by
    obtain ⟨hp, g, d, tk, os⟩ := s; obtain ⟨h1, h⟩ := h
    have hsub := sub_enumerate
    have q1 : ∀ {A' : Around} {E : Value → Shared → Prop} {Q : Value → Shared → Prop}, Q (.ref hp.objs.size) ⟨hp.push o, g, d, tk, os⟩ → wpAny (model prog w) A' (pyIter v) Q E ⟨hp, g, d, tk, os⟩ :=
      fun q => B.iter prog w _ _ ⟨hp, g, d, tk, os⟩ _ h1 q
    wp_walk using q1
    refine wpAny_stack_any fun st => wpAny_pure ?_
    split
    · rename_i c _ _ _ _ _
      cases (c == Value.type "enumerate")
      · wp_walk using q1
        exact ⟨_, rfl, h⟩
      · wp_walk using q1
        exact ⟨_, rfl, h⟩
    · wp_walk using q1
      exact ⟨_, rfl, h⟩
section
variable {prog : Program} {w : World} {A : Around} {E : Value → Shared → Prop} {s : Shared}
theorem pz_enum {v : Value} {o : Obj} {H : Heap → Prop} {Q : Value → Shared → Prop} (B : Begins v o H) (h1 : H s.heap)
    (h : ∀ h', IsEnum h' (s.heap.objs.size + 1) s.heap.objs.size 0 .none → h'.get? s.heap.objs.size = some o → h'.objs.size = s.heap.objs.size + 2 →
      (∀ b o, s.heap.get? b = some o → h'.get? b = some o) → Q (.ref (s.heap.objs.size + 1)) { s with heap := h' }) :
    wpAny (model prog w) A (call (.type "enumerate") [v]) Q E s := by
  refine callType_new F.called_enumerate (by decide) (F.typeCall_enumerate_1 _) (F.newCall_enumerate_1 _) (fun obj => F.args_object_init_2 obj _) F.entry_enumerate_new
    (pz_enum_new B) ⟨h1, ?_⟩
  have hz : (s.heap.push o).objs.size = s.heap.objs.size + 1 := Heap.size_push ..
  show _ ∧ _
  rw [hz]
  have he : IsEnum ((s.heap.push o).push { cls := .type "enumerate", data := .fields #[.none, .bool false, .ref s.heap.objs.size, rawInt 0, .none, .none] }) (s.heap.objs.size + 1) s.heap.objs.size 0 .none := by
    have := Heap.get?_push_size (s.heap.push o) (o := { cls := .type "enumerate", data := .fields #[.none, .bool false, .ref s.heap.objs.size, rawInt 0, .none, .none] }) rfl
    rw [hz] at this; exact this
  refine ⟨⟨_, he, rfl⟩, h _ he (Heap.get?_push_of_some _ (Heap.get?_push_size _ B.free)) (by rw [Heap.size_push, hz]) fun b o x => Heap.get?_push_of_some _ (Heap.get?_push_of_some _ x)⟩
end
end PySem
namespace L2.Pz
open PySem PySem.Spec PyProof.Rows
/-- xs, each in a new pair behind its place; C holds of the heap all the while -/
def IteX (C : Hp → Prop) (xs : List V) : It :=
  ⟨fun i H => C H ∧ ∃ x, xs[i]? = some x, fun i H v H' => ∃ T x, v = .ref T ∧ H T = none ∧ H' = upd H T (.tup [.int (i : Nat), x]) ∧ xs[i]? = some x, fun i H => C H ∧ i = xs.length⟩
theorem turn_enumX {P : Program} {w : World} {K : PySem.W.Frag} {elts : List Expr} {kk : Nat} {tpos : Pos} {C : Hp → Prop} {xs : List V} (e it : Addr) (IsIt : Nat → Heap → Prop) (hne : e ≠ it)
    (hobj : ∀ i h, IsIt i h → ∃ o, h.get? it = some o ∧ ∀ v, o.data ≠ .cell v)
    (hat : ∀ i h h', IsIt i h → (∀ o, h.get? it = some o → h'.get? it = some o) → IsIt i h')
    (hD : ∀ (X : Cx), X.prog = P → X.w = w → X.K = K → X.calm = true → ∀ (pins : List (Addr × Obj)) (s : Shared) (σ : St) (H : Hp), Inv X pins σ H s → (∀ b ∈ [e, it], FpOk X pins H b) → C H →
      ∃ (fp : List Addr) (Pv : Nat → Value → Prop) (St' : Nat → Heap → Prop), Draws P w X.A.in1 it fp xs.length Pv St' ∧ e ∉ fp ∧ (∀ i, IsIt i s.heap → St' i s.heap) ∧ (∀ i h, St' i h → IsIt i h) ∧ ∀ i u x, Pv i u → xs[i]? = some x → RelV x u) :
    Turn P w K (.Tuple elts kk tpos) (IteX C xs) [e, it] e (fun i h => (∃ old, IsEnum h e it ((i : Nat) : Int) old) ∧ IsIt i h) where
  mem := by simp
  obj := fun i h st b hb => by
    obtain ⟨⟨old, he⟩, hi⟩ := st
    have e' : b = e ∨ b = it := by simpa using hb
    rcases e' with z | z
    · rw [z]; exact ⟨_, he, fun v q => nomatch q⟩
    · rw [z]; exact hobj i h hi
  keep := fun i h h' st k => let ⟨⟨old, he⟩, hi⟩ := st; ⟨⟨old, k e (by simp) _ he⟩, hat i h h' hi fun o q => k it (by simp) o q⟩
  item := by
    intro X hP hw hK hc i pins s σ H E I hf st hg
    obtain ⟨fp, Pv, St', D, hef, h1, h2, h3⟩ := hD X hP hw hK hc pins s σ H I hf hg.1
    subst hP hw hK
    obtain ⟨⟨old, he⟩, hit⟩ := st
    obtain ⟨_, x, hx⟩ := hg
    have hlt : i < xs.length := (List.getElem?_eq_some_iff.mp hx).1
    have hel : e < s.heap.objs.size := Heap.lt_size he
    have hil : it < s.heap.objs.size := by obtain ⟨o, q, _⟩ := hobj i _ hit; exact Heap.lt_size q
    refine wpAny_pyNext_enum_itemD D he (h1 i hit) hlt hne hef fun u h' tk hu ho hit' hT hsz hk => ?_
    have ru := h3 i u x hu hx
    refine ⟨_, rfl, wpAny_letOwnedTupleGo_enum (s := { s with heap := h', toks := tk + 1 }) ho fun h'' he' sb => ?_⟩
    have hT2 : h''.get? s.heap.objs.size = some { cls := .type "tuple", data := .seq #[.int i tk, u] } := (sb.2 _ (Nat.ne_of_gt hel)).trans hT
    have new : ObjOk X.prog X.w (upd H s.heap.objs.size (.tup [.int (i : Nat), x])) h'' s.heap.objs.size (.tup [.int (i : Nat), x]) :=
      ⟨by show 2 ≤ sizeLine; decide, [.int i tk, u], .cons ⟨_, rfl⟩ (.cons ru .nil), ⟨_, hT2, rfl, _, rfl⟩⟩
    have I1 : Inv X pins σ (upd H s.heap.objs.size (.tup [.int (i : Nat), x])) { s with heap := h'', toks := tk + 1 } :=
      I.turnedNew (ch := [e, it]) (fun b ob hb q => (sb.2 b (fun z => hb (by simp [z]))).trans (hk b ob (fun z => hb (by simp [z])) (fun z => hb (by simp [z])) q)) hf (Nat.le_refl _) new
    refine ⟨.ref s.heap.objs.size, _, I1, rfl, ⟨_, x, rfl, I.hok.fresh (Nat.le_refl _), rfl, hx⟩, ⟨⟨u, ?_⟩, hat _ _ _ (h2 _ _ hit') fun o q => (sb.2 it (Ne.symm hne)).trans q⟩, fun b hb => ?_⟩
    · have e1 : ((i + 1 : Nat) : Int) = (i : Int) + 1 := by omega
      rw [e1]; exact he'
    · have hb' : b < s.heap.objs.size := by
        have e' : b = e ∨ b = it := by simpa using hb
        rcases e' with z | z
        · rw [z]; exact hel
        · rw [z]; exact hil
      rw [upd_ne (Nat.ne_of_lt hb')]
      exact (hf b hb).1
  done := by
    intro X hP hw hK hc i pins s σ H E I hf st hg
    obtain ⟨fp, Pv, St', D, hef, h1, h2, h3⟩ := hD X hP hw hK hc pins s σ H I hf hg.1
    subst hP hw hK
    obtain ⟨⟨old, he⟩, hit⟩ := st
    obtain ⟨_, rfl⟩ := hg
    obtain ⟨f0, f1, f2, f3, f4, f5⟩ := hf it (by simp)
    exact wpAny_pyNext_enum_endD D he (h1 _ hit) fun h' eb => ⟨rfl, I.turned (t' := s.toks) (fun b o hb q => eb b o hb q) f0 f1 f3 f4 f5⟩
  self := fun A i s Q E st h => let ⟨⟨_, he⟩, _⟩ := st; wpAny_pyIter_enum he h
def iEnumX (K : PySem.W.Frag) (ta : TA) : TI := fun σ H R => ta σ H fun vs H1 => (∃ a xs, vs = [.ref a] ∧ SqT K H1 a xs ∧ R (IteX (fun H => SqT K H a xs) xs) H1) ∨ (∃ z : Str, vs = [.str z] ∧ R (IteX (fun _ => True) (z.cps.toList.map fun c => .str ⟨#[c]⟩)) H1)
theorem pi_enumX {X : Cx} {e : Expr} {ta : TA} {p pos tpos : Pos} {elts : List Expr} {kk : Nat} (hg : Gl X "enumerate") (hm : X.mg "enumerate" = none) (ha : PA X [e] ta) (hs : starEach [e] X.env = [(false, eval e X.env)] := by rfl) :
    PI X (.Tuple elts kk tpos) (.Call (.Name "enumerate" p) [e] [] pos) (iEnumX X.K ta) := by
  refine ⟨fun pins s σ H R I h => ?_⟩
  refine Call_ (ld_blt I hg hm boot_enumerate (PyProof.Rows.callWith_type1 (thn (ha.run pos pins s σ H _ I h) fun us s1 ⟨vs, H1, I1, r1, q1⟩ => ?_) hs rfl))
  have fin : ∀ b, b ∈ [s1.heap.objs.size + 1, s1.heap.objs.size] → FpOk X pins H1 b := fun b hb => by
    have e' : b = s1.heap.objs.size + 1 ∨ b = s1.heap.objs.size := by simpa using hb
    have hle : s1.heap.objs.size ≤ b := by
      rcases e' with z | z
      · rw [z]; exact Nat.le_add_right _ _
      · rw [z]; exact Nat.le_refl _
    exact I1.fpOk hle (I1.hok.fresh hle)
  rcases q1 with ⟨a, xs, ex, hq, q⟩ | ⟨z, ex, q⟩
  · subst ex
    cases r1 with
    | cons r rr =>
      cases rr
      cases r
      obtain ⟨its, rv, p', hz⟩ := I1.tuple hq
      obtain ⟨oa, hoa, _⟩ := id p'
      have hal := Heap.lt_size hoa
      refine pz_enum (begins_tuple a its.toArray) p' fun h' he hit hsz hk => wpAny_pyIter_enum he ?_
      have I2 : Inv X pins σ H1 { s1 with heap := h' } := I1.kept (t' := s1.toks) hk
      refine ⟨s1.heap.objs.size + 1, [s1.heap.objs.size + 1, s1.heap.objs.size], _, _, H1, rfl, I2, turn_enumX (C := fun H => SqT X.K H a xs) (xs := xs) (s1.heap.objs.size + 1) s1.heap.objs.size (fun i h => h.IsTupleIter s1.heap.objs.size a i) (Nat.succ_ne_self _) ?_ ?_ ?_, ⟨⟨.none, he⟩, ⟨_, hit, rfl, rfl⟩⟩, fin, q⟩
      · rintro i h ⟨o, ho, hc, hd⟩
        exact ⟨o, ho, fun v q => by rw [hd] at q; cases q⟩
      · intro i h h' x k
        exact x.at k
      · intro Y hP hw hK hc pins2 s2 σ2 H2 J hf hC
        rw [← hK] at hC
        obtain ⟨its2, rv2, p2, _⟩ := J.tuple hC
        have hl : xs.length = its2.toArray.size := by rw [rv2.length]; simp
        have hne : a ≠ s1.heap.objs.size := Nat.ne_of_lt hal
        have hne2 : s1.heap.objs.size + 1 ≠ a := Nat.ne_of_gt (Nat.lt_succ_of_lt hal)
        refine ⟨_, _, _, hl ▸ Draws.tuple (prog := X.prog) (w := X.w) (A := Y.A.in1) (J.ok.hd hc) s1.heap.objs.size a hne its2.toArray, ?_, fun i x => ⟨x, p2⟩, fun i h x => x.1, fun i u x hu hx => ?_⟩
        · intro z
          rcases List.mem_cons.mp z with z | z
          · exact Nat.succ_ne_self _ z
          · exact hne2 (List.mem_singleton.mp z)
        · obtain ⟨u', hu', ru⟩ := rv2.get hx
          have : its2[i]? = some u := by simpa using hu
          rw [this] at hu'
          cases hu'
          exact ru
  · subst ex
    cases r1 with
    | cons r rr =>
      cases rr
      obtain ⟨t, rfl⟩ := r
      refine pz_enum (begins_text z t) True.intro fun h' he hit hsz hk => wpAny_pyIter_enum he ?_
      have I2 : Inv X pins σ H1 { s1 with heap := h' } := I1.kept (t' := s1.toks) hk
      refine ⟨s1.heap.objs.size + 1, [s1.heap.objs.size + 1, s1.heap.objs.size], _, _, H1, rfl, I2, turn_enumX (C := fun _ => True) (xs := z.cps.toList.map fun c => .str ⟨#[c]⟩) (s1.heap.objs.size + 1) s1.heap.objs.size (fun i h => h.IsStrIter s1.heap.objs.size (strIterType z) z t i) (Nat.succ_ne_self _) ?_ ?_ ?_, ⟨⟨.none, he⟩, ⟨_, hit, rfl, rfl⟩⟩, fin, q⟩
      · rintro i h ⟨o, ho, hc, hd⟩
        exact ⟨o, ho, fun v q => by rw [hd] at q; cases q⟩
      · rintro i h h' ⟨o, ho, r⟩ k
        exact ⟨o, k o ho, r⟩
      · intro Y hP hw hK hc pins2 s2 σ2 H2 J hf hC
        have hl : (z.cps.toList.map fun c => V.str ⟨#[c]⟩).length = z.cps.size := by simp
        refine ⟨_, _, _, hl ▸ Draws.text (prog := X.prog) (w := X.w) (A := Y.A.in1) (J.ok.hd hc) s1.heap.objs.size z t, ?_, fun i x => x, fun i h x => x, fun i u x hu hx => ?_⟩
        · intro z
          exact Nat.succ_ne_self _ (List.mem_singleton.mp z)
        · obtain ⟨c, u', hc, rfl⟩ := hu
          rw [List.getElem?_map] at hx
          have : z.cps.toList[i]? = some c := by simpa using hc
          rw [this] at hx
          cases hx
          exact ⟨_, rfl⟩
def enumL (xs : List PyData) : List PyData := xs.zipIdx.map fun p => .tuple [.int (p.2 : Nat), p.1]
def enumD : PyData → Rs (List PyData)
  | .list xs => .ok (enumL xs)
  | .tuple xs => .ok (enumL xs)
  | .str z => .ok (enumL (signsD z))
  | _ => .no
@[simp] def iE (f : EF) (ρ : En) : Rs (List PyData) := (f ρ).bind enumD
theorem enumL_get {xs : List PyData} {i : Nat} {d : PyData} (h : (enumL xs)[i]? = some d) : ∃ x, xs[i]? = some x ∧ d = .tuple [.int (i : Nat), x] := by
  unfold enumL at h
  rw [List.getElem?_map, List.getElem?_zipIdx] at h
  cases h1 : xs[i]? with
  | none => rw [h1] at h; cases h
  | some x =>
    rw [h1] at h
    simp at h
    exact ⟨x, rfl, h.symm⟩
theorem enumL_len (xs : List PyData) : (enumL xs).length = xs.length := by simp [enumL]
theorem itOk_enumX {K : PySem.W.Frag} {G : Hp} {C : Hp → Prop} {vs : List V} {xs : List PyData} (hC : ∀ H, Same G H → C H) (k : DqAll K G vs xs) : ItOk K G (IteX C vs) (enumL xs) := fun H s => by
  refine ⟨⟨hC H s, by rw [enumL_len, dpAll_len k]⟩, fun i d hd => ?_⟩
  obtain ⟨x, hx, rfl⟩ := enumL_get hd
  have hi : i < vs.length := by rw [dpAll_len k]; exact (List.getElem?_eq_some_iff.mp hx).1
  refine ⟨⟨hC H s, vs[i], by simp [hi]⟩, fun v H' y => ?_⟩
  obtain ⟨T, u, e1, e2, e3, e4⟩ := y
  obtain ⟨x2, f1, f2⟩ := dpAll_get k e4
  rw [hx] at f1; cases f1
  exact .inr ⟨T, [.int (i : Nat), u], [.int (i : Nat), x], e1, e2, e3, .cons (.int _) (.cons f2 .nil), rfl⟩
theorem itOk_enumL {K : PySem.W.Frag} {G : Hp} {a : Addr} {vs : List V} {xs : List PyData} (h : SqL K G a vs) (k : DqAll K G vs xs) : ItOk K G (Ite K a) (enumL xs) := fun H s => by
  have q : SqL K H a vs := s.seq h
  refine ⟨⟨vs, q, by rw [enumL_len, dpAll_len k]; exact Nat.le_refl _⟩, fun i d hd => ?_⟩
  obtain ⟨x, hx, rfl⟩ := enumL_get hd
  have hi : i < vs.length := by rw [dpAll_len k]; exact (List.getElem?_eq_some_iff.mp hx).1
  refine ⟨⟨vs, vs[i], q, by simp [hi]⟩, fun v H' y => ?_⟩
  obtain ⟨T, u, e1, e2, e3, e4⟩ := y
  obtain ⟨x2, f1, f2⟩ := dpAll_get k (e4 vs q)
  rw [hx] at f1; cases f1
  exact .inr ⟨T, [.int (i : Nat), u], [.int (i : Nat), x], e1, e2, e3, .cons (.int _) (.cons f2 .nil), rfl⟩
theorem signs_dq {K : PySem.W.Frag} {G : Hp} : ∀ (l : List Nat), DqAll K G (l.map fun c => .str ⟨#[c]⟩) (l.map fun c => PyData.str ⟨#[c]⟩)
  | [] => .nil
  | c :: l => .cons (.str _ (by show 1 ≤ sizeLine; decide)) (signs_dq l)
section
variable {X : Cx} {W : WX} {e e2 : Expr} {f g : EF} {pos : Pos}
theorem pid_enum {p tpos : Pos} {elts : List Expr} {kk : Nat} (hg : Gl X "enumerate") (hm : X.mg "enumerate" = none) (ka : PD X W e f) (hs : starEach [e] X.env = [(false, eval e X.env)] := by rfl) :
    PID X W (.Tuple elts kk tpos) (.Call (.Name "enumerate" p) [e] [] pos) (iE f) :=
  pi_weak (pi_or (pi_enum hg hm (pa_cons ka pa_nil hs) hs) (pi_enumX hg hm (pa_cons ka pa_nil hs) hs)) fun σ H R ⟨G0, H0, G, ρ, E, q⟩ => by
    unfold iE at q
    cases k : f ρ with
    | er c => rw [k] at q; exact .inl ⟨G0, H0, G, ρ, E, by rw [k]; exact q⟩
    | no => rw [k] at q; exact q.elim
    | ok d =>
      rw [k, Rs.bind_ok] at q
      cases d with
      | list ds => exact .inl ⟨G0, H0, G, ρ, E, by
          rw [k]
          exact fun v G1 H1 g1 z => by
            cases z with
            | lst a1 a2 => exact ⟨_, _, rfl, g1.sub.seq a1, q _ G1 H1 g1 (itOk_enumL a1 a2)⟩⟩
      | tuple ds => exact .inr ⟨G0, H0, G, ρ, E, by
          rw [k]
          exact fun v G1 H1 g1 z => by
            cases z with
            | tup a1 a2 => exact .inl ⟨_, _, rfl, sqT_mono g1.sub a1, q _ G1 H1 g1 (itOk_enumX (fun H s => sqT_mono s a1) a2)⟩⟩
      | str z0 => exact .inr ⟨G0, H0, G, ρ, E, by
          rw [k]
          exact fun v G1 H1 g1 z => by
            cases z with
            | str _ hz => exact .inr ⟨_, rfl, q _ G1 H1 g1 (itOk_enumX (fun _ _ => True.intro) (signs_dq _))⟩⟩
      | _ => exact q.elim
end
end L2.Pz

namespace L2.Pz
open PySem PySem.Spec PyProof.Rows
section
variable {X : Cx} {W : WX} {e a b c : Expr} {f g h : EF} {pos : Pos}
/-! ### text * int -/
def repT (z : Str) (n : Int) : Str := S (List.replicate n.toNat z.cps.toList).flatten
def repD : PyData → PyData → Rs PyData
  | .str z, .int n => if -(2 ^ 62) ≤ n ∧ n < 2 ^ 20 ∧ z.length ≤ 16 then .ok (.str (repT z n)) else .no
  | _, _ => .no
theorem foldl_arr : ∀ (n : Nat) (z acc : Array Nat), ((List.replicate n z).foldl (· ++ ·) acc) = acc ++ (List.replicate n z.toList).flatten.toArray
  | 0, z, acc => by simp
  | n + 1, z, acc => by
    rw [List.replicate_succ, List.foldl_cons, foldl_arr n z, List.replicate_succ, List.flatten_cons]
    apply Array.toList_inj.mp
    simp
theorem mul_repT (z : Str) (n : Int) : Txt.mul z n = repT z n := by
  obtain ⟨⟨l⟩⟩ := z
  unfold Txt.mul repT S
  by_cases h : n < 1
  · rw [if_pos h]
    have : n.toNat = 0 := by omega
    rw [this]
    rfl
  · rw [if_neg h]
    by_cases h2 : (n == 1 || (⟨⟨l⟩⟩ : Str).length == 0) = true
    · rw [if_pos h2]
      rw [Bool.or_eq_true] at h2
      rcases h2 with h2 | h2
      · have : n = 1 := eq_of_beq h2
        subst this
        simp
      · have : l = [] := by
          have h3 : (⟨⟨l⟩⟩ : Str).length = 0 := eq_of_beq h2
          exact List.eq_nil_of_length_eq_zero h3
        subst this
        simp
    · rw [if_neg h2, foldl_arr]
      simp
theorem repT_len (z : Str) (n : Int) : (repT z n).length = n.toNat * z.length := by
  obtain ⟨⟨l⟩⟩ := z
  show (List.replicate n.toNat l).flatten.length = n.toNat * l.length
  simp
theorem pd_rep (ha : PP X W a f) (hb : PP X W b g) : PD X W (.BinOp a .Mult b pos) (e2 repD f g) :=
  pd_op (r := fun x y H Q => ∃ z n, x = .str z ∧ y = .int n ∧ (-(2 ^ 62) ≤ n ∧ n < 2 ^ 20 ∧ z.length ≤ 16) ∧ Q (.str (repT z n)) H) (by
    intro pins s σ H x y v u Q I rx ry h
    obtain ⟨z, n, rfl, rfl, hz, q⟩ := h
    obtain ⟨t, rfl⟩ := rx
    obtain ⟨t', rfl⟩ := ry
    have hm : n.toNat * z.length ≤ 2 ^ 20 * 16 := Nat.mul_le_mul (by omega) hz.2.2
    refine SB.mul ⟨?_, fun _ _ => ?_, fun _ _ => ?_⟩ fun t' k => ⟨.str (repT z n), H, I.tok _, ⟨_, by rw [mul_repT]⟩, q⟩
    · have h1 : ¬ n < -(2 ^ 63) := by omega
      have h2 : ¬ n ≥ 2 ^ 63 := by omega
      rw [decide_eq_false h1, decide_eq_false h2]; rfl
    · have h1 : (2 ^ 63 - 1) / (2 ^ 20) ≤ (2 ^ 63 - 1) / n := by
        rename_i h2 _
        have : (0 : Int) < n := by omega
        exact Int.le_ediv_of_mul_le this (by
          have : (2 ^ 63 - 1 : Int) / 2 ^ 20 * n ≤ (2 ^ 63 - 1 : Int) / 2 ^ 20 * 2 ^ 20 := Int.mul_le_mul_of_nonneg_left (by omega) (by decide)
          refine Int.le_trans this (by decide))
      have h3 : (16 : Int) ≤ (2 ^ 63 - 1) / (2 ^ 20) := by decide
      omega
    · show decide (_ > sizeLine) = false
      have := sizeLine_eq
      rw [Nat.mul_comm] at hm
      exact decide_eq_false (by omega)) (fun G H v w d e σ Q s hv hw q => by
    unfold repD at q
    split at q
    · rename_i z n
      obtain ⟨rfl, _⟩ := hv.str; cases hw.int
      split at q
      · rename_i hz
        refine ⟨_, _, rfl, rfl, hz, RD.val s q fun _ => .str _ ?_⟩
        rw [repT_len]
        have hm : n.toNat * z.length ≤ 2 ^ 20 * 16 := Nat.mul_le_mul (by omega) hz.2.2
        have := sizeLine_eq
        omega
      · exact q.elim
    · exact q.elim) ha hb

/-! ### intL of a list -/
def intL : List PyData → Option (List Int)
  | [] => some []
  | .int b :: ds => (intL ds).map (b :: ·)
  | _ :: _ => none
theorem ints_dq {K : PySem.W.Frag} {G : Hp} : ∀ {ds : List PyData} {vs : List V} {bs : List Int}, DqAll K G vs ds → intL ds = some bs → vs = bs.map V.int
  | [], _, _, h, k => by cases h; cases k; rfl
  | .int b :: ds, _, bs, h, k => by
    unfold intL at k
    cases k2 : intL ds with
    | none => rw [k2] at k; cases k
    | some cs =>
      rw [k2] at k
      cases k
      cases h with
      | cons x y => cases x; rw [ints_dq y k2]; rfl
  | .none :: _, _, _, _, k => by cases k
  | .bool _ :: _, _, _, _, k => by cases k
  | .str _ :: _, _, _, _, k => by cases k
  | .list _ :: _, _, _, _, k => by cases k
  | .tuple _ :: _, _, _, _, k => by cases k
  | .dict _ :: _, _, _, _, k => by cases k
theorem ints_map (ns : List Int) : intL (ns.map PyData.int) = some ns := by
  induction ns with
  | nil => rfl
  | cons n ns ih => simp [intL, ih]
def sumD : PyData → Rs PyData
  | .list ds => match intL ds with
    | some ns => .ok (.int ns.sum)
    | none => .no
  | .tuple ds => match intL ds with
    | some ns => .ok (.int ns.sum)
    | none => .no
  | _ => .no
theorem sum_tupG {prog : Program} {w : World} {A : Around} {E : Value → Shared → Prop} {s : Shared} {l : Addr} {xs : Array (Int × Tok)} {Q : Value → Shared → Prop} (hh : A.handled = none) (hl : s.heap.IsTuple l (intItems xs))
    (h : ∀ h' tk t', (∀ b o, s.heap.get? b = some o → h'.get? b = some o) → Q (.int (preSum (numAt xs) xs.size) t') { s with heap := h', toks := tk }) :
    wpAny (model prog w) A (call (.builtin "sum") [.ref l]) Q E s := by
  obtain ⟨ol, hol, _⟩ := id hl
  have hlt : l < s.heap.objs.size := Heap.lt_size hol
  refine call_sum_walkG (wpAny_pyIter_tuple hl ?_)
  refine ⟨s.heap.objs.size, [s.heap.objs.size, l], [s.heap.objs.size], _, _, _, numAt xs, rfl, Walks.tuple (A := A.in1) hh _ l (Nat.ne_of_lt hlt) (intItems xs), ⟨⟨_, Heap.get?_push_size _ rfl, rfl, rfl⟩, hl.push _⟩, ?_, (fun _ _ => intItems_at), fun h' tk t' hk => ?_⟩
  · intro b hb
    have e' : b = s.heap.objs.size ∨ b = l := by simpa using hb
    show b < (s.heap.push _).objs.size
    rw [Heap.size_push]
    rcases e' with z | z
    · rw [z]; exact Nat.lt_succ_self _
    · rw [z]; exact Nat.lt_succ_of_lt hlt
  · have := h h' tk t' fun b o e => hk b o (fun hm => by
      have e' : b = s.heap.objs.size := by simpa using hm
      exact absurd (e' ▸ Heap.lt_size e) (Nat.lt_irrefl _)) (Heap.get?_push_of_some _ e)
    simpa [intItems] using this
theorem sum_rawT {prog : Program} {w : World} {A : Around} {E : Value → Shared → Prop} {s : Shared} {l : Addr} {its : List Value} {ns : List Int} {Q : Value → Shared → Prop} (hh : A.handled = none) (hl : s.heap.IsTuple l its.toArray) (hi : IntsAre its ns)
    (h : ∀ h' tk t', (∀ b o, s.heap.get? b = some o → h'.get? b = some o) → Q (.int ns.sum t') { s with heap := h', toks := tk }) : wpAny (model prog w) A (call (.builtin "sum") [.ref l]) Q E s := by
  obtain ⟨xs, e⟩ := hi.allInts.items
  have hn : numsOf (intItems xs).toList = ns := by rw [← e]; exact hi.numsOf
  rw [nums_intItems] at hn
  rw [e] at hl
  refine sum_tupG hh hl fun h' tk t' hk => ?_
  have := h h' tk t' hk
  rw [preSum_eq, List.take_of_length_le (by simp), hn]; exact this
def rSumT (K : PySem.W.Frag) : List V → Hp → VK → Prop := fun vs H Q => ∃ (a : Addr) (ns : List Int), vs = [V.ref a] ∧ SqT K H a (ns.map V.int) ∧ Q (.int ns.sum) H
theorem cr_sumT (hc : X.calm = true) : CallR X (.builtin "sum") (rSumT X.K) := by
  intro pins s σ H vs us Q I r h
  obtain ⟨a, ns, rfl, hs, q⟩ := h
  obtain ⟨its, rv, hl, _⟩ := I.tuple hs
  rw [Vals.ref1 r]
  exact sum_rawT (I.ok.hd hc) hl rv.ints fun h' tk t' hk => ⟨.int _, H, I.kept hk, ⟨_, rfl⟩, q⟩
theorem pd_sum {p : Pos} (hc : X.calm = true) (hg : Gl X "sum") (hm : X.mg "sum" = none) (ha : PP X W a f) (he : starEach [a] X.env = [(false, eval a X.env)] := by rfl) : PD X W (.Call (.Name "sum" p) [a] [] pos) (e1 sumD f) :=
  pd_b1 (callR_or (cr_sum hc) (cr_sumT hc)) (fun G H v d σ Q s hv q => by
    unfold sumD at q
    split at q
    · obtain ⟨p, xs, rfl, h1, h2⟩ := hv.lst s
      split at q
      · rename_i bs k
        have e := ints_dq h2 k
        subst e
        exact .inl ⟨p, bs, rfl, h1, RD.val s q fun _ => .int _⟩
      · exact q.elim
    · obtain ⟨p, xs, rfl, h1, h2⟩ := hv.tup s
      split at q
      · rename_i bs k
        have e := ints_dq h2 k
        subst e
        exact .inr ⟨p, bs, rfl, h1, RD.val s q fun _ => .int _⟩
      · exact q.elim
    · exact q.elim) hg hm ha (by decide +kernel) (by decide) (by decide) he
def maxI : List Int → Int
  | [] => 0
  | [n] => n
  | n :: ns => max n (maxI ns)
def minI : List Int → Int
  | [] => 0
  | [n] => n
  | n :: ns => min n (minI ns)
theorem maxI_mem : ∀ (n : Int) (ns : List Int), maxI (n :: ns) ∈ n :: ns ∧ ∀ y ∈ n :: ns, y ≤ maxI (n :: ns)
  | n, [] => by simp [maxI]
  | n, m :: ns => by
    obtain ⟨h1, h2⟩ := maxI_mem m ns
    have e : maxI (n :: m :: ns) = max n (maxI (m :: ns)) := rfl
    rw [e]
    refine ⟨?_, fun y hy => ?_⟩
    · by_cases h : n ≤ maxI (m :: ns)
      · rw [Int.max_eq_right h]; exact List.mem_cons_of_mem _ h1
      · rw [Int.max_eq_left (by omega)]; exact List.mem_cons_self
    · rcases List.mem_cons.mp hy with e | hy
      · subst e; exact Int.le_max_left _ _
      · exact Int.le_trans (h2 y hy) (Int.le_max_right _ _)
theorem minI_mem : ∀ (n : Int) (ns : List Int), minI (n :: ns) ∈ n :: ns ∧ ∀ y ∈ n :: ns, minI (n :: ns) ≤ y
  | n, [] => by simp [minI]
  | n, m :: ns => by
    obtain ⟨h1, h2⟩ := minI_mem m ns
    have e : minI (n :: m :: ns) = min n (minI (m :: ns)) := rfl
    rw [e]
    refine ⟨?_, fun y hy => ?_⟩
    · by_cases h : n ≤ minI (m :: ns)
      · rw [Int.min_eq_left h]; exact List.mem_cons_self
      · rw [Int.min_eq_right (by omega)]; exact List.mem_cons_of_mem _ h1
    · rcases List.mem_cons.mp hy with e | hy
      · subst e; exact Int.min_le_left _ _
      · exact Int.le_trans (Int.min_le_right _ _) (h2 y hy)
def maxLD : PyData → Rs PyData
  | .list ds => match intL ds with
    | some (n :: ns) => .ok (.int (maxI (n :: ns)))
    | _ => .no
  | _ => .no
def minLD : PyData → Rs PyData
  | .list ds => match intL ds with
    | some (n :: ns) => .ok (.int (minI (n :: ns)))
    | _ => .no
  | _ => .no
theorem pd_maxL {p : Pos} (hc : X.calm = true) (hg : Gl X "max") (hm : X.mg "max" = none) (ha : PP X W a f) (he : starEach [a] X.env = [(false, eval a X.env)] := by rfl) : PD X W (.Call (.Name "max" p) [a] [] pos) (e1 maxLD f) :=
  pd_b1 (cr_max hc) (fun G H v d σ Q s hv q => by
    unfold maxLD at q
    split at q
    · obtain ⟨p, xs, rfl, h1, h2⟩ := hv.lst s
      split at q
      · rename_i n ns k
        have e := ints_dq h2 k
        subst e
        refine ⟨p, n :: ns, rfl, h1, by simp, fun m m1 m2 => ?_⟩
        obtain ⟨h3, h4⟩ := maxI_mem n ns
        have e : m = maxI (n :: ns) := Int.le_antisymm (h4 m m1) (m2 _ h3)
        subst e
        exact RD.val s q fun _ => .int _
      · exact q.elim
    · exact q.elim) hg hm ha (by decide +kernel) (by decide) (by decide) he
theorem pd_minL {p : Pos} (hc : X.calm = true) (hg : Gl X "min") (hm : X.mg "min" = none) (ha : PP X W a f) (he : starEach [a] X.env = [(false, eval a X.env)] := by rfl) : PD X W (.Call (.Name "min" p) [a] [] pos) (e1 minLD f) :=
  pd_b1 (cr_min hc) (fun G H v d σ Q s hv q => by
    unfold minLD at q
    split at q
    · obtain ⟨p, xs, rfl, h1, h2⟩ := hv.lst s
      split at q
      · rename_i n ns k
        have e := ints_dq h2 k
        subst e
        refine ⟨p, n :: ns, rfl, h1, by simp, fun m m1 m2 => ?_⟩
        obtain ⟨h3, h4⟩ := minI_mem n ns
        have e : m = minI (n :: ns) := Int.le_antisymm (m2 _ h3) (h4 m m1)
        subst e
        exact RD.val s q fun _ => .int _
      · exact q.elim
    · exact q.elim) hg hm ha (by decide +kernel) (by decide) (by decide) he
end

/-! ### [::-1] -/
section
variable {prog : Program} {w : World} {A : Around} {E : Value → Shared → Prop} {s : Shared}
theorem places_rev (n : Nat) : Builtin.Slice.slicePlaces ((n : Int) - 1) (-1) (-1) = n := by
  unfold Builtin.Slice.slicePlaces
  have h1 : ¬ ((-1 : Int) > 0) := by decide
  simp only [h1, if_false]
  have h2 : (-(-1 : Int)) = 1 := by decide
  rw [h2, Int.ediv_one]
  split <;> omega
theorem sliceApplied_rev {sl : Addr} {vl vu vs : Value} {n : Nat} {Q : Int × Int × Nat → Shared → Prop} (hs : s.heap.IsSliceOf sl vl vu vs) (pl : IsPart vl none) (pu : IsPart vu none) (ps : IsPart vs (some (-1)))
    (h : Q ((n : Int) - 1, -1, n) s) : wpAny (model prog w) A (Builtin.Slice.sliceApplied (.ref sl) (pure (n : Int))) Q E s := by
  obtain ⟨os, hos, hcs, hds⟩ := id hs
  unfold Builtin.Slice.sliceApplied Builtin.Slice.sliceFields
  refine wpAny_bind (wpAny_bind (wpAny_field hos hds (x := vl) rfl (wpAny_bind (wpAny_field hos hds (x := vu) rfl (wpAny_bind (wpAny_field hos hds (x := vs) rfl (wpAny_pure ?_)))))))
  refine wpAny_bind (HT.slicePart_ ps ?_)
  show wpAny _ _ (if ((-1 : Int) == 0) = true then _ else _) _ _ s
  rw [if_neg (by decide)]
  refine wpAny_bind (HT.slicePart_ pl (wpAny_bind (HT.slicePart_ pu (wpAny_bind (wpAny_pure ?_)))))
  show wpAny _ _ (match Builtin.Slice.sliceAdjust none none (-1) (n : Int) with | (lo, hi) => pure (lo, (-1 : Int), Builtin.Slice.slicePlaces lo hi (-1))) _ _ s
  have e : Builtin.Slice.sliceAdjust none none (-1) (n : Int) = ((n : Int) - 1, -1) := rfl
  rw [e]
  show wpAny _ _ (pure ((n : Int) - 1, (-1 : Int), Builtin.Slice.slicePlaces ((n : Int) - 1) (-1) (-1))) _ _ s
  rw [places_rev]
  exact wpAny_pure h
theorem fm_congr {α β : Type} {f g : α → Option β} : ∀ (l : List α), (∀ x ∈ l, f x = g x) → l.filterMap f = l.filterMap g
  | [], _ => rfl
  | x :: l, h => by
    rw [List.filterMap_cons, List.filterMap_cons, h x List.mem_cons_self, fm_congr l fun y hy => h y (List.mem_cons_of_mem _ hy)]
theorem pick_rev (xs : Array Value) : ((List.range xs.size).filterMap fun (m : Nat) => xs[((xs.size : Int) - 1 + (m : Int) * -1).toNat]?).toArray = xs.toList.reverse.toArray := by
  have h := PySem.W.krv_all xs
  have e1 : (List.range xs.size).filterMap (fun (m : Nat) => xs[((xs.size : Int) - 1 + (m : Int) * -1).toNat]?) = ((List.range xs.size).map fun k => xs.size - 1 - k).filterMap (xs[·]?) := by
    rw [List.filterMap_map]
    refine fm_congr _ fun m hm => ?_
    have := List.mem_range.mp hm
    have e : ((xs.size : Int) - 1 + (m : Int) * -1).toNat = xs.size - 1 - m := by omega
    show _ = xs[xs.size - 1 - m]?
    rw [e]
  rw [e1, PySem.W.krv_range, List.filterMap_reverse, h]
theorem getItem_tuple_rev {t sl : Addr} {items : Array Value} {vl vu vs : Value} {Q : Value → Shared → Prop} (ht : IsTup s.heap t items) (hs : s.heap.IsSliceOf sl vl vu vs) (pl : IsPart vl none) (pu : IsPart vu none) (ps : IsPart vs (some (-1)))
    (h : Q (.ref s.heap.objs.size) { s with heap := s.heap.push { cls := .type "tuple", data := .seq items.toList.reverse.toArray } })
    (hsz : items.size ≤ sizeLine) : wpAny (model prog w) A (getItem (.ref t) (.ref sl)) Q E s := by
  have htake : sizeOk (.seq items.toList.reverse.toArray) := by
    show items.toList.reverse.toArray.size ≤ sizeLine
    rw [List.size_toArray, List.length_reverse, Array.length_toList]
    exact hsz
  obtain ⟨os, hos, hcs, hds⟩ := id hs
  have hTs : s.TypeIs (.ref sl) "slice" := ⟨os, hos, hcs⟩
  unfold getItem
  try with_reducible refine wpAny_holding ?_
  first | refine wpAny_bind (wpAny_pure ?_) | skip
  refine wpAny_bind (wpAny_sequenceKey ht.typeIs (by decide) ?_)
  refine wpAny_bind (wpAny_callSpecial?_slot (name := Str.ofString "__getitem__") ht.typeIs PyProof.Rows.slot_tuple_getitem
    (wpAny_call_entry PyProof.Rows.slot_tuple_getitem ht.typeIs entry_tuple_getitem ?_ (args_tuple_getitem _ _)))
  show wpAny _ _ (Builtin.Tuple.tupleItemsOf (.ref t) >>= _) _ _ s
  refine wpAny_bind (tupleItemsOf_ ht ?_)
  refine wpAny_bind (wpAny_typeOf hTs ?_)
  rw [if_pos (by decide)]
  refine wpAny_bind (sliceApplied_rev hs pl pu ps ?_)
  have hno : ¬ ((((items.size : Int) - 1) == 0 && (-1 : Int) == 1 && items.size == items.size) = true) := by
    intro q
    rw [Bool.and_eq_true, Bool.and_eq_true] at q
    exact absurd q.1.2 (by decide)
  show wpAny _ _ (if (((items.size : Int) - 1) == 0 && (-1 : Int) == 1 && items.size == items.size) = true then _ else _) _ _ s
  rw [if_neg hno, pick_rev]
  first
    | exact wpAny_bind (m := Builtin.Tuple.tupleExact _) (wpAny_newObj_type (wpAny_pure ⟨_, rfl, wpAny_pure h⟩) htake)
    | exact wpAny_bind (m := Builtin.Tuple.tupleExact _) (wpAny_newObj_type (wpAny_bind (wpAny_pure (wpAny_pure ⟨_, rfl, wpAny_pure h⟩))) htake)
    | exact wpAny_bind (wpAny_bind (m := Builtin.Tuple.tupleExact _) (wpAny_newObj_type (wpAny_pure (wpAny_pure ⟨_, rfl, wpAny_pure h⟩)) htake))
    | exact wpAny_bind (wpAny_bind (m := Builtin.Tuple.tupleExact _) (wpAny_newObj_type (wpAny_pure ⟨_, rfl, wpAny_pure h⟩) htake))
end
section
variable {X : Cx} {W : WX} {e a b c : Expr} {f g h : EF} {pos : Pos}
def tRevA (K : PySem.W.Frag) (te : TE) : TE := fun σ H Q => te σ H fun x H1 => ∃ a xs, x = .ref a ∧ ((SqL K H1 a xs ∧ ∀ p, H1 p = none → Q (.ref p) (upd H1 p (.lst xs.reverse))) ∨ (SqT K H1 a xs ∧ ∀ p, H1 p = none → Q (.ref p) (upd H1 p (.tup xs.reverse))))
theorem pe_revA {te : TE} {k : Nat} {p1 p2 p3 : Pos} (he : PE X e te) : PE X (.Subscript e (.Slice none none (some (.UnaryOp .USub (.Constant (.int 1) k p1) p2)) p3) pos) (tRevA X.K te) := by
  refine ⟨fun pins s σ H Q I h => ?_⟩
  refine Subscript_ (thn (he.run pins s σ H _ I h) fun v s1 ⟨x, H1, I1, r1, q1⟩ => ?_)
  obtain ⟨a, xs, ex, hx⟩ := q1
  subst ex
  cases r1
  have hst : PO X (some (.UnaryOp .USub (.Constant (.int 1) k p1) p2)) (tPart (tUn (rU fun i => .int (-i)) (tC (.int 1)))) := po_some (pe_un un_neg pe_int)
  refine wpAny_Slice (thn (po_none.run pins s1 σ H1 (fun o H2 => o = none ∧ H2 = H1) I1 ⟨rfl, rfl⟩) fun vl s2 ⟨l, H2, I2, pl, el, e2⟩ => ?_)
  subst el e2
  refine thn (po_none.run pins s2 σ H2 (fun o H3 => o = none ∧ H3 = H2) I2 ⟨rfl, rfl⟩) fun vu s3 ⟨u, H3, I3, pu, eu, e3⟩ => ?_
  subst eu e3
  refine thn (hst.run pins s3 σ H3 (fun o H4 => o = some (-1) ∧ H4 = H3) I3 ⟨1, rfl, -1, rfl, rfl, rfl⟩) fun vs s4 ⟨o, H4, I4, ps, eo, e4⟩ => ?_
  subst eo e4
  have I5 : Inv X pins σ H4 { s4 with heap := s4.heap.push { cls := .type "slice", data := .fields #[vl, vu, vs] } } := I4.kept (t' := s4.toks) fun b ob q => Heap.get?_push_of_some _ q
  show wpAny (model X.prog X.w) X.A (subscriptTail e (.Slice none none (some (.UnaryOp .USub (.Constant (.int 1) k p1) p2)) p3) (.ref a) (.ref s4.heap.objs.size)) (EP X pins σ Q) X.xe { s4 with heap := s4.heap.push { cls := .type "slice", data := .fields #[vl, vu, vs] } }
  rcases hx with ⟨hx, q⟩ | ⟨hx, q⟩
  · obtain ⟨its, r, ht, hz⟩ := I5.list hx
    have hlen := r.length
    refine tail_any (ops := [.ref a, .ref s4.heap.objs.size]) ht.isList.typeIs (PySem.slot_list_getitem.lookup) ?_ (by with_unfolding_all rfl)
    refine wpAny_getItem_list_slice ht.isList (Heap.IsSliceOf.new _ vl vu vs) pl pu ps (by decide) ?_ (by rw [List.size_toArray]; omega)
    rw [PySem.W.krv_pick]
    refine ⟨.ref _, _, I5.laid (t' := s4.toks) (o := .lst xs.reverse) (fun b ob q => Heap.get?_push_of_some _ q) (Nat.le_refl _) ?_, rfl, q _ (I5.hok.fresh (Nat.le_refl _))⟩
    exact ⟨by rw [List.length_reverse]; exact hz, _, 0, r.reverse, Heap.get?_push_size _ rfl⟩
  · obtain ⟨its, r, ht, hz⟩ := I5.tuple hx
    have hlen := r.length
    refine tail_any (ops := [.ref a, .ref s4.heap.objs.size]) ht.typeIs (PyProof.Rows.slot_tuple_getitem.lookup) ?_ (by with_unfolding_all rfl)
    refine getItem_tuple_rev ht (Heap.IsSliceOf.new _ vl vu vs) pl pu ps ?_ (by rw [List.size_toArray]; omega)
    refine ⟨.ref _, _, I5.laid (t' := s4.toks) (o := .tup xs.reverse) (fun b ob q => Heap.get?_push_of_some _ q) (Nat.le_refl _) ?_, rfl, q _ (I5.hok.fresh (Nat.le_refl _))⟩
    exact ⟨by rw [List.length_reverse]; exact hz, _, r.reverse, IsTup.new _ _⟩
def revD : PyData → Rs PyData
  | .list ds => .ok (.list ds.reverse)
  | .tuple ds => .ok (.tuple ds.reverse)
  | _ => .no
theorem dpAll_rev {K : PySem.W.Frag} {G : Hp} : ∀ {ds : List PyData} {vs : List V}, DqAll K G vs ds → DqAll K G vs.reverse ds.reverse
  | [], _, h => by cases h; exact .nil
  | d :: ds, _, h => by
    cases h with
    | cons a b =>
      rw [List.reverse_cons, List.reverse_cons]
      exact dpAll_app (dpAll_rev b) (.cons a .nil)
theorem pd_rev {k : Nat} {p1 p2 p3 : Pos} (ha : PP X W a f) : PD X W (.Subscript a (.Slice none none (some (.UnaryOp .USub (.Constant (.int 1) k p1) p2)) p3) pos) (e1 revD f) :=
  pe_weak (pe_revA ha) fun σ H Q q => run1 (r := fun v H Q => ∃ a xs, v = .ref a ∧ ((SqL X.K H a xs ∧ ∀ p, H p = none → Q (.ref p) (upd H p (.lst xs.reverse))) ∨ (SqT X.K H a xs ∧ ∀ p, H p = none → Q (.ref p) (upd H p (.tup xs.reverse))))) (fun G H v d σ Q s hv q => by
    unfold revD at q
    split at q
    · obtain ⟨p, xs, rfl, h1, h2⟩ := hv.lst s
      exact ⟨p, xs, rfl, .inl ⟨h1, RD.newL s q (dpAll_rev h2)⟩⟩
    · obtain ⟨p, xs, rfl, h1, h2⟩ := hv.tup s
      exact ⟨p, xs, rfl, .inr ⟨h1, RD.newT s q (dpAll_rev h2)⟩⟩
    · exact q.elim) q
end
end L2.Pz

namespace L2.Pz
open PySem PySem.Spec PyProof.Rows
/-! ### sorted, pairs of ints -/
def pairL : List PyData → Option (List (Int × Int))
  | [] => some []
  | .tuple [.int a, .int b] :: ds => (pairL ds).map ((a, b) :: ·)
  | _ :: _ => none
def insP (p : Int × Int) : List (Int × Int) → List (Int × Int)
  | [] => [p]
  | q :: l => if SrtO.lexB q p then q :: insP p l else p :: q :: l
def sortP : List (Int × Int) → List (Int × Int)
  | [] => []
  | p :: l => insP p (sortP l)
@[simp] def prD (p : Int × Int) : PyData := .tuple [.int p.1, .int p.2]
theorem pairL_map (ps : List (Int × Int)) : pairL (ps.map prD) = some ps := by
  induction ps with
  | nil => rfl
  | cons p ps ih => simp [pairL, ih]
theorem pairL_eq : ∀ {ds : List PyData} {ps : List (Int × Int)}, pairL ds = some ps → ds = ps.map prD
  | [], ps, h => by cases h; rfl
  | d :: ds, ps, h => by
    unfold pairL at h
    split at h
    · rename_i e; cases e
    · rename_i x a b ds' e
      cases e
      cases k : pairL ds with
      | none => rw [k] at h; cases h
      | some qs =>
        rw [k] at h
        cases h
        rw [pairL_eq k]
        rfl
    · cases h
theorem insP_perm (p : Int × Int) : ∀ l, (insP p l).Perm (p :: l)
  | [] => List.Perm.refl _
  | q :: l => by
    unfold insP
    split
    · exact ((insP_perm p l).cons q).trans (List.Perm.swap p q l)
    · exact List.Perm.refl _
theorem sortP_perm : ∀ l, (sortP l).Perm l
  | [] => List.Perm.refl _
  | p :: l => (insP_perm p (sortP l)).trans ((sortP_perm l).cons p)
theorem insP_srt (p : Int × Int) : ∀ l, SrtO.Srtd SrtO.lexB l → SrtO.Srtd SrtO.lexB (insP p l)
  | [], _ => List.pairwise_singleton _ _
  | q :: l, h => by
    obtain ⟨h1, h2⟩ := List.pairwise_cons.mp h
    unfold insP
    split
    · rename_i hq
      refine List.pairwise_cons.mpr ⟨fun y hy => ?_, insP_srt p l h2⟩
      rcases List.mem_cons.mp ((insP_perm p l).mem_iff.mp hy) with e | e
      · subst e
        have a := SrtO.lexB_iff.mp hq
        refine SrtO.lexB_no.mpr ?_
        omega
      · exact h1 y e
    · rename_i hq
      have hq : SrtO.lexB q p = false := by cases k : SrtO.lexB q p <;> simp_all
      refine List.pairwise_cons.mpr ⟨fun y hy => ?_, h⟩
      rcases List.mem_cons.mp hy with e | e
      · subst e; exact hq
      · have a := SrtO.lexB_no.mp (h1 y e)
        have b := SrtO.lexB_no.mp hq
        refine SrtO.lexB_no.mpr ?_
        omega
theorem sortP_srt : ∀ l, SrtO.Srtd SrtO.lexB (sortP l)
  | [] => List.Pairwise.nil
  | p :: l => insP_srt p _ (sortP_srt l)
theorem srt_uniq : ∀ {l m : List (Int × Int)}, SrtO.Srtd SrtO.lexB l → SrtO.Srtd SrtO.lexB m → l.Perm m → l = m
  | [], m, _, _, h => (List.Perm.eq_nil h.symm).symm
  | x :: l, [], _, _, h => absurd h.length_eq (by simp)
  | x :: l, y :: m, hl, hm, h => by
    have e : x = y := by
      have h1 : SrtO.lexB x y = false := by
        rcases List.mem_cons.mp (h.mem_iff.mp (List.mem_cons_self (a := x) (l := l))) with e | hx
        · subst e; exact SrtO.lexB_no.mpr (by omega)
        · exact (List.pairwise_cons.mp hm).1 x hx
      have h2 : SrtO.lexB y x = false := by
        rcases List.mem_cons.mp (h.mem_iff.mpr (List.mem_cons_self (a := y) (l := m))) with e | hy
        · subst e; exact SrtO.lexB_no.mpr (by omega)
        · exact (List.pairwise_cons.mp hl).1 y hy
      have a := SrtO.lexB_no.mp h1
      have b := SrtO.lexB_no.mp h2
      apply Prod.ext <;> omega
    subst e
    rw [srt_uniq (List.pairwise_cons.mp hl).2 (List.pairwise_cons.mp hm).2 h.cons_inv]
def readP (h : Heap) : Value → Int × Int
  | .ref t => match h.get? t with
    | some o => match o.data with
      | .seq ⟨[.int a _, .int b _]⟩ _ => (a, b)
      | _ => (0, 0)
    | none => (0, 0)
  | _ => (0, 0)
theorem readP_of {h : Heap} {v : Value} {x y : Int} (p : Srt.IsPair h v x y) : readP h v = (x, y) := by
  obtain ⟨a, o, t, u, n, rfl, ho, hc, hd⟩ := p
  unfold readP
  simp only [ho, hd]
def rSortedQ (K : PySem.W.Frag) : List V → Hp → VK → Prop := fun vs H Q => ∃ (a : Addr) (xs : List V) (ps : List (Int × Int)), vs = [V.ref a] ∧ SqL K H a xs ∧ Paired (fun x (p : Int × Int) => ∃ t, x = V.ref t ∧ SqT K H t [.int p.1, .int p.2]) xs ps ∧
  ∀ (zs : List (V × (Int × Int))) (p : Addr), SrtO.Srtd SrtO.lexB (zs.map (·.2)) → zs.Perm (xs.zip ps) → H p = none → Q (.ref p) (upd H p (.lst (zs.map (·.1))))
theorem pair_items {X : Cx} {pins : List (Addr × Obj)} {σ : St} {H : Hp} {s : Shared} (I : Inv X pins σ H s) : ∀ {xs : List V} {its : List Value} {ps : List (Int × Int)}, Vals xs its → Paired (fun x (p : Int × Int) => ∃ t, x = V.ref t ∧ SqT X.K H t [.int p.1, .int p.2]) xs ps →
    its.map (readP s.heap) = ps ∧ (∀ v ∈ its, Srt.IsPair s.heap v (readP s.heap v).1 (readP s.heap v).2) ∧ ∀ x ∈ xs, ∃ a, x = V.ref a
  | _, _, _, .nil, h => by cases h; exact ⟨rfl, fun v hv => absurd hv (by simp), fun v hv => absurd hv (by simp)⟩
  | _, _, _, .cons r t, h => by
    cases h with
    | cons a b =>
      rename_i x u xs its p ps
      obtain ⟨h1, h2, h3⟩ := pair_items I t b
      obtain ⟨q, e, sq⟩ := a
      have h0 : Srt.IsPair s.heap u p.1 p.2 := by
        subst e
        obtain rfl : u = Value.ref q := r
        obtain ⟨its2, r2, ⟨o, ho, hc, n, hd⟩, _⟩ := I.tuple sq
        obtain ⟨u1, u2, rfl, ri, rj⟩ := vals2 r2
        obtain ⟨t1, rfl⟩ := ri
        obtain ⟨t2, rfl⟩ := rj
        exact ⟨q, o, t1, t2, n, rfl, ho, hc, hd⟩
      have e0 := readP_of h0
      refine ⟨by rw [List.map_cons, h1, e0], fun v hv => ?_, fun v hv => ?_⟩
      · rcases List.mem_cons.mp hv with e1 | e1
        · subst e1; rw [e0]; exact h0
        · exact h2 v e1
      · rcases List.mem_cons.mp hv with e1 | e1
        · exact ⟨q, e1.trans e⟩
        · exact h3 v e1
section
variable {X : Cx} {W : WX} {e a b c : Expr} {f g h : EF} {pos : Pos}
theorem cr_sortedQ : CallR X (.builtin "sorted") (rSortedQ X.K) := by
  intro pins s σ H vs us Q I r h
  obtain ⟨a, xs, ps, rfl, hs, hx, q⟩ := h
  obtain ⟨its, rv, hl, hz⟩ := I.list hs
  obtain ⟨u, rfl, ru⟩ := vals1 r
  obtain rfl : u = Value.ref a := ru
  obtain ⟨k1, k2, k3⟩ := pair_items I rv hx
  obtain ⟨e1, e2⟩ := refs_back rv k3
  refine SrtO.sorted_pairsO (k := readP s.heap) hl.isList (by rw [← rv.length]; exact hz) k2 fun h' d out h1 h2 kp hd hn => ?_
  have h3 : ∀ u ∈ out, ∃ a, u = Value.ref a := fun u hu => e2 u (h2.perm.mem_iff.mp hu)
  obtain ⟨n, hn⟩ := hn
  have hl2 : out.length = its.length := h2.perm.length_eq
  have ez : (out.map fun u => (backV u, readP s.heap u)).map (·.1) = out.map backV := by rw [List.map_map]; rfl
  have key := q (out.map fun u => (backV u, readP s.heap u)) d (by
      rw [List.map_map]
      exact SrtO.srtd_map (f := readP s.heap) h1) (by
      have := h2.perm.map fun u => (backV u, readP s.heap u)
      have e3 : xs.zip ps = its.map fun u => (backV u, readP s.heap u) := by
        rw [e1, ← k1, List.zip_map']
      rw [e3]
      exact this) (I.hok.fresh hd)
  rw [ez] at key
  refine ⟨.ref d, upd H d (.lst (out.map backV)), I.laid (t' := s.toks) kp hd ⟨?_, out, n, vals_back h3, hn⟩, rfl, key⟩
  rw [List.length_map, hl2, ← rv.length]
  exact hz
def sortedD : PyData → Rs PyData
  | .list ds => match pairL ds with
    | some ps => .ok (.list ((sortP ps).map prD))
    | none => .no
  | _ => .no
theorem pairs_dq {K : PySem.W.Frag} {G H : Hp} (s : Same G H) : ∀ {ps : List (Int × Int)} {vs : List V}, DqAll K G vs (ps.map prD) → Paired (fun x (p : Int × Int) => ∃ t, x = V.ref t ∧ SqT K H t [.int p.1, .int p.2]) vs ps ∧ ∀ z ∈ vs.zip ps, Dq K G z.1 (prD z.2)
  | [], _, h => by cases h; exact ⟨.nil, fun z hz => absurd hz (by simp)⟩
  | p :: ps, _, h => by
    cases h with
    | cons a b =>
      obtain ⟨h1, h2⟩ := pairs_dq s b
      refine ⟨.cons ?_ h1, fun z hz => ?_⟩
      · cases a with
        | tup x y =>
          cases y with
          | cons y1 y =>
            cases y with
            | cons y2 y =>
              cases y
              cases y1
              cases y2
              exact ⟨_, rfl, sqT_mono s x⟩
      · rw [List.zip_cons_cons] at hz
        rcases List.mem_cons.mp hz with e | e
        · subst e; exact a
        · exact h2 z e
theorem zs_dq {K : PySem.W.Frag} {G : Hp} : ∀ {zs : List (V × (Int × Int))}, (∀ z ∈ zs, Dq K G z.1 (prD z.2)) → DqAll K G (zs.map (·.1)) ((zs.map (·.2)).map prD)
  | [], _ => .nil
  | z :: zs, h => .cons (h z List.mem_cons_self) (zs_dq fun y hy => h y (List.mem_cons_of_mem _ hy))
theorem pd_sorted {p : Pos} (hg : Gl X "sorted") (hm : X.mg "sorted" = none) (ha : PP X W a f) (he : starEach [a] X.env = [(false, eval a X.env)] := by rfl) : PD X W (.Call (.Name "sorted" p) [a] [] pos) (e1 sortedD f) :=
  pd_b1 cr_sortedQ (fun G H v d σ Q s hv q => by
    unfold sortedD at q
    split at q
    · obtain ⟨p, xs, rfl, h1, h2⟩ := hv.lst s
      split at q
      · rename_i ps k
        have e := pairL_eq k
        subst e
        obtain ⟨h3, h4⟩ := pairs_dq s h2
        have hl : xs.length = ps.length := by rw [dpAll_len h2, List.length_map]
        refine ⟨p, xs, ps, rfl, h1, h3, fun zs t hs hp n => ?_⟩
        have e1 : zs.map (·.2) = sortP ps := by
          refine srt_uniq hs (sortP_srt ps) (List.Perm.trans ?_ (sortP_perm ps).symm)
          have := hp.map (·.2)
          rwa [List.map_snd_zip (by omega)] at this
        rw [← e1] at q
        exact RD.newL s q (zs_dq fun z hz => h4 z (hp.mem_iff.mp hz)) t n
      · exact q.elim
    · exact q.elim) hg hm ha (by decide +kernel) (by decide) (by decide) he

/-! ### methods -/
@[simp] def eM1 (T : PyData → Bool) (F : PyData → PyData → Rs PyData) (f g : EF) (ρ : En) : Rs PyData := (f ρ).bind fun d => if T d then (g ρ).bind fun e => F d e else .no
@[simp] def eM2 (T : PyData → Bool) (F : PyData → PyData → PyData → Rs PyData) (f g h : EF) (ρ : En) : Rs PyData := (f ρ).bind fun d => if T d then (g ρ).bind fun e => (h ρ).bind fun u => F d e u else .no
@[simp] def eM0 (T : PyData → Bool) (F : PyData → Rs PyData) (f : EF) (ρ : En) : Rs PyData := (f ρ).bind fun d => if T d then F d else .no
@[simp] def isS : PyData → Bool
  | .str _ => true
  | _ => false
@[simp] def isL : PyData → Bool
  | .list _ => true
  | _ => false
abbrev TyS (X : Cx) (Tn : String) (T : PyData → Bool) : Prop := ∀ (G H : Hp) (v : V) (d : PyData), Same G H → PkOk X.K G H v d → T d = true → tyV X.K Tn v H
theorem tyS_str : TyS X "str" isS := fun G H v d s hv h => by
  cases d <;> first | cases h; done | skip
  obtain ⟨rfl, _⟩ := hv.str
  rfl
theorem tyS_lst : TyS X "list" isL := fun G H v d s hv h => by
  cases d <;> first | cases h; done | skip
  obtain ⟨p, xs, rfl, h1, _⟩ := hv.lst s
  exact .inl ⟨rfl, xs, h1⟩
theorem runM0 {Tn : String} {T : PyData → Bool} {F : PyData → Rs PyData} {r : V → List V → Hp → VK → Prop} (hT : TyS X Tn T) (hF : Spec1 X W (fun v => r v []) F) {σ : St} {H : Hp} {Q : VK} (q : tD X.K X.mg W (eM0 T F f) σ H Q) : tBM0 X.K Tn r (tP X.K X.mg W f) σ H Q := by
  obtain ⟨G0, H0, G, ρ, E, q⟩ := q
  refine ⟨G0, H0, G, ρ, E, ?_⟩
  unfold eM0 at q
  cases k : f ρ with
  | er c => rw [k] at q; exact q
  | no => rw [k] at q; exact q
  | ok d =>
    rw [k, Rs.bind_ok] at q
    refine fun v G1 H1 g1 z => ?_
    by_cases ht : T d = true
    · rw [if_pos ht] at q
      exact ⟨hT G1 H1 v d g1.sub z ht, hF G1 H1 v d σ Q g1.sub z (RD.grow g1 q)⟩
    · rw [if_neg ht] at q; exact q.elim
theorem runM1 {Tn : String} {T : PyData → Bool} {F : PyData → PyData → Rs PyData} {r : V → List V → Hp → VK → Prop} (hT : TyS X Tn T) (hF : Spec2 X W (fun v w => r v [w]) F) {σ : St} {H : Hp} {Q : VK} (q : tD X.K X.mg W (eM1 T F f g) σ H Q) : tBM X.K Tn r (tP X.K X.mg W f) (tCons (tP X.K X.mg W g) tNil) σ H Q := by
  obtain ⟨G0, H0, G, ρ, E, q⟩ := q
  refine ⟨G0, H0, G, ρ, E, ?_⟩
  unfold eM1 at q
  cases k : f ρ with
  | er c => rw [k] at q; exact q
  | no => rw [k] at q; exact q
  | ok d =>
    rw [k, Rs.bind_ok] at q
    refine fun v G1 H1 g1 z => ?_
    by_cases ht : T d = true
    · rw [if_pos ht] at q
      refine ⟨hT G1 H1 v d g1.sub z ht, G0, H0, G1, ρ, E.grow g1, ?_⟩
      cases k2 : g ρ with
      | er c => rw [k2] at q; exact fun G2 H2 g2 => q G2 H2 (g1.trans g2)
      | no => rw [k2] at q; exact q
      | ok d2 =>
        rw [k2, Rs.bind_ok] at q
        exact fun w G2 H2 g2 z2 => hF G2 H2 v w d d2 σ Q g2.sub (z.grow g2) z2 (RD.grow (g1.trans g2) q)
    · rw [if_neg ht] at q; exact q.elim
abbrev Spec3 (X : Cx) (W : WX) (r : V → V → V → Hp → VK → Prop) (F : PyData → PyData → PyData → Rs PyData) : Prop := ∀ (G H : Hp) (v w u : V) (d e k : PyData) (σ : St) (Q : VK), Same G H → PkOk X.K G H v d → PkOk X.K G H w e → PkOk X.K G H u k → RD X.K X.mg W G H σ Q (F d e k) → r v w u H Q
theorem runM2 {Tn : String} {T : PyData → Bool} {F : PyData → PyData → PyData → Rs PyData} {r : V → List V → Hp → VK → Prop} (hT : TyS X Tn T) (hF : Spec3 X W (fun v w u => r v [w, u]) F) {σ : St} {H : Hp} {Q : VK} (q : tD X.K X.mg W (eM2 T F f g h) σ H Q) : tBM X.K Tn r (tP X.K X.mg W f) (tCons (tP X.K X.mg W g) (tCons (tP X.K X.mg W h) tNil)) σ H Q := by
  obtain ⟨G0, H0, G, ρ, E, q⟩ := q
  refine ⟨G0, H0, G, ρ, E, ?_⟩
  unfold eM2 at q
  cases k : f ρ with
  | er c => rw [k] at q; exact q
  | no => rw [k] at q; exact q
  | ok d =>
    rw [k, Rs.bind_ok] at q
    refine fun v G1 H1 g1 z => ?_
    by_cases ht : T d = true
    · rw [if_pos ht] at q
      refine ⟨hT G1 H1 v d g1.sub z ht, G0, H0, G1, ρ, E.grow g1, ?_⟩
      cases k2 : g ρ with
      | er c => rw [k2] at q; exact fun G2 H2 g2 => q G2 H2 (g1.trans g2)
      | no => rw [k2] at q; exact q
      | ok d2 =>
        rw [k2, Rs.bind_ok] at q
        refine fun w G2 H2 g2 z2 => ⟨G0, H0, G2, ρ, (E.grow g1).grow g2, ?_⟩
        cases k3 : h ρ with
        | er c => rw [k3] at q; exact fun G3 H3 g3 => q G3 H3 ((g1.trans g2).trans g3)
        | no => rw [k3] at q; exact q
        | ok d3 =>
          rw [k3, Rs.bind_ok] at q
          exact fun u G3 H3 g3 z3 => hF G3 H3 v w u d d2 d3 σ Q g3.sub ((z.grow g2).grow g3) (z2.grow g3) z3 (RD.grow ((g1.trans g2).trans g3) q)
    · rw [if_neg ht] at q; exact q.elim
theorem pd_m0 {Tn id : String} {name : Str} {T : PyData → Bool} {F : PyData → Rs PyData} {r : V → List V → Hp → VK → Prop} {apos : Pos} (hT : TyS X Tn T) (pa : PlainAttrs Tn) (slot : Slot Tn name id) (hty : typeOf (.builtin id) = pure (.type "method_descriptor")) (hm : MtR X id r) (hF : Spec1 X W (fun v => r v []) F) (ha : PP X W a f)
    (hbase : attributeBase a name X.env (eval a X.env) = eval a X.env) (hline : (apos.endLine == pos.line) = true) :
    PD X W (.Call (.Attribute a name apos) [] [] pos) (eM0 T F f) := pe_weak (pe_bm0 pa slot hty hm ha hbase hline) fun _ _ _ q => runM0 hT hF q
theorem pd_m1 {Tn id : String} {name : Str} {T : PyData → Bool} {F : PyData → PyData → Rs PyData} {r : V → List V → Hp → VK → Prop} {apos : Pos} (hT : TyS X Tn T) (pa : PlainAttrs Tn) (slot : Slot Tn name id) (hty : typeOf (.builtin id) = pure (.type "method_descriptor")) (hm : MtR X id r) (hF : Spec2 X W (fun v w => r v [w]) F) (ha : PP X W a f) (hb : PP X W b g)
    (hbase : attributeBase a name X.env (eval a X.env) = eval a X.env)
    (hfew : ((backTo pos (starEach [b] X.env)).all (fun x => !x.1) && (backToKw pos (keywordEach [] X.env)).all (fun x => x.1.isSome)
      && decide (([b] : List Expr).length + ([] : List Keyword).length + (if ([] : List Keyword).isEmpty then 0 else 1) < 30)) = true)
    (hline : (apos.endLine == pos.line) = true) (hs : starEach [b] X.env = (false, eval b X.env) :: starEach [] X.env) (hplain : (backTo pos (starEach [] X.env)).any (·.1) = false) :
    PD X W (.Call (.Attribute a name apos) [b] [] pos) (eM1 T F f g) := pe_weak (pe_bm pa slot hty hm ha (pa_cons hb pa_nil hs) hbase hfew hline hs hplain) fun _ _ _ q => runM1 hT hF q
theorem pd_m2 {Tn id : String} {name : Str} {T : PyData → Bool} {F : PyData → PyData → PyData → Rs PyData} {r : V → List V → Hp → VK → Prop} {apos : Pos} (hT : TyS X Tn T) (pa : PlainAttrs Tn) (slot : Slot Tn name id) (hty : typeOf (.builtin id) = pure (.type "method_descriptor")) (hm : MtR X id r) (hF : Spec3 X W (fun v w u => r v [w, u]) F) (ha : PP X W a f) (hb : PP X W b g) (hc : PP X W c h)
    (hbase : attributeBase a name X.env (eval a X.env) = eval a X.env)
    (hfew : ((backTo pos (starEach [b, c] X.env)).all (fun x => !x.1) && (backToKw pos (keywordEach [] X.env)).all (fun x => x.1.isSome)
      && decide (([b, c] : List Expr).length + ([] : List Keyword).length + (if ([] : List Keyword).isEmpty then 0 else 1) < 30)) = true)
    (hline : (apos.endLine == pos.line) = true) (hs : starEach [b, c] X.env = (false, eval b X.env) :: starEach [c] X.env) (hs2 : starEach [c] X.env = (false, eval c X.env) :: starEach [] X.env) (hplain : (backTo pos (starEach [c] X.env)).any (·.1) = false) :
    PD X W (.Call (.Attribute a name apos) [b, c] [] pos) (eM2 T F f g h) := pe_weak (pe_bm pa slot hty hm ha (pa_cons hb (pa_cons hc pa_nil hs2) hs) hbase hfew hline hs hplain) fun _ _ _ q => runM2 hT hF q
/-! xs.index(x) -/
def indexD : PyData → PyData → Rs PyData
  | .list ds, d => if flatD d && ds.all flatD then match ds.findIdx? fun y => eqF y d with
      | some j => .ok (.int (j : Nat))
      | none => .no
    else .no
  | _, _ => .no
theorem flats_ok {K : PySem.W.Frag} {G : Hp} : ∀ {ds : List PyData} {vs : List V}, DqAll K G vs ds → ds.all flatD = true → vs.all flatV = true
  | [], _, h, _ => by cases h; rfl
  | d :: ds, _, h, k => by
    cases h with
    | cons a b =>
      rw [List.all_cons, Bool.and_eq_true] at k
      rw [List.all_cons, flat_ok a k.1, flats_ok b k.2]; rfl
theorem sp_index : Spec2 X W (fun v w => rIndex X.K v [w]) indexD := by
  intro G H v w d e σ Q s hv hw q
  unfold indexD at q
  split at q
  · rename_i ds
    split at q
    · rename_i hz
      rw [Bool.and_eq_true] at hz
      obtain ⟨p, xs, rfl, h1, h2⟩ := hv.lst s
      have hd := hw.flat hz.1
      split at q
      · rename_i j k
        obtain ⟨hj, k1, k2⟩ := List.findIdx?_eq_some_iff_getElem.mp k
        have hl := dpAll_len h2
        have ej : xs[j]? = some (xs[j]'(by omega)) := by simp [show j < xs.length by omega]
        obtain ⟨d', e1, e2⟩ := dpAll_get h2 ej
        have e1' : d' = ds[j] := by
          have : ds[j]? = some ds[j] := by simp [hj]
          rw [this] at e1; exact (Option.some.inj e1).symm
        subst e1'
        have fl : ∀ (m : Nat) (hm : m < ds.length), flatD ds[m] = true := fun m hm => List.all_eq_true.mp hz.2 _ (List.getElem_mem hm)
        refine ⟨p, xs, w, j, _, rfl, rfl, h1, flat_ok hd hz.1, flats_ok h2 hz.2, ej, ?_, fun m z' hm hz' => ?_, RD.val s q fun _ => .int _⟩
        · rw [eqF_ok e2 hd (fl j hj) hz.1]; exact k1
        · obtain ⟨d2, e3, e4⟩ := dpAll_get h2 hz'
          have hm2 : m < ds.length := by omega
          have e3' : d2 = ds[m] := by
            have : ds[m]? = some ds[m] := by simp [hm2]
            rw [this] at e3; exact (Option.some.inj e3).symm
          subst e3'
          rw [eqF_ok e4 hd (fl m hm2) hz.1]
          have := k2 m hm
          simpa using this
      · exact q.elim
    · exact q.elim
  · exact q.elim
@[simp] def eM_index1 (f g : EF) : EF := eM1 isL indexD f g
theorem pd_m_index1 {apos : Pos} (ha : PP X W a f) (hb : PP X W b g)
    (hbase : attributeBase a "index" X.env (eval a X.env) = eval a X.env := by rfl)
    (hfew : ((backTo pos (starEach [b] X.env)).all (fun x => !x.1) && (backToKw pos (keywordEach [] X.env)).all (fun x => x.1.isSome)
      && decide (([b] : List Expr).length + ([] : List Keyword).length + (if ([] : List Keyword).isEmpty then 0 else 1) < 30)) = true := by rfl)
    (hline : (apos.endLine == pos.line) = true := by rfl) (hs : starEach [b] X.env = (false, eval b X.env) :: starEach [] X.env := by rfl) (hplain : (backTo pos (starEach [] X.env)).any (·.1) = false := by rfl) :
    PD X W (.Call (.Attribute a "index" apos) [b] [] pos) (eM_index1 f g) := pd_m1 tyS_lst PySem.F.plainAttrs_list PySem.F.slot_list_index PySem.F.type_list_index mt_index sp_index ha hb hbase hfew hline hs hplain
end
end L2.Pz

namespace L2.Pz
open PySem PySem.Spec PyProof.Rows
/-! ### texts -/
def strL : List PyData → Option (List Str)
  | [] => some []
  | .str b :: ds => (strL ds).map (b :: ·)
  | _ :: _ => none
theorem strL_dq {K : PySem.W.Frag} {G : Hp} : ∀ {ds : List PyData} {vs : List V} {bs : List Str}, DqAll K G vs ds → strL ds = some bs → vs = bs.map V.str
  | [], _, _, h, k => by cases h; cases k; rfl
  | .str b :: ds, _, bs, h, k => by
    unfold strL at k
    cases k2 : strL ds with
    | none => rw [k2] at k; cases k
    | some cs =>
      rw [k2] at k
      cases k
      cases h with
      | cons x y => cases x; rw [strL_dq y k2]; rfl
  | .none :: _, _, _, _, k => by cases k
  | .bool _ :: _, _, _, _, k => by cases k
  | .int _ :: _, _, _, _, k => by cases k
  | .list _ :: _, _, _, _, k => by cases k
  | .tuple _ :: _, _, _, _, k => by cases k
  | .dict _ :: _, _, _, _, k => by cases k
theorem strL_map (ns : List Str) : strL (ns.map PyData.str) = some ns := by
  induction ns with
  | nil => rfl
  | cons n ns ih => simp [strL, ih]
def joinC (sep : List Nat) : List (List Nat) → List Nat
  | [] => []
  | [x] => x
  | x :: y :: r => x ++ sep ++ joinC sep (y :: r)
theorem S_of (z : Str) : z = S z.cps.toList := by
  obtain ⟨⟨l⟩⟩ := z
  rfl
theorem join_eq (sep : Str) : ∀ ys : List Str, Txt.join sep ys = S (joinC sep.cps.toList (ys.map fun y => y.cps.toList)) := fun ys => by
  show Builtin.Str.glued sep ys = _
  rw [StrLaws.glued_eq_join]
  have : ∀ ys : List Str, (Str.join sep ys).cps.toList = joinC sep.cps.toList (ys.map fun y => y.cps.toList) := by
    intro ys
    induction ys with
    | nil => rfl
    | cons x r ih =>
      cases r with
      | nil => rfl
      | cons y r =>
        have e : Str.join sep (x :: y :: r) = x ++ sep ++ Str.join sep (y :: r) := rfl
        rw [e]
        show (x.cps ++ sep.cps ++ (Str.join sep (y :: r)).cps).toList = x.cps.toList ++ sep.cps.toList ++ joinC sep.cps.toList ((y :: r).map fun y => y.cps.toList)
        rw [← ih]
        simp
  rw [S_of (Str.join sep ys), this]
def joinD : PyData → PyData → Rs PyData
  | .str a, .list ds => match strL ds with
    | some ys => if (ys.map (·.length)).sum + ys.length * a.length ≤ 16777216 then .ok (.str (S (joinC a.cps.toList (ys.map fun y => y.cps.toList)))) else .no
    | none => .no
  | _, _ => .no
theorem join_len {a : Str} {ys : List Str} (h : (ys.map (·.length)).sum + ys.length * a.length ≤ 16777216) : (Txt.join a ys).length ≤ sizeLine := by
  show (Builtin.Str.glued a ys).length ≤ sizeLine
  rw [StrLaws.glued_eq_join]
  refine Nat.le_trans (StrLaws.join_length_le a ys) ?_
  rw [sizeLine_eq]
  exact h
section
variable {X : Cx} {W : WX} {e a b c : Expr} {f g h : EF} {pos : Pos}
theorem sp_join : Spec2 X W (fun v w H Q => ∃ a p, ∃ ys : List Str, v = .str a ∧ [w] = [V.ref p] ∧ (SqL X.K H p (ys.map V.str) ∨ SqT X.K H p (ys.map V.str)) ∧ (ys.map (·.length)).sum + ys.length * a.length ≤ 16777216 ∧ Q (.str (Txt.join a ys)) H) joinD := by
  intro G H v w d e σ Q s hv hw q
  unfold joinD at q
  split at q
  · obtain ⟨rfl, _⟩ := hv.str
    obtain ⟨p, xs, rfl, h1, h2⟩ := hw.lst s
    split at q
    · rename_i ys k
      have e := strL_dq h2 k
      subst e
      split at q
      · rename_i hz
        rw [← join_eq] at q
        exact ⟨_, p, ys, rfl, rfl, .inl h1, hz, RD.val s q fun _ => .str _ (join_len hz)⟩
      · exact q.elim
    · exact q.elim
  · exact q.elim
@[simp] def eM_join1 (f g : EF) : EF := eM1 isS joinD f g
theorem pd_m_join1 {apos : Pos} (ha : PP X W a f) (hb : PP X W b g)
    (hbase : attributeBase a "join" X.env (eval a X.env) = eval a X.env := by rfl)
    (hfew : ((backTo pos (starEach [b] X.env)).all (fun x => !x.1) && (backToKw pos (keywordEach [] X.env)).all (fun x => x.1.isSome)
      && decide (([b] : List Expr).length + ([] : List Keyword).length + (if ([] : List Keyword).isEmpty then 0 else 1) < 30)) = true := by rfl)
    (hline : (apos.endLine == pos.line) = true := by rfl) (hs : starEach [b] X.env = (false, eval b X.env) :: starEach [] X.env := by rfl) (hplain : (backTo pos (starEach [] X.env)).any (·.1) = false := by rfl) :
    PD X W (.Call (.Attribute a "join" apos) [b] [] pos) (eM_join1 f g) := pd_m1 tyS_str PySem.F.plainAttrs_str PySem.F.slot_str_join PySem.F.type_str_join mt_join sp_join ha hb hbase hfew hline hs hplain
/-! zfill, ljust -/
def zfillD : PyData → PyData → Rs PyData
  | .str z, .int i => if 0 ≤ i ∧ i ≤ 1000000 ∧ z.cps.toList.head? ≠ some 43 ∧ z.cps.toList.head? ≠ some 45 then .ok (.str (S (List.replicate (i.toNat - z.length) 48 ++ z.cps.toList))) else .no
  | _, _ => .no
theorem padOk_small {i : Int} (h : 0 ≤ i ∧ i ≤ 1000000) : PadOk i = true := by
  have h1 : ¬ i < -(2 ^ 63) := by omega
  have h2 : ¬ i ≥ 2 ^ 63 := by omega
  have h3 : ¬ i.toNat > sizeLine := by rw [sizeLine_eq]; omega
  unfold PadOk fitsSsize Builtin.Str.tooLong
  rw [decide_eq_false h1, decide_eq_false h2, decide_eq_false h3]; rfl
theorem zfill_eq {z : Str} {i : Int} (h0 : 0 ≤ i) (h1 : z.cps.toList.head? ≠ some 43) (h2 : z.cps.toList.head? ≠ some 45) : Txt.zfill z i = S (List.replicate (i.toNat - z.length) 48 ++ z.cps.toList) := by
  unfold Txt.zfill
  by_cases h : i ≤ z.length
  · rw [if_pos h]
    have : i.toNat - z.length = 0 := by omega
    rw [this]
    exact S_of z
  · rw [if_neg h]
    obtain ⟨⟨l⟩⟩ := z
    unfold zfilled
    cases l with
    | nil =>
      show Builtin.Str.padded _ _ 0 48 = _
      unfold Builtin.Str.padded S
      congr 1
      apply Array.toList_inj.mp
      simp
    | cons x r =>
      have g1 : x ≠ 43 := fun e => h1 (by subst e; rfl)
      have g2 : x ≠ 45 := fun e => h2 (by subst e; rfl)
      have : (⟨⟨x :: r⟩⟩ : Str).cps[0]? = some x := rfl
      rw [this]
      split
      · rename_i e; exact absurd (Option.some.inj e) g1
      · rename_i e; exact absurd (Option.some.inj e) g2
      · unfold Builtin.Str.padded S
        congr 1
        apply Array.toList_inj.mp
        simp

theorem sp_zfill : Spec2 X W (fun v w H Q => ∃ (a : Str) (i : Int), v = .str a ∧ [w] = [V.int i] ∧ PadOk i = true ∧ Q (.str (Txt.zfill a i)) H) zfillD := by
  intro G H v w d e σ Q s hv hw q
  unfold zfillD at q
  split at q
  · rename_i z i
    obtain ⟨rfl, hz⟩ := hv.str
    cases hw.int
    split at q
    · rename_i hc
      rw [← zfill_eq hc.1 hc.2.2.1 hc.2.2.2] at q
      refine ⟨_, _, rfl, rfl, padOk_small ⟨hc.1, hc.2.1⟩, RD.val s q fun _ => .str _ ?_⟩
      rw [zfill_eq hc.1 hc.2.2.1 hc.2.2.2, S_len]
      have e1 : z.cps.toList.length = z.length := by simp [Str.length]
      have := sizeLine_eq
      simp only [List.length_append, List.length_replicate]
      omega
    · exact q.elim
  · exact q.elim
@[simp] def eM_zfill1 (f g : EF) : EF := eM1 isS zfillD f g
theorem pd_m_zfill1 {apos : Pos} (ha : PP X W a f) (hb : PP X W b g)
    (hbase : attributeBase a "zfill" X.env (eval a X.env) = eval a X.env := by rfl)
    (hfew : ((backTo pos (starEach [b] X.env)).all (fun x => !x.1) && (backToKw pos (keywordEach [] X.env)).all (fun x => x.1.isSome)
      && decide (([b] : List Expr).length + ([] : List Keyword).length + (if ([] : List Keyword).isEmpty then 0 else 1) < 30)) = true := by rfl)
    (hline : (apos.endLine == pos.line) = true := by rfl) (hs : starEach [b] X.env = (false, eval b X.env) :: starEach [] X.env := by rfl) (hplain : (backTo pos (starEach [] X.env)).any (·.1) = false := by rfl) :
    PD X W (.Call (.Attribute a "zfill" apos) [b] [] pos) (eM_zfill1 f g) := pd_m1 tyS_str PySem.F.plainAttrs_str PySem.F.slot_str_zfill PySem.F.type_str_zfill mt_zfill sp_zfill ha hb hbase hfew hline hs hplain
def ljustD : PyData → PyData → PyData → Rs PyData
  | .str z, .int i, .str c => match c.cps.toList with
    | [c] => if 0 ≤ i ∧ i ≤ 1000000 then .ok (.str (S (z.cps.toList ++ List.replicate (i.toNat - z.length) c))) else .no
    | _ => .no
  | _, _, _ => .no
theorem mt_ljust2 : MtR X "str.ljust" (fun x xs H Q => ∃ (a : Str) (i : Int) (c : Nat), x = .str a ∧ xs = [.int i, .str ⟨#[c]⟩] ∧ PadOk i = true ∧ Q (.str (Txt.ljustF a i c)) H) := by
  intro pins s σ H x xs v us Q I rx rs h
  obtain ⟨a, i, c, rfl, rfl, hp, q⟩ := h
  obtain ⟨t, rfl⟩ := rx
  obtain ⟨u1, u2, rfl, ⟨t1, rfl⟩, ⟨t2, rfl⟩⟩ := vals2 rs
  exact ljust_fill hp rfl fun t' k => ⟨.str _, H, I.tok _, ⟨_, rfl⟩, q⟩
theorem sp_ljust2 : Spec3 X W (fun v w u H Q => ∃ (a : Str) (i : Int) (c : Nat), v = .str a ∧ [w, u] = [V.int i, V.str ⟨#[c]⟩] ∧ PadOk i = true ∧ Q (.str (Txt.ljustF a i c)) H) ljustD := by
  intro G H v w u d e k σ Q s hv hw hu q
  unfold ljustD at q
  split at q
  · rename_i z i y
    obtain ⟨rfl, hz⟩ := hv.str
    cases hw.int
    obtain ⟨rfl, _⟩ := hu.str
    split at q
    · rename_i c hc
      split at q
      · rename_i hi
        have ey : y = ⟨#[c]⟩ := by
          rw [S_of y, hc]; rfl
        subst ey
        have ee : Txt.ljustF z i c = S (z.cps.toList ++ List.replicate (i.toNat - z.length) c) := by
          rw [S_of (Txt.ljustF z i c), ljustF_list]
        rw [← ee] at q
        refine ⟨_, _, c, rfl, rfl, padOk_small hi, RD.val s q fun _ => .str _ ?_⟩
        rw [ee, S_len]
        have e1 : z.cps.toList.length = z.length := by simp [Str.length]
        have := sizeLine_eq
        simp only [List.length_append, List.length_replicate]
        omega
      · exact q.elim
    · exact q.elim
  · exact q.elim
@[simp] def eM_ljust2 (f g h : EF) : EF := eM2 isS ljustD f g h
theorem pd_m_ljust2 {apos : Pos} (ha : PP X W a f) (hb : PP X W b g) (hc : PP X W c h)
    (hbase : attributeBase a "ljust" X.env (eval a X.env) = eval a X.env := by rfl)
    (hfew : ((backTo pos (starEach [b, c] X.env)).all (fun x => !x.1) && (backToKw pos (keywordEach [] X.env)).all (fun x => x.1.isSome)
      && decide (([b, c] : List Expr).length + ([] : List Keyword).length + (if ([] : List Keyword).isEmpty then 0 else 1) < 30)) = true := by rfl)
    (hline : (apos.endLine == pos.line) = true := by rfl) (hs : starEach [b, c] X.env = (false, eval b X.env) :: starEach [c] X.env := by rfl) (hs2 : starEach [c] X.env = (false, eval c X.env) :: starEach [] X.env := by rfl) (hplain : (backTo pos (starEach [c] X.env)).any (·.1) = false := by rfl) :
    PD X W (.Call (.Attribute a "ljust" apos) [b, c] [] pos) (eM_ljust2 f g h) := pd_m2 tyS_str PySem.F.plainAttrs_str PySem.F.slot_str_ljust PySem.F.type_str_ljust mt_ljust2 sp_ljust2 ha hb hc hbase hfew hline hs hs2 hplain
end

/-! ### {..}[k], {..}.get(k, x), the keys written texts -/
def dTrs (K : PySem.W.Frag) (mg : Str → Option Value) (W : WX) : List (List Nat) → List EF → List (TE × TE)
  | k :: ks, f :: fs => (tD K mg W (eC (.str (S k))), tD K mg W f) :: dTrs K mg W ks fs
  | _, _ => []
abbrev PPD (X : Cx) (W : WX) (pos : Pos) (keys : List (Option Expr)) (values : List Expr) (ks : List (List Nat)) (fs : List EF) : Prop := PPs X pos keys values (dTrs X.K X.mg W ks fs)
theorem ppd_nil {X : Cx} {W : WX} {pos : Pos} : PPD X W pos [] [] [] [] := pps_nil
theorem ppd_cons {X : Cx} {W : WX} {pos : Pos} {k v : Expr} {keys : List (Option Expr)} {vs : List Expr} {l : List Nat} {ks : List (List Nat)} {f : EF} {fs : List EF} (hk : PD X W k (eC (.str (S l)))) (hv : PD X W v f) (hr : PPD X W pos keys vs ks fs) :
    PPD X W pos (some k :: keys) (v :: vs) (l :: ks) (f :: fs) := pps_cons hk hv hr
theorem runPairs {K : PySem.W.Frag} {mg : Str → Option Value} {W : WX} {σ : St} {G0 H0 : Hp} {ρ : En} : ∀ (ks : List (List Nat)) (fs : List EF) (G H : Hp) (Q : List (V × V) → Hp → Prop), ks.length = fs.length → EnvOk K G0 H0 G H σ ρ →
    RDs K mg W G H σ (fun vs H' => Q ((ks.zip vs).map fun kv => (.str (S kv.1), kv.2)) H') (eL fs ρ) → tPairs (dTrs K mg W ks fs) σ H Q
  | [], [], G, H, Q, _, E, q => q [] G H (Gr.refl E.gr.sub) .nil
  | [], _ :: _, _, _, _, h, _, _ => by cases h
  | _ :: _, [], _, _, _, h, _, _ => by cases h
  | k :: ks, f :: fs, G, H, Q, hl, E, q => by
    refine ⟨G0, H0, G, ρ, E, fun v G1 H1 g1 z => ?_⟩
    cases z
    refine ⟨G0, H0, G1, ρ, E.grow g1, ?_⟩
    have q := RDs.grow g1 q
    unfold eL at q
    cases kf : f ρ with
    | er c => rw [kf] at q; exact q
    | no => rw [kf] at q; exact q
    | ok d =>
      rw [kf, Rs.bind_ok] at q
      refine fun y G2 H2 g2 z2 => runPairs ks fs G2 H2 _ (by simpa using hl) ((E.grow g1).grow g2) ?_
      have q := RDs.grow g2 q
      cases k2 : eL fs ρ with
      | er c => rw [k2] at q; exact q
      | no => rw [k2] at q; exact q
      | ok ds =>
        rw [k2, Rs.bind_ok] at q
        exact fun vs G3 H3 g3 z3 => q (y :: vs) G3 H3 g3 (.cons (dp_mono g3.g z2) z3)
theorem putK_new {kvs : List (Key × V)} {k : Key} {v : V} (h : k ∉ kvs.map (·.1)) : putK kvs k v = kvs ++ [(k, v)] := by
  unfold putK
  rw [if_neg]
  intro z
  obtain ⟨kv, h1, h2⟩ := List.any_eq_true.mp z
  exact h (List.mem_map.mpr ⟨kv, h1, of_decide_eq_true h2⟩)
theorem mergeK_new : ∀ (more kvs : List (Key × V)), ((kvs ++ more).map (·.1)).Nodup → mergeK kvs more = kvs ++ more
  | [], kvs, _ => by simp [mergeK]
  | p :: r, kvs, h => by
    have e : mergeK kvs (p :: r) = mergeK (putK kvs p.1 p.2) r := rfl
    have hn : p.1 ∉ kvs.map (·.1) := by
      rw [List.map_append, List.map_cons] at h
      have := (List.nodup_append.mp h).2.2
      intro hm
      exact this p.1 hm p.1 List.mem_cons_self rfl
    rw [e, putK_new hn, mergeK_new r _ (by simpa using h)]
    simp
def lookS (ks : List (List Nat)) (ds : List PyData) (y : Str) : Option PyData := ((ks.zip ds).find? fun kv => decide (S kv.1 = y)).map (·.2)
theorem lookS_ok {K : PySem.W.Frag} {G : Hp} {y : Str} : ∀ {ks : List (List Nat)} {ds : List PyData} {vs : List V}, DqAll K G vs ds →
    (∀ d, lookS ks ds y = some d → ∃ v, valV ((ks.zip vs).map fun kv => ((.inr (S kv.1) : Key), kv.2)) (.inr y) = some v ∧ Dq K G v d) ∧ (lookS ks ds y = none → valV ((ks.zip vs).map fun kv => ((.inr (S kv.1) : Key), kv.2)) (.inr y) = none)
  | [], ds, vs, h => by simp [lookS, valV]
  | k :: ks, [], vs, h => by cases h; simp [lookS, valV]
  | k :: ks, d :: ds, _, h => by
    cases h with
    | cons a b =>
      rename_i v vs
      obtain ⟨h1, h2⟩ := lookS_ok (ks := ks) (y := y) b
      unfold lookS valV at h1 h2 ⊢
      rw [List.zip_cons_cons, List.zip_cons_cons, List.map_cons, List.find?_cons, List.find?_cons]
      by_cases hk : S k = y
      · have e1 : decide (S k = y) = true := decide_eq_true hk
        have e2 : decide ((.inr (S k) : Key) = .inr y) = true := decide_eq_true (by rw [hk])
        simp only [e1, e2, Option.map_some]
        exact ⟨fun d' e => by cases e; exact ⟨v, rfl, a⟩, fun e => by cases e⟩
      · have e1 : decide (S k = y) = false := decide_eq_false hk
        have e2 : decide ((.inr (S k) : Key) = .inr y) = false := decide_eq_false fun z => hk (Sum.inr.inj z)
        simp only [e1, e2]
        exact ⟨h1, h2⟩
@[simp] def eDix (ks : List (List Nat)) (fs : List EF) (g : EF) (ρ : En) : Rs PyData := (eL fs ρ).bind fun ds => (g ρ).bind fun y => match y with
  | .str y => match lookS ks ds y with
    | some d => .ok d
    | none => .no
  | _ => .no
@[simp] def eDget (ks : List (List Nat)) (fs : List EF) (g h : EF) (ρ : En) : Rs PyData := (eL fs ρ).bind fun ds => (g ρ).bind fun y => (h ρ).bind fun z => match y with
  | .str y => match lookS ks ds y with
    | some d => .ok d
    | none => .ok z
  | _ => .no
section
variable {X : Cx} {W : WX} {e a b c : Expr} {f g h : EF} {pos : Pos}
theorem runDisp {σ : St} {H G0 H0 G : Hp} {ρ : En} {Q : VK} {ks : List (List Nat)} {fs : List EF} (hl : ks.length = fs.length) (h15 : ks.length ≤ 15) (hn : (ks.map S).Nodup) (E : EnvOk X.K G0 H0 G H σ ρ)
    (q : RDs X.K X.mg W G H σ (fun _ _ => True) (eL fs ρ)) (k : ∀ ds, eL fs ρ = .ok ds → ∀ p vs G1 H2, Gr G H G1 H2 → DqAll X.K G1 vs ds → H2 p = some (.dK ((ks.zip vs).map fun kv => ((.inr (S kv.1) : Key), kv.2))) → Q (.ref p) H2) : tDisp (dTrs X.K X.mg W ks fs) σ H Q := by
  intro p hp
  have g0 : Gr G H G (upd H p (.dK [])) := Gr.newH E.gr.sub hp
  refine runPairs ks fs G (upd H p (.dK [])) _ hl (E.grow g0) ?_
  cases k1 : eL fs ρ with
  | er c => rw [k1] at q; exact fun G' H' g' => q G' H' (g0.trans g')
  | no => rw [k1] at q; exact q
  | ok ds =>
    refine fun vs G1 H1 g1 z => ?_
    have hp1 : H1 p = some (.dK []) := g1.h _ _ upd_same
    have gp : G1 p = none := g1.n p (by rw [upd_same]; exact fun z => nomatch z) (E.gr.sub.free hp)
    have hlen : vs.length = ks.length := by rw [dpAll_len z, eL_len k1, hl]
    have nd : ((((ks.zip vs).map fun kv => ((.inr (S kv.1) : Key), kv.2))).map (·.1)).Nodup := by
      have e : (((ks.zip vs).map fun kv => ((.inr (S kv.1) : Key), kv.2))).map (·.1) = (ks.map S).map Sum.inr := by
        rw [List.map_map, List.map_map]
        have : ((fun x => x.fst) ∘ fun (kv : List Nat × V) => ((.inr (S kv.1) : Key), kv.2)) = (Sum.inr ∘ S) ∘ Prod.fst := rfl
        rw [this, ← List.map_map, List.map_fst_zip (by omega)]
      rw [e]
      exact List.Pairwise.map (R := fun a b => a ≠ b) (S := fun a b => a ≠ b) _ (fun a b h z => h (Sum.inr.inj z)) hn
    refine ⟨hp1, (ks.zip vs).map fun kv => ((.inr (S kv.1) : Key), kv.2), ?_, ?_, ?_⟩
    · rw [List.map_map]; rfl
    · rw [List.length_map, List.length_zip]; omega
    · have e := mergeK_new ((ks.zip vs).map fun kv => ((.inr (S kv.1) : Key), kv.2)) [] (by simpa using nd)
      rw [e, List.nil_append]
      refine k ds k1 p vs G1 _ ⟨fun b o hb => ?_, g1.g, fun b o hb => ?_, fun b hb gb => g1.n b ?_ gb, g1.nf⟩ z upd_same
      · have : b ≠ p := fun z => by rw [z, gp] at hb; cases hb
        rw [upd_ne this]; exact g1.sub _ _ hb
      · have nb : b ≠ p := fun z => by rw [z, hp] at hb; cases hb
        rw [upd_ne nb]
        exact g1.h _ _ (by rw [upd_ne nb]; exact hb)
      · have nb : b ≠ p := fun z => hb (by rw [z]; exact hp)
        rw [upd_ne nb]; exact hb
theorem RDs.triv {K : PySem.W.Frag} {mg : Str → Option Value} {G H : Hp} {σ : St} {r : Rs (List PyData)} (h1 : r ≠ .no) (h2 : ∀ c, r = .er c → ∀ G' H', Gr G H G' H' → W (XC mg c) none σ H') : RDs K mg W G H σ (fun _ _ => True) r := by
  cases r with
  | ok ds => exact fun _ _ _ _ _ => True.intro
  | er c => exact h2 c rfl
  | no => exact absurd rfl h1
theorem runDix {σ : St} {H : Hp} {Q : VK} {ks : List (List Nat)} {fs : List EF} (hl : ks.length = fs.length) (h15 : ks.length ≤ 15) (hn : (ks.map S).Nodup) (q : tD X.K X.mg W (eDix ks fs g) σ H Q) : tDGet (tDisp (dTrs X.K X.mg W ks fs)) (tD X.K X.mg W g) σ H Q := by
  obtain ⟨G0, H0, G, ρ, E, q⟩ := q
  unfold eDix at q
  refine runDisp hl h15 hn E (RDs.triv (fun z => by rw [z] at q; exact q) fun c z => by rw [z] at q; exact q) fun ds k1 p vs G1 H2 g1 z hp => ?_
  rw [k1, Rs.bind_ok] at q
  refine ⟨G0, H0, G1, ρ, E.grow g1, ?_⟩
  have q := RD.grow g1 q
  cases k2 : g ρ with
  | er c => rw [k2] at q; exact q
  | no => rw [k2] at q; exact q
  | ok y =>
    rw [k2, Rs.bind_ok] at q
    refine fun v G3 H3 g3 z3 => ?_
    cases y with
    | str y =>
      cases z3
      simp only at q
      cases k3 : lookS ks ds y with
      | none => rw [k3] at q; exact q.elim
      | some d =>
        rw [k3] at q
        obtain ⟨u, e1, e2⟩ := (lookS_ok z).1 d k3
        exact ⟨p, u, rfl, e1 ▸ DGet.k (k := .inr y) (g3.h _ _ hp), q u G3 H3 g3 (dp_mono g3.g e2)⟩
    | _ => exact q.elim
theorem pd_dix {j : Nat} {p2 : Pos} {keys : List (Option Expr)} {values : List Expr} {ks : List (List Nat)} {fs : List EF} (cc : Cok X W j) (h : PPD X W p2 keys values ks fs) (hb : PD X W b g) (hs : NoSl b := by intro _ _; rfl) (hall : keys.all (·.isSome) = true := by rfl) (hl : keys.length = values.length := by rfl) (h0 : keys ≠ [] := by exact fun z => nomatch z) (h15 : keys.length ≤ 15 := by decide)
    (hl2 : ks.length = fs.length := by rfl) (h152 : ks.length ≤ 15 := by decide) (hn : (ks.map S).Nodup := by decide +kernel) : PD X W (.Subscript (.Dict keys values p2) b pos) (eDix ks fs g) :=
  pe_weak (pe_dget (by have := cc.hr.units; omega) (pe_disp h hall hl h0 h15) hb hs) fun _ _ _ q => runDix hl2 h152 hn q
theorem runDget {σ : St} {H : Hp} {Q : VK} {ks : List (List Nat)} {fs : List EF} (hl : ks.length = fs.length) (h15 : ks.length ≤ 15) (hn : (ks.map S).Nodup) (q : tD X.K X.mg W (eDget ks fs g h) σ H Q) : tDGet2 (tDisp (dTrs X.K X.mg W ks fs)) (tD X.K X.mg W g) (tD X.K X.mg W h) σ H Q := by
  obtain ⟨G0, H0, G, ρ, E, q⟩ := q
  unfold eDget at q
  refine runDisp hl h15 hn E (RDs.triv (fun z => by rw [z] at q; exact q) fun c z => by rw [z] at q; exact q) fun ds k1 p vs G1 H2 g1 z hp => ?_
  rw [k1, Rs.bind_ok] at q
  refine ⟨p, rfl, .inl ⟨_, .inl hp⟩, G0, H0, G1, ρ, E.grow g1, ?_⟩
  have q := RD.grow g1 q
  cases k2 : g ρ with
  | er c => rw [k2] at q; exact q
  | no => rw [k2] at q; exact q
  | ok y =>
    rw [k2, Rs.bind_ok] at q
    refine fun v G3 H3 g3 z3 => ⟨G0, H0, G3, ρ, (E.grow g1).grow g3, ?_⟩
    have q := RD.grow g3 q
    cases k4 : h ρ with
    | er c => rw [k4] at q; exact q
    | no => rw [k4] at q; exact q
    | ok u =>
      rw [k4, Rs.bind_ok] at q
      refine fun w G4 H4 g4 z4 => ?_
      cases y with
      | str y =>
        cases z3
        simp only at q
        cases k3 : lookS ks ds y with
        | none =>
          rw [k3] at q
          exact ⟨none, (lookS_ok z).2 k3 ▸ DGet.k (k := .inr y) (g4.h _ _ (g3.h _ _ hp)), q w G4 H4 g4 z4⟩
        | some d =>
          rw [k3] at q
          obtain ⟨x, e1, e2⟩ := (lookS_ok z).1 d k3
          exact ⟨some x, e1 ▸ DGet.k (k := .inr y) (g4.h _ _ (g3.h _ _ hp)), q x G4 H4 g4 (dp_mono g4.g (dp_mono g3.g e2))⟩
      | _ => exact q.elim
theorem pd_dget {j : Nat} {p2 apos : Pos} {keys : List (Option Expr)} {values : List Expr} {ks : List (List Nat)} {fs : List EF} (cc : Cok X W j) (hd : PPD X W p2 keys values ks fs) (hb : PD X W b g) (hc : PD X W c h) (m : M2 X (.Dict keys values p2) "get" apos b c pos := by exact ⟨rfl, rfl, rfl, rfl⟩) (hall : keys.all (·.isSome) = true := by rfl) (hl : keys.length = values.length := by rfl) (h0 : keys ≠ [] := by exact fun z => nomatch z) (h15 : keys.length ≤ 15 := by decide)
    (hl2 : ks.length = fs.length := by rfl) (h152 : ks.length ≤ 15 := by decide) (hn : (ks.map S).Nodup := by decide +kernel) : PD X W (.Call (.Attribute (.Dict keys values p2) "get" apos) [b, c] [] pos) (eDget ks fs g h) :=
  pe_weak (pe_dget2 (by have := cc.hr.units; omega) (pe_disp hd hall hl h0 h15) hb hc m) fun _ _ _ q => runDget hl2 h152 hn q
end
end L2.Pz

namespace L2.Pz
open PySem PySem.Spec PyProof.Rows
@[simp] theorem sumD_l (ns : List Int) : sumD (.list (ns.map PyData.int)) = .ok (.int ns.sum) := by simp [sumD, ints_map]
@[simp] theorem sumD_t (ns : List Int) : sumD (.tuple (ns.map PyData.int)) = .ok (.int ns.sum) := by simp [sumD, ints_map]
@[simp] theorem revD_l (ds : List PyData) : revD (.list ds) = .ok (.list ds.reverse) := rfl
@[simp] theorem revD_t (ds : List PyData) : revD (.tuple ds) = .ok (.tuple ds.reverse) := rfl
@[simp] theorem sortedD_p (ps : List (Int × Int)) : sortedD (.list (ps.map prD)) = .ok (.list ((sortP ps).map prD)) := by simp [sortedD, pairL_map]
@[simp] theorem maxLD_l (n : Int) (ns : List Int) : maxLD (.list (PyData.int n :: ns.map PyData.int)) = .ok (.int (maxI (n :: ns))) := by
  have : intL (PyData.int n :: ns.map PyData.int) = some (n :: ns) := ints_map (n :: ns)
  simp [maxLD, this]
@[simp] theorem enumD_l (xs : List PyData) : enumD (.list xs) = .ok (enumL xs) := rfl
@[simp] theorem enumD_t (xs : List PyData) : enumD (.tuple xs) = .ok (enumL xs) := rfl
@[simp] theorem enumD_s (z : Str) : enumD (.str z) = .ok (enumL (signsD z)) := rfl
end L2.Pz

namespace L2.Pz
open PySem
/-! ### the figures of a number: plain -/
def D (n : Nat) : List Nat := (Nat.toDigits 10 n).map Char.toNat
theorem strI_nat (n : Nat) : strI (n : Int) = S (D n) := by
  rw [S_of (strI (n : Int))]
  unfold strI D
  rw [PySem.W.KIN.signs_num]
theorem dig_small : ∀ d : Nat, d < 10 → (Nat.digitChar d).toNat = 48 + d := by decide
theorem D_small {n : Nat} (h : n < 10) : D n = [48 + n] := by
  unfold D
  rw [Nat.toDigits_of_lt_base h]
  simp [dig_small n h]
theorem D_step {n : Nat} (h : 10 ≤ n) : D n = D (n / 10) ++ [48 + n % 10] := by
  have e := Nat.toDigits_append_toDigits (b := 10) (n := n / 10) (d := n % 10) (by decide) (by omega) (by omega)
  have e2 : 10 * (n / 10) + n % 10 = n := by omega
  rw [e2] at e
  unfold D
  rw [← e, List.map_append, Nat.toDigits_of_lt_base (show n % 10 < 10 by omega)]
  simp [dig_small (n % 10) (by omega)]
theorem D_ne (n : Nat) : D n ≠ [] := by
  by_cases h : n < 10
  · rw [D_small h]; simp
  · rw [D_step (by omega)]; simp
def padD : Nat → Nat → List Nat
  | 0, _ => []
  | p + 1, m => padD p (m / 10) ++ [48 + m % 10]
theorem padD_len : ∀ p m, (padD p m).length = p
  | 0, _ => rfl
  | p + 1, m => by simp [padD, padD_len p]
theorem padD_zero : ∀ p, padD p 0 = List.replicate p 48
  | 0 => rfl
  | p + 1 => by
    rw [padD, padD_zero p, List.replicate_succ']
theorem D_split : ∀ {p n : Nat}, 10 ^ p ≤ n → D n = D (n / 10 ^ p) ++ padD p n
  | 0, n, _ => by simp [padD]
  | p + 1, n, h => by
    have h10 : 10 ≤ n := Nat.le_trans (by rw [Nat.pow_succ]; have := Nat.one_le_pow p 10 (by decide); omega) h
    have h2 : 10 ^ p ≤ n / 10 := by
      rw [Nat.le_div_iff_mul_le (by decide), ← Nat.pow_succ]
      exact h
    rw [D_step h10, D_split h2, padD, Nat.div_div_eq_div_mul]
    have e : 10 * 10 ^ p = 10 ^ (p + 1) := by rw [Nat.pow_succ, Nat.mul_comm]
    rw [e, List.append_assoc]
theorem padD_small : ∀ {p n : Nat}, n < 10 ^ (p + 1) → (D n).length ≤ p + 1 ∧ List.replicate (p + 1 - (D n).length) 48 ++ D n = padD (p + 1) n
  | 0, n, h => by
    have h : n < 10 := by simpa using h
    rw [D_small h]
    have e : n % 10 = n := by omega
    simp [padD, e]
  | p + 1, n, h => by
    by_cases hs : n < 10
    · rw [D_small hs]
      have e1 : n / 10 = 0 := by omega
      have e2 : n % 10 = n := by omega
      refine ⟨by simp, ?_⟩
      rw [padD, e1, e2, padD_zero]
      simp
    · have h2 : n / 10 < 10 ^ (p + 1) := by
        rw [Nat.div_lt_iff_lt_mul (by decide), ← Nat.pow_succ]
        exact h
      obtain ⟨i1, i2⟩ := padD_small h2
      rw [D_step (by omega)]
      refine ⟨by simp; omega, ?_⟩
      rw [padD, ← i2]
      simp
theorem padD_mod : ∀ p n, padD p (n % 10 ^ p) = padD p n
  | 0, n => rfl
  | p + 1, n => by
    have e1 : n % 10 ^ (p + 1) % 10 = n % 10 := Nat.mod_mod_of_dvd _ (Nat.dvd_of_mod_eq_zero (by rw [Nat.pow_succ]; exact Nat.mul_mod_left _ _))
    have e2 : n % 10 ^ (p + 1) / 10 = n / 10 % 10 ^ p := by
      rw [Nat.pow_succ, Nat.mul_comm, Nat.mod_mul_right_div_self]
    rw [padD, padD, e1, e2, padD_mod p]
/-- str(n).zfill(p + 1) -/
theorem zf_split (p n : Nat) : List.replicate (p + 1 - (D n).length) 48 ++ D n = D (n / 10 ^ p) ++ padD p n := by
  by_cases h : 10 ^ p ≤ n
  · have e := D_split h
    have hl : p + 1 - (D n).length = 0 := by
      rw [e, List.length_append, padD_len]
      have := List.length_pos_iff.mpr (D_ne (n / 10 ^ p))
      omega
    rw [hl, e]
    simp
  · have e0 : n / 10 ^ p = 0 := Nat.div_eq_of_lt (by omega)
    rw [e0, D_small (show 0 < 10 by decide)]
    cases p with
    | zero =>
      have : n = 0 := by simpa using h
      subst this
      rw [D_small (show 0 < 10 by decide)]
      simp [padD]
    | succ p =>
      obtain ⟨h1, h2⟩ := padD_small (p := p) (n := n) (by omega)
      rw [← h2]
      have e : p + 1 + 1 - (D n).length = (p + 1 - (D n).length) + 1 := by omega
      rw [e, List.replicate_succ]
      simp
/-- ('0' * p + str(m))[-p:] -/
theorem tail_pad {p m : Nat} (hp : 0 < p) (h : m < 10 ^ p) : (List.replicate p 48 ++ D m).drop (D m).length = padD p m := by
  cases p with
  | zero => omega
  | succ p =>
    obtain ⟨h1, h2⟩ := padD_small h
    rw [← h2, List.drop_append_of_le_length (by simpa using h1), List.drop_replicate]
theorem D_head (n : Nat) : ∃ c r, D n = c :: r ∧ 48 ≤ c ∧ c ≤ 57 := by
  induction n using Nat.strongRecOn with
  | ind n ih =>
    by_cases h : n < 10
    · exact ⟨48 + n, [], D_small h, by omega, by omega⟩
    · obtain ⟨c, r, e, h1, h2⟩ := ih (n / 10) (by omega)
      exact ⟨c, r ++ [48 + n % 10], by rw [D_step (by omega), e]; rfl, h1, h2⟩
theorem D_len {k n : Nat} (h : n < 10 ^ (k + 1)) : (D n).length ≤ k + 1 := (padD_small h).1
theorem D_len_mono {n m : Nat} (h : n ≤ m) : (D n).length ≤ (D m).length := by
  induction m using Nat.strongRecOn generalizing n with
  | ind m ih =>
    by_cases hm : m < 10
    · rw [D_small hm, D_small (by omega)]; simp
    · rw [D_step (show 10 ≤ m by omega)]
      by_cases hn : n < 10
      · rw [D_small hn]; simp
      · rw [D_step (show 10 ≤ n by omega)]
        have := ih (m / 10) (by omega) (n := n / 10) (Nat.div_le_div_right h)
        simp
        omega
/-! ### slices -/
theorem cutS_S (l : List Nat) (lo hi : Option Int) : cutS (S l) lo hi = S (cutL l lo hi) := rfl
theorem cut_drop {α : Type} {l : List α} {k : Nat} (h : k ≤ l.length) : cutL l (some (k : Int)) none = l.drop k := by
  unfold cutL
  rw [HT.sIx_none, HT.sIx_nat, Nat.min_eq_left h]
  apply List.take_of_length_le
  simp
theorem sIx_neg {n d k : Nat} (h : 0 < k) : HT.sIx n d (some (-(k : Int))) = n - k := by
  show (if -(k : Int) < 0 then (-(k : Int) + (n : Int)).toNat else min (-(k : Int)).toNat n) = n - k
  rw [if_pos (by omega)]
  omega
theorem cut_last {α : Type} {l : List α} {k : Nat} (h : 0 < k) : cutL l (some (-(k : Int))) none = l.drop (l.length - k) := by
  unfold cutL
  rw [HT.sIx_none, sIx_neg h]
  apply List.take_of_length_le
  simp
theorem cut_front {α : Type} {l : List α} {k : Nat} (h : 0 < k) : cutL l none (some (-(k : Int))) = l.take (l.length - k) := by
  unfold cutL
  rw [HT.sIx_none, sIx_neg h]
  simp
/-! ### groups -/
def chk (s : Nat) : Nat → List Nat → List (List Nat)
  | 0, l => [l]
  | f + 1, l => if l.length ≤ s then [l] else chk s f (l.take (l.length - s)) ++ [l.drop (l.length - s)]
theorem chk_small {s f : Nat} {l : List Nat} (h : l.length ≤ s) : chk s f l = [l] := by
  cases f with
  | zero => rfl
  | succ f => rw [chk, if_pos h]
theorem chk_ne (s : Nat) : ∀ f l, chk s f l ≠ []
  | 0, l => by simp [chk]
  | f + 1, l => by
    rw [chk]
    split <;> simp
theorem chk_sum (s : Nat) : ∀ f l, ((chk s f l).map List.length).sum = l.length
  | 0, l => by simp [chk]
  | f + 1, l => by
    rw [chk]
    split
    · simp
    · rw [List.map_append, List.sum_append, chk_sum s f]
      simp only [List.length_take, List.map_cons, List.map_nil, List.sum_cons, List.sum_nil, List.length_drop]
      omega
theorem chk_len {s : Nat} (hs : 0 < s) : ∀ f l, (chk s f l).length ≤ l.length + 1
  | 0, l => by simp [chk]
  | f + 1, l => by
    rw [chk]
    split
    · simp
    · rename_i h
      have := chk_len hs f (l.take (l.length - s))
      rw [List.length_append, List.length_singleton]
      rw [List.length_take] at this
      omega
theorem joinC_snoc (g : List Nat) : ∀ (xs : List (List Nat)) (y : List Nat), xs ≠ [] → joinC g (xs ++ [y]) = joinC g xs ++ g ++ y
  | [], _, h => absurd rfl h
  | [x], y, _ => by simp [joinC]
  | x :: z :: r, y, _ => by
    show x ++ g ++ joinC g ((z :: r) ++ [y]) = _
    rw [joinC_snoc g (z :: r) y (by simp)]
    simp [joinC]
theorem joinC_len (g : List Nat) : ∀ xs : List (List Nat), (joinC g xs).length ≤ (xs.map List.length).sum + xs.length * g.length
  | [] => by simp [joinC]
  | [x] => by simp [joinC]
  | x :: y :: r => by
    have := joinC_len g (y :: r)
    show (x ++ g ++ joinC g (y :: r)).length ≤ _
    simp only [List.length_append, List.map_cons, List.sum_cons, List.length_cons] at this ⊢
    rw [Nat.add_mul (r.length + 1)]
    omega
end L2.Pz

namespace L2.Pz
open PySem PySem.Spec L2 L2.Pz.Fn
/-! ### rounding, plainly: scale, sign, order -/
theorem rnd_scale (w : Way) {u l k : Int} (hl : 0 < l) (hk : 0 < k) : rnd w (u * k) (l * k) = rnd w u l := by
  have e1 : u * k / (l * k) = u / l := Int.mul_ediv_mul_of_pos_left u l hk
  have e2 : u * k % (l * k) = u % l * k := by
    rw [Int.mul_comm u k, Int.mul_comm l k, Int.mul_emod_mul_of_pos _ _ hk, Int.mul_comm]
  have c0 : (u % l * k = 0) = (u % l = 0) := by
    refine propext ⟨fun h => ?_, fun h => by rw [h, Int.zero_mul]⟩
    rcases Int.mul_eq_zero.mp h with h | h
    · exact h
    · omega
  have c1 : (2 * (u % l * k) = l * k) = (2 * (u % l) = l) := by
    rw [← Int.mul_assoc]
    refine propext ⟨fun h => Int.eq_of_mul_eq_mul_right (by omega) h, fun h => by rw [h]⟩
  have c2 : (l * k < 2 * (u % l * k)) = (l < 2 * (u % l)) := by
    rw [← Int.mul_assoc]
    refine propext ⟨fun h => Int.lt_of_mul_lt_mul_right h (by omega), fun h => Int.mul_lt_mul_of_pos_right h hk⟩
  unfold rnd
  rw [e1, e2]
  simp only [c0, c1, c2]
theorem rnd_cross (w : Way) {a b c d : Int} (hb : 0 < b) (hd : 0 < d) (h : a * d = c * b) : rnd w a b = rnd w c d := by
  rw [← rnd_scale w hb hd, h, Int.mul_comm b d, rnd_scale w hd hb]
theorem rnd_exact (w : Way) (q : Int) {l : Int} (hl : 0 < l) : rnd w (q * l) l = q := by
  unfold rnd
  have h : q * l % l = 0 := Int.mul_emod_left q l
  rw [if_pos h]
  exact Int.mul_ediv_cancel q (by omega)
def turn : Way → Way
  | .up => .down
  | .down => .up
  | w => w
theorem neg_dm {u l : Int} (hl : 0 < l) (h : u % l ≠ 0) : (-u) / l = -(u / l) - 1 ∧ (-u) % l = l - u % l := by
  have r0 := Int.emod_nonneg u (show l ≠ 0 by omega)
  have r1 := Int.emod_lt_of_pos u hl
  have er := Int.emod_def u l
  have e : -u = (l - u % l) + l * (-(u / l) - 1) := by
    rw [Int.mul_sub, Int.mul_neg]
    omega
  have a : (-u) / l = -(u / l) - 1 := by
    rw [e, Int.add_mul_ediv_left _ _ (by omega : l ≠ 0), Int.ediv_eq_zero_of_lt (by omega) (by omega)]
    omega
  have b : (-u) % l = l - u % l := by
    rw [e, Int.add_mul_emod_self_left]
    exact Int.emod_eq_of_lt (by omega) (by omega)
  exact ⟨a, b⟩
theorem rnd_neg (w : Way) (u : Int) {l : Int} (hl : 0 < l) : rnd (turn w) (-u) l = - rnd w u l := by
  by_cases h : u % l = 0
  · have e : u = u / l * l := by
      have := Int.emod_def u l
      rw [Int.mul_comm] at this
      omega
    rw [e, ← Int.neg_mul, rnd_exact _ _ hl, rnd_exact _ _ hl]
  · obtain ⟨a, b⟩ := neg_dm hl h
    have r0 := Int.emod_nonneg u (show l ≠ 0 by omega)
    have r1 := Int.emod_lt_of_pos u hl
    have q2 : u / l % 2 = 0 ∨ u / l % 2 = 1 := by omega
    unfold rnd
    rw [a, b]
    generalize hq : u / l = q at *
    generalize u % l = r at *
    have h' : ¬ l - r = 0 := by omega
    rw [if_neg h, if_neg h']
    cases w <;> simp only [turn]
    · rcases q2 with q2 | q2
      · have : (-q - 1) % 2 = 1 := by omega
        rw [q2, this]
        repeat' split
        all_goals omega
      · have : (-q - 1) % 2 = 0 := by omega
        rw [q2, this]
        repeat' split
        all_goals omega
    all_goals (repeat' split) <;> omega
theorem rnd_bd (w : Way) (u : Int) {l : Int} (hl : 0 < l) : u / l ≤ rnd w u l ∧ rnd w u l ≤ u / l + 1 := by
  have q2 : u / l % 2 = 0 ∨ u / l % 2 = 1 := by omega
  unfold rnd
  generalize u / l = q at *
  generalize u % l = r at *
  split
  · omega
  · cases w <;> simp only <;> repeat' split
    all_goals omega
theorem rnd_mono (w : Way) {u v l : Int} (hl : 0 < l) (h : u ≤ v) : rnd w u l ≤ rnd w v l := by
  have hq : u / l ≤ v / l := Int.ediv_le_ediv hl h
  by_cases e : u / l = v / l
  · have eu := Int.emod_def u l
    have ev := Int.emod_def v l
    rw [e] at eu
    have hr : u % l ≤ v % l := by omega
    have r0 := Int.emod_nonneg u (show l ≠ 0 by omega)
    unfold rnd
    rw [e]
    have q2 : v / l % 2 = 0 ∨ v / l % 2 = 1 := by omega
    generalize v / l = q at *
    generalize u % l = r at *
    generalize v % l = s at *
    cases w <;> simp only
    · rcases q2 with q2 | q2
      · rw [q2]
        repeat' split
        all_goals omega
      · rw [q2]
        repeat' split
        all_goals omega
    all_goals (repeat' split) <;> omega
  · have a := (rnd_bd w u hl).2
    have b := (rnd_bd w v hl).1
    omega
theorem rnd_ge (w : Way) {a u l : Int} (hl : 0 < l) (h : a * l ≤ u) : a ≤ rnd w u l := by
  have := rnd_mono w hl h
  rwa [rnd_exact w a hl] at this
theorem rnd_le (w : Way) {a u l : Int} (hl : 0 < l) (h : u ≤ a * l) : rnd w u l ≤ a := by
  have := rnd_mono w hl h
  rwa [rnd_exact w a hl] at this
theorem rnd_up {u l : Int} (hl : 0 < l) : u ≤ rnd .up u l * l := by
  have er := Int.emod_def u l
  have r1 := Int.emod_lt_of_pos u hl
  rw [Int.mul_comm] at er
  unfold rnd
  split
  · omega
  · simp only
    rw [Int.add_mul, Int.one_mul]
    omega
theorem rnd_down {u l : Int} (hl : 0 < l) : rnd .down u l * l ≤ u := by
  have er := Int.emod_def u l
  have r0 := Int.emod_nonneg u (show l ≠ 0 by omega)
  rw [Int.mul_comm] at er
  unfold rnd
  split
  · omega
  · simp only
    omega
/-! ### how many figures a number has -/
def dl (n : Nat) : Nat := (D n).length
theorem dl_pos (n : Nat) : 1 ≤ dl n := by
  have := D_ne n
  unfold dl
  cases h : D n with
  | nil => exact absurd h this
  | cons a b => simp
theorem dl_lt (n : Nat) : n < 10 ^ dl n := by
  unfold dl
  induction n using Nat.strongRecOn with
  | ind n ih =>
    by_cases h : n < 10
    · rw [D_small h]; simpa using h
    · rw [D_step (by omega)]
      have := ih (n / 10) (by omega)
      simp only [List.length_append, List.length_cons, List.length_nil]
      rw [Nat.pow_succ]
      omega
theorem dl_ge {n k : Nat} (h : 10 ^ k ≤ n) : k + 1 ≤ dl n := by
  unfold dl
  rw [D_split h, List.length_append, padD_len]
  have := dl_pos (n / 10 ^ k)
  unfold dl at this
  omega
theorem dl_le {n k : Nat} (h : n < 10 ^ (k + 1)) : dl n ≤ k + 1 := D_len h
theorem dl_low {n : Nat} (h : 0 < n) : 10 ^ (dl n - 1) ≤ n := by
  cases k : dl n with
  | zero => have := dl_pos n; omega
  | succ m =>
    rw [Nat.add_sub_cancel]
    cases m with
    | zero => exact h
    | succ m =>
      refine Nat.le_of_not_lt fun z => ?_
      have := dl_le z
      omega
theorem dl_of {n k : Nat} (h1 : 10 ^ k ≤ n) (h2 : n < 10 ^ (k + 1)) : dl n = k + 1 := Nat.le_antisymm (dl_le h2) (dl_ge h1)
theorem dl_mul {n : Nat} (h : 0 < n) (k : Nat) : dl (n * 10 ^ k) = dl n + k := by
  have a := dl_low h
  have b := dl_lt n
  have p := dl_pos n
  have t : 0 < 10 ^ k := Nat.pow_pos (by decide)
  have := dl_of (n := n * 10 ^ k) (k := dl n - 1 + k) (by rw [Nat.pow_add]; exact Nat.mul_le_mul_right _ a) (by
    rw [show dl n - 1 + k + 1 = dl n + k by omega, Nat.pow_add]
    exact Nat.mul_lt_mul_of_pos_right b t)
  omega
theorem dl_mono {n m : Nat} (h : n ≤ m) : dl n ≤ dl m := D_len_mono h
theorem dl_ten (q : Nat) : dl (10 ^ q) = q + 1 := dl_of (Nat.le_refl _) (by rw [Nat.pow_succ]; have : 0 < 10 ^ q := Nat.pow_pos (by decide); omega)
end L2.Pz

namespace L2.Pz
open PySem PySem.Spec L2 L2.Pz.Fn
/-! ### manners -/
inductive Sg where
  | ahead | behind | brackets
  deriving DecidableEq
def sgS : Sg → List Nat
  | .ahead => [97, 104, 101, 97, 100]
  | .behind => [98, 101, 104, 105, 110, 100]
  | .brackets => [98, 114, 97, 99, 107, 101, 116, 115]
structure Man where
  pt : Nat
  gp : List Nat
  s0 : Nat
  s1 : Option Nat
  sg : Sg
  ls : Nat
def Man.sz (m : Man) : List PyData := match m.s1 with
  | none => [.int (m.s0 : Nat)]
  | some b => [.int (m.s0 : Nat), .int (b : Nat)]
def manD (m : Man) : PyData := .tuple [.str (S [m.pt]), .str (S m.gp), .tuple m.sz, .str (S (sgS m.sg)), .int (m.ls : Nat)]
def pts : List Nat := [46, 44, 39, 59]
def gps : List (List Nat) := [[], [46], [44], [39], [59], [32], [95]]
structure Man.Ok (m : Man) : Prop where
  pt : m.pt ∈ pts
  gp : m.gp ∈ gps
  ne : m.gp ≠ [m.pt]
  s0 : 1 ≤ m.s0 ∧ m.s0 ≤ 5
  s1 : ∀ b, m.s1 = some b → 1 ≤ b ∧ b ≤ 5
  ls : 1 ≤ m.ls ∧ m.ls ≤ 4
theorem atI3 {α : Type} (x y z u : α) (xs : List α) : atI (x :: y :: z :: u :: xs) 3 = some u := by
  have : (3 : Int) < (xs.length : Int) + 1 + 1 + 1 + 1 := by omega
  simp [atI, ixN, this]
theorem atI4 {α : Type} (x y z u v : α) (xs : List α) : atI (x :: y :: z :: u :: v :: xs) 4 = some v := by
  have : (4 : Int) < (xs.length : Int) + 1 + 1 + 1 + 1 + 1 := by omega
  simp [atI, ixN, this]
theorem lcL_nil (h : PyData → Rs (List PyData)) : lcL h [] = .ok [] := rfl
theorem lcL_cons (h : PyData → Rs (List PyData)) (d : PyData) (ds : List PyData) : lcL h (d :: ds) = (h d).bind fun r => (lcL h ds).bind fun rs => .ok (r ++ rs) := rfl
/-- the sizes are told so -/
theorem is_sizes_1 (a : PyData) {b : Bool} (h : F_is_whole [a, .int 1, .int 5] = .ok (.bool b)) : F_is_sizes [.tuple [a]] = .ok (.bool b) := by
  have hz : 1 ≤ sizeLine := by decide
  unfold F_is_sizes b_is_sizes
  simp [inD_t, lcL_cons, lcL_nil, C1_is_sizes, h, hz]
theorem is_sizes_2 (a c : PyData) {b e : Bool} (h : F_is_whole [a, .int 1, .int 5] = .ok (.bool b)) (h' : F_is_whole [c, .int 1, .int 5] = .ok (.bool e)) : F_is_sizes [.tuple [a, c]] = .ok (.bool (b && e)) := by
  have hz : 2 ≤ sizeLine := by decide
  unfold F_is_sizes b_is_sizes
  simp [inD_t, lcL_cons, lcL_nil, C1_is_sizes, h, h', hz]
theorem is_sizes_sz {m : Man} (h : m.Ok) : F_is_sizes [.tuple m.sz] = .ok (.bool true) := by
  have h0 := h.s0
  have w0 : F_is_whole [.int (m.s0 : Nat), .int 1, .int 5] = .ok (.bool true) := by rw [is_whole_int, decide_eq_true (by omega)]
  unfold Man.sz
  split
  · exact is_sizes_1 _ w0
  · rename_i b e
    have hb := h.s1 b e
    exact is_sizes_2 _ _ w0 (by rw [is_whole_int, decide_eq_true (by omega)])
/-- a tuple of five with texts in their places -/
theorem is_manner_5 (p g s : Str) (z l : PyData) {bz bl : Bool} (hz : F_is_sizes [z] = .ok (.bool bz)) (hl : F_is_whole [l, .int 1, .int 4] = .ok (.bool bl)) :
    F_is_manner [.tuple [.str p, .str g, z, .str s, l]] = .ok (.bool (inL (.str p) [.str (S [46]), .str (S [44]), .str (S [39]), .str (S [59])] && (inL (.str g) [.str (S []), .str (S [46]), .str (S [44]), .str (S [39]), .str (S [59]), .str (S [32]), .str (S [95])] && (!decide (g = p) &&
      (bz && (inL (.str s) [.str (S [97, 104, 101, 97, 100]), .str (S [98, 101, 104, 105, 110, 100]), .str (S [98, 114, 97, 99, 107, 101, 116, 115])] && bl)))))) := by
  have h3 : 3 ≤ sizeLine := by decide
  unfold F_is_manner b_is_manner
  generalize h1 : inL (.str p) [.str (S [46]), .str (S [44]), .str (S [39]), .str (S [59])] = b1
  generalize h2 : inL (.str g) [.str (S []), .str (S [46]), .str (S [44]), .str (S [39]), .str (S [59]), .str (S [32]), .str (S [95])] = b2
  generalize h4 : inL (.str s) [.str (S [97, 104, 101, 97, 100]), .str (S [98, 101, 104, 105, 110, 100]), .str (S [98, 114, 97, 99, 107, 101, 116, 115])] = b3
  have n1 : ninD (.str p) (.tuple [.str (S [46]), .str (S [44]), .str (S [39]), .str (S [59])]) = .ok (.bool (!b1)) := by rw [ninD_t rfl, h1]
  have n2 : ninD (.str g) (.tuple [.str (S []), .str (S [46]), .str (S [44]), .str (S [39]), .str (S [59]), .str (S [32]), .str (S [95])]) = .ok (.bool (!b2)) := by rw [ninD_t rfl, h2]
  have n3 : inD (.str s) (.tuple [.str (S [97, 104, 101, 97, 100]), .str (S [98, 101, 104, 105, 110, 100]), .str (S [98, 114, 97, 99, 107, 101, 116, 115])]) = .ok (.bool b3) := by rw [inD_t rfl, h4]
  by_cases e : g = p
  · subst e
    cases b1 <;> cases b2 <;> cases bz <;> cases b3 <;> simp [lcL_cons, lcL_nil, C1_is_manner, atI0, atI1, atI3, h3, n1, n2, n3, hz, hl]
  · cases b1 <;> cases b2 <;> cases bz <;> cases b3 <;> simp [lcL_cons, lcL_nil, C1_is_manner, atI0, atI1, atI3, h3, n1, n2, n3, e, hz, hl]
theorem is_manner_true {m : Man} (h : m.Ok) : F_is_manner [manD m] = .ok (.bool true) := by
  have hl := h.ls
  unfold manD
  rw [is_manner_5 _ _ _ _ _ (is_sizes_sz h) (show F_is_whole [.int (m.ls : Nat), .int 1, .int 4] = .ok (.bool true) by rw [is_whole_int, decide_eq_true (by omega)])]
  have h1 := h.pt
  have h2 := h.gp
  have h3 := h.ne
  unfold pts at h1
  unfold gps at h2
  have e1 : inL (.str (S [m.pt])) [.str (S [46]), .str (S [44]), .str (S [39]), .str (S [59])] = true := by
    simp only [List.mem_cons, List.not_mem_nil, or_false] at h1
    rcases h1 with h | h | h | h <;> simp [h]
  have e2 : inL (.str (S m.gp)) [.str (S []), .str (S [46]), .str (S [44]), .str (S [39]), .str (S [59]), .str (S [32]), .str (S [95])] = true := by
    simp only [List.mem_cons, List.not_mem_nil, or_false] at h2
    rcases h2 with h | h | h | h | h | h | h <;> simp [h]
  have e3 : inL (.str (S (sgS m.sg))) [.str (S [97, 104, 101, 97, 100]), .str (S [98, 101, 104, 105, 110, 100]), .str (S [98, 114, 97, 99, 107, 101, 116, 115])] = true := by
    cases m.sg <;> simp [sgS]
  simp only [e1, e2, e3, S_eq]
  simp [h3]
/-! ### manners as the laws draw them -/
def gapsBut (pt : Nat) : List (List Nat) := gps.filter fun g => decide (g ≠ [pt])
def mannerOf (c : Int) : Man :=
  let pt := pts.getD (mixI c 9859 4).toNat 0
  { pt := pt, gp := (gapsBut pt).getD (mixI c 9857 6).toNat [], s0 := (1 + mixI c 9851 5).toNat, s1 := if mixI c 9839 3 = 0 then some (1 + mixI c 9833 5).toNat else none,
    sg := if mixI c 9829 3 = 0 then .ahead else if mixI c 9829 3 = 1 then .behind else .brackets, ls := (1 + mixI c 9817 4).toNat }
theorem four {i : Int} (h0 : 0 ≤ i) (h1 : i < 4) : i = 0 ∨ i = 1 ∨ i = 2 ∨ i = 3 := by omega
theorem six {i : Int} (h0 : 0 ≤ i) (h1 : i < 6) : i = 0 ∨ i = 1 ∨ i = 2 ∨ i = 3 ∨ i = 4 ∨ i = 5 := by omega
theorem three {i : Int} (h0 : 0 ≤ i) (h1 : i < 3) : i = 0 ∨ i = 1 ∨ i = 2 := by omega
theorem manner_ok (c : Int) : (mannerOf c).Ok := by
  have a0 := mix_nn c 9859 (m := 4) (by decide)
  have a1 := mix_lt c 9859 (m := 4) (by decide)
  have b0 := mix_nn c 9857 (m := 6) (by decide)
  have b1 := mix_lt c 9857 (m := 6) (by decide)
  have c0 := mix_nn c 9851 (m := 5) (by decide)
  have c1 := mix_lt c 9851 (m := 5) (by decide)
  have d0 := mix_nn c 9833 (m := 5) (by decide)
  have d1 := mix_lt c 9833 (m := 5) (by decide)
  have f0 := mix_nn c 9817 (m := 4) (by decide)
  have f1 := mix_lt c 9817 (m := 4) (by decide)
  have key : ∀ i j : Int, 0 ≤ i → i < 4 → 0 ≤ j → j < 6 → pts.getD i.toNat 0 ∈ pts ∧ (gapsBut (pts.getD i.toNat 0)).getD j.toNat [] ∈ gps ∧ (gapsBut (pts.getD i.toNat 0)).getD j.toNat [] ≠ [pts.getD i.toNat 0] := by
    intro i j h0 h1 h2 h3
    rcases four h0 h1 with rfl | rfl | rfl | rfl <;> rcases six h2 h3 with rfl | rfl | rfl | rfl | rfl | rfl <;> decide
  obtain ⟨k1, k2, k3⟩ := key _ _ a0 a1 b0 b1
  unfold mannerOf
  refine ⟨k1, k2, k3, ⟨by simp; omega, by simp; omega⟩, fun b hb => ?_, ⟨by simp; omega, by simp; omega⟩⟩
  simp only at hb
  split at hb
  · cases hb; omega
  · cases hb
/-- the gaps that a point lets, as data -/
def gapsD (pt : Nat) : List PyData := (gapsBut pt).map fun g => .str (S g)
theorem gaps_lc (pt : Nat) (x0 : PyData) : lcL (lc1 (gN 4) (bT (e2 neD (eV 4) (eV 1))) C1__law_manner [some (.v x0), some (.v (.str (S [pt]))), none, none, none]) [.str (S []), .str (S [46]), .str (S [44]), .str (S [39]), .str (S [59]), .str (S [32]), .str (S [95])] = .ok (gapsD pt) := by
  have key : ∀ (l : List (List Nat)), lcL (lc1 (gN 4) (bT (e2 neD (eV 4) (eV 1))) C1__law_manner [some (.v x0), some (.v (.str (S [pt]))), none, none, none]) (l.map fun g => .str (S g)) = .ok ((l.filter fun g => decide (g ≠ [pt])).map fun g => .str (S g)) := by
    intro l
    induction l with
    | nil => rfl
    | cons g l ih =>
      rw [List.map_cons, lcL_cons, ih]
      by_cases h : g = [pt]
      · simp [h]
      · simp [h, C1__law_manner]
  exact key gps
theorem manner_eq (c : Int) : F__law_manner [.int c] = .ok (manD (mannerOf c)) := by
  have a0 := mix_nn c 9859 (m := 4) (by decide)
  have a1 := mix_lt c 9859 (m := 4) (by decide)
  have b0 := mix_nn c 9857 (m := 6) (by decide)
  have b1 := mix_lt c 9857 (m := 6) (by decide)
  have c0 := mix_nn c 9851 (m := 5) (by decide)
  have d0 := mix_nn c 9833 (m := 5) (by decide)
  have f0 := mix_nn c 9817 (m := 4) (by decide)
  have g0 := mix_nn c 9829 (m := 3) (by decide)
  have g1 := mix_lt c 9829 (m := 3) (by decide)
  have hz : 7 ≤ sizeLine := by decide
  have z2 : 2 ≤ sizeLine := by decide
  have e1 : 1 + mixI c 9851 5 = (((1 + mixI c 9851 5).toNat : Nat) : Int) := by omega
  have e2 : 1 + mixI c 9833 5 = (((1 + mixI c 9833 5).toNat : Nat) : Int) := by omega
  have e3 : 1 + mixI c 9817 4 = (((1 + mixI c 9817 4).toNat : Nat) : Int) := by omega
  have p1 : atI [46, 44, 39, 59] (mixI c 9859 4) = some (pts.getD (mixI c 9859 4).toNat 0) := by
    rcases four a0 a1 with h | h | h | h <;> rw [h] <;> rfl
  have p2 : atI (gapsD (pts.getD (mixI c 9859 4).toNat 0)) (mixI c 9857 6) = some (.str (S ((gapsBut (pts.getD (mixI c 9859 4).toNat 0)).getD (mixI c 9857 6).toNat []))) := by
    rcases four a0 a1 with h | h | h | h <;> rw [h] <;> rcases six b0 b1 with h | h | h | h | h | h <;> rw [h] <;> rfl
  have p3 : atI ([.str (S [97, 104, 101, 97, 100]), .str (S [98, 101, 104, 105, 110, 100]), .str (S [98, 114, 97, 99, 107, 101, 116, 115])] : List PyData) (mixI c 9829 3) = some (.str (S (sgS (if mixI c 9829 3 = 0 then .ahead else if mixI c 9829 3 = 1 then .behind else .brackets)))) := by
    rcases three g0 g1 with h | h | h <;> rw [h] <;> rfl
  unfold F__law_manner b__law_manner mannerOf manD Man.sz
  generalize pts.getD (mixI c 9859 4).toNat 0 = pt at *
  by_cases k : mixI c 9839 3 = 0
  · simp [mix_eq, p1, S_one, gaps_lc, hz, p2, p3, k, z2, ← e1, ← e2, ← e3]
  · simp [mix_eq, p1, S_one, gaps_lc, hz, p2, p3, k, z2, ← e1, ← e2, ← e3]
end L2.Pz

namespace L2.Pz.Fn
open PySem PySem.Spec PyProof.Rows L2 L2.Pz
noncomputable def T1_groups_of (ρ : En) : Rs Bool :=
    (bT (e2 gtD (e1 lenD (eV 0)) (eV 3))) ρ
noncomputable def L1_groups_of (ρ : En) : SR :=
    (sSeq (sApp 2 (eSl (eV 0) (some (e1 negD (eV 3))) none))
    (sSeq (sAsg (gN 0) (eSl (eV 0) none (some (e1 negD (eV 3)))))
    (sAsg (gN 3) (e2 ixD (eV 1) (e1 negD (eC (.int 1))))))) ρ
noncomputable def b_groups_of : SF :=
    (sSeq (sOwn 2 (eLst []))
    (sSeq (sAsg (gN 3) (e2 ixD (eV 1) (eC (.int 0))))
    (sSeq (whL T1_groups_of L1_groups_of 1000)
    (sSeq (sApp 2 (eV 0))
    (sRet (e1 revD (eO 2)))))))
noncomputable def F_groups_of : FF := lock (fnF 4 b_groups_of)
noncomputable def b_in_groups : SF :=
    (sSeq (sIf (bT (e2 ltD (e1 lenD (eV 0)) (e2 addD (e2 ixD (e2 ixD (eV 1) (eC (.int 2))) (eC (.int 0))) (e2 ixD (eV 1) (eC (.int 4)))))) (sRet (eV 0)) sNx)
    (sRet (eM_join1 (e2 ixD (eV 1) (eC (.int 1))) (eCall F_groups_of [(eV 0), (e2 ixD (eV 1) (eC (.int 2)))]))))
noncomputable def F_in_groups : FF := lock (fnF 2 b_in_groups)
noncomputable def b_plain_parts : SF :=
    (sSeq (sAsg (gT [(gN 2), (gN 3)]) (eV 0))
    (sSeq (sAsg (gN 4) (eM_zfill1 (e1 strD (e1 absD (eV 2))) (e2 addD (eV 3) (eC (.int 1)))))
    (sRet (eTup [(eSl (eV 4) none (some (e2 subD (e1 lenD (eV 4)) (eV 3)))), (eM_ljust2 (eSl (eV 4) (some (e2 subD (e1 lenD (eV 4)) (eV 3))) none) (eV 1) (eC (.str (S [48]))))]))))
noncomputable def F_plain_parts : FF := lock (fnF 5 b_plain_parts)
noncomputable def b_text_of : SF :=
    (sSeq (sAsg (gT [(gN 3), (gN 4)]) (eCall F_plain_parts [(eV 0), (eV 2)]))
    (sSeq (sAsg (gN 5) (eCall F_in_groups [(eV 3), (eV 1)]))
    (sSeq (sIf (bT (e2 neD (eV 4) (eC (.str (S []))))) (sAsg (gN 5) (e2 addD (e2 addD (eV 5) (e2 ixD (eV 1) (eC (.int 0)))) (eV 4))) sNx)
    (sSeq (sIf (bT (e2 ltD (e2 ixD (eV 0) (eC (.int 0))) (eC (.int 0)))) (sRet (eCall F_signed [(eV 5), (eV 1)])) sNx)
    (sRet (eV 5))))))
noncomputable def F_text_of : FF := lock (fnF 6 b_text_of)
noncomputable def b_shown : SF :=
    (sSeq (sAsg (gN 4) (eC (.int 0)))
    (sSeq (sIf (bT (e2 eqD (e2 ixD (eV 2) (eC (.int 0))) (eC (.str (S [112, 108, 97, 99, 101, 115]))))) (sAsg (gN 4) (e2 ixD (eV 2) (eC (.int 1)))) sNx)
    (sRet (eCall F_text_of [(eCall F_rounded [(eV 0), (eV 2), (eV 3)]), (eV 1), (eV 4)]))))
noncomputable def F_shown : FF := lock (fnF 5 b_shown)
noncomputable def b__law_text : SF :=
    (sSeq (sAsg (gT [(gN 3), (gN 4)]) (eV 0))
    (sSeq (sAsg (gN 5) (e1 strD (e2 fdivD (e1 absD (eV 3)) (eCall F__law_ten [(eV 4)]))))
    (sSeq (sAsg (gN 6) (eC (.str (S []))))
    (sSeq (sIf (bT (e2 gtD (eV 4) (eC (.int 0)))) (sAsg (gN 6) (eSl (e2 addD (e2 repD (eC (.str (S [48]))) (eV 4)) (e1 strD (e2 modD (e1 absD (eV 3)) (eCall F__law_ten [(eV 4)])))) (some (e1 negD (eV 4))) none)) sNx)
    (sSeq (sAsg (gN 6) (e2 addD (eV 6) (e2 repD (eC (.str (S [48]))) (e2 subD (eV 2) (e1 lenD (eV 6))))))
    (sSeq (sAsg (gN 7) (eCall F__law_grouped [(eV 5), (eV 1)]))
    (sSeq (sIf (bT (e2 neD (eV 6) (eC (.str (S []))))) (sAsg (gN 7) (e2 addD (e2 addD (eV 7) (e2 ixD (eV 1) (eC (.int 0)))) (eV 6))) sNx)
    (sSeq (sIf (bT (e2 geD (eV 3) (eC (.int 0)))) (sRet (eV 7)) sNx)
    (sRet (eDix [[97, 104, 101, 97, 100], [98, 101, 104, 105, 110, 100], [98, 114, 97, 99, 107, 101, 116, 115]] [(e2 addD (eC (.str (S [45]))) (eV 7)), (e2 addD (eV 7) (eC (.str (S [45])))), (e2 addD (e2 addD (eC (.str (S [40]))) (eV 7)) (eC (.str (S [41]))))] (e2 ixD (eV 1) (eC (.int 3)))))))))))))
noncomputable def F__law_text : FF := lock (fnF 8 b__law_text)
noncomputable def b__law_shown : SF :=
    (sSeq (sAsg (gN 4) (eC (.int 0)))
    (sSeq (sIf (bT (e2 eqD (e2 ixD (eV 2) (eC (.int 0))) (eC (.str (S [112, 108, 97, 99, 101, 115]))))) (sAsg (gN 4) (e2 ixD (eV 2) (eC (.int 1)))) sNx)
    (sRet (eCall F__law_text [(eCall F__law_rounded [(eV 0), (eV 2), (eV 3)]), (eV 1), (eV 4)]))))
noncomputable def F__law_shown : FF := lock (fnF 5 b__law_shown)
noncomputable def b_counted : SF :=
    (sRet (e2 addD (e2 addD (eCall F_shown [(eV 0), (eV 1), (eV 2), (eV 3)]) (eC (.str (S [32])))) (eCall F_word_for [(eCall F_rounded [(eV 0), (eV 2), (eV 3)]), (eV 4)])))
noncomputable def F_counted : FF := lock (fnF 5 b_counted)
noncomputable def C1_words_of (ρ : En) : Rs PyData :=
    (eV 7) ρ
noncomputable def b_words_of (rec_ : FF) : SF :=
    (sSeq (sAsg (gT [(gN 2), (gN 3), (gN 4), (gN 5)]) (eV 1))
    (sSeq (sIf (bT (e2 ltD (eV 0) (eC (.int 20)))) (sRet (eLst [(e2 ixD (eV 2) (eV 0))])) sNx)
    (sSeq (sIf (bT (e2 ltD (eV 0) (eC (.int 100)))) (sSeq (sOwn 6 (eLst [(e2 ixD (eV 3) (e2 subD (e2 fdivD (eV 0) (eC (.int 10))) (eC (.int 2))))]))
    (sSeq (sIf (bT (e2 gtD (e2 modD (eV 0) (eC (.int 10))) (eC (.int 0)))) (sApp 6 (e2 ixD (eV 2) (e2 modD (eV 0) (eC (.int 10))))) sNx)
    (sFrz 6 (sRet (eV 6))))) sNx)
    (sSeq (sAsg (gN 7) (e1 maxLD (eLc [7] (iR1 (e1 lenD (eV 4))) (gN 7) (bT (e2 leD (e2 ixD (eC (.tuple [(.int 100), (.int 1000), (.int 1000000), (.int 1000000000)])) (eV 7)) (eV 0))) C1_words_of)))
    (sSeq (sAsg (gN 6) (e2 addD (eCall rec_ [(e2 fdivD (eV 0) (e2 ixD (eC (.tuple [(.int 100), (.int 1000), (.int 1000000), (.int 1000000000)])) (eV 7))), (eV 1)]) (eLst [(e2 ixD (eV 4) (eV 7))])))
    (sSeq (sIf (bT (e2 gtD (e2 modD (eV 0) (e2 ixD (eC (.tuple [(.int 100), (.int 1000), (.int 1000000), (.int 1000000000)])) (eV 7))) (eC (.int 0)))) (sAsg (gN 6) (e2 addD (eO 6) (eCall rec_ [(e2 modD (eV 0) (e2 ixD (eC (.tuple [(.int 100), (.int 1000), (.int 1000000), (.int 1000000000)])) (eV 7))), (eV 1)]))) sNx)
    (sFrz 6 (sRet (eV 6)))))))))
noncomputable def F_words_of : Nat → FF
  | 0 => fun _ => .no
  | k + 1 => lock (fnF 8 (b_words_of (F_words_of k)))
noncomputable def C1__law_table (ρ : En) : Rs PyData :=
    (e2 ixD (eV 1) (eCall F__law_mix [(e2 addD (eV 4) (e2 mulD (eC (.int 7)) (eV 7))), (eC (.int 9629)), (eC (.int 26))])) ρ
noncomputable def L1__law_table (ρ : En) : SR :=
    (sSeq (sAsg (gN 4) (e2 addD (eV 0) (e2 mulD (eC (.int 31)) (eV 3))))
    (sSeq (sAsg (gN 5) (eM_join1 (eC (.str (S []))) (eLc [7] (iR1 (e2 addD (eC (.int 1)) (eCall F__law_mix [(eV 4), (eC (.int 9623)), (eC (.int 6))]))) (gN 7) bYes C1__law_table)))
    (sSeq (sAsg (gN 5) (e2 addD (e2 addD (eV 5) (e2 ixD (eC (.str (S [97, 98, 99, 100, 101, 102, 103, 104, 105, 106, 107, 108, 109, 110, 111, 112, 113, 114, 115, 116, 117, 118, 119, 120, 121, 122]))) (e2 modD (eV 3) (eC (.int 26))))) (e2 ixD (eC (.str (S [120, 121, 122]))) (e2 fdivD (eV 3) (eC (.int 26))))))
    (sApp 2 (eV 5))))) ρ
noncomputable def b__law_table : SF :=
    (sSeq (sAsg (gN 1) (eC (.str (S [97, 98, 99, 100, 101, 102, 103, 104, 105, 106, 107, 108, 109, 110, 111, 112, 113, 114, 115, 116, 117, 118, 119, 120, 121, 122]))))
    (sSeq (sOwn 2 (eLst []))
    (sSeq (sFor (gN 3) (iR1 (eC (.int 33))) L1__law_table)
    (sSeq (sAsg (gN 6) (e2 addD (eC (.int 1)) (eCall F__law_mix [(eV 0), (eC (.int 9619)), (eC (.int 4))])))
    (sRet (eTup [(e1 tupleD (eSl (eO 2) none (some (eC (.int 20))))), (e1 tupleD (eSl (eO 2) (some (eC (.int 20))) (some (eC (.int 28))))), (e1 tupleD (eSl (eO 2) (some (eC (.int 28))) (some (e2 addD (eC (.int 28)) (eV 6))))), (e2 ixD (eO 2) (eC (.int 32)))]))))))
noncomputable def F__law_table : FF := lock (fnF 8 b__law_table)
noncomputable def C1_parts (ρ : En) : Rs PyData :=
    (e2 fdivD (e2 mulD (eV 7) (eV 1)) (eV 2)) ρ
noncomputable def C2_parts (ρ : En) : Rs PyData :=
    (eTup [(e1 negD (e2 modD (e2 mulD (eV 7) (eV 1)) (eV 2))), (eV 6)]) ρ
noncomputable def L1_parts (ρ : En) : SR :=
    (sPut 3 (eV 6) (e2 addD (e2 ixD (eO 3) (eV 6)) (eC (.int 1)))) ρ
noncomputable def b_parts : SF :=
    (sSeq (sAsg (gN 2) (e1 sumD (eV 0)))
    (sSeq (sOwn 3 (eLc [7] (iS (eV 0)) (gN 7) bYes C1_parts))
    (sSeq (sAsg (gN 4) (e1 sortedD (eLc [6, 7] (iE (eV 0)) (gT [(gN 6), (gN 7)]) bYes C2_parts)))
    (sSeq (sFor (gT [(gN 5), (gN 6)]) (iS (eSl (eV 4) none (some (e2 subD (eV 1) (e1 sumD (eO 3)))))) L1_parts)
    (sRet (e1 tupleD (eO 3)))))))
noncomputable def F_parts : FF := lock (fnF 8 b_parts)
noncomputable def L1__law_shares (ρ : En) : SR :=
    (sSeq (sAsg (gN 3) (eCall F__law_mix [(e2 addD (eV 0) (e2 mulD (eC (.int 7)) (eV 2))), (eC (.int 9533)), (eC (.int 13))]))
    (sSeq (sIf (bT (e2 eqD (eCall F__law_mix [(eV 0), (eC (.int 9521)), (eC (.int 3))]) (eC (.int 0)))) (sAsg (gN 3) (e2 modD (e2 mulD (e2 addD (eV 0) (e2 mulD (eC (.int 31)) (eV 2))) (eC (.int 48271))) (eC (.int 999983)))) sNx)
    (sApp 1 (eV 3)))) ρ
noncomputable def b__law_shares : SF :=
    (sSeq (sOwn 1 (eLst []))
    (sSeq (sFor (gN 2) (iR1 (e2 addD (eC (.int 1)) (eCall F__law_mix [(eV 0), (eC (.int 9539)), (eC (.int 7))]))) L1__law_shares)
    (sSeq (sIf (bT (e2 eqD (e1 sumD (eO 1)) (eC (.int 0)))) (sPut 1 (eC (.int 0)) (e2 addD (eC (.int 1)) (e2 modD (eV 0) (eC (.int 9))))) sNx)
    (sRet (e1 tupleD (eO 1))))))
noncomputable def F__law_shares : FF := lock (fnF 4 b__law_shares)
noncomputable def L1__law_parts (ρ : En) : SR :=
    (sSeq (sAsg (gN 6) (e2 fdivD (e2 mulD (eV 5) (eV 1)) (eV 2)))
    (sSeq (sApp 3 (eV 6))
    (sApp 4 (e2 subD (e2 mulD (eV 5) (eV 1)) (e2 mulD (eV 6) (eV 2)))))) ρ
noncomputable def L2__law_parts (ρ : En) : SR :=
    (sSeq (sAsg (gN 8) (eM_index1 (eO 4) (e1 maxLD (eO 4))))
    (sSeq (sPut 3 (eV 8) (e2 addD (e2 ixD (eO 3) (eV 8)) (eC (.int 1))))
    (sPut 4 (eV 8) (e1 negD (eC (.int 1)))))) ρ
noncomputable def b__law_parts : SF :=
    (sSeq (sAsg (gN 2) (e1 sumD (eV 0)))
    (sSeq (sOwn 3 (eLst []))
    (sSeq (sOwn 4 (eLst []))
    (sSeq (sFor (gN 5) (iS (eV 0)) L1__law_parts)
    (sSeq (sFor (gN 7) (iR1 (e2 subD (eV 1) (e1 sumD (eO 3)))) L2__law_parts)
    (sRet (e1 tupleD (eO 3))))))))
noncomputable def F__law_parts : FF := lock (fnF 9 b__law_parts)
noncomputable def C1_percents (ρ : En) : Rs PyData :=
    (e2 addD (eCall F_text_of [(eCall F_normal [(eV 4), (eV 1)]), (eV 2), (eV 1)]) (eC (.str (S [32, 112, 99])))) ρ
noncomputable def b_percents : SF :=
    (sSeq (sAsg (gN 3) (eCall F_parts [(eV 0), (e2 mulD (eC (.int 100)) (eCall F_ten_to [(eV 1)]))]))
    (sRet (e1 tupleD (eLc [4] (iS (eV 3)) (gN 4) bYes C1_percents))))
noncomputable def F_percents : FF := lock (fnF 5 b_percents)
noncomputable def b_told : SF :=
    (sSeq (sAsg (gT [(gN 2), (gN 3)]) (eV 0))
    (sSeq (sAsg (gT [(gN 4), (gN 5)]) (eV 3))
    (sRet (e2 addD (e2 addD (eCall F_text_of [(eCall F_normal [(eV 2), (eV 5)]), (eV 1), (eV 5)]) (eC (.str (S [32])))) (eV 4)))))
noncomputable def F_told : FF := lock (fnF 6 b_told)
noncomputable def C1__law_coinage (ρ : En) : Rs PyData :=
    (e2 ixD (eV 1) (eCall F__law_mix [(e2 addD (eV 0) (e2 mulD (eC (.int 7)) (eV 4))), (eC (.int 9491)), (eC (.int 26))])) ρ
noncomputable def b__law_coinage : SF :=
    (sSeq (sAsg (gN 1) (eC (.str (S [65, 66, 67, 68, 69, 70, 71, 72, 73, 74, 75, 76, 77, 78, 79, 80, 81, 82, 83, 84, 85, 86, 87, 88, 89, 90]))))
    (sSeq (sAsg (gN 2) (e2 addD (eC (.int 1)) (eCall F__law_mix [(eV 0), (eC (.int 9479)), (eC (.int 5))])))
    (sSeq (sAsg (gN 3) (eM_join1 (eC (.str (S []))) (eLc [4] (iR1 (eV 2)) (gN 4) bYes C1__law_coinage)))
    (sRet (eTup [(eV 3), (eCall F__law_mix [(eV 0), (eC (.int 9473)), (eC (.int 5))])])))))
noncomputable def F__law_coinage : FF := lock (fnF 5 b__law_coinage)
noncomputable def b__law_money : SF :=
    (sSeq (sAsg (gN 1) (e2 subD (eCall F__law_mix [(eV 0), (eC (.int 9467)), (eC (.int 4001))]) (eC (.int 2000))))
    (sSeq (sIf (bT (e2 eqD (e2 modD (eV 0) (eC (.int 3))) (eC (.int 0)))) (sAsg (gN 1) (e2 subD (e2 modD (e2 mulD (eV 0) (eC (.int 48271))) (e2 mulD (eC (.int 2)) (e2 powD (eC (.int 10)) (eC (.int 15))))) (e2 powD (eC (.int 10)) (eC (.int 15))))) sNx)
    (sSeq (sIf (bT (e2 eqD (e2 modD (eV 0) (eC (.int 7))) (eC (.int 0)))) (sAsg (gN 1) (e2 subD (eCall F__law_mix [(eV 0), (eC (.int 9463)), (eC (.int 13))]) (eC (.int 6)))) sNx)
    (sRet (eTup [(eV 1), (eCall F__law_coinage [(e2 addD (eV 0) (eC (.int 5)))])])))))
noncomputable def F__law_money : FF := lock (fnF 2 b__law_money)
noncomputable def b__law_told_v3 : SF :=
    (sSeq (sAsg (gT [(gN 2), (gN 3)]) (eV 0))
    (sRet (e2 addD (e2 addD (eCall F__law_text [(eCall F__law_normal [(eV 2), (e2 ixD (eV 3) (eC (.int 1)))]), (eV 1), (e2 ixD (eV 3) (eC (.int 1)))]) (eC (.str (S [32])))) (e2 ixD (eV 3) (eC (.int 0))))))
noncomputable def F__law_told_v3 : FF := lock (fnF 4 b__law_told_v3)
noncomputable def C1_dealt (ρ : En) : Rs PyData :=
    (e1 negD (eV 5)) ρ
noncomputable def C2_dealt (ρ : En) : Rs PyData :=
    (eTup [(eV 5), (eV 3)]) ρ
noncomputable def b_dealt : SF :=
    (sSeq (sAsg (gT [(gN 2), (gN 3)]) (eV 0))
    (sSeq (sAsg (gN 4) (eCall F_parts [(eV 1), (e1 absD (eV 2))]))
    (sSeq (sIf (bT (e2 ltD (eV 2) (eC (.int 0)))) (sAsg (gN 4) (e1 tupleD (eLc [5] (iS (eV 4)) (gN 5) bYes C1_dealt))) sNx)
    (sRet (e1 tupleD (eLc [5] (iS (eV 4)) (gN 5) bYes C2_dealt))))))
noncomputable def F_dealt : FF := lock (fnF 6 b_dealt)
noncomputable def L1_footed (ρ : En) : SR :=
    (sAsg (gN 3) (eCall F_sum_of [(eV 3), (eV 4)])) ρ
noncomputable def C1_footed (ρ : En) : Rs PyData :=
    (e2 ixD (eCall F_made [(e2 mulD (e2 ixD (eV 4) (eC (.int 0))) (eV 5)), (eCall F_ten_to [(e2 ixD (eV 4) (eC (.int 1)))]), (eC (.int 0)), (eC (.str (S [100, 111, 119, 110])))]) (eC (.int 0))) ρ
noncomputable def L2_footed (ρ : En) : SR :=
    (sApp 7 (eTup [(e2 subD (eC (.int 0)) (e2 mulD (e2 subD (e2 mulD (e2 ixD (eV 4) (eC (.int 0))) (eV 5)) (e2 mulD (e2 ixD (eO 6) (eV 8)) (eCall F_ten_to [(e2 ixD (eV 4) (eC (.int 1)))]))) (eCall F_ten_to [(e2 subD (eC (.int 9)) (e2 ixD (eV 4) (eC (.int 1))))]))), (eV 8)])) ρ
noncomputable def L3_footed (ρ : En) : SR :=
    (sPut 6 (eV 8) (e2 addD (e2 ixD (eO 6) (eV 8)) (eC (.int 1)))) ρ
noncomputable def C2_footed (ρ : En) : Rs PyData :=
    (eCall F_normal [(eV 11), (eV 1)]) ρ
noncomputable def b_footed : SF :=
    (sSeq (sAsg (gN 3) (eTup [(eC (.int 0)), (eC (.int 0))]))
    (sSeq (sFor (gN 4) (iS (eV 0)) L1_footed)
    (sSeq (sAsg (gN 5) (eCall F_ten_to [(eV 1)]))
    (sSeq (sOwn 6 (eLc [4] (iS (eV 0)) (gN 4) bYes C1_footed))
    (sSeq (sOwn 7 (eLst []))
    (sSeq (sFor (gT [(gN 8), (gN 4)]) (iE (eV 0)) L2_footed)
    (sSeq (sAsg (gN 9) (e2 ixD (eCall F_made [(e2 mulD (e2 ixD (eV 3) (eC (.int 0))) (eV 5)), (eCall F_ten_to [(e2 ixD (eV 3) (eC (.int 1)))]), (eC (.int 0)), (eV 2)]) (eC (.int 0))))
    (sSeq (sFor (gT [(gN 10), (gN 8)]) (iS (eSl (e1 sortedD (eO 7)) none (some (e2 subD (eV 9) (e1 sumD (eO 6)))))) L3_footed)
    (sFrz 6 (sRet (e1 tupleD (eLc [11] (iS (eV 6)) (gN 11) bYes C2_footed))))))))))))
noncomputable def F_footed : FF := lock (fnF 12 b_footed)
end L2.Pz.Fn

namespace L2.Pz
open PySem PySem.Spec L2 L2.Pz.Fn
/-! ### groups -/
def Man.sl (m : Man) : Nat := m.s1.getD m.s0
theorem Man.Ok.sl {m : Man} (h : m.Ok) : 1 ≤ m.sl ∧ m.sl ≤ 5 := by
  unfold Man.sl
  cases e : m.s1 with
  | none => simpa using h.s0
  | some b => simpa using h.s1 b e
theorem sz_0 (m : Man) : atI m.sz 0 = some (.int (m.s0 : Nat)) := by
  unfold Man.sz
  cases m.s1 <;> rfl
theorem sz_l (m : Man) : atI m.sz (-1) = some (.int (m.sl : Nat)) := by
  unfold Man.sz Man.sl
  cases m.s1 <;> rfl
theorem cut_take' {α : Type} (l : List α) (m : Nat) : cutL l none (some (m : Int)) = l.take m := by
  unfold cutL
  rw [HT.sIx_none, HT.sIx_nat, List.drop_zero, Nat.sub_zero, List.take_eq_take_iff]
  omega
def sD (l : List Nat) : PyData := .str (S l)
theorem gr_loop {m : Man} (hm : m.Ok) : ∀ (f : Nat) (l : List Nat) (acc : List (List Nat)) (n : Nat), l.length ≤ f → acc.length + f ≤ 1000 → f < n → ∃ x rest, chk m.sl f l = x :: rest ∧
    whL T1_groups_of L1_groups_of n [some (.v (sD l)), some (.v (.tuple m.sz)), some (.own (acc.map sD)), some (.v (.int (m.sl : Nat)))] = .nx [some (.v (sD x)), some (.v (.tuple m.sz)), some (.own ((acc ++ rest.reverse).map sD)), some (.v (.int (m.sl : Nat)))] := by
  have hs := hm.sl
  intro f
  induction f with
  | zero =>
    intro l acc n hl hn hn2
    have : l = [] := List.eq_nil_of_length_eq_zero (by omega)
    subst this
    cases n with
    | zero => omega
    | succ n =>
      refine ⟨[], [], rfl, ?_⟩
      unfold whL
      have hz : ¬ ((m.sl : Int) < 0) := by omega
      simp [T1_groups_of, sD, hz]
  | succ f ih =>
    intro l acc n hl hn hn2
    cases n with
    | zero => omega
    | succ n =>
      by_cases h : l.length ≤ m.sl
      · refine ⟨l, [], chk_small h, ?_⟩
        unfold whL
        have hz : ¬ ((m.sl : Int) < (l.length : Int)) := by omega
        simp [T1_groups_of, sD, hz]
      · obtain ⟨x, rest, e, lp⟩ := ih (l.take (l.length - m.sl)) (acc ++ [l.drop (l.length - m.sl)]) n (by rw [List.length_take]; omega) (by simp; omega) (by omega)
        refine ⟨x, rest ++ [l.drop (l.length - m.sl)], by rw [chk, if_neg h, e]; rfl, ?_⟩
        unfold whL
        have hz : (m.sl : Int) < (l.length : Int) := by omega
        have c1 : cutL l (some (-(m.sl : Int))) none = l.drop (l.length - m.sl) := cut_last (by omega)
        have c2 : cutL l none (some (-(m.sl : Int))) = l.take (l.length - m.sl) := cut_front (by omega)
        have hz2 : acc.length < sizeLine := Nat.lt_of_le_of_lt (show acc.length ≤ 1000 by omega) (by decide)
        have t1 : T1_groups_of [some (.v (sD l)), some (.v (.tuple m.sz)), some (.own (acc.map sD)), some (.v (.int (m.sl : Nat)))] = .ok true := by simp [T1_groups_of, sD, hz]
        have t2 : L1_groups_of [some (.v (sD l)), some (.v (.tuple m.sz)), some (.own (acc.map sD)), some (.v (.int (m.sl : Nat)))] = .nx [some (.v (sD (l.take (l.length - m.sl)))), some (.v (.tuple m.sz)), some (.own ((acc ++ [l.drop (l.length - m.sl)]).map sD)), some (.v (.int (m.sl : Nat)))] := by
          have hl2 : (acc.map sD).length = acc.length := by simp
          rw [List.map_append]
          generalize acc.map sD = A at *
          simp [L1_groups_of, sD, cutS_S, c1, c2, hl2, hz2, sz_l]
        rw [t1, t2]
        simp only [lp]
        simp
theorem joinD_S {g : List Nat} {C : List (List Nat)} (h : (C.map List.length).sum + C.length * g.length ≤ 16777216) : joinD (.str (S g)) (.list (C.map sD)) = .ok (sD (joinC g C)) := by
  have e1 : C.map sD = (C.map S).map PyData.str := by rw [List.map_map]; rfl
  have e2 : (C.map S).map (fun y => y.cps.toList) = C := by
    rw [List.map_map]
    have : ((fun y : Str => y.cps.toList) ∘ S) = id := rfl
    rw [this, List.map_id]
  have e3 : (C.map S).map (·.length) = C.map List.length := by rw [List.map_map]; rfl
  rw [e1]
  generalize hC : C.map S = CS at *
  have e4 : CS.length = C.length := by rw [← hC]; simp
  simp only [joinD, strL_map, e2, e3, e4, S_len, S_list]
  rw [if_pos h]
  rfl
theorem Man.Ok.gp1 {m : Man} (hm : m.Ok) : m.gp.length ≤ 1 := by
  have := hm.gp
  simp only [gps, List.mem_cons, List.not_mem_nil, or_false] at this
  rcases this with h | h | h | h | h | h | h <;> rw [h] <;> decide
def grp (m : Man) (l : List Nat) : List Nat := if l.length < m.s0 + m.ls then l else joinC m.gp (chk m.sl l.length (l.take (l.length - m.s0)) ++ [l.drop (l.length - m.s0)])
theorem groups_of_eq {m : Man} (hm : m.Ok) {l : List Nat} (h : m.s0 < l.length) (hl : l.length ≤ 900) : F_groups_of [sD l, .tuple m.sz] = .ok (.list ((chk m.sl l.length (l.take (l.length - m.s0)) ++ [l.drop (l.length - m.s0)]).map sD)) := by
  have hs := hm.sl
  have h0 := hm.s0
  obtain ⟨x, rest, e, lp⟩ := gr_loop hm l.length (l.take (l.length - m.s0)) [l.drop (l.length - m.s0)] 999 (by rw [List.length_take]; omega) (by simp; omega) (by omega)
  have c1 : cutL l (some (-(m.s0 : Int))) none = l.drop (l.length - m.s0) := cut_last (by omega)
  have c2 : cutL l none (some (-(m.s0 : Int))) = l.take (l.length - m.s0) := cut_front (by omega)
  have hz : (m.s0 : Int) < (l.length : Int) := by omega
  have t1 : T1_groups_of [some (.v (sD l)), some (.v (.tuple m.sz)), some (.own []), some (.v (.int (m.s0 : Nat)))] = .ok true := by simp [T1_groups_of, sD, hz]
  have z0 : 0 < sizeLine := by decide
  have t2 : L1_groups_of [some (.v (sD l)), some (.v (.tuple m.sz)), some (.own []), some (.v (.int (m.s0 : Nat)))] = .nx [some (.v (sD (l.take (l.length - m.s0)))), some (.v (.tuple m.sz)), some (.own ([l.drop (l.length - m.s0)].map sD)), some (.v (.int (m.sl : Nat)))] := by
    simp [L1_groups_of, sD, cutS_S, c1, c2, sz_l, z0]
  have lp2 : whL T1_groups_of L1_groups_of 1000 [some (.v (sD l)), some (.v (.tuple m.sz)), some (.own []), some (.v (.int (m.s0 : Nat)))] = .nx [some (.v (sD x)), some (.v (.tuple m.sz)), some (.own (([l.drop (l.length - m.s0)] ++ rest.reverse).map sD)), some (.v (.int (m.sl : Nat)))] := by
    show whL T1_groups_of L1_groups_of (999 + 1) _ = _
    unfold whL
    rw [t1, t2]
    exact lp
  have rl : rest.length ≤ l.length := by
    have := chk_len (s := m.sl) (by omega) l.length (l.take (l.length - m.s0))
    rw [e, List.length_take, List.length_cons] at this
    omega
  have hz3 : ([l.drop (l.length - m.s0)] ++ rest.reverse).length < sizeLine := Nat.lt_of_le_of_lt (show _ ≤ 1000 by simp; omega) (by decide)
  have hl2 : (([l.drop (l.length - m.s0)] ++ rest.reverse).map sD).length < sizeLine := by simpa using hz3
  have fin : ((chk m.sl l.length (l.take (l.length - m.s0)) ++ [l.drop (l.length - m.s0)]).map sD) = (([l.drop (l.length - m.s0)] ++ rest.reverse).map sD ++ [sD x]).reverse := by
    rw [e]
    simp
  rw [fin]
  unfold F_groups_of b_groups_of
  generalize ([l.drop (l.length - m.s0)] ++ rest.reverse).map sD = A at *
  generalize sD x = X at *
  generalize sD l = L at *
  simp [sz_0, lp2, hl2]
theorem in_groups_eq {m : Man} (hm : m.Ok) {l : List Nat} (hl : l.length ≤ 900) : F_in_groups [sD l, manD m] = .ok (sD (grp m l)) := by
  have h0 := hm.s0
  have hls := hm.ls
  unfold grp
  by_cases h : l.length < m.s0 + m.ls
  · rw [if_pos h]
    have h' : (l.length : Int) < (m.s0 : Int) + (m.ls : Int) := by omega
    unfold F_in_groups b_in_groups manD
    simp [sD, atI1, atI2, atI4, sz_0, h']
  · rw [if_neg h]
    have h' : ¬ (l.length : Int) < (m.s0 : Int) + (m.ls : Int) := by omega
    have g := groups_of_eq hm (l := l) (by omega) hl
    generalize hc : chk m.sl l.length (l.take (l.length - m.s0)) ++ [l.drop (l.length - m.s0)] = C at *
    have hs := hm.sl
    have b1 : (C.map List.length).sum = l.length := by
      rw [← hc, List.map_append, List.sum_append, chk_sum]
      simp only [List.length_take, List.map_cons, List.map_nil, List.sum_cons, List.sum_nil, List.length_drop]
      omega
    have b2 : C.length ≤ l.length + 2 := by
      have := chk_len (s := m.sl) (by omega) l.length (l.take (l.length - m.s0))
      rw [← hc, List.length_append, List.length_singleton]
      rw [List.length_take] at this
      omega
    have b3 := hm.gp1
    have b4 : C.length * m.gp.length ≤ C.length * 1 := Nat.mul_le_mul_left _ b3
    have j := joinD_S (g := m.gp) (C := C) (by omega)
    unfold F_in_groups b_in_groups manD
    have ll : lenD (sD l) = .ok (.int (l.length : Nat)) := rfl
    generalize C.map sD = CC at *
    generalize sD l = L at *
    simp [atI1, atI2, atI4, sz_0, h', ll, g, j]
theorem grp_len {m : Man} (hm : m.Ok) (l : List Nat) : (grp m l).length ≤ 2 * l.length + 2 := by
  unfold grp
  split
  · omega
  · have b0 := hm.sl
    have b1 := joinC_len m.gp (chk m.sl l.length (l.take (l.length - m.s0)) ++ [l.drop (l.length - m.s0)])
    have b2 := chk_len (s := m.sl) (by omega) l.length (l.take (l.length - m.s0))
    have b3 := hm.gp1
    rw [List.map_append, List.sum_append, chk_sum, List.length_append, List.length_singleton] at b1
    simp only [List.length_take, List.map_cons, List.map_nil, List.sum_cons, List.sum_nil, List.length_drop] at b1 b2
    have b4 : ((chk m.sl l.length (l.take (l.length - m.s0))).length + 1) * m.gp.length ≤ ((chk m.sl l.length (l.take (l.length - m.s0))).length + 1) * 1 := Nat.mul_le_mul_left _ b3
    have h0 := hm.s0
    omega
/-! ### the law's own grouping -/
theorem lg_loop {m : Man} (hm : m.Ok) {s0 s1 s2 s5 s6 : Option Sl} : ∀ (f : Nat) (l acc : List Nat) (n : Nat), l.length ≤ f → l ≠ [] → acc.length + 6 * f ≤ 6000 → f < n →
    whL T1__law_grouped L1__law_grouped n [s0, s1, s2, some (.v (sD m.gp)), some (.v (.tuple m.sz)), s5, s6, some (.v (sD acc)), some (.v (sD l))] = .nx [s0, s1, s2, some (.v (sD m.gp)), some (.v (.tuple m.sz)), s5, s6, some (.v (sD (joinC m.gp (chk m.sl f l) ++ m.gp ++ acc))), some (.v (sD []))] := by
  have hs := hm.sl
  have hg := hm.gp1
  intro f
  induction f with
  | zero =>
    intro l acc n hl hne
    exact absurd (List.eq_nil_of_length_eq_zero (by omega)) hne
  | succ f ih =>
    intro l acc n hl hne ha hn
    have c1 : cutL l (some (-(m.sl : Int))) none = l.drop (l.length - m.sl) := cut_last (by omega)
    have c2 : cutL l none (some (-(m.sl : Int))) = l.take (l.length - m.sl) := cut_front (by omega)
    have z1 : (l.drop (l.length - m.sl)).length + m.gp.length ≤ sizeLine := Nat.le_trans (show _ ≤ 7000 by rw [List.length_drop]; omega) (by decide)
    have z2 : (l.drop (l.length - m.sl) ++ m.gp).length + acc.length ≤ sizeLine := Nat.le_trans (show _ ≤ 7000 by rw [List.length_append, List.length_drop]; omega) (by decide)
    have t1 : T1__law_grouped [s0, s1, s2, some (.v (sD m.gp)), some (.v (.tuple m.sz)), s5, s6, some (.v (sD acc)), some (.v (sD l))] = .ok true := by simp [T1__law_grouped, sD, hne]
    have t2 : L1__law_grouped [s0, s1, s2, some (.v (sD m.gp)), some (.v (.tuple m.sz)), s5, s6, some (.v (sD acc)), some (.v (sD l))] = .nx [s0, s1, s2, some (.v (sD m.gp)), some (.v (.tuple m.sz)), s5, s6, some (.v (sD (l.drop (l.length - m.sl) ++ m.gp ++ acc))), some (.v (sD (l.take (l.length - m.sl))))] := by
      generalize l.drop (l.length - m.sl) = A at *
      generalize l.take (l.length - m.sl) = B at *
      rw [List.length_append] at z2
      simp [L1__law_grouped, sD, sz_l, cutS_S, c1, c2, z1, z2, addD]
    cases n with
    | zero => omega
    | succ n =>
      unfold whL
      rw [t1, t2]
      simp only
      by_cases h : l.length ≤ m.sl
      · have e1 : l.length - m.sl = 0 := by omega
        rw [e1, List.drop_zero, List.take_zero, chk, if_pos h]
        have t3 : T1__law_grouped [s0, s1, s2, some (.v (sD m.gp)), some (.v (.tuple m.sz)), s5, s6, some (.v (sD (l ++ m.gp ++ acc))), some (.v (sD []))] = .ok false := by simp [T1__law_grouped, sD]
        cases n with
        | zero => omega
        | succ n =>
          unfold whL
          rw [t3]
          rfl
      · have hne2 : l.take (l.length - m.sl) ≠ [] := fun z => by
          have := congrArg List.length z
          rw [List.length_take, List.length_nil] at this
          omega
        rw [ih (l.take (l.length - m.sl)) (l.drop (l.length - m.sl) ++ m.gp ++ acc) n (by rw [List.length_take]; omega) hne2 (by simp only [List.length_append, List.length_drop]; omega) (by omega)]
        rw [chk, if_neg h, joinC_snoc _ _ _ (chk_ne _ _ _)]
        simp only [List.append_assoc]
theorem law_grouped_eq {m : Man} (hm : m.Ok) {l : List Nat} (hl : l.length ≤ 900) : F__law_grouped [sD l, manD m] = .ok (sD (grp m l)) := by
  have h0 := hm.s0
  have hls := hm.ls
  unfold grp
  by_cases h : l.length < m.s0 + m.ls
  · rw [if_pos h]
    have h' : (l.length : Int) < (m.s0 : Int) + (m.ls : Int) := by omega
    unfold F__law_grouped b__law_grouped manD
    simp [sD, sz_0, h']
  · rw [if_neg h]
    have h' : ¬ (l.length : Int) < (m.s0 : Int) + (m.ls : Int) := by omega
    have c1 : cutL l (some (-(m.s0 : Int))) none = l.drop (l.length - m.s0) := cut_last (by omega)
    have c2 : cutL l none (some (-(m.s0 : Int))) = l.take (l.length - m.s0) := cut_front (by omega)
    have hne2 : l.take (l.length - m.s0) ≠ [] := fun z => by
      have := congrArg List.length z
      rw [List.length_take, List.length_nil] at this
      omega
    have lp := lg_loop hm (s0 := some (.v (sD l))) (s1 := some (.v (manD m))) (s2 := some (.v (sD [m.pt]))) (s5 := some (.v (sD (sgS m.sg)))) (s6 := some (.v (.int (m.ls : Nat)))) l.length (l.take (l.length - m.s0)) (l.drop (l.length - m.s0)) 1000 (by rw [List.length_take]; omega) hne2 (by rw [List.length_drop]; omega) (by omega)
    rw [joinC_snoc _ _ _ (chk_ne _ _ _)]
    generalize joinC m.gp (chk m.sl l.length (l.take (l.length - m.s0))) ++ m.gp ++ l.drop (l.length - m.s0) = R at *
    unfold manD sD at lp
    unfold F__law_grouped b__law_grouped manD sD
    simp [sz_0, h', cutS_S, c1, c2, lp]
/-! ### the text -/
def sgn (m : Man) (t : List Nat) : List Nat := match m.sg with
  | .ahead => 45 :: t
  | .behind => t ++ [45]
  | .brackets => 40 :: t ++ [41]
def bhd (n p least : Nat) : List Nat := padD p n ++ List.replicate (least - p) 48
def bdy (m : Man) (n p least : Nat) : List Nat := if bhd n p least = [] then grp m (D (n / 10 ^ p)) else grp m (D (n / 10 ^ p)) ++ [m.pt] ++ bhd n p least
def txt (m : Man) (d : Int) (p least : Nat) : List Nat := if d < 0 then sgn m (bdy m d.natAbs p least) else bdy m d.natAbs p least
theorem bhd_len (n p least : Nat) : (bhd n p least).length = max p least := by
  unfold bhd
  rw [List.length_append, padD_len, List.length_replicate]
  omega
theorem D_len_big {n : Nat} (h : n < 10 ^ 60) : (D n).length ≤ 60 := D_len (k := 59) h
theorem ljustD_S (l : List Nat) (i : Int) (c : Nat) : ljustD (.str (S l)) (.int i) (.str (S [c])) = if 0 ≤ i ∧ i ≤ 1000000 then .ok (sD (l ++ List.replicate (i.toNat - l.length) c)) else .no := rfl
theorem zfillD_S (l : List Nat) (i : Int) : zfillD (.str (S l)) (.int i) = if 0 ≤ i ∧ i ≤ 1000000 ∧ l.head? ≠ some 43 ∧ l.head? ≠ some 45 then .ok (sD (List.replicate (i.toNat - l.length) 48 ++ l)) else .no := rfl
theorem zf_eq {n p : Nat} (hp : p ≤ 60) : zfillD (.str (S (D n))) (.int ((p : Int) + 1)) = .ok (.str (S (D (n / 10 ^ p) ++ padD p n))) := by
  have zs := zf_split p n
  obtain ⟨c, r, e, c1, c2⟩ := D_head n
  have h1 : (D n).head? ≠ some 43 := by rw [e]; simp; omega
  have h2 : (D n).head? ≠ some 45 := by rw [e]; simp; omega
  rw [zfillD_S, if_pos ⟨by omega, by omega, h1, h2⟩]
  have e1 : ((p : Int) + 1).toNat - (D n).length = p + 1 - (D n).length := by omega
  rw [e1, zs]
  rfl
theorem lj_eq {n p least : Nat} (hl : least ≤ 60) : ljustD (.str (S (padD p n))) (.int (least : Nat)) (.str (S [48])) = .ok (.str (S (bhd n p least))) := by
  rw [ljustD_S, if_pos (by omega), padD_len, Int.toNat_natCast]
  rfl
theorem sAsg_nx {gt : GF} {f : EF} {ρ ρ' : En} {d : PyData} (h : f ρ = .ok d) (hg : gt d ρ = some ρ') : sAsg gt f ρ = .nx ρ' := by simp [h, hg]
theorem sRet_rt {f : EF} {ρ : En} {d : PyData} (h : f ρ = .ok d) : sRet f ρ = .rt d := by simp [h]
theorem eM1_ok {T : PyData → Bool} {F : PyData → PyData → Rs PyData} {f g : EF} {ρ : En} {d e : PyData} {r : Rs PyData} (hf : f ρ = .ok d) (ht : T d = true) (hg : g ρ = .ok e) (hF : F d e = r) : eM1 T F f g ρ = r := by simp [hf, ht, hg, hF]
theorem eM2_ok {T : PyData → Bool} {F : PyData → PyData → PyData → Rs PyData} {f g h : EF} {ρ : En} {d e k : PyData} {r : Rs PyData} (hf : f ρ = .ok d) (ht : T d = true) (hg : g ρ = .ok e) (hh : h ρ = .ok k) (hF : F d e k = r) : eM2 T F f g h ρ = r := by simp [hf, ht, hg, hh, hF]
theorem plain_parts_eq {d : Int} {p least : Nat} (hs : d.natAbs.log2 < 1920) (hp : p ≤ 60) (hl : least ≤ 60) : F_plain_parts [numD (d, p), .int (least : Nat)] = .ok (.tuple [sD (D (d.natAbs / 10 ^ p)), sD (bhd d.natAbs p least)]) := by
  have z := zf_eq (n := d.natAbs) hp
  have j := lj_eq (n := d.natAbs) (p := p) hl
  have hlen : (D (d.natAbs / 10 ^ p) ++ padD p d.natAbs).length = (D (d.natAbs / 10 ^ p)).length + p := by rw [List.length_append, padD_len]
  have k1 : cutL (D (d.natAbs / 10 ^ p) ++ padD p d.natAbs) none (some (((D (d.natAbs / 10 ^ p)).length : Nat) : Int)) = D (d.natAbs / 10 ^ p) := by rw [cut_take']; simp
  have k2 : cutL (D (d.natAbs / 10 ^ p) ++ padD p d.natAbs) (some (((D (d.natAbs / 10 ^ p)).length : Nat) : Int)) none = padD p d.natAbs := by rw [cut_drop (by omega)]; simp
  generalize D (d.natAbs / 10 ^ p) = A at *
  generalize padD p d.natAbs = B at *
  generalize bhd d.natAbs p least = R at *
  unfold F_plain_parts b_plain_parts
  rw [lock_eq]
  have s1 : sAsg (gT [gN 2, gN 3]) (eV 0) [some (.v (numD (d, p))), some (.v (.int (least : Nat))), none, none, none] = .nx [some (.v (numD (d, p))), some (.v (.int (least : Nat))), some (.v (.int d)), some (.v (.int (p : Nat))), none] := rfl
  have g1 : (e1 strD (e1 absD (eV 2))) [some (.v (numD (d, p))), some (.v (.int (least : Nat))), some (.v (.int d)), some (.v (.int (p : Nat))), none] = .ok (.str (S (D d.natAbs))) := by simp [hs, strI_nat]
  have s2 : sAsg (gN 4) (eM_zfill1 (e1 strD (e1 absD (eV 2))) (e2 addD (eV 3) (eC (.int 1)))) [some (.v (numD (d, p))), some (.v (.int (least : Nat))), some (.v (.int d)), some (.v (.int (p : Nat))), none] = .nx [some (.v (numD (d, p))), some (.v (.int (least : Nat))), some (.v (.int d)), some (.v (.int (p : Nat))), some (.v (.str (S (A ++ B))))] :=
    sAsg_nx (eM1_ok g1 rfl (e := .int ((p : Int) + 1)) rfl z) rfl
  have e0 : ((A ++ B).length : Int) - (p : Int) = (A.length : Int) := by omega
  have c1 : (eSl (eV 4) none (some (e2 subD (e1 lenD (eV 4)) (eV 3)))) [some (.v (numD (d, p))), some (.v (.int (least : Nat))), some (.v (.int d)), some (.v (.int (p : Nat))), some (.v (.str (S (A ++ B))))] = .ok (sD A) := by
    show slD (.str (S (A ++ B))) none (some (((A ++ B).length : Int) - (p : Int))) = _
    rw [e0, slD_s, cutS_S, k1]
    rfl
  have c2 : (eSl (eV 4) (some (e2 subD (e1 lenD (eV 4)) (eV 3))) none) [some (.v (numD (d, p))), some (.v (.int (least : Nat))), some (.v (.int d)), some (.v (.int (p : Nat))), some (.v (.str (S (A ++ B))))] = .ok (.str (S B)) := by
    show slD (.str (S (A ++ B))) (some (((A ++ B).length : Int) - (p : Int))) none = _
    rw [e0, slD_s, cutS_S, k2]
  have c3 := eM2_ok (T := isS) (F := ljustD) (h := eC (.str (S [48]))) (g := eV 1) (e := .int (least : Nat)) c2 rfl rfl rfl j
  show outF (sSeq _ _ _) = _
  have st : startE 5 [numD (d, p), .int (least : Nat)] = [some (.v (numD (d, p))), some (.v (.int (least : Nat))), none, none, none] := rfl
  rw [st, sSeq_nx s1, sSeq_nx s2, sRet_rt (d := .tuple [sD A, sD R])]
  · rfl
  · show (eL [_, _] _).bind _ = _
    unfold eL
    rw [c1, Rs.bind_ok]
    unfold eL eL
    rw [show (eM_ljust2 (eSl (eV 4) (some (e2 subD (e1 lenD (eV 4)) (eV 3))) none) (eV 1) (eC (.str (S [48])))) [some (.v (numD (d, p))), some (.v (.int (least : Nat))), some (.v (.int d)), some (.v (.int (p : Nat))), some (.v (.str (S (A ++ B))))] = .ok (.str (S R)) from c3]
    rfl
theorem bdy_len {m : Man} (hm : m.Ok) {n p least : Nat} (hn : n < 10 ^ 60) (hp : p ≤ 60) (hl : least ≤ 60) : (grp m (D (n / 10 ^ p))).length ≤ 122 ∧ (bhd n p least).length ≤ 60 ∧ (bdy m n p least).length ≤ 183 := by
  have h1 := D_len_big (n := n / 10 ^ p) (Nat.lt_of_le_of_lt (Nat.div_le_self _ _) hn)
  have h2 := grp_len hm (D (n / 10 ^ p))
  have h3 := bhd_len n p least
  refine ⟨by omega, by omega, ?_⟩
  unfold bdy
  split
  · omega
  · simp only [List.length_append, List.length_singleton]
    omega
theorem signed_eq {m : Man} {t : List Nat} (h : t.length ≤ 1000) : F_signed [sD t, manD m] = .ok (sD (sgn m t)) := by
  have z1 : 1 + t.length ≤ sizeLine := Nat.le_trans (show _ ≤ 2000 by omega) (by decide)
  have z2 : t.length + 1 ≤ sizeLine := Nat.le_trans (show _ ≤ 2000 by omega) (by decide)
  have z3 : t.length + 1 + 1 ≤ sizeLine := Nat.le_trans (show _ ≤ 2000 by omega) (by decide)
  unfold F_signed b_signed sgn manD sD
  cases hs : m.sg <;> simp [sgS, atI3, addD, z1, z2, z3]
theorem addD_S {a b : List Nat} (h : a.length + b.length ≤ 100000) : addD (.str (S a)) (.str (S b)) = .ok (.str (S (a ++ b))) := by
  have : a.length + b.length ≤ sizeLine := Nat.le_trans h (by decide)
  simp [addD, this]
theorem text_of_eq {m : Man} (hm : m.Ok) {d : Int} {p least : Nat} (hd : d.natAbs < 10 ^ 60) (hp : p ≤ 60) (hl : least ≤ 60) : F_text_of [numD (d, p), manD m, .int (least : Nat)] = .ok (sD (txt m d p least)) := by
  have hs : d.natAbs.log2 < 1920 := log2_lt (Nat.lt_of_lt_of_le hd (by decide)) (by decide)
  have q1 := plain_parts_eq hs hp hl
  obtain ⟨l1, l2, l3⟩ := bdy_len hm hd hp hl
  have h1 := D_len_big (n := d.natAbs / 10 ^ p) (Nat.lt_of_le_of_lt (Nat.div_le_self _ _) hd)
  have q2 := in_groups_eq hm (l := D (d.natAbs / 10 ^ p)) (by omega)
  have q3 := signed_eq (m := m) (t := bdy m d.natAbs p least) (by omega)
  have a1 := addD_S (a := grp m (D (d.natAbs / 10 ^ p))) (b := [m.pt]) (by simp; omega)
  have a2 := addD_S (a := grp m (D (d.natAbs / 10 ^ p)) ++ [m.pt]) (b := bhd d.natAbs p least) (by simp; omega)
  have hb : bdy m d.natAbs p least = if bhd d.natAbs p least = [] then grp m (D (d.natAbs / 10 ^ p)) else grp m (D (d.natAbs / 10 ^ p)) ++ [m.pt] ++ bhd d.natAbs p least := rfl
  unfold txt
  generalize bdy m d.natAbs p least = BD at *
  generalize grp m (D (d.natAbs / 10 ^ p)) = G at *
  generalize D (d.natAbs / 10 ^ p) = A at *
  generalize bhd d.natAbs p least = R at *
  have x0 : ixD (manD m) (.int 0) = .ok (.str (S [m.pt])) := rfl
  have x1 : ixD (numD (d, p)) (.int 0) = .ok (.int d) := rfl
  unfold F_text_of b_text_of
  have s1 : ∀ y3 y4 y5, sAsg (gT [gN 3, gN 4]) (eCall F_plain_parts [eV 0, eV 2]) [some (.v (numD (d, p))), some (.v (manD m)), some (.v (.int (least : Nat))), y3, y4, y5] = .nx [some (.v (numD (d, p))), some (.v (manD m)), some (.v (.int (least : Nat))), some (.v (sD A)), some (.v (sD R)), y5] := fun y3 y4 y5 => by
    simp [q1]
  have s2 : ∀ y5, sAsg (gN 5) (eCall F_in_groups [eV 3, eV 1]) [some (.v (numD (d, p))), some (.v (manD m)), some (.v (.int (least : Nat))), some (.v (sD A)), some (.v (sD R)), y5] = .nx [some (.v (numD (d, p))), some (.v (manD m)), some (.v (.int (least : Nat))), some (.v (sD A)), some (.v (sD R)), some (.v (sD G))] := fun y5 => by
    simp [q2]
  have s3 : sIf (bT (e2 neD (eV 4) (eC (.str (S []))))) (sAsg (gN 5) (e2 addD (e2 addD (eV 5) (e2 ixD (eV 1) (eC (.int 0)))) (eV 4))) sNx [some (.v (numD (d, p))), some (.v (manD m)), some (.v (.int (least : Nat))), some (.v (sD A)), some (.v (sD R)), some (.v (sD G))] = .nx [some (.v (numD (d, p))), some (.v (manD m)), some (.v (.int (least : Nat))), some (.v (sD A)), some (.v (sD R)), some (.v (sD BD))] := by
    by_cases hR : R = []
    · subst hR
      rw [if_pos rfl] at hb
      subst hb
      simp [sD]
    · rw [if_neg hR] at hb
      subst hb
      unfold sD
      simp only [sIf, bT, e2, eV, eC, sAsg, gN]
      simp [hR, x0, a1, a2]
  rw [lock_eq]
  have st : startE 6 [numD (d, p), manD m, .int (least : Nat)] = [some (.v (numD (d, p))), some (.v (manD m)), some (.v (.int (least : Nat))), none, none, none] := rfl
  show outF (sSeq _ _ _) = _
  rw [st, sSeq_nx (s1 _ _ _), sSeq_nx (s2 _), sSeq_nx s3]
  by_cases hneg : d < 0
  · rw [if_pos hneg]
    simp [x1, hneg, q3]
  · rw [if_neg hneg]
    simp [x1, hneg]
end L2.Pz

namespace L2.Pz
open PySem PySem.Spec L2 L2.Pz.Fn
theorem ten_cast (p : Nat) : ((10 : Int) ^ p) = ((10 ^ p : Nat) : Int) := by simp
theorem repD_S {c : List Nat} {n : Int} (h1 : -(2 ^ 62) ≤ n) (h2 : n < 2 ^ 20) (hc : c.length ≤ 16) : repD (.str (S c)) (.int n) = .ok (.str (S (List.replicate n.toNat c).flatten)) := by
  show (if -(2 ^ 62) ≤ n ∧ n < 2 ^ 20 ∧ (S c).length ≤ 16 then Rs.ok (PyData.str (repT (S c) n)) else Rs.no) = _
  rw [if_pos ⟨h1, h2, hc⟩]
  rfl
theorem e1_ok {F : PyData → Rs PyData} {f : EF} {ρ : En} {d : PyData} (hf : f ρ = .ok d) : e1 F f ρ = F d := by simp [hf]
theorem e2_ok {F : PyData → PyData → Rs PyData} {f g : EF} {ρ : En} {d e : PyData} (hf : f ρ = .ok d) (hg : g ρ = .ok e) : e2 F f g ρ = F d e := by simp [hf, hg]
theorem eSl_ok {f : EF} {lo hi : Option EF} {ρ : En} {d : PyData} {l u : Option Int} (hf : f ρ = .ok d) (hl : eOpt lo ρ = .ok l) (hu : eOpt hi ρ = .ok u) : eSl f lo hi ρ = slD d l u := by unfold eSl; rw [hf, Rs.bind_ok, hl, Rs.bind_ok, hu, Rs.bind_ok]
theorem eOpt_ok {f : EF} {ρ : En} {i : Int} (h : f ρ = .ok (.int i)) : eOpt (some f) ρ = .ok (some i) := by simp [h]
theorem rep1 (c : Nat) : ∀ n : Nat, (List.replicate n [c]).flatten = List.replicate n c
  | 0 => rfl
  | n + 1 => by rw [List.replicate_succ, List.flatten_cons, rep1 c n]; rfl
theorem law_text_eq {m : Man} (hm : m.Ok) {d : Int} {p least : Nat} (hd : d.natAbs < 10 ^ 60) (hp : p ≤ 60) (hl : least ≤ 60) : F__law_text [numD (d, p), manD m, .int (least : Nat)] = .ok (sD (txt m d p least)) := by
  have hs : ∀ n : Nat, n < 10 ^ 60 → n.log2 < 1920 := fun n hn => log2_lt (Nat.lt_of_lt_of_le hn (by decide)) (by decide)
  have ten := law_ten_nat (p := p) (by omega)
  rw [ten_cast] at ten
  have tp : 0 < 10 ^ p := Nat.pow_pos (by decide)
  have tl : (10 ^ p : Nat).log2 < 9000 := by
    have : (10 : Nat) ^ p ≤ 10 ^ 60 := Nat.pow_le_pow_right (by decide) hp
    have h2 : (10 ^ p : Nat).log2 < 1920 := log2_lt (Nat.lt_of_le_of_lt this (by decide)) (by decide)
    omega
  have hq : d.natAbs / 10 ^ p < 10 ^ 60 := Nat.lt_of_le_of_lt (Nat.div_le_self _ _) hd
  have hr : d.natAbs % 10 ^ p < 10 ^ 60 := Nat.lt_of_le_of_lt (Nat.mod_le _ _) hd
  obtain ⟨l1, l2, l3⟩ := bdy_len hm hd hp hl
  have h1 := D_len_big hq
  have q2 := law_grouped_eq hm (l := D (d.natAbs / 10 ^ p)) (by omega)
  have a1 := addD_S (a := grp m (D (d.natAbs / 10 ^ p))) (b := [m.pt]) (by simp; omega)
  have a2 := addD_S (a := grp m (D (d.natAbs / 10 ^ p)) ++ [m.pt]) (b := bhd d.natAbs p least) (by simp; omega)
  have hb : bdy m d.natAbs p least = if bhd d.natAbs p least = [] then grp m (D (d.natAbs / 10 ^ p)) else grp m (D (d.natAbs / 10 ^ p)) ++ [m.pt] ++ bhd d.natAbs p least := rfl
  have x0 : ixD (manD m) (.int 0) = .ok (.str (S [m.pt])) := rfl
  have x3 : ixD (manD m) (.int 3) = .ok (.str (S (sgS m.sg))) := rfl
  -- the figures ahead
  have f1 : fdivD (.int (d.natAbs : Nat)) (.int ((10 ^ p : Nat) : Int)) = .ok (.int ((d.natAbs / 10 ^ p : Nat) : Int)) := by
    unfold fdivD
    simp only
    rw [if_pos ⟨by omega, by rw [Int.natAbs_natCast]; exact tl⟩, ← Int.natCast_ediv]
  have f2 : strD (.int ((d.natAbs / 10 ^ p : Nat) : Int)) = .ok (sD (D (d.natAbs / 10 ^ p))) := by
    rw [strD_i, Int.natAbs_natCast, if_pos (hs _ hq), strI_nat]
    rfl
  have f3 : modD (.int (d.natAbs : Nat)) (.int ((10 ^ p : Nat) : Int)) = .ok (.int ((d.natAbs % 10 ^ p : Nat) : Int)) := by
    unfold modD
    simp only
    rw [if_pos (by omega), ← Int.natCast_emod]
  have f4 : strD (.int ((d.natAbs % 10 ^ p : Nat) : Int)) = .ok (.str (S (D (d.natAbs % 10 ^ p)))) := by
    rw [strD_i, Int.natAbs_natCast, if_pos (hs _ hr), strI_nat]
  have s1 : sAsg (gT [gN 3, gN 4]) (eV 0) [some (.v (numD (d, p))), some (.v (manD m)), some (.v (.int (least : Nat))), none, none, none, none, none] = .nx [some (.v (numD (d, p))), some (.v (manD m)), some (.v (.int (least : Nat))), some (.v (.int d)), some (.v (.int (p : Nat))), none, none, none] := rfl
  have s2 : sAsg (gN 5) (e1 strD (e2 fdivD (e1 absD (eV 3)) (eCall F__law_ten [eV 4]))) [some (.v (numD (d, p))), some (.v (manD m)), some (.v (.int (least : Nat))), some (.v (.int d)), some (.v (.int (p : Nat))), none, none, none] = .nx [some (.v (numD (d, p))), some (.v (manD m)), some (.v (.int (least : Nat))), some (.v (.int d)), some (.v (.int (p : Nat))), some (.v (sD (D (d.natAbs / 10 ^ p)))), none, none] := by
    refine sAsg_nx (d := sD (D (d.natAbs / 10 ^ p))) ?_ rfl
    show ((Rs.bind (F__law_ten [.int (p : Nat)]) fun e => fdivD (.int (d.natAbs : Nat)) e).bind strD) = _
    rw [ten, Rs.bind_ok, f1, Rs.bind_ok, f2]
  have s3 : sAsg (gN 6) (eC (.str (S []))) [some (.v (numD (d, p))), some (.v (manD m)), some (.v (.int (least : Nat))), some (.v (.int d)), some (.v (.int (p : Nat))), some (.v (sD (D (d.natAbs / 10 ^ p)))), none, none] = .nx [some (.v (numD (d, p))), some (.v (manD m)), some (.v (.int (least : Nat))), some (.v (.int d)), some (.v (.int (p : Nat))), some (.v (sD (D (d.natAbs / 10 ^ p)))), some (.v (sD [])), none] := rfl
  have s4 : sIf (bT (e2 gtD (eV 4) (eC (.int 0)))) (sAsg (gN 6) (eSl (e2 addD (e2 repD (eC (.str (S [48]))) (eV 4)) (e1 strD (e2 modD (e1 absD (eV 3)) (eCall F__law_ten [eV 4])))) (some (e1 negD (eV 4))) none)) sNx [some (.v (numD (d, p))), some (.v (manD m)), some (.v (.int (least : Nat))), some (.v (.int d)), some (.v (.int (p : Nat))), some (.v (sD (D (d.natAbs / 10 ^ p)))), some (.v (sD [])), none] = .nx [some (.v (numD (d, p))), some (.v (manD m)), some (.v (.int (least : Nat))), some (.v (.int d)), some (.v (.int (p : Nat))), some (.v (sD (D (d.natAbs / 10 ^ p)))), some (.v (sD (padD p d.natAbs))), none] := by
    by_cases hp0 : p = 0
    · subst hp0
      rfl
    · have hp1 : (0 : Int) < (p : Int) := by omega
      have r1 : repD (.str (S [48])) (.int (p : Nat)) = .ok (.str (S (List.replicate p 48))) := by
        rw [repD_S (by omega) (by omega) (by simp), rep1, Int.toNat_natCast]
      have hm2 : d.natAbs % 10 ^ p < 10 ^ p := Nat.mod_lt _ tp
      have hDl : (D (d.natAbs % 10 ^ p)).length ≤ 60 := D_len_big hr
      have r2 := addD_S (a := List.replicate p 48) (b := D (d.natAbs % 10 ^ p)) (by rw [List.length_replicate]; omega)
      have r3 : cutL (List.replicate p 48 ++ D (d.natAbs % 10 ^ p)) (some (-(p : Int))) none = padD p d.natAbs := by
        rw [cut_last (by omega), List.length_append, List.length_replicate, Nat.add_sub_cancel_left, tail_pad (by omega) hm2, padD_mod]
      have t1 : bT (e2 gtD (eV 4) (eC (.int 0))) [some (.v (numD (d, p))), some (.v (manD m)), some (.v (.int (least : Nat))), some (.v (.int d)), some (.v (.int (p : Nat))), some (.v (sD (D (d.natAbs / 10 ^ p)))), some (.v (sD [])), none] = .ok true := by
        simp
        omega
      unfold sIf
      rw [t1]
      refine sAsg_nx (d := sD (padD p d.natAbs)) ?_ rfl
      have key : ∀ ρ : En, eV 3 ρ = .ok (.int d) → eV 4 ρ = .ok (.int (p : Nat)) → eSl (e2 addD (e2 repD (eC (.str (S [48]))) (eV 4)) (e1 strD (e2 modD (e1 absD (eV 3)) (eCall F__law_ten [eV 4])))) (some (e1 negD (eV 4))) none ρ = .ok (sD (padD p d.natAbs)) := fun ρ h3 h4 => by
        have g1 : e2 repD (eC (.str (S [48]))) (eV 4) ρ = .ok (.str (S (List.replicate p 48))) := (e2_ok (d := .str (S [48])) rfl h4).trans r1
        have g2 : e1 absD (eV 3) ρ = .ok (.int (d.natAbs : Nat)) := (e1_ok h3).trans rfl
        have g3 : eCall F__law_ten [eV 4] ρ = .ok (.int ((10 ^ p : Nat) : Int)) := by
          unfold eCall eL eL
          rw [h4, Rs.bind_ok, Rs.bind_ok, Rs.bind_ok]
          exact ten
        have g4 : e1 strD (e2 modD (e1 absD (eV 3)) (eCall F__law_ten [eV 4])) ρ = .ok (.str (S (D (d.natAbs % 10 ^ p)))) := (e1_ok ((e2_ok g2 g3).trans f3)).trans f4
        have g5 : e1 negD (eV 4) ρ = .ok (.int (-(p : Int))) := (e1_ok h4).trans rfl
        have g6 : eOpt (some (e1 negD (eV 4))) ρ = .ok (some (-(p : Int))) := eOpt_ok g5
        rw [eSl_ok ((e2_ok g1 g4).trans r2) g6 rfl, slD_s, cutS_S, r3]
        rfl
      exact key _ rfl rfl
  have s5 : sAsg (gN 6) (e2 addD (eV 6) (e2 repD (eC (.str (S [48]))) (e2 subD (eV 2) (e1 lenD (eV 6))))) [some (.v (numD (d, p))), some (.v (manD m)), some (.v (.int (least : Nat))), some (.v (.int d)), some (.v (.int (p : Nat))), some (.v (sD (D (d.natAbs / 10 ^ p)))), some (.v (sD (padD p d.natAbs))), none] = .nx [some (.v (numD (d, p))), some (.v (manD m)), some (.v (.int (least : Nat))), some (.v (.int d)), some (.v (.int (p : Nat))), some (.v (sD (D (d.natAbs / 10 ^ p)))), some (.v (sD (bhd d.natAbs p least))), none] := by
    refine sAsg_nx (d := sD (bhd d.natAbs p least)) ?_ rfl
    show (Rs.bind (repD (.str (S [48])) (.int ((least : Int) - ((padD p d.natAbs).length : Int)))) fun b => addD (.str (S (padD p d.natAbs))) b) = _
    rw [padD_len, repD_S (by omega) (by omega) (by simp), rep1, Rs.bind_ok, addD_S (by rw [padD_len, List.length_replicate]; omega)]
    have : ((least : Int) - (p : Int)).toNat = least - p := by omega
    rw [this]
    rfl
  have s6 : sAsg (gN 7) (eCall F__law_grouped [eV 5, eV 1]) [some (.v (numD (d, p))), some (.v (manD m)), some (.v (.int (least : Nat))), some (.v (.int d)), some (.v (.int (p : Nat))), some (.v (sD (D (d.natAbs / 10 ^ p)))), some (.v (sD (bhd d.natAbs p least))), none] = .nx [some (.v (numD (d, p))), some (.v (manD m)), some (.v (.int (least : Nat))), some (.v (.int d)), some (.v (.int (p : Nat))), some (.v (sD (D (d.natAbs / 10 ^ p)))), some (.v (sD (bhd d.natAbs p least))), some (.v (sD (grp m (D (d.natAbs / 10 ^ p)))))] := by
    simp [q2]
  have z1 := addD_S (a := [45]) (b := bdy m d.natAbs p least) (by simp; omega)
  have z2 := addD_S (a := bdy m d.natAbs p least) (b := [45]) (by simp; omega)
  have z3 := addD_S (a := [40]) (b := bdy m d.natAbs p least) (by simp; omega)
  have z4 := addD_S (a := [40] ++ bdy m d.natAbs p least) (b := [41]) (by simp; omega)
  unfold txt
  generalize bdy m d.natAbs p least = BD at *
  generalize grp m (D (d.natAbs / 10 ^ p)) = G at *
  generalize D (d.natAbs / 10 ^ p) = A at *
  generalize bhd d.natAbs p least = R at *
  have s7 : sIf (bT (e2 neD (eV 6) (eC (.str (S []))))) (sAsg (gN 7) (e2 addD (e2 addD (eV 7) (e2 ixD (eV 1) (eC (.int 0)))) (eV 6))) sNx [some (.v (numD (d, p))), some (.v (manD m)), some (.v (.int (least : Nat))), some (.v (.int d)), some (.v (.int (p : Nat))), some (.v (sD A)), some (.v (sD R)), some (.v (sD G))] = .nx [some (.v (numD (d, p))), some (.v (manD m)), some (.v (.int (least : Nat))), some (.v (.int d)), some (.v (.int (p : Nat))), some (.v (sD A)), some (.v (sD R)), some (.v (sD BD))] := by
    by_cases hR : R = []
    · subst hR
      rw [if_pos rfl] at hb
      subst hb
      simp [sD]
    · rw [if_neg hR] at hb
      subst hb
      unfold sD
      simp only [sIf, bT, e2, eV, eC, sAsg, gN]
      simp [hR, x0, a1, a2]
  unfold F__law_text b__law_text
  rw [lock_eq]
  have st : startE 8 [numD (d, p), manD m, .int (least : Nat)] = [some (.v (numD (d, p))), some (.v (manD m)), some (.v (.int (least : Nat))), none, none, none, none, none] := rfl
  show outF (sSeq _ _ _) = _
  rw [st, sSeq_nx s1, sSeq_nx s2, sSeq_nx s3, sSeq_nx s4, sSeq_nx s5, sSeq_nx s6, sSeq_nx s7]
  by_cases hneg : d < 0
  · rw [if_pos hneg]
    have hge : ¬ (0 ≤ d) := by omega
    have t8 : ∀ ρ : En, ρ[3]? = some (some (.v (.int d))) → sIf (bT (e2 geD (eV 3) (eC (.int 0)))) (sRet (eV 7)) sNx ρ = .nx ρ := fun ρ h => by simp [h, hge]
    rw [sSeq_nx (t8 _ rfl)]
    have el : eL [(e2 addD (eC (.str (S [45]))) (eV 7)), (e2 addD (eV 7) (eC (.str (S [45])))), (e2 addD (e2 addD (eC (.str (S [40]))) (eV 7)) (eC (.str (S [41]))))] [some (.v (numD (d, p))), some (.v (manD m)), some (.v (.int (least : Nat))), some (.v (.int d)), some (.v (.int (p : Nat))), some (.v (sD A)), some (.v (sD R)), some (.v (sD BD))] = .ok [.str (S ([45] ++ BD)), .str (S (BD ++ [45])), .str (S ([40] ++ BD ++ [41]))] := by
      unfold eL eL eL eL
      show (Rs.bind (addD (.str (S [45])) (.str (S BD))) fun x => Rs.bind (Rs.bind (addD (.str (S BD)) (.str (S [45]))) fun y => Rs.bind (Rs.bind (Rs.bind (addD (.str (S [40])) (.str (S BD))) fun u => addD u (.str (S [41]))) fun z => Rs.bind (.ok []) fun w => .ok (z :: w)) fun v => .ok (y :: v)) fun v => .ok (x :: v)) = _
      rw [z1, z2, z3]
      simp only [Rs.bind_ok, z4]
    rw [sRet_rt (d := sD (sgn m BD))]
    · rfl
    · show (Rs.bind (eL _ _) fun ds => Rs.bind (ixD (manD m) (.int 3)) fun y => _) = _
      rw [el, Rs.bind_ok, x3, Rs.bind_ok]
      unfold sgn sD
      cases m.sg <;> rfl
  · rw [if_neg hneg]
    have hge : 0 ≤ d := by omega
    simp [hge]
end L2.Pz

namespace L2.Pz
open PySem PySem.Spec L2 L2.Pz.Fn
/-! ### heights -/
def hz (n q m : Nat) : Int := (dl n : Int) - q - m
theorem sml_ten {k : Nat} (h : k ≤ 99) : Sml (10 ^ k) := by
  unfold Sml
  rw [Int.natAbs_pow]
  exact Nat.pow_lt_pow_of_lt (by decide) (by omega)
theorem sml_nat {n : Nat} (h : n < 10 ^ 40) : Sml (n : Int) := by
  unfold Sml
  rw [Int.natAbs_natCast]
  exact Nat.lt_trans h (Nat.pow_lt_pow_of_lt (by decide) (by decide))
theorem dl_40 {n : Nat} (h : n < 10 ^ 40) : dl n ≤ 40 := dl_le (k := 39) h
theorem hz_test {n : Nat} (h : 0 < n) (q m : Nat) : (10 : Int) ^ q * 10 ^ (hz n q m - 1).toNat * 10 ^ m ≤ (n : Int) * 10 ^ (-(hz n q m - 1)).toNat := by
  have a := dl_low h
  have p := dl_pos n
  have e : q + (hz n q m - 1).toNat + m = dl n - 1 + (-(hz n q m - 1)).toNat := by unfold hz; omega
  rw [← Int.pow_add, ← Int.pow_add, e, Int.pow_add]
  refine Int.mul_le_mul_of_nonneg_right ?_ (by have := ten_pos (-(hz n q m - 1)).toNat; omega)
  rw [ten_cast]
  exact Int.ofNat_le.mpr a
theorem height_eq {u : Int} {q m : Nat} (hu : u ≠ 0) (hb : u.natAbs < 10 ^ 40) (hq : q ≤ 40) (hm : m ≤ 40) : F_height_for [.int u, .int (10 ^ q), .int (m : Nat)] = .ok (.int (hz u.natAbs q m)) := by
  generalize hn : u.natAbs = n at *
  have n0 : 0 < n := by omega
  have t := hz_test n0 q m
  have a := dl_40 hb
  have p := dl_pos n
  have l1 : n.log2 < 1920 := by
    have := sml_log (sml_nat hb)
    rw [Int.natAbs_natCast] at this
    omega
  have l2 : ((10 : Int) ^ q).natAbs.log2 < 1920 := by
    have := sml_log (sml_ten (k := q) (by omega))
    omega
  have l3 : (10 ^ q).log2 < 1920 := by rw [Int.natAbs_pow] at l2; exact l2
  have e1 : strI (n : Int) = S (D n) := strI_nat n
  have e2 : strI ((10 : Int) ^ q) = S (D (10 ^ q)) := by rw [ten_cast]; exact strI_nat _
  have d2 : (D (10 ^ q)).length = q + 1 := dl_ten q
  have h0 : (((D n).length : Int) - ((q : Int) + 1) - (m : Int)) = hz n q m - 1 := by unfold hz dl; omega
  have b1 : -100 ≤ hz n q m ∧ hz n q m ≤ 100 := by unfold hz; omega
  generalize hh : hz n q m - 1 = h at *
  have t1 : F_ten_to [.int (-h)] = .ok (.int (10 ^ (-h).toNat)) := ten_to_eq (by omega) (by omega)
  have t2 : F_ten_to [.int h] = .ok (.int (10 ^ h.toNat)) := ten_to_eq (by omega) (by omega)
  have t3 : F_ten_to [.int (m : Int)] = .ok (.int (10 ^ m)) := ten_nat (by omega)
  have k : h = (dl n : Int) - q - m - 1 := by rw [← hh]; rfl
  have m1 : mulOk (n : Int) (10 ^ (-h).toNat) = true := mulOk_s (sml_nat hb) (sml_ten (by omega))
  have m2 : mulOk ((10 : Int) ^ q) (10 ^ h.toNat) = true := mulOk_s (sml_ten (by omega)) (sml_ten (by omega))
  have m3 : mulOk ((10 : Int) ^ q * 10 ^ h.toNat) (10 ^ m) = true := by
    rw [← Int.pow_add]; exact mulOk_s (sml_ten (by omega)) (sml_ten (by omega))
  have f : h + 1 = hz n q m := by omega
  unfold F_height_for b_height_for
  simp [hn, l1, l3, e1, e2, d2, h0, t1, t2, t3, m1, m2, m3, t, f]
theorem to_step_eq {w : Way} {u : Int} {q : Nat} {h : Int} (hb : u.natAbs < 10 ^ 40) (hq : q ≤ 40) (hh : -59 ≤ h ∧ h ≤ 59) :
    F_to_step [.int u, .int (10 ^ q), .int h, wD w] = .ok (.int (rnd w (u * 10 ^ (-h).toNat) (10 ^ (q + h.toNat)))) := by
  have t1 : F_ten_to [.int (-h)] = .ok (.int (10 ^ (-h).toNat)) := ten_to_eq (by omega) (by omega)
  have t2 : F_ten_to [.int h] = .ok (.int (10 ^ h.toNat)) := ten_to_eq (by omega) (by omega)
  have s1 : Sml u := Nat.lt_trans hb (Nat.pow_lt_pow_of_lt (by decide) (by decide))
  have m1 : mulOk u (10 ^ (-h).toNat) = true := mulOk_s s1 (sml_ten (by omega))
  have m2 : mulOk ((10 : Int) ^ q) (10 ^ h.toNat) = true := mulOk_s (sml_ten (by omega)) (sml_ten (by omega))
  have s2 : Sml (u * 10 ^ (-h).toNat) := by
    unfold Sml
    rw [Int.natAbs_mul, Int.natAbs_pow]
    have : u.natAbs * 10 ^ (-h).toNat < 10 ^ 40 * 10 ^ (-h).toNat := Nat.mul_lt_mul_of_pos_right hb (Nat.pow_pos (by decide))
    refine Nat.lt_of_lt_of_le this ?_
    rw [← Nat.pow_add]
    exact Nat.pow_le_pow_right (by decide) (by omega)
  have w1 : F_to_whole [.int (u * 10 ^ (-h).toNat), .int (10 ^ q * 10 ^ h.toNat), wD w] = .ok (.int (rnd w (u * 10 ^ (-h).toNat) (10 ^ q * 10 ^ h.toNat))) :=
    to_whole_pos (by rw [← Int.pow_add]; exact ten_pos _) s2
  rw [Int.pow_add]
  unfold F_to_step b_to_step
  simp [t1, t2, m1, m2, w1]
def steps (w : Way) (u : Int) (q m : Nat) : Int := rnd w (u * 10 ^ (-(hz u.natAbs q m)).toNat) (10 ^ (q + (hz u.natAbs q m).toNat))
theorem to_figures_eq {w : Way} {u : Int} {q m : Nat} (hu : u ≠ 0) (hb : u.natAbs < 10 ^ 40) (hq : q ≤ 40) (hm : m ≤ 40) (hqm : q + m ≤ 59) :
    F_to_figures [.int u, .int (10 ^ q), .int (m : Nat), wD w] = .ok (.tuple [.int (steps w u q m), .int (hz u.natAbs q m)]) := by
  have a := dl_40 hb
  have h1 := height_eq hu hb hq hm
  have h2 := to_step_eq (w := w) (h := hz u.natAbs q m) hb hq (by unfold hz; omega)
  unfold steps F_to_figures b_to_figures
  simp [hu, h1, h2]
theorem to_figures_0 (w : Way) (q m : Nat) : F_to_figures [.int 0, .int (10 ^ q), .int (m : Nat), wD w] = .ok (.tuple [.int 0, .int 0]) := by
  unfold F_to_figures b_to_figures
  simp
/-! the law's own -/
theorem hz_lt {n : Nat} (hn : 0 < n) {q m : Nat} (hm : 1 ≤ m) (h : Int) : (n : Int) * 10 ^ (-h).toNat < 10 ^ (q + (m - 1)) * 10 ^ h.toNat ↔ hz n q m < h := by
  have a := dl_low hn
  have b := dl_lt n
  have p := dl_pos n
  rw [← Int.pow_add, ten_cast, ten_cast, ← Int.natCast_mul, Int.ofNat_lt]
  constructor
  · intro z
    refine Int.lt_of_not_ge fun y => ?_
    have e : q + (m - 1) + h.toNat ≤ dl n - 1 + (-h).toNat := by unfold hz at y; omega
    have : 10 ^ (q + (m - 1) + h.toNat) ≤ n * 10 ^ (-h).toNat := Nat.le_trans (Nat.pow_le_pow_right (by decide) e) (by rw [Nat.pow_add]; exact Nat.mul_le_mul_right _ a)
    omega
  · intro z
    have e : dl n + (-h).toNat ≤ q + (m - 1) + h.toNat := by unfold hz at z; omega
    refine Nat.lt_of_lt_of_le ?_ (Nat.pow_le_pow_right (by decide) e)
    rw [Nat.pow_add]
    exact Nat.mul_lt_mul_of_pos_right b (Nat.pow_pos (by decide))
theorem law_height_eq {u : Int} {q m : Nat} (hu : u ≠ 0) (hb : u.natAbs < 10 ^ 25) (hq : q ≤ 40) (hm : m ≤ 40) (h1 : 1 ≤ m) (hqm : q + m ≤ 59) : F__law_height [.int u, .int (10 ^ q), .int (m : Nat)] = .ok (.int (hz u.natAbs q m)) := by
  have hb' : u.natAbs < 10 ^ 40 := Nat.lt_trans hb (Nat.pow_lt_pow_of_lt (by decide) (by decide))
  have d := dl_le (k := 24) hb
  generalize hn : u.natAbs = n at *
  have n0 : 0 < n := by omega
  have p := dl_pos n
  have t3 : F__law_ten [.int ((m : Int) - 1)] = .ok (.int (10 ^ (m - 1))) := by
    rw [show (m : Int) - 1 = ((m - 1 : Nat) : Int) by omega]; exact law_ten_nat (by omega)
  have m3 : mulOk ((10 : Int) ^ q) (10 ^ (m - 1)) = true := mulOk_s (sml_ten (by omega)) (sml_ten (by omega))
  let st : Nat → En := fun i => [some (.v (.int u)), some (.v (.int (10 ^ q))), some (.v (.int (m : Nat))), some (.v (.int (25 - (i : Nat)))), some (.v (.int (10 ^ (q + (m - 1)))))]
  have bd : -59 ≤ hz n q m ∧ hz n q m ≤ 25 := by unfold hz; omega
  have tst : ∀ i : Nat, i ≤ 84 → T1__law_height (st i) = .ok (decide (hz n q m < 25 - (i : Nat))) := fun i hi => by
    generalize hh : (25 : Int) - (i : Nat) = h
    have t1 : F__law_ten [.int (-h)] = .ok (.int (10 ^ (-h).toNat)) := law_ten_eq (by omega) (by omega)
    have t2 : F__law_ten [.int h] = .ok (.int (10 ^ h.toNat)) := law_ten_eq (by omega) (by omega)
    have m1 : mulOk (n : Int) (10 ^ (-h).toNat) = true := mulOk_s (sml_nat hb') (sml_ten (by omega))
    have m2 : mulOk ((10 : Int) ^ (q + (m - 1))) (10 ^ h.toNat) = true := mulOk_s (sml_ten (by omega)) (sml_ten (by omega))
    have z := hz_lt n0 (q := q) h1 h
    simp only [st, hh]
    simp [T1__law_height, hn, t1, t2, m1, m2, z]
  have W := whL_st (p := T1__law_height) (g := L1__law_height) st (25 - hz n q m).toNat (fun i hi => by
    refine ⟨?_, ?_⟩
    · rw [tst i (by omega)]
      have : hz n q m < 25 - (i : Nat) := by omega
      simp [this]
    · simp [st, L1__law_height]
      omega) (by
    rw [tst _ (by omega)]
    have : ¬ hz n q m < 25 - ((25 - hz n q m).toNat : Nat) := by omega
    rw [decide_eq_false this]) (n := 1000) (j := 0) (by omega) (by omega)
  have e : (25 : Int) - ((25 - hz n q m).toNat : Nat) = hz n q m := by omega
  simp only [st, e] at W
  unfold F__law_height b__law_height
  simp at W
  simp [t3, m3, ← Int.pow_add, W]
end L2.Pz

namespace L2.Pz
open PySem PySem.Spec L2 L2.Pz.Fn
/-! ### rounding on a grid -/
def Rg (w : Way) (X : Int) (n : Nat) : Int := rnd w X (10 ^ n) * 10 ^ n
def figP (w : Way) (u : Int) (q m : Nat) : Int × Nat := if 0 ≤ hz u.natAbs q m then (steps w u q m * 10 ^ (hz u.natAbs q m).toNat, 0) else nrm (steps w u q m) (-(hz u.natAbs q m)).toNat
theorem fig_grid (w : Way) {G q m : Nat} {u : Int} (hq : q ≤ G) (hu : u ≠ 0) : figP w u q m = nrm (Rg w (u * 10 ^ (G - q)) (dl (u * 10 ^ (G - q)).natAbs - m)) G := by
  have e : (u * 10 ^ (G - q)).natAbs = u.natAbs * 10 ^ (G - q) := by rw [Int.natAbs_mul, Int.natAbs_pow]; rfl
  have d : dl (u * 10 ^ (G - q)).natAbs = dl u.natAbs + (G - q) := by rw [e]; exact dl_mul (by omega) _
  have hh : hz u.natAbs q m = (dl u.natAbs : Int) - q - m := rfl
  unfold figP steps
  rw [d]
  generalize hz u.natAbs q m = h at *
  generalize dl u.natAbs = a at *
  unfold Rg
  by_cases h0 : 0 ≤ h
  · obtain ⟨k, rfl⟩ : ∃ k : Nat, h = k := ⟨h.toNat, by omega⟩
    have en : a + (G - q) - m = k + G := by omega
    have c : rnd w (u * 10 ^ (-(k : Int)).toNat) (10 ^ (q + (k : Int).toNat)) = rnd w (u * 10 ^ (G - q)) (10 ^ (k + G)) := by
      refine rnd_cross w (ten_pos _) (ten_pos _) ?_
      rw [show (-(k : Int)).toNat = 0 by omega, show (k : Int).toNat = k by omega, Int.pow_zero, Int.mul_one, Int.mul_assoc, ← Int.pow_add]
      congr 2
      omega
    rw [if_pos h0, c, en, show (k : Int).toNat = k by omega]
    generalize rnd w (u * 10 ^ (G - q)) (10 ^ (k + G)) = s
    have := nrm_scale (s * 10 ^ k) 0 G
    rw [Nat.zero_add, Int.mul_assoc, ← Int.pow_add] at this
    rw [this]
    rfl
  · obtain ⟨k, rfl⟩ : ∃ k : Nat, h = -(k : Int) := ⟨(-h).toNat, by omega⟩
    rw [if_neg h0, show (-(k : Int)).toNat = 0 by omega, show (- -(k : Int)).toNat = k by omega, Nat.add_zero]
    by_cases h1 : k ≤ G
    · have en : a + (G - q) - m = G - k := by omega
      have c : rnd w (u * 10 ^ k) (10 ^ q) = rnd w (u * 10 ^ (G - q)) (10 ^ (G - k)) := by
        refine rnd_cross w (ten_pos _) (ten_pos _) ?_
        rw [Int.mul_assoc, Int.mul_assoc, ← Int.pow_add, ← Int.pow_add]
        congr 2
        omega
      rw [c, en]
      generalize rnd w (u * 10 ^ (G - q)) (10 ^ (G - k)) = s
      have := nrm_scale s k (G - k)
      rw [show k + (G - k) = G by omega] at this
      rw [this]
    · have en : a + (G - q) - m = 0 := by omega
      have c : rnd w (u * 10 ^ k) (10 ^ q) = u * 10 ^ (k - q) := by
        have := rnd_exact w (u * 10 ^ (k - q)) (ten_pos q)
        rw [Int.mul_assoc, ← Int.pow_add, show k - q + q = k by omega] at this
        exact this
      have c2 : rnd w (u * 10 ^ (G - q)) (10 ^ 0) * 10 ^ 0 = u * 10 ^ (G - q) := by
        have := rnd_exact w (u * 10 ^ (G - q)) (ten_pos 0)
        rw [Int.pow_zero, Int.mul_one] at this
        rw [Int.pow_zero, Int.mul_one, this]
      rw [c, en, c2]
      have := nrm_scale (u * 10 ^ (G - q)) G (k - G)
      rw [show G + (k - G) = k by omega, Int.mul_assoc, ← Int.pow_add, show G - q + (k - G) = k - q by omega] at this
      rw [this]
theorem steps_abs (w : Way) {u : Int} {q m : Nat} (h : 0 ≤ hz u.natAbs q m) : (steps w u q m).natAbs ≤ u.natAbs + 1 := by
  unfold steps
  have := rnd_abs w (u := u * 10 ^ (-(hz u.natAbs q m)).toNat) (ten_pos (q + (hz u.natAbs q m).toNat))
  rw [show (-(hz u.natAbs q m)).toNat = 0 by omega, Int.pow_zero, Int.mul_one] at this
  rw [show (-(hz u.natAbs q m)).toNat = 0 by omega, Int.pow_zero, Int.mul_one]
  exact this
theorem sml_25 {n : Nat} (h : n < 10 ^ 25) : n < 10 ^ 40 := Nat.lt_trans h (Nat.pow_lt_pow_of_lt (by decide) (by decide))
theorem law_figures_eq {w : Way} {u : Int} {q m : Nat} (hu : u ≠ 0) (hb : u.natAbs < 10 ^ 25) (hq : q ≤ 40) (hm : m ≤ 40) (h1 : 1 ≤ m) (hqm : q + m ≤ 59) :
    F__law_figures [.int u, .int (10 ^ q), .int (m : Nat), wD w] = .ok (numD (figP w u q m)) := by
  have a := dl_40 (sml_25 hb)
  have p := dl_pos u.natAbs
  have hh := law_height_eq hu hb hq hm h1 hqm
  have sa := steps_abs w (u := u) (q := q) (m := m)
  have bd : -59 ≤ hz u.natAbs q m ∧ hz u.natAbs q m ≤ 40 := by unfold hz; omega
  have sd : steps w u q m = rnd w (u * 10 ^ (-(hz u.natAbs q m)).toNat) (10 ^ (q + (hz u.natAbs q m).toNat)) := rfl
  unfold figP
  generalize hz u.natAbs q m = h at *
  generalize hs : steps w u q m = s at *
  have t1 : F__law_ten [.int (-h)] = .ok (.int (10 ^ (-h).toNat)) := law_ten_eq (by omega) (by omega)
  have t2 : F__law_ten [.int h] = .ok (.int (10 ^ h.toNat)) := law_ten_eq (by omega) (by omega)
  have s1 : Sml u := Nat.lt_trans hb (Nat.pow_lt_pow_of_lt (by decide) (by decide))
  have m1 : mulOk u (10 ^ (-h).toNat) = true := mulOk_s s1 (sml_ten (by omega))
  have m2 : mulOk ((10 : Int) ^ q) (10 ^ h.toNat) = true := mulOk_s (sml_ten (by omega)) (sml_ten (by omega))
  have s2 : Sml (u * 10 ^ (-h).toNat) := by
    unfold Sml
    rw [Int.natAbs_mul, Int.natAbs_pow]
    have : u.natAbs * 10 ^ (-h).toNat < 10 ^ 25 * 10 ^ (-h).toNat := Nat.mul_lt_mul_of_pos_right hb (Nat.pow_pos (by decide))
    refine Nat.lt_of_lt_of_le this ?_
    rw [← Nat.pow_add]
    exact Nat.pow_le_pow_right (by decide) (by omega)
  have w1 : F__law_whole [.int (u * 10 ^ (-h).toNat), .int (10 ^ q * 10 ^ h.toNat), wD w] = .ok (.int s) := by
    rw [sd, Int.pow_add]
    exact law_whole_eq (by rw [← Int.pow_add]; exact ten_pos _) s2 (by rw [← Int.pow_add]; exact sml_ten (by omega))
  unfold F__law_figures b__law_figures
  by_cases c : 0 < h
  · have c' : 0 ≤ h := by omega
    have m4 : mulOk s (10 ^ h.toNat) = true := mulOk_s (by
      have := sa c'
      unfold Sml
      have : u.natAbs + 1 ≤ 10 ^ 25 := hb
      have : (10 : Nat) ^ 25 < 10 ^ 100 := Nat.pow_lt_pow_of_lt (by decide) (by decide)
      omega) (sml_ten (by omega))
    simp [hu, hh, t1, t2, m1, m2, w1, c, c', m4, numD]
  · have n1 : F__law_normal [.int s, .int (-h)] = .ok (nrmD s (-h).toNat) := by
      have := law_normal_eq (d := s) (p := (-h).toNat) (by omega)
      rwa [show (((-h).toNat : Nat) : Int) = -h by omega] at this
    by_cases c2 : h = 0
    · subst c2
      have e0 : nrmD s (-(0 : Int)).toNat = .tuple [.int s, .int 0] := rfl
      rw [e0] at n1
      rw [if_pos (Int.le_refl 0), show (0 : Int).toNat = 0 from rfl, Int.pow_zero, Int.mul_one]
      simp at t1 t2 m1 m2 w1 n1
      simp [hu, hh, t1, t2, m1, m2, w1, n1, numD]
    · have c' : ¬ 0 ≤ h := by omega
      simp [hu, hh, t1, t2, m1, m2, w1, c, c', n1, nrmD, numD]
inductive Fm where
  | fig (m : Nat)
  | pl (a b : Nat)
def fmD : Fm → PyData
  | .fig m => .tuple [.str (S [102, 105, 103, 117, 114, 101, 115]), .int (m : Nat)]
  | .pl a b => .tuple [.str (S [112, 108, 97, 99, 101, 115]), .int (a : Nat), .int (b : Nat)]
def Fm.Ok : Fm → Prop
  | .fig m => 1 ≤ m ∧ m ≤ 9
  | .pl a b => a ≤ b ∧ b ≤ 9
def fmN (f : Fm) (X : Int) : Nat := match f with
  | .fig m => dl X.natAbs - m
  | .pl _ b => 9 - b
def gv (x : Int × Nat) : Int := x.1 * 10 ^ (9 - x.2)
def rdY (w : Way) (f : Fm) (X : Int) : Int := Rg w X (fmN f X)
def rdN (w : Way) (f : Fm) (x : Int × Nat) : Int × Nat := nrm (rdY w f (gv x)) 9
theorem Rg_0 (w : Way) (n : Nat) : Rg w 0 n = 0 := by
  have := rnd_exact w 0 (ten_pos n)
  rw [Int.zero_mul] at this
  rw [Rg, this, Int.zero_mul]
theorem nrm_0 : ∀ p : Nat, nrm 0 p = (0, 0)
  | 0 => rfl
  | p + 1 => by rw [nrm, if_pos (by rfl)]; exact nrm_0 p
theorem pl_grid (w : Way) {d : Int} {p b : Nat} (hp : p ≤ 9) (hb : b ≤ 9) : nrm (rnd w (d * 10 ^ b) (10 ^ p)) b = nrm (Rg w (d * 10 ^ (9 - p)) (9 - b)) 9 := by
  have c : rnd w (d * 10 ^ b) (10 ^ p) = rnd w (d * 10 ^ (9 - p)) (10 ^ (9 - b)) := by
    refine rnd_cross w (ten_pos _) (ten_pos _) ?_
    rw [Int.mul_assoc, Int.mul_assoc, ← Int.pow_add, ← Int.pow_add]
    congr 2
    omega
  unfold Rg
  rw [c]
  have := nrm_scale (rnd w (d * 10 ^ (9 - p)) (10 ^ (9 - b))) b (9 - b)
  rw [show b + (9 - b) = 9 by omega] at this
  rw [this]
theorem sml_scale {d : Int} {k : Nat} (h : d.natAbs < 10 ^ 40) (hk : k ≤ 59) : Sml (d * 10 ^ k) := by
  unfold Sml
  rw [Int.natAbs_mul, Int.natAbs_pow]
  have : d.natAbs * 10 ^ k < 10 ^ 40 * 10 ^ k := Nat.mul_lt_mul_of_pos_right h (Nat.pow_pos (by decide))
  refine Nat.lt_of_lt_of_le this ?_
  rw [← Nat.pow_add]
  exact Nat.pow_le_pow_right (by decide) (by omega)
theorem rndZ_pos (w : Way) {u l : Int} (h : 0 < l) : rndZ w u l = rnd w u l := by
  unfold rndZ
  rw [if_neg (by omega)]
theorem rounded_eq {w : Way} {f : Fm} {x : Int × Nat} (hf : f.Ok) (hp : x.2 ≤ 9) (hb : x.1.natAbs < 10 ^ 40) : F_rounded [numD x, fmD f, wD w] = .ok (numD (rdN w f x)) := by
  obtain ⟨d, p⟩ := x
  simp only at hp hb
  have t : F_ten_to [.int (p : Nat)] = .ok (.int (10 ^ p)) := ten_nat (by omega)
  cases f with
  | pl a b =>
    obtain ⟨h1, h2⟩ := hf
    have m := made_eq (w := w) (u := d) (l := 10 ^ p) (p := b) (by have := ten_pos p; omega) (by omega) (sml_scale hb (by omega))
    rw [rndZ_pos w (ten_pos p)] at m
    have g := pl_grid w (d := d) hp h2
    unfold rdN rdY fmN gv
    rw [← g]
    unfold F_rounded b_rounded fmD
    simp [numD, t, m, atI0, atI2, nrmD]
  | fig m =>
    obtain ⟨h1, h2⟩ := hf
    by_cases hu : d = 0
    · subst hu
      have r := to_figures_0 w p m
      unfold rdN rdY gv
      rw [Int.zero_mul, Rg_0, nrm_0]
      have t0 : F_ten_to [.int 0] = .ok (.int 1) := ten_nat (p := 0) (by omega)
      have m0 : mulOk 0 1 = true := by decide
      unfold F_rounded b_rounded fmD
      simp [numD, t, r, atI0, atI1, t0, m0]
    · have hb' := hb
      have r := to_figures_eq (w := w) (q := p) (m := m) hu hb' (by omega) (by omega) (by omega)
      have g := fig_grid w (G := 9) (q := p) (m := m) hp hu
      have a := dl_40 hb'
      have sa := steps_abs w (u := d) (q := p) (m := m)
      have bd : -59 ≤ hz d.natAbs p m ∧ hz d.natAbs p m ≤ 40 := by unfold hz; omega
      unfold rdN rdY gv fmN
      simp only
      rw [← g]
      unfold figP
      generalize hz d.natAbs p m = h at *
      generalize steps w d p m = s at *
      have t2 : F_ten_to [.int h] = .ok (.int (10 ^ h.toNat)) := ten_to_eq (by omega) (by omega)
      by_cases c : 0 ≤ h
      · have m4 : mulOk s (10 ^ h.toNat) = true := mulOk_s (by
          have := sa c
          unfold Sml
          have : d.natAbs + 1 ≤ 10 ^ 40 := hb
          have : (10 : Nat) ^ 40 < 10 ^ 100 := Nat.pow_lt_pow_of_lt (by decide) (by decide)
          omega) (sml_ten (by omega))
        unfold F_rounded b_rounded fmD
        simp [numD, t, r, atI0, atI1, t2, m4, c]
      · have n1 : F_normal [.int s, .int (-h)] = .ok (nrmD s (-h).toNat) := by
          have := normal_eq (d := s) (p := (-h).toNat) (by omega)
          rwa [show (((-h).toNat : Nat) : Int) = -h by omega] at this
        unfold F_rounded b_rounded fmD
        simp [numD, t, r, atI0, atI1, n1, nrmD, c]
theorem law_rounded_eq {w : Way} {f : Fm} {x : Int × Nat} (hf : f.Ok) (hp : x.2 ≤ 9) (hb : x.1.natAbs < 10 ^ 25) : F__law_rounded [numD x, fmD f, wD w] = .ok (numD (rdN w f x)) := by
  obtain ⟨d, p⟩ := x
  simp only at hp hb
  have t : F__law_ten [.int (p : Nat)] = .ok (.int (10 ^ p)) := law_ten_nat (by omega)
  cases f with
  | pl a b =>
    obtain ⟨h1, h2⟩ := hf
    have m := law_made_eq (w := w) (u := d) (l := 10 ^ p) (p := b) (by have := ten_pos p; omega) (sml_ten (by omega)) (by omega) (sml_scale (sml_25 hb) (by omega))
    rw [rndZ_pos w (ten_pos p)] at m
    have g := pl_grid w (d := d) hp h2
    unfold rdN rdY fmN gv
    rw [← g]
    unfold F__law_rounded b__law_rounded fmD
    simp [numD, t, m, atI0, atI1, atI2, nrmD]
  | fig m =>
    obtain ⟨h1, h2⟩ := hf
    by_cases hu : d = 0
    · subst hu
      unfold rdN rdY gv
      rw [Int.zero_mul, Rg_0, nrm_0]
      have r : F__law_figures [.int 0, .int (10 ^ p), .int (m : Nat), wD w] = .ok (.tuple [.int 0, .int 0]) := by
        unfold F__law_figures b__law_figures
        simp
      unfold F__law_rounded b__law_rounded fmD
      simp [numD, t, r, atI0, atI1]
    · have r := law_figures_eq (w := w) (q := p) (m := m) hu hb (by omega) (by omega) h1 (by omega)
      have g := fig_grid w (G := 9) (q := p) (m := m) hp hu
      unfold rdN rdY gv fmN
      simp only
      rw [← g]
      unfold F__law_rounded b__law_rounded fmD
      simp [numD] at r
      simp [numD, t, r, atI0, atI1]
end L2.Pz

namespace L2.Pz
open PySem PySem.Spec L2 L2.Pz.Fn
/-! ### money -/
structure Mon where
  coins : Int
  word : List Nat
  pl : Nat
def coinD (w : List Nat) (p : Nat) : PyData := .tuple [sD w, .int (p : Nat)]
def monD (m : Mon) : PyData := .tuple [.int m.coins, coinD m.word m.pl]
structure Mon.Ok (m : Mon) : Prop where
  coins : m.coins.natAbs ≤ 10 ^ 59
  word : m.word.length ≤ 8
  pl : m.pl ≤ 4
def toldL (M : Man) (m : Mon) : List Nat := txt M (nrm m.coins m.pl).1 (nrm m.coins m.pl).2 m.pl ++ [32] ++ m.word
theorem sgn_len (m : Man) (t : List Nat) : (sgn m t).length ≤ t.length + 2 := by
  unfold sgn
  cases m.sg <;> simp
theorem txt_len {m : Man} (hm : m.Ok) {d : Int} {p least : Nat} (hd : d.natAbs < 10 ^ 60) (hp : p ≤ 60) (hl : least ≤ 60) : (txt m d p least).length ≤ 190 := by
  obtain ⟨_, _, l3⟩ := bdy_len hm hd hp hl
  have := sgn_len m (bdy m d.natAbs p least)
  unfold txt
  split <;> omega
theorem small59 {n : Nat} (h : n ≤ 10 ^ 59) : n < 10 ^ 60 := Nat.lt_of_le_of_lt h (by decide)
theorem told_eq {M : Man} (hM : M.Ok) {m : Mon} (hm : m.Ok) : F_told [monD m, manD M] = .ok (sD (toldL M m)) := by
  have hp := hm.pl
  have hw := hm.word
  have q1 := normal_eq (d := m.coins) (p := m.pl) (by omega)
  rw [numD_nrm] at q1
  have hd : (nrm m.coins m.pl).1.natAbs < 10 ^ 60 := small59 (Nat.le_trans (nrm_abs _ _) hm.coins)
  have hn := nrm_le m.coins m.pl
  have q2 := text_of_eq hM hd (p := (nrm m.coins m.pl).2) (least := m.pl) (by omega) (by omega)
  have hl := txt_len hM hd (p := (nrm m.coins m.pl).2) (least := m.pl) (by omega) (by omega)
  unfold toldL
  generalize nrm m.coins m.pl = N at *
  obtain ⟨nd, np⟩ := N
  simp only at *
  generalize txt M nd np m.pl = T at *
  have a1 := addD_S (a := T) (b := [32]) (by simp; omega)
  have a2 := addD_S (a := T ++ [32]) (b := m.word) (by simp; omega)
  unfold F_told b_told monD coinD
  generalize numD (nd, np) = ND at *
  unfold sD at *
  simp only [lock_eq]
  simp [q1, q2, a1, a2]
theorem law_told_eq {M : Man} (hM : M.Ok) {m : Mon} (hm : m.Ok) : F__law_told_v3 [monD m, manD M] = .ok (sD (toldL M m)) := by
  have hp := hm.pl
  have hw := hm.word
  have q1 := law_normal_eq (d := m.coins) (p := m.pl) (by omega)
  rw [numD_nrm] at q1
  have hd : (nrm m.coins m.pl).1.natAbs < 10 ^ 60 := small59 (Nat.le_trans (nrm_abs _ _) hm.coins)
  have hn := nrm_le m.coins m.pl
  have q2 := law_text_eq hM hd (p := (nrm m.coins m.pl).2) (least := m.pl) (by omega) (by omega)
  have hl := txt_len hM hd (p := (nrm m.coins m.pl).2) (least := m.pl) (by omega) (by omega)
  unfold toldL
  generalize nrm m.coins m.pl = N at *
  obtain ⟨nd, np⟩ := N
  simp only at *
  generalize txt M nd np m.pl = T at *
  have a1 := addD_S (a := T) (b := [32]) (by simp; omega)
  have a2 := addD_S (a := T ++ [32]) (b := m.word) (by simp; omega)
  unfold F__law_told_v3 b__law_told_v3 monD coinD
  generalize numD (nd, np) = ND at *
  unfold sD at *
  simp only [lock_eq]
  simp [q1, q2, a1, a2, atI0, atI1]
/-! ### as the laws draw it -/
def coinW (c : Int) : List Nat := (List.range (1 + mixI c 9479 5).toNat).map fun k => 65 + (mixI (c + 7 * (k : Nat)) 9491 26).toNat
def coinP (c : Int) : Nat := (mixI c 9473 5).toNat
theorem coinW_len (c : Int) : 1 ≤ (coinW c).length ∧ (coinW c).length ≤ 5 := by
  have := mix_nn c 9479 (m := 5) (by decide)
  have := mix_lt c 9479 (m := 5) (by decide)
  simp [coinW]
  omega
theorem coinP_le (c : Int) : coinP c ≤ 4 := by
  have := mix_nn c 9473 (m := 5) (by decide)
  have := mix_lt c 9473 (m := 5) (by decide)
  unfold coinP
  omega
theorem joinC_ones : ∀ l : List Nat, joinC [] (l.map fun x => [x]) = l
  | [] => rfl
  | [x] => rfl
  | x :: y :: r => by
    show [x] ++ [] ++ joinC [] ((y :: r).map fun x => [x]) = _
    rw [joinC_ones (y :: r)]
    rfl
theorem letters_at {i : Int} (h0 : 0 ≤ i) (h1 : i < 26) : atI [65, 66, 67, 68, 69, 70, 71, 72, 73, 74, 75, 76, 77, 78, 79, 80, 81, 82, 83, 84, 85, 86, 87, 88, 89, 90] i = some (65 + i.toNat) := by
  obtain ⟨n, rfl⟩ := Int.eq_ofNat_of_zero_le h0
  have : ∀ n : Fin 26, atI [65, 66, 67, 68, 69, 70, 71, 72, 73, 74, 75, 76, 77, 78, 79, 80, 81, 82, 83, 84, 85, 86, 87, 88, 89, 90] ((n.val : Nat) : Int) = some (65 + n.val) := by decide
  exact this ⟨n, by omega⟩
theorem coinage_eq (c : Int) : F__law_coinage [.int c] = .ok (coinD (coinW c) (coinP c)) := by
  have hn0 := mix_nn c 9479 (m := 5) (by decide)
  have hn1 := mix_lt c 9479 (m := 5) (by decide)
  have hp0 := mix_nn c 9473 (m := 5) (by decide)
  have m1 : ∀ x, mulOk 7 x = true := fun x => mulOk_l (by decide)
  have ep : mixI c 9473 5 = ((coinP c : Nat) : Int) := by unfold coinP; omega
  have cc : ∀ y0 y2 y3 : Option Sl, lcL (lc1 (gN 4) bYes C1__law_coinage [y0, some (.v (.str (S [65, 66, 67, 68, 69, 70, 71, 72, 73, 74, 75, 76, 77, 78, 79, 80, 81, 82, 83, 84, 85, 86, 87, 88, 89, 90]))), y2, y3, none]) (rangeD 0 (1 + mixI c 9479 5).toNat) = .ok (((coinW c).map fun x => [x]).map sD) ∨ y0 ≠ some (.v (.int c)) := fun y0 y2 y3 => by
    by_cases hy : y0 = some (.v (.int c))
    · subst hy
      left
      unfold rangeD coinW
      have e : ∀ (l : List Nat), lcL (lc1 (gN 4) bYes C1__law_coinage [some (.v (.int c)), some (.v (.str (S [65, 66, 67, 68, 69, 70, 71, 72, 73, 74, 75, 76, 77, 78, 79, 80, 81, 82, 83, 84, 85, 86, 87, 88, 89, 90]))), y2, y3, none]) (l.map fun i => .int (0 + (i : Nat))) = .ok (l.map fun k => sD [65 + (mixI (c + 7 * (k : Nat)) 9491 26).toNat]) := fun l => by
        induction l with
        | nil => rfl
        | cons k l ih =>
          have h0 := mix_nn (c + 7 * (k : Nat)) 9491 (m := 26) (by decide)
          have h1 := mix_lt (c + 7 * (k : Nat)) 9491 (m := 26) (by decide)
          have la := letters_at h0 h1
          rw [List.map_cons, lcL_cons, ih]
          simp [C1__law_coinage, m1, mix_eq, la, sD, S_one]
      rw [e, List.map_map, List.map_map]
      rfl
    · exact .inr hy
  have cc := (cc (some (.v (.int c))) (some (.v (.int (1 + mixI c 9479 5)))) none).resolve_right (fun z => z rfl)
  have hl := coinW_len c
  have j := joinD_S (g := []) (C := (coinW c).map fun x => [x]) (by
    have : (((coinW c).map fun x => [x]).map List.length).sum = (coinW c).length := by
      rw [List.map_map]
      generalize coinW c = l
      induction l with
      | nil => rfl
      | cons a l ih => simp [ih]; omega
    rw [this]
    simp
    omega)
  rw [joinC_ones] at j
  have r1 : range1D (.int (1 + mixI c 9479 5)) = .ok (rangeD 0 (1 + mixI c 9479 5).toNat) := by
    show (if _ then _ else _) = _
    rw [if_pos ⟨by omega, by omega⟩]
  have rl : (rangeD 0 (1 + mixI c 9479 5).toNat).length ≤ sizeLine := Nat.le_trans (show _ ≤ 1000 by rw [range_len]; omega) (by decide)
  unfold F__law_coinage b__law_coinage coinD
  generalize ((coinW c).map fun x => [x]).map sD = L at *
  generalize sD (coinW c) = W at *
  rw [← ep]
  have m5 := mix_eq c (p := 9479) (m := 5) (by decide) (by decide)
  have m6 := mix_eq c (p := 9473) (m := 5) (by decide) (by decide)
  have hnum : 1 + mixI c 9479 5 < 4611686018427387904 ∧ -4611686018427387904 ≤ 1 + mixI c 9479 5 := by omega
  generalize hR : rangeD 0 (1 + mixI c 9479 5).toNat = R at *
  simp [m5, m6, hnum, hR, rl, cc, j]
def monC (c : Int) : Int := if c % 7 = 0 then mixI c 9463 13 - 6 else if c % 3 = 0 then c * 48271 % (2 * 10 ^ 15) - 10 ^ 15 else mixI c 9467 4001 - 2000
def monOf (c : Int) : Mon := ⟨monC c, coinW (c + 5), coinP (c + 5)⟩
theorem monC_abs (c : Int) : (monC c).natAbs ≤ 10 ^ 15 := by
  have a0 := mix_nn c 9463 (m := 13) (by decide)
  have a1 := mix_lt c 9463 (m := 13) (by decide)
  have b0 := mix_nn c 9467 (m := 4001) (by decide)
  have b1 := mix_lt c 9467 (m := 4001) (by decide)
  unfold monC
  split
  · omega
  split
  · omega
  · omega
theorem monOf_ok (c : Int) : (monOf c).Ok := ⟨Nat.le_trans (monC_abs c) (by decide), by have := (coinW_len (c + 5)).2; show (coinW (c + 5)).length ≤ 8; omega, coinP_le _⟩
theorem money_eq (c : Int) : F__law_money [.int c] = .ok (monD (monOf c)) := by
  have q := coinage_eq (c + 5)
  have m3 : mulOk c 48271 = true := mulOk_r (by decide)
  have m4 : mulOk 2 1000000000000000 = true := mulOk_l (by decide)
  unfold F__law_money b__law_money monD monOf monC
  generalize coinD (coinW (c + 5)) (coinP (c + 5)) = W at *
  by_cases h7 : c % 7 = 0
  · by_cases h3 : c % 3 = 0
    · simp [mix_eq, h7, h3, m3, m4, q]
    · simp [mix_eq, h7, h3, q]
  · by_cases h3 : c % 3 = 0
    · simp [mix_eq, h7, h3, m3, m4, q]
    · simp [mix_eq, h7, h3, q]
end L2.Pz

namespace L2.Pz
open PySem PySem.Spec L2 L2.Pz.Fn
/-! ### shown; drawn forms and ways -/
theorem Rg_abs (w : Way) (X : Int) (n : Nat) : (Rg w X n).natAbs < X.natAbs + 10 ^ n := by
  unfold Rg
  have := rnd_near w (u := X) (ten_pos n)
  have e : (10 : Int) ^ n = ((10 ^ n : Nat) : Int) := ten_cast n
  rw [e] at this ⊢
  omega
theorem gv_abs {x : Int × Nat} {k : Nat} (h : x.1.natAbs < 10 ^ k) : (gv x).natAbs < 10 ^ (k + 9) := by
  unfold gv
  rw [Int.natAbs_mul, Int.natAbs_pow, Nat.pow_add]
  have a : x.1.natAbs * 10 ^ (9 - x.2) ≤ x.1.natAbs * 10 ^ 9 := Nat.mul_le_mul_left _ (Nat.pow_le_pow_right (by decide) (by omega))
  have b : x.1.natAbs * 10 ^ 9 < 10 ^ k * 10 ^ 9 := Nat.mul_lt_mul_of_pos_right h (by decide)
  exact Nat.lt_of_le_of_lt a b
theorem fmN_le {f : Fm} {X : Int} {k : Nat} (h : X.natAbs < 10 ^ (k + 9)) : fmN f X ≤ k + 9 := by
  cases f with
  | fig m => have := dl_le (k := k + 8) h; simp only [fmN]; omega
  | pl a b => simp only [fmN]; omega
theorem rdN_abs {w : Way} {f : Fm} {x : Int × Nat} (h : x.1.natAbs < 10 ^ 25) : (rdN w f x).1.natAbs < 10 ^ 40 := by
  have a := gv_abs h
  have b := fmN_le (f := f) a
  have c := Rg_abs w (gv x) (fmN f (gv x))
  have d : 10 ^ fmN f (gv x) ≤ 10 ^ (25 + 9) := Nat.pow_le_pow_right (by decide) b
  have e := nrm_abs (rdY w f (gv x)) 9
  unfold rdN
  refine Nat.lt_of_le_of_lt e ?_
  unfold rdY
  have : (10 : Nat) ^ (25 + 9) + 10 ^ (25 + 9) < 10 ^ 40 := by decide
  omega
theorem rdN_isN (w : Way) (f : Fm) (x : Int × Nat) : IsN (rdN w f x).1 (rdN w f x).2 := nrm_isN (by omega)
theorem rdN_le (w : Way) (f : Fm) (x : Int × Nat) : (rdN w f x).2 ≤ 9 := (rdN_isN w f x).1
def fmL : Fm → Nat
  | .fig _ => 0
  | .pl a _ => a
theorem fmL_le {f : Fm} (h : f.Ok) : fmL f ≤ 9 := by
  cases f with
  | fig m => exact Nat.zero_le _
  | pl a b => exact Nat.le_trans h.1 h.2
def shownL (m : Man) (f : Fm) (w : Way) (x : Int × Nat) : List Nat := txt m (rdN w f x).1 (rdN w f x).2 (fmL f)
theorem lt60 {n : Nat} (h : n < 10 ^ 40) : n < 10 ^ 60 := Nat.lt_trans h (Nat.pow_lt_pow_of_lt (by decide) (by decide))
theorem shown_eq {m : Man} (hm : m.Ok) {f : Fm} (hf : f.Ok) {w : Way} {x : Int × Nat} (hp : x.2 ≤ 9) (hb : x.1.natAbs < 10 ^ 25) : F_shown [numD x, manD m, fmD f, wD w] = .ok (sD (shownL m f w x)) := by
  have r := rounded_eq (w := w) hf hp (sml_25 hb)
  have t := text_of_eq hm (d := (rdN w f x).1) (p := (rdN w f x).2) (least := fmL f) (lt60 (rdN_abs hb)) (by have := rdN_le w f x; omega) (by have := fmL_le hf; omega)
  unfold shownL
  generalize sD (txt m (rdN w f x).1 (rdN w f x).2 (fmL f)) = T at *
  change F_text_of [numD (rdN w f x), manD m, .int (fmL f : Nat)] = .ok T at t
  generalize numD (rdN w f x) = R at *
  generalize manD m = M at *
  generalize numD x = N at *
  generalize wD w = W at *
  unfold F_shown b_shown
  cases f with
  | fig k => simp [fmD, fmL] at r t; simp [fmD, atI0, r, t]
  | pl a b => simp [fmD, fmL] at r t; simp [fmD, atI0, atI1, r, t]
theorem law_shown_eq {m : Man} (hm : m.Ok) {f : Fm} (hf : f.Ok) {w : Way} {x : Int × Nat} (hp : x.2 ≤ 9) (hb : x.1.natAbs < 10 ^ 25) : F__law_shown [numD x, manD m, fmD f, wD w] = .ok (sD (shownL m f w x)) := by
  have r := law_rounded_eq (w := w) hf hp hb
  have t := law_text_eq hm (d := (rdN w f x).1) (p := (rdN w f x).2) (least := fmL f) (lt60 (rdN_abs hb)) (by have := rdN_le w f x; omega) (by have := fmL_le hf; omega)
  unfold shownL
  generalize sD (txt m (rdN w f x).1 (rdN w f x).2 (fmL f)) = T at *
  change F__law_text [numD (rdN w f x), manD m, .int (fmL f : Nat)] = .ok T at t
  generalize numD (rdN w f x) = R at *
  generalize manD m = M at *
  generalize numD x = N at *
  generalize wD w = W at *
  unfold F__law_shown b__law_shown
  cases f with
  | fig k => simp [fmD, fmL] at r t; simp [fmD, atI0, r, t]
  | pl a b => simp [fmD, fmL] at r t; simp [fmD, atI0, atI1, r, t]
def formOf (c : Int) : Fm := if c % 3 = 0 then .fig (1 + mixI c 9901 9).toNat else .pl (mixI c 9887 5).toNat (min 9 (mixI c 9887 5 + mixI c 9883 4)).toNat
theorem formOf_ok (c : Int) : (formOf c).Ok := by
  have a0 := mix_nn c 9901 (m := 9) (by decide)
  have a1 := mix_lt c 9901 (m := 9) (by decide)
  have b0 := mix_nn c 9887 (m := 5) (by decide)
  have b1 := mix_lt c 9887 (m := 5) (by decide)
  have c0 := mix_nn c 9883 (m := 4) (by decide)
  unfold formOf
  split
  · constructor <;> omega
  · constructor <;> omega
theorem form_eq (c : Int) : F__law_form [.int c] = .ok (fmD (formOf c)) := by
  have a0 := mix_nn c 9901 (m := 9) (by decide)
  have b0 := mix_nn c 9887 (m := 5) (by decide)
  have b1 := mix_lt c 9887 (m := 5) (by decide)
  have c0 := mix_nn c 9883 (m := 4) (by decide)
  have q1 := mix_eq c (p := 9901) (m := 9) (by decide) (by decide)
  have q2 := mix_eq c (p := 9887) (m := 5) (by decide) (by decide)
  have q3 := mix_eq c (p := 9883) (m := 4) (by decide) (by decide)
  unfold formOf
  generalize mixI c 9901 9 = x at *
  generalize mixI c 9887 5 = y at *
  generalize mixI c 9883 4 = z at *
  unfold F__law_form b__law_form
  by_cases h : c % 3 = 0
  · have e : (((1 + x).toNat : Nat) : Int) = 1 + x := by omega
    rw [if_pos h]
    simp only [fmD, e]
    simp [h, q1]
  · have e1 : ((y.toNat : Nat) : Int) = y := by omega
    have e2 : (((min 9 (y + z)).toNat : Nat) : Int) = min 9 (y + z) := by omega
    rw [if_neg h]
    simp only [fmD, e1, e2]
    simp [h, q2, q3]
def wayAt (i : Nat) : Way := if i = 0 then .even else if i = 1 then .away else if i = 2 then .nought else if i = 3 then .up else .down
def wayOf (c : Int) : Way := wayAt (mixI c 9871 5).toNat
theorem five {i : Int} (h0 : 0 ≤ i) (h1 : i < 5) : i = 0 ∨ i = 1 ∨ i = 2 ∨ i = 3 ∨ i = 4 := by omega
theorem way_eq (c : Int) : F__law_way [.int c] = .ok (wD (wayOf c)) := by
  have a0 := mix_nn c 9871 (m := 5) (by decide)
  have a1 := mix_lt c 9871 (m := 5) (by decide)
  have q := mix_eq c (p := 9871) (m := 5) (by decide) (by decide)
  unfold wayOf
  generalize mixI c 9871 5 = x at *
  unfold F__law_way b__law_way
  rcases five a0 a1 with rfl | rfl | rfl | rfl | rfl
  · simp [q, atI0]; rfl
  · simp [q, atI1]; rfl
  · simp [q, atI2]; rfl
  · simp [q, atI3]; rfl
  · simp [q, atI4]; rfl
theorem drawn_25 (c : Int) : (drawn c).1.natAbs < 10 ^ 25 := Nat.lt_trans (drawn_abs c) (Nat.pow_lt_pow_of_lt (by decide) (by decide))
theorem sameS (l : List Nat) : F__law_same 3 [sD l, sD l] = .ok (.bool true) := same_refl 3 _ rfl
end L2.Pz

namespace L2.Pz
open PySem PySem.Spec L2 L2.Pz.Fn
/-! ### a statement goes on, and what then holds -/
def NxP (P : En → Prop) : SR → Prop
  | .nx ρ => P ρ
  | _ => False
theorem NxP.ex {P : En → Prop} {r : SR} (h : NxP P r) : ∃ ρ, r = .nx ρ ∧ P ρ := by
  cases r with
  | nx ρ => exact ⟨ρ, rfl, h⟩
  | _ => exact h.elim
theorem NxP.nx {P : En → Prop} {ρ : En} (h : P ρ) : NxP P (.nx ρ) := h
theorem forL_P {bd : PyData → SF} (P : En → Prop) {ds : List PyData} {ρ : En} (h0 : P ρ) (h : ∀ d ∈ ds, ∀ ρ, P ρ → NxP P (bd d ρ)) : ∃ ρ', forL bd ds ρ = .nx ρ' ∧ P ρ' :=
  forL_inv P h0 fun d hd ρ hρ => (h d hd ρ hρ).ex
theorem forR_P {bd : PyData → SF} (P : En → Prop) {n : Nat} {ρ : En} (h0 : P ρ) (h : ∀ i < n, ∀ ρ, P ρ → NxP P (bd (.int (i : Nat)) ρ)) : ∃ ρ', forL bd (rangeD 0 n) ρ = .nx ρ' ∧ P ρ' :=
  forL_P P h0 fun d hd ρ hρ => by
    obtain ⟨i, hi, rfl⟩ := List.mem_map.mp hd
    rw [Int.zero_add]
    exact h i (List.mem_range.mp hi) ρ hρ
theorem forL_I {bd : PyData → SF} (P : Nat → En → Prop) : ∀ {ds : List PyData} {ρ : En} (n : Nat), P n ρ → (∀ i d, ds[i]? = some d → ∀ ρ, P (n + i) ρ → NxP (P (n + i + 1)) (bd d ρ)) → ∃ ρ', forL bd ds ρ = .nx ρ' ∧ P (n + ds.length) ρ'
  | [], ρ, n, h0, _ => ⟨ρ, by unfold forL; rfl, h0⟩
  | d :: ds, ρ, n, h0, h => by
    obtain ⟨ρ1, e1, h1⟩ := (h 0 d rfl ρ h0).ex
    obtain ⟨ρ2, e2, h2⟩ := forL_I P (ds := ds) (n + 1) h1 fun i d' hd ρ hρ => by
      have := h (i + 1) d' (by simpa using hd) ρ (by rw [show n + (i + 1) = n + 1 + i by omega]; exact hρ)
      rwa [show n + (i + 1) + 1 = n + 1 + i + 1 by omega] at this
    refine ⟨ρ2, ?_, by rw [List.length_cons, show n + (ds.length + 1) = n + 1 + ds.length by omega]; exact h2⟩
    unfold forL
    rw [e1]
    exact e2
theorem forR_I {bd : PyData → SF} (P : Nat → En → Prop) {n : Nat} {ρ : En} (h0 : P 0 ρ) (h : ∀ i < n, ∀ ρ, P i ρ → NxP (P (i + 1)) (bd (.int (i : Nat)) ρ)) : ∃ ρ', forL bd (rangeD 0 n) ρ = .nx ρ' ∧ P n ρ' := by
  obtain ⟨ρ', e, k⟩ := forL_I P (ds := rangeD 0 n) (bd := bd) 0 h0 fun i d hd ρ hρ => by
    obtain ⟨hi, rfl⟩ := range_get hd
    rw [Nat.zero_add] at hρ ⊢
    rw [Int.zero_add]
    exact h i hi ρ hρ
  rw [Nat.zero_add, range_len] at k
  exact ⟨ρ', e, k⟩
theorem sFor_nx {gt : GF} {f : IF} {g : SF} {ρ : En} {ds : List PyData} {r : SR} (h : f ρ = .ok ds) (k : forL (tgt gt g) ds ρ = r) : sFor gt f g ρ = r := by
  unfold sFor
  rw [h]
  exact k
theorem sApp_nx {i : Nat} {f : EF} {ρ : En} {ds : List PyData} {d : PyData} (h : ρ[i]? = some (some (.own ds))) (hf : f ρ = .ok d) (hl : ds.length < sizeLine) : sApp i f ρ = .nx (ρ.set i (some (.own (ds ++ [d])))) := by
  unfold sApp
  rw [h, hf]
  simp only
  rw [if_pos hl]
end L2.Pz

namespace L2.Pz
open PySem PySem.Spec L2
/-! ### stepping: what holds behind a suite -/
/-- a suite's end: goes on so, or gives this back -/
def OutP (P : En → Prop) (R : PyData → Prop) : SR → Prop
  | .nx ρ => P ρ
  | .rt d => R d
  | _ => False
section
variable {P : En → Prop} {R : PyData → Prop} {g g1 g2 : SF} {ρ ρ' : En} {gt : GF} {f : EF} {d : PyData} {p : En → Rs Bool} {fi : IF} {ds : List PyData}
theorem NxP.seq (h : g1 ρ = .nx ρ') (k : NxP P (g2 ρ')) : NxP P (sSeq g1 g2 ρ) := by rw [sSeq_nx h]; exact k
theorem NxP.asg (d : PyData) (h : f ρ = .ok d) (hg : gt d ρ = some ρ') (k : NxP P (g2 ρ')) : NxP P (sSeq (sAsg gt f) g2 ρ) := NxP.seq (sAsg_nx h hg) k
theorem NxP.asg1 (d : PyData) (h : f ρ = .ok d) (hg : gt d ρ = some ρ') (k : P ρ') : NxP P (sAsg gt f ρ) := by rw [sAsg_nx h hg]; exact k
theorem sIf_f (h : p ρ = .ok false) : sIf p g1 g2 ρ = g2 ρ := by simp [h]
theorem sIf_t (h : p ρ = .ok true) : sIf p g1 g2 ρ = g1 ρ := by simp [h]
theorem NxP.ifF (h : p ρ = .ok false) (k : NxP P (g2 ρ)) : NxP P (sSeq (sIf p g1 sNx) g2 ρ) := NxP.seq (sIf_f h) k
theorem NxP.ifF1 (h : p ρ = .ok false) (k : P ρ) : NxP P (sIf p g1 sNx ρ) := by rw [sIf_f h]; exact k
theorem NxP.for_ (h : fi ρ = .ok ds) (e : forL (tgt gt g) ds ρ = .nx ρ') (k : NxP P (g2 ρ')) : NxP P (sSeq (sFor gt fi g) g2 ρ) := NxP.seq (sFor_nx h e) k
theorem NxP.for1 (h : fi ρ = .ok ds) (e : forL (tgt gt g) ds ρ = .nx ρ') (k : P ρ') : NxP P (sFor gt fi g ρ) := by rw [sFor_nx h e]; exact k
theorem OutP.seq (h : g1 ρ = .nx ρ') (k : OutP P R (g2 ρ')) : OutP P R (sSeq g1 g2 ρ) := by rw [sSeq_nx h]; exact k
theorem OutP.asg (d : PyData) (h : f ρ = .ok d) (hg : gt d ρ = some ρ') (k : OutP P R (g2 ρ')) : OutP P R (sSeq (sAsg gt f) g2 ρ) := OutP.seq (sAsg_nx h hg) k
theorem OutP.ifF (h : p ρ = .ok false) (k : OutP P R (g2 ρ)) : OutP P R (sSeq (sIf p g1 sNx) g2 ρ) := OutP.seq (sIf_f h) k
theorem OutP.ret (h : f ρ = .ok d) (k : R d) : OutP P R (sRet f ρ) := by rw [sRet_rt h]; exact k
theorem sSeq_rt (h : g1 ρ = .rt d) : sSeq g1 g2 ρ = .rt d := by simp [h]
theorem bT_f {f : EF} (h : f ρ = .ok (.bool false)) : bT f ρ = .ok false := by simp [h]
theorem bT_t {f : EF} (h : f ρ = .ok (.bool true)) : bT f ρ = .ok true := by simp [h]
end
theorem ir1_ok {f : EF} {ρ : En} {d : PyData} {l : List PyData} (hf : f ρ = .ok d) (h : range1D d = .ok l) : iR1 f ρ = .ok l := by
  unfold iR1
  rw [hf]
  exact h
theorem lc_ok {vs : List Nat} {fi : IF} {gt : GF} {p : En → Rs Bool} {f : EF} {ρ : En} {ds rs : List PyData} (h : fi ρ = .ok ds) (hl : ds.length ≤ sizeLine) (k : lcL (lc1 gt p f (wipeE ρ vs)) ds = .ok rs) : eLc vs fi gt p f ρ = .ok (.list rs) := by
  unfold eLc
  rw [h, Rs.bind_ok, if_pos hl, k]
  rfl
theorem e1_ok' {F : PyData → Rs PyData} {f : EF} {ρ : En} {d : PyData} (hf : f ρ = .ok d) : e1 F f ρ = F d := by simp [hf]
theorem range1_ok {j : Int} (h : j < 2 ^ 62) (h2 : -(2 ^ 62) ≤ j) : range1D (.int j) = .ok (rangeD 0 j.toNat) := by
  unfold range1D
  exact if_pos ⟨h, h2⟩
theorem range1_nat {n : Nat} (h : n < 1000000) : range1D (.int (n : Nat)) = .ok (rangeD 0 n) := by
  rw [range1_ok (by omega) (by omega), Int.toNat_natCast]
end L2.Pz

namespace L2.Pz
open PySem PySem.Spec PyProof.Rows
/-! ### texts by their codes: strip, partition, split -/
def lsL (b l : List Nat) : List Nat := l.dropWhile b.contains
def rsL (b l : List Nat) : List Nat := (l.reverse.dropWhile b.contains).reverse
def stL (b l : List Nat) : List Nat := rsL b (lsL b l)
theorem takeWhile_len_drop (p : Nat → Bool) : ∀ l : List Nat, l.drop (l.takeWhile p).length = l.dropWhile p
  | [] => rfl
  | x :: r => by
    by_cases h : p x = true
    · rw [List.takeWhile_cons_of_pos h, List.dropWhile_cons_of_pos h, List.length_cons, List.drop_succ_cons, takeWhile_len_drop p r]
    · rw [List.takeWhile_cons_of_neg h, List.dropWhile_cons_of_neg h]; rfl
theorem take_len_rev (p : Nat → Bool) (l : List Nat) : l.take (l.length - (l.reverse.takeWhile p).length) = (l.reverse.dropWhile p).reverse := by
  rw [← takeWhile_len_drop, List.drop_reverse, List.reverse_reverse]
theorem takeWhile_le (p : Nat → Bool) : ∀ l : List Nat, (l.takeWhile p).length ≤ l.length
  | [] => Nat.le_refl _
  | x :: r => by
    by_cases h : p x = true
    · rw [List.takeWhile_cons_of_pos h]; exact Nat.succ_le_succ (takeWhile_le p r)
    · rw [List.takeWhile_cons_of_neg h]; exact Nat.zero_le _
theorem str_ext {a b : Str} (h : a.cps.toList = b.cps.toList) : a = b := by rw [S_of a, S_of b, h]
theorem stripBy_list (p : Nat → Bool) (l r : Bool) (x : Str) : (Txt.stripBy p l r x).cps.toList = (stripped p l r x).cps.toList := by
  unfold Txt.stripBy
  split
  · rename_i h
    unfold stripSame at h
    rw [Bool.and_eq_true] at h
    have h1 := eq_of_beq h.1
    have h2 := eq_of_beq h.2
    unfold stripped
    rw [h2, h1, StrLaws.strSub_toList]
    have e : x.cps.toList.length = x.length := by simp [Str.length]
    rw [List.drop_zero, Nat.sub_zero, List.take_of_length_le (by omega)]
  · rfl
theorem contains_eq (y : Str) : (fun c => y.cps.contains c) = fun c => y.cps.toList.contains c := by
  funext c; simp
theorem rstrip_eq (x y : Str) : Txt.rstripChars x y = S (rsL y.cps.toList x.cps.toList) := by
  refine str_ext ?_
  unfold Txt.rstripChars
  rw [stripBy_list]
  unfold stripped stripLo stripHi
  rw [StrLaws.strSub_toList]
  have e : x.cps.toList.length = x.length := by simp [Str.length]
  simp only [Bool.false_eq_true, if_false, if_true, List.drop_zero, Nat.sub_zero]
  rw [← e, show y.cps.contains = fun c => y.cps.contains c from rfl, contains_eq, take_len_rev]
  rfl
theorem lstrip_eq (x y : Str) : Txt.lstripChars x y = S (lsL y.cps.toList x.cps.toList) := by
  refine str_ext ?_
  unfold Txt.lstripChars
  rw [stripBy_list]
  unfold stripped stripLo stripHi
  rw [StrLaws.strSub_toList]
  have e : x.cps.toList.length = x.length := by simp [Str.length]
  simp only [Bool.false_eq_true, if_false, if_true]
  rw [← e, show y.cps.contains = fun c => y.cps.contains c from rfl, contains_eq, takeWhile_len_drop, List.take_of_length_le]
  · rfl
  · rw [← takeWhile_len_drop, List.length_drop]
    exact Nat.le_refl _
theorem strip_eq (x y : Str) : Txt.stripChars x y = S (stL y.cps.toList x.cps.toList) := by
  refine str_ext ?_
  unfold Txt.stripChars
  rw [stripBy_list]
  unfold stripped stripLo stripHi
  rw [StrLaws.strSub_toList]
  have e : x.cps.toList.length = x.length := by simp [Str.length]
  simp only [if_true]
  rw [← e, show y.cps.contains = fun c => y.cps.contains c from rfl, contains_eq, takeWhile_len_drop]
  generalize hp : (fun c => y.cps.toList.contains c) = p
  have h1 := takeWhile_le p x.cps.toList
  have h2 : (x.cps.toList.dropWhile p).length = x.cps.toList.length - (x.cps.toList.takeWhile p).length := by rw [← takeWhile_len_drop, List.length_drop]
  have := take_len_rev p (x.cps.toList.dropWhile p)
  rw [show x.cps.toList.length - ((x.cps.toList.dropWhile p).reverse.takeWhile p).length - (x.cps.toList.takeWhile p).length = (x.cps.toList.dropWhile p).length - ((x.cps.toList.dropWhile p).reverse.takeWhile p).length by omega, this]
  show _ = rsL _ (lsL _ _)
  unfold rsL lsL
  rw [← hp]
def partL (c : Nat) (l : List Nat) : List Nat × List Nat × List Nat := if c ∈ l then (l.takeWhile (fun x => decide (x ≠ c)), [c], (l.dropWhile (fun x => decide (x ≠ c))).tail) else (l, [], [])
def rpartL (c : Nat) (l : List Nat) : List Nat × List Nat × List Nat := if c ∈ l then (((l.reverse.dropWhile (fun x => decide (x ≠ c))).tail).reverse, [c], (l.reverse.takeWhile (fun x => decide (x ≠ c))).reverse) else ([], [], l)
theorem at_one {x : Str} {c i : Nat} : StrLaws.At x ⟨#[c]⟩ x.length i ↔ x.cps.toList[i]? = some c := by
  unfold StrLaws.At
  rw [StrLaws.subAt_eq]
  show i + 1 ≤ x.length ∧ ((x.cps.toList.drop i).take 1 == [c]) = true ↔ _
  have e : x.cps.toList.length = x.length := by simp [Str.length]
  rw [← e]
  generalize x.cps.toList = l
  constructor
  · rintro ⟨h, k⟩
    have k := eq_of_beq k
    have : l.drop i = l[i] :: l.drop (i + 1) := List.drop_eq_getElem_cons (by omega)
    rw [this] at k
    simp only [List.take_succ_cons, List.take_zero, List.cons.injEq, and_true] at k
    rw [List.getElem?_eq_getElem (by omega), k]
  · intro h
    have hi : i < l.length := by
      rw [List.getElem?_eq_some_iff] at h
      exact h.1
    have : l.drop i = l[i] :: l.drop (i + 1) := List.drop_eq_getElem_cons hi
    rw [List.getElem?_eq_getElem hi] at h
    refine ⟨by omega, ?_⟩
    rw [this, Option.some.inj h]
    simp
theorem first_at {c : Nat} : ∀ {l : List Nat} {i : Nat}, l[i]? = some c → (∀ k, k < i → l[k]? ≠ some c) → l.takeWhile (fun x => decide (x ≠ c)) = l.take i ∧ l.dropWhile (fun x => decide (x ≠ c)) = c :: l.drop (i + 1)
  | [], i, h, _ => by simp at h
  | x :: r, 0, h, _ => by
    simp at h
    subst h
    simp
  | x :: r, i + 1, h, n => by
    have hx : x ≠ c := fun z => n 0 (by omega) (by simp [z])
    have := first_at (l := r) (i := i) (by simpa using h) (fun k hk => by have := n (k + 1) (by omega); simpa using this)
    rw [List.takeWhile_cons_of_pos (by simpa using hx), List.dropWhile_cons_of_pos (by simpa using hx), this.1, this.2]
    simp
theorem partition_eq (x : Str) (c : Nat) : Txt.partition x ⟨#[c]⟩ = (S (partL c x.cps.toList).1, S (partL c x.cps.toList).2.1, S (partL c x.cps.toList).2.2) := by
  have e : x.cps.toList.length = x.length := by simp [Str.length]
  unfold Txt.partition
  rcases StrLaws.occ_head x ⟨#[c]⟩ 1 (Nat.le_refl 1) with ⟨h, n⟩ | ⟨i, r, h, a, n⟩
  · rw [h]
    have : c ∉ x.cps.toList := fun z => by
      obtain ⟨i, hi⟩ := List.mem_iff_getElem?.mp z
      exact n i (at_one.mpr hi)
    unfold partL
    rw [if_neg this]
    refine Prod.ext (S_of x) rfl
  · rw [h]
    have a' := at_one.mp a
    have : c ∈ x.cps.toList := List.mem_of_getElem? a'
    obtain ⟨f1, f2⟩ := first_at a' fun k hk z => n k hk (at_one.mpr z)
    unfold partL
    rw [if_pos this, f1, f2]
    refine Prod.ext (str_ext ?_) (Prod.ext rfl (str_ext ?_))
    · show (Builtin.Str.strSub x 0 i).cps.toList = _
      rw [StrLaws.strSub_toList]; rfl
    · show (Builtin.Str.strSub x (i + 1) x.length).cps.toList = _
      rw [StrLaws.strSub_toList, ← e, List.take_of_length_le (by rw [List.length_drop]; exact Nat.le_refl _)]
      rfl
theorem rpartition_eq (x : Str) (c : Nat) : Txt.rpartition x ⟨#[c]⟩ = (S (rpartL c x.cps.toList).1, S (rpartL c x.cps.toList).2.1, S (rpartL c x.cps.toList).2.2) := by
  have e : x.cps.toList.length = x.length := by simp [Str.length]
  unfold Txt.rpartition
  rcases StrLaws.last_spec x ⟨#[c]⟩ with ⟨h, n⟩ | ⟨i, h, a, n⟩
  · rw [h]
    have : c ∉ x.cps.toList := fun z => by
      obtain ⟨i, hi⟩ := List.mem_iff_getElem?.mp z
      exact n i (at_one.mpr hi)
    unfold rpartL
    rw [if_neg this]
    refine Prod.ext rfl (Prod.ext rfl (S_of x))
  · rw [h]
    have a' := at_one.mp a
    have hm : c ∈ x.cps.toList := List.mem_of_getElem? a'
    have n' : ∀ k, i < k → x.cps.toList[k]? ≠ some c := fun k hk z => n k hk (at_one.mpr z)
    clear a n
    unfold rpartL
    rw [if_pos hm]
    have hs : ∀ a b, Builtin.Str.strSub x a b = S ((x.cps.toList.drop a).take (b - a)) := fun a b => str_ext (StrLaws.strSub_toList x a b)
    show (Builtin.Str.strSub x 0 i, (⟨#[c]⟩ : Str), Builtin.Str.strSub x (i + 1) x.length) = _
    rw [hs, hs, ← e]
    generalize x.cps.toList = l at *
    have hi : i < l.length := by
      rw [List.getElem?_eq_some_iff] at a'
      exact a'.1
    obtain ⟨f1, f2⟩ := first_at (l := l.reverse) (c := c) (i := l.length - 1 - i) (by
      rw [List.getElem?_reverse (by omega), show l.length - 1 - (l.length - 1 - i) = i by omega]; exact a') (fun k hk => by
      rw [List.getElem?_reverse (by omega)]
      exact n' _ (by omega))
    have e3 : (l.drop (i + 1)).take (l.length - (i + 1)) = l.drop (i + 1) := List.take_of_length_le (by rw [List.length_drop]; exact Nat.le_refl _)
    rw [f1, f2, List.tail_cons, List.drop_reverse, List.take_reverse, List.reverse_reverse, List.reverse_reverse, List.drop_zero, e3]
    rw [show l.length - (l.length - 1 - i + 1) = i - 0 by omega, show l.length - (l.length - 1 - i) = i + 1 by omega]
    rfl
def splitL (c : Nat) : List Nat → List (List Nat)
  | [] => [[]]
  | x :: r => if x = c then [] :: splitL c r else match splitL c r with
    | h :: t => (x :: h) :: t
    | [] => [[x]]
theorem splitL_ne (c : Nat) : ∀ l, splitL c l ≠ []
  | [] => by simp [splitL]
  | x :: r => by
    unfold splitL
    split
    · simp
    · split <;> simp
theorem splitL_free {c : Nat} : ∀ {p : List Nat}, c ∉ p → splitL c p = [p]
  | [], _ => rfl
  | x :: r, h => by
    have h1 : x ≠ c := fun z => h (by simp [z])
    have h2 := splitL_free (c := c) (p := r) (fun z => h (by simp [z]))
    unfold splitL
    rw [if_neg h1, h2]
theorem splitL_app {c : Nat} : ∀ {p : List Nat} (r : List Nat), c ∉ p → splitL c (p ++ c :: r) = p :: splitL c r
  | [], r, _ => by
    show splitL c (c :: r) = _
    rw [splitL, if_pos rfl]
  | x :: q, r, h => by
    have h1 : x ≠ c := fun z => h (by simp [z])
    have h2 := splitL_app (c := c) (p := q) r (fun z => h (by simp [z]))
    show splitL c (x :: (q ++ c :: r)) = _
    rw [splitL, if_neg h1, h2]
theorem splitL_join {c : Nat} : ∀ {ps : List (List Nat)}, ps ≠ [] → (∀ p ∈ ps, c ∉ p) → splitL c (joinC [c] ps) = ps
  | [], h, _ => absurd rfl h
  | [p], _, h => splitL_free (h p (by simp))
  | p :: q :: r, _, h => by
    have e : joinC [c] (p :: q :: r) = p ++ c :: joinC [c] (q :: r) := by
      rw [joinC, List.append_assoc]; rfl
    rw [e, splitL_app _ (h p (by simp)), splitL_join (by simp) fun p hp => h p (by simp at hp ⊢; exact .inr hp)]
theorem splitL_len (c : Nat) : ∀ l, (splitL c l).length ≤ l.length + 1
  | [] => Nat.le_refl _
  | x :: r => by
    have h := splitL_len c r
    unfold splitL
    split
    · simp; omega
    · cases e : splitL c r with
      | nil => simp
      | cons a t => rw [e] at h; simp at h ⊢; omega
theorem splitL_mem {c : Nat} : ∀ {l p : List Nat}, p ∈ splitL c l → p.length ≤ l.length
  | [], p, h => by simp [splitL] at h; subst h; exact Nat.le_refl _
  | x :: r, p, h => by
    unfold splitL at h
    split at h
    · rcases List.mem_cons.mp h with rfl | h
      · exact Nat.zero_le _
      · exact Nat.le_succ_of_le (splitL_mem h)
    · split at h
      · rename_i a t e
        have ih : ∀ q ∈ a :: t, q.length ≤ r.length := fun q hq => splitL_mem (c := c) (by rw [e]; exact hq)
        rcases List.mem_cons.mp h with rfl | h
        · have := ih a (by simp); simp; exact this
        · have := ih p (by simp [h]); exact Nat.le_succ_of_le this
      · simp at h; subst h; simp
theorem strJoin_list (sep : Str) (ys : List Str) : (Str.join sep ys).cps.toList = joinC sep.cps.toList (ys.map fun y => y.cps.toList) := by
  have := join_eq sep ys
  show _ = _
  rw [show Txt.join sep ys = Str.join sep ys from StrLaws.glued_eq_join sep ys] at this
  rw [this]; rfl
theorem split_ne (x : Str) (c : Nat) : Txt.split x ⟨#[c]⟩ ≠ [] ∨ x.cps.toList = [] := by
  by_cases h : Txt.split x ⟨#[c]⟩ = []
  · right
    have := StrLaws.join_split x ⟨#[c]⟩
    rw [h] at this
    rw [← this]; rfl
  · exact .inl h
theorem split_eq (x : Str) (c : Nat) (h0 : Txt.split x ⟨#[c]⟩ ≠ []) : Txt.split x ⟨#[c]⟩ = (splitL c x.cps.toList).map S := by
  have j := strJoin_list ⟨#[c]⟩ (Txt.split x ⟨#[c]⟩)
  rw [StrLaws.join_split] at j
  have f := StrLaws.split_free x c
  have h1 : (Txt.split x ⟨#[c]⟩).map (fun y => y.cps.toList) ≠ [] := fun z => h0 (List.map_eq_nil_iff.mp z)
  have := splitL_join (c := c) h1 (fun p hp => by
    obtain ⟨q, hq, rfl⟩ := List.mem_map.mp hp
    exact f q hq)
  rw [← show x.cps.toList = joinC [c] _ from j] at this
  rw [this, List.map_map]
  have e : ∀ l : List Str, l = l.map (S ∘ fun y => y.cps.toList) := fun l => by
    induction l with
    | nil => rfl
    | cons a t ih => rw [List.map_cons, ← ih]; rfl
  exact e _
end L2.Pz

namespace L2.Pz
open PySem PySem.Spec PyProof.Rows
section
variable {X : Cx} {W : WX} {e a b c : Expr} {es : List Expr} {f g h : EF} {pos : Pos}
/-! ### methods of texts -/
theorem dropWhile_le (p : Nat → Bool) (l : List Nat) : (l.dropWhile p).length ≤ l.length := by rw [← takeWhile_len_drop, List.length_drop]; exact Nat.sub_le _ _
theorem rs_len (b l : List Nat) : (rsL b l).length ≤ l.length := by
  unfold rsL
  rw [List.length_reverse]
  exact Nat.le_trans (dropWhile_le _ _) (by rw [List.length_reverse]; exact Nat.le_refl _)
theorem ls_len (b l : List Nat) : (lsL b l).length ≤ l.length := dropWhile_le _ _
theorem st_len (b l : List Nat) : (stL b l).length ≤ l.length := Nat.le_trans (rs_len _ _) (ls_len _ _)
theorem s_len (z : Str) : z.cps.toList.length = z.length := by simp [Str.length]
def stripD : PyData → PyData → Rs PyData
  | .str z, .str y => .ok (.str (S (stL y.cps.toList z.cps.toList)))
  | _, _ => .no
theorem sp_strip : Spec2 X W (fun v w H Q => ∃ a b, v = .str a ∧ [w] = [V.str b] ∧ a.length ≤ sizeLine ∧ Q (.str (Txt.stripChars a b)) H) stripD := by
  intro G H v w d e σ Q s hv hw q
  unfold stripD at q
  split at q
  · rename_i z y
    obtain ⟨rfl, hz⟩ := hv.str
    obtain ⟨rfl, _⟩ := hw.str
    rw [← strip_eq] at q
    refine ⟨_, _, rfl, rfl, hz, RD.val s q fun _ => .str _ ?_⟩
    rw [strip_eq, S_len]
    exact Nat.le_trans (st_len _ _) (by rw [s_len]; exact hz)
  · exact q.elim
@[simp] def eM_strip1 (f g : EF) : EF := eM1 isS stripD f g
theorem pd_m_strip1 {apos : Pos} (ha : PP X W a f) (hb : PP X W b g)
    (hbase : attributeBase a "strip" X.env (eval a X.env) = eval a X.env := by rfl)
    (hfew : ((backTo pos (starEach [b] X.env)).all (fun x => !x.1) && (backToKw pos (keywordEach [] X.env)).all (fun x => x.1.isSome)
      && decide (([b] : List Expr).length + ([] : List Keyword).length + (if ([] : List Keyword).isEmpty then 0 else 1) < 30)) = true := by rfl)
    (hline : (apos.endLine == pos.line) = true := by rfl) (hs : starEach [b] X.env = (false, eval b X.env) :: starEach [] X.env := by rfl) (hplain : (backTo pos (starEach [] X.env)).any (·.1) = false := by rfl) :
    PD X W (.Call (.Attribute a "strip" apos) [b] [] pos) (eM_strip1 f g) := pd_m1 tyS_str PySem.F.plainAttrs_str PySem.F.slot_str_strip PySem.F.type_str_strip mt_stripChars sp_strip ha hb hbase hfew hline hs hplain
@[simp] theorem stripD_S (l b : List Nat) : stripD (.str (S l)) (.str (S b)) = .ok (.str (S (stL b l))) := rfl
def lstripD : PyData → PyData → Rs PyData
  | .str z, .str y => .ok (.str (S (lsL y.cps.toList z.cps.toList)))
  | _, _ => .no
theorem sp_lstrip : Spec2 X W (fun v w H Q => ∃ a b, v = .str a ∧ [w] = [V.str b] ∧ a.length ≤ sizeLine ∧ Q (.str (Txt.lstripChars a b)) H) lstripD := by
  intro G H v w d e σ Q s hv hw q
  unfold lstripD at q
  split at q
  · rename_i z y
    obtain ⟨rfl, hz⟩ := hv.str
    obtain ⟨rfl, _⟩ := hw.str
    rw [← lstrip_eq] at q
    refine ⟨_, _, rfl, rfl, hz, RD.val s q fun _ => .str _ ?_⟩
    rw [lstrip_eq, S_len]
    exact Nat.le_trans (ls_len _ _) (by rw [s_len]; exact hz)
  · exact q.elim
@[simp] def eM_lstrip1 (f g : EF) : EF := eM1 isS lstripD f g
theorem pd_m_lstrip1 {apos : Pos} (ha : PP X W a f) (hb : PP X W b g)
    (hbase : attributeBase a "lstrip" X.env (eval a X.env) = eval a X.env := by rfl)
    (hfew : ((backTo pos (starEach [b] X.env)).all (fun x => !x.1) && (backToKw pos (keywordEach [] X.env)).all (fun x => x.1.isSome)
      && decide (([b] : List Expr).length + ([] : List Keyword).length + (if ([] : List Keyword).isEmpty then 0 else 1) < 30)) = true := by rfl)
    (hline : (apos.endLine == pos.line) = true := by rfl) (hs : starEach [b] X.env = (false, eval b X.env) :: starEach [] X.env := by rfl) (hplain : (backTo pos (starEach [] X.env)).any (·.1) = false := by rfl) :
    PD X W (.Call (.Attribute a "lstrip" apos) [b] [] pos) (eM_lstrip1 f g) := pd_m1 tyS_str PySem.F.plainAttrs_str PySem.F.slot_str_lstrip PySem.F.type_str_lstrip mt_lstripChars sp_lstrip ha hb hbase hfew hline hs hplain
@[simp] theorem lstripD_S (l b : List Nat) : lstripD (.str (S l)) (.str (S b)) = .ok (.str (S (lsL b l))) := rfl
def rstripD : PyData → PyData → Rs PyData
  | .str z, .str y => .ok (.str (S (rsL y.cps.toList z.cps.toList)))
  | _, _ => .no
theorem sp_rstrip : Spec2 X W (fun v w H Q => ∃ a b, v = .str a ∧ [w] = [V.str b] ∧ a.length ≤ sizeLine ∧ Q (.str (Txt.rstripChars a b)) H) rstripD := by
  intro G H v w d e σ Q s hv hw q
  unfold rstripD at q
  split at q
  · rename_i z y
    obtain ⟨rfl, hz⟩ := hv.str
    obtain ⟨rfl, _⟩ := hw.str
    rw [← rstrip_eq] at q
    refine ⟨_, _, rfl, rfl, hz, RD.val s q fun _ => .str _ ?_⟩
    rw [rstrip_eq, S_len]
    exact Nat.le_trans (rs_len _ _) (by rw [s_len]; exact hz)
  · exact q.elim
@[simp] def eM_rstrip1 (f g : EF) : EF := eM1 isS rstripD f g
theorem pd_m_rstrip1 {apos : Pos} (ha : PP X W a f) (hb : PP X W b g)
    (hbase : attributeBase a "rstrip" X.env (eval a X.env) = eval a X.env := by rfl)
    (hfew : ((backTo pos (starEach [b] X.env)).all (fun x => !x.1) && (backToKw pos (keywordEach [] X.env)).all (fun x => x.1.isSome)
      && decide (([b] : List Expr).length + ([] : List Keyword).length + (if ([] : List Keyword).isEmpty then 0 else 1) < 30)) = true := by rfl)
    (hline : (apos.endLine == pos.line) = true := by rfl) (hs : starEach [b] X.env = (false, eval b X.env) :: starEach [] X.env := by rfl) (hplain : (backTo pos (starEach [] X.env)).any (·.1) = false := by rfl) :
    PD X W (.Call (.Attribute a "rstrip" apos) [b] [] pos) (eM_rstrip1 f g) := pd_m1 tyS_str PySem.F.plainAttrs_str PySem.F.slot_str_rstrip PySem.F.type_str_rstrip mt_rstripChars sp_rstrip ha hb hbase hfew hline hs hplain
@[simp] theorem rstripD_S (l b : List Nat) : rstripD (.str (S l)) (.str (S b)) = .ok (.str (S (rsL b l))) := rfl
theorem partL_len (c : Nat) (l : List Nat) : (partL c l).1.length ≤ l.length ∧ (partL c l).2.1.length ≤ l.length ∧ (partL c l).2.2.length ≤ l.length := by
  unfold partL
  split
  · rename_i h
    have h0 : 1 ≤ l.length := List.length_pos_of_mem h
    have h1 := takeWhile_le (fun x => decide (x ≠ c)) l
    have h2 := dropWhile_le (fun x => decide (x ≠ c)) l
    have h3 := takeWhile_le (fun x => decide (x ≠ c)) l.reverse
    have h4 := dropWhile_le (fun x => decide (x ≠ c)) l.reverse
    simp only [List.length_tail, List.length_reverse, List.length_cons, List.length_nil] at *
    omega
  · simp
def partitionD : PyData → PyData → Rs PyData
  | .str z, .str y => match y.cps.toList with
    | [c] => .ok (.tuple [.str (S (partL c z.cps.toList).1), .str (S (partL c z.cps.toList).2.1), .str (S (partL c z.cps.toList).2.2)])
    | _ => .no
  | _, _ => .no
theorem sp_partition : Spec2 X W (fun v w H Q => ∃ a b, v = .str a ∧ [w] = [V.str b] ∧ (b.length == 0) = false ∧ a.length ≤ sizeLine ∧
    ∀ p, H p = none → Q (.ref p) (upd H p (.tup [.str (Txt.partition a b).1, .str (Txt.partition a b).2.1, .str (Txt.partition a b).2.2]))) partitionD := by
  intro G H v w d e σ Q s hv hw q
  unfold partitionD at q
  split at q
  · rename_i z y
    obtain ⟨rfl, hz⟩ := hv.str
    obtain ⟨rfl, _⟩ := hw.str
    split at q
    · rename_i c hc
      have ey : y = ⟨#[c]⟩ := by rw [S_of y, hc]; rfl
      subst ey
      have hl := partL_len c z.cps.toList
      have e1 := s_len z
      refine ⟨_, _, rfl, rfl, rfl, hz, ?_⟩
      rw [partition_eq]
      exact RD.newT s q (.cons (.str _ (by rw [S_len]; omega)) (.cons (.str _ (by rw [S_len]; omega)) (.cons (.str _ (by rw [S_len]; omega)) .nil)))
    · exact q.elim
  · exact q.elim
@[simp] def eM_partition1 (f g : EF) : EF := eM1 isS partitionD f g
theorem pd_m_partition1 {apos : Pos} (ha : PP X W a f) (hb : PP X W b g)
    (hbase : attributeBase a "partition" X.env (eval a X.env) = eval a X.env := by rfl)
    (hfew : ((backTo pos (starEach [b] X.env)).all (fun x => !x.1) && (backToKw pos (keywordEach [] X.env)).all (fun x => x.1.isSome)
      && decide (([b] : List Expr).length + ([] : List Keyword).length + (if ([] : List Keyword).isEmpty then 0 else 1) < 30)) = true := by rfl)
    (hline : (apos.endLine == pos.line) = true := by rfl) (hs : starEach [b] X.env = (false, eval b X.env) :: starEach [] X.env := by rfl) (hplain : (backTo pos (starEach [] X.env)).any (·.1) = false := by rfl) :
    PD X W (.Call (.Attribute a "partition" apos) [b] [] pos) (eM_partition1 f g) := pd_m1 tyS_str PySem.F.plainAttrs_str PySem.F.slot_str_partition PySem.F.type_str_partition mt_partition sp_partition ha hb hbase hfew hline hs hplain
@[simp] theorem partitionD_S (l : List Nat) (c : Nat) : partitionD (.str (S l)) (.str (S [c])) = .ok (.tuple [.str (S (partL c l).1), .str (S (partL c l).2.1), .str (S (partL c l).2.2)]) := rfl
theorem mt_rpartition : MtR X "str.rpartition" (fun x xs H Q => ∃ a b, x = .str a ∧ xs = [.str b] ∧ (b.length == 0) = false ∧ a.length ≤ sizeLine ∧
    ∀ p, H p = none → Q (.ref p) (upd H p (.tup [.str (Txt.rpartition a b).1, .str (Txt.rpartition a b).2.1, .str (Txt.rpartition a b).2.2]))) := by
  intro pins s σ H x xs v us Q I rx rs h
  obtain ⟨a, b, rfl, rfl, hb, hz, h⟩ := h
  obtain ⟨t, rfl⟩ := rx
  cases rs with
  | cons r1 rs =>
    cases rs
    obtain ⟨u, rfl⟩ := r1
    refine call_meets PySem.F.slot_str_rpartition (typeIs_str _ _ _) PySem.F.entry_str_rpartition (PySem.F.args_str_rpartition_2 _ _) (meets_str_rpartition a b t u hb hz) ?_
    unfold Txt.rpartition at h
    revert h
    cases Builtin.Str.lastOccurrence a b 0 a.length with
    | none => intro h; exact laid_parts I h
    | some i => intro h; exact laid_parts I h
theorem rpartL_len (c : Nat) (l : List Nat) : (rpartL c l).1.length ≤ l.length ∧ (rpartL c l).2.1.length ≤ l.length ∧ (rpartL c l).2.2.length ≤ l.length := by
  unfold rpartL
  split
  · rename_i h
    have h0 : 1 ≤ l.length := List.length_pos_of_mem h
    have h1 := takeWhile_le (fun x => decide (x ≠ c)) l
    have h2 := dropWhile_le (fun x => decide (x ≠ c)) l
    have h3 := takeWhile_le (fun x => decide (x ≠ c)) l.reverse
    have h4 := dropWhile_le (fun x => decide (x ≠ c)) l.reverse
    simp only [List.length_tail, List.length_reverse, List.length_cons, List.length_nil] at *
    omega
  · simp
def rpartitionD : PyData → PyData → Rs PyData
  | .str z, .str y => match y.cps.toList with
    | [c] => .ok (.tuple [.str (S (rpartL c z.cps.toList).1), .str (S (rpartL c z.cps.toList).2.1), .str (S (rpartL c z.cps.toList).2.2)])
    | _ => .no
  | _, _ => .no
theorem sp_rpartition : Spec2 X W (fun v w H Q => ∃ a b, v = .str a ∧ [w] = [V.str b] ∧ (b.length == 0) = false ∧ a.length ≤ sizeLine ∧
    ∀ p, H p = none → Q (.ref p) (upd H p (.tup [.str (Txt.rpartition a b).1, .str (Txt.rpartition a b).2.1, .str (Txt.rpartition a b).2.2]))) rpartitionD := by
  intro G H v w d e σ Q s hv hw q
  unfold rpartitionD at q
  split at q
  · rename_i z y
    obtain ⟨rfl, hz⟩ := hv.str
    obtain ⟨rfl, _⟩ := hw.str
    split at q
    · rename_i c hc
      have ey : y = ⟨#[c]⟩ := by rw [S_of y, hc]; rfl
      subst ey
      have hl := rpartL_len c z.cps.toList
      have e1 := s_len z
      refine ⟨_, _, rfl, rfl, rfl, hz, ?_⟩
      rw [rpartition_eq]
      exact RD.newT s q (.cons (.str _ (by rw [S_len]; omega)) (.cons (.str _ (by rw [S_len]; omega)) (.cons (.str _ (by rw [S_len]; omega)) .nil)))
    · exact q.elim
  · exact q.elim
@[simp] def eM_rpartition1 (f g : EF) : EF := eM1 isS rpartitionD f g
theorem pd_m_rpartition1 {apos : Pos} (ha : PP X W a f) (hb : PP X W b g)
    (hbase : attributeBase a "rpartition" X.env (eval a X.env) = eval a X.env := by rfl)
    (hfew : ((backTo pos (starEach [b] X.env)).all (fun x => !x.1) && (backToKw pos (keywordEach [] X.env)).all (fun x => x.1.isSome)
      && decide (([b] : List Expr).length + ([] : List Keyword).length + (if ([] : List Keyword).isEmpty then 0 else 1) < 30)) = true := by rfl)
    (hline : (apos.endLine == pos.line) = true := by rfl) (hs : starEach [b] X.env = (false, eval b X.env) :: starEach [] X.env := by rfl) (hplain : (backTo pos (starEach [] X.env)).any (·.1) = false := by rfl) :
    PD X W (.Call (.Attribute a "rpartition" apos) [b] [] pos) (eM_rpartition1 f g) := pd_m1 tyS_str PySem.F.plainAttrs_str PySem.F.slot_str_rpartition PySem.F.type_str_rpartition mt_rpartition sp_rpartition ha hb hbase hfew hline hs hplain
@[simp] theorem rpartitionD_S (l : List Nat) (c : Nat) : rpartitionD (.str (S l)) (.str (S [c])) = .ok (.tuple [.str (S (rpartL c l).1), .str (S (rpartL c l).2.1), .str (S (rpartL c l).2.2)]) := rfl
theorem split_nil (c : Nat) : Txt.split (S []) ⟨#[c]⟩ = [S []] := by
  unfold Txt.split
  rfl
theorem split_all (x : Str) (c : Nat) : Txt.split x ⟨#[c]⟩ = (splitL c x.cps.toList).map S := by
  rcases split_ne x c with h | h
  · exact split_eq x c h
  · have e : x = S [] := by rw [S_of x, h]
    subst e
    rw [split_nil]
    rfl
def splitD : PyData → PyData → Rs PyData
  | .str z, .str y => match y.cps.toList with
    | [c] => if z.length ≤ 1000000 then .ok (.list ((splitL c z.cps.toList).map fun l => .str (S l))) else .no
    | _ => .no
  | _, _ => .no
theorem sp_split : Spec2 X W (fun v w H Q => ∃ a b, v = .str a ∧ [w] = [V.str b] ∧ (b.length == 0) = false ∧ a.length + 2 ≤ sizeLine ∧ rNewStrs (Txt.split a b) H Q) splitD := by
  intro G H v w d e σ Q s hv hw q
  unfold splitD at q
  split at q
  · rename_i z y
    obtain ⟨rfl, hz⟩ := hv.str
    obtain ⟨rfl, _⟩ := hw.str
    split at q
    · rename_i c hc
      split at q
      · rename_i h6
        have ey : y = ⟨#[c]⟩ := by rw [S_of y, hc]; rfl
        subst ey
        have e1 := s_len z
        have e2 := sizeLine_eq
        refine ⟨_, _, rfl, rfl, rfl, by omega, ?_⟩
        unfold rNewStrs
        rw [split_all, List.map_map]
        refine RD.newL s q ?_
        have : ∀ ls : List (List Nat), (∀ l ∈ ls, l.length ≤ z.cps.toList.length) → DqAll X.K G (ls.map (V.str ∘ S)) (ls.map fun l => .str (S l)) := by
          intro ls
          induction ls with
          | nil => intro _; exact .nil
          | cons l r ih => intro h; exact .cons (.str _ (by rw [S_len]; have := h l (by simp); omega)) (ih fun l hl => h l (by simp [hl]))
        exact this _ fun l hl => splitL_mem hl
      · exact q.elim
    · exact q.elim
  · exact q.elim
@[simp] def eM_split1 (f g : EF) : EF := eM1 isS splitD f g
theorem pd_m_split1 {apos : Pos} (ha : PP X W a f) (hb : PP X W b g)
    (hbase : attributeBase a "split" X.env (eval a X.env) = eval a X.env := by rfl)
    (hfew : ((backTo pos (starEach [b] X.env)).all (fun x => !x.1) && (backToKw pos (keywordEach [] X.env)).all (fun x => x.1.isSome)
      && decide (([b] : List Expr).length + ([] : List Keyword).length + (if ([] : List Keyword).isEmpty then 0 else 1) < 30)) = true := by rfl)
    (hline : (apos.endLine == pos.line) = true := by rfl) (hs : starEach [b] X.env = (false, eval b X.env) :: starEach [] X.env := by rfl) (hplain : (backTo pos (starEach [] X.env)).any (·.1) = false := by rfl) :
    PD X W (.Call (.Attribute a "split" apos) [b] [] pos) (eM_split1 f g) := pd_m1 tyS_str PySem.F.plainAttrs_str PySem.F.slot_str_split PySem.F.type_str_split mt_split sp_split ha hb hbase hfew hline hs hplain
@[simp] theorem splitD_S (l : List Nat) (c : Nat) : splitD (.str (S l)) (.str (S [c])) = if l.length ≤ 1000000 then .ok (.list ((splitL c l).map fun l => .str (S l))) else .no := rfl
end
end L2.Pz

namespace L2.Pz
open PySem PySem.Spec L2 L2.Pz.Fn
/-! ### columns, plainly -/
abbrev figs : List Nat := [48, 49, 50, 51, 52, 53, 54, 55, 56, 57]
def isF (c : Nat) : Bool := decide (c ∈ figs)
theorem isF_iff {c : Nat} : isF c = true ↔ 48 ≤ c ∧ c ≤ 57 := by
  unfold isF figs
  rw [decide_eq_true_iff]
  simp only [List.mem_cons, List.not_mem_nil, or_false]
  omega
def ahd (c : Nat) (t : List Nat) : List Nat := t.takeWhile fun x => decide (x ≠ c)
def tr (l : List Nat) : List Nat := (l.reverse.dropWhile fun x => !isF x).reverse
def plc (c : Nat) (t : List Nat) : Nat := (tr (ahd c t)).length
def hasF (l : List Nat) : Prop := ∃ x ∈ l, isF x = true
theorem ahd_not {c : Nat} {t : List Nat} (h : c ∉ t) : ahd c t = t := by
  unfold ahd
  induction t with
  | nil => rfl
  | cons x t ih =>
    simp only [List.mem_cons, not_or] at h
    rw [List.takeWhile_cons_of_pos (by simpa using Ne.symm h.1), ih h.2]
theorem part1 (c : Nat) (t : List Nat) : (partL c t).1 = ahd c t := by
  unfold partL
  by_cases h : c ∈ t
  · rw [if_pos h]; rfl
  · rw [if_neg h, ahd_not h]
theorem split0 (c : Nat) : ∀ t : List Nat, ∃ r, splitL c t = ahd c t :: r
  | [] => ⟨[], rfl⟩
  | x :: t => by
    obtain ⟨r, e⟩ := split0 c t
    unfold splitL
    by_cases h : x = c
    · rw [if_pos h]
      refine ⟨splitL c t, ?_⟩
      unfold ahd
      rw [List.takeWhile_cons_of_neg (by simp [h])]
    · rw [if_neg h, e]
      refine ⟨r, ?_⟩
      unfold ahd
      rw [List.takeWhile_cons_of_pos (by simp [h])]
theorem tr_snoc (l : List Nat) (x : Nat) : tr (l ++ [x]) = if isF x = true then l ++ [x] else tr l := by
  unfold tr
  rw [List.reverse_append, List.reverse_singleton, List.singleton_append]
  by_cases h : isF x = true
  · rw [if_pos h, List.dropWhile_cons_of_neg (by simp [h])]
    simp
  · rw [if_neg h, List.dropWhile_cons_of_pos (by simpa using h)]
theorem tr_nil : tr [] = [] := rfl
theorem tr_le (l : List Nat) : (tr l).length ≤ l.length := by
  unfold tr
  rw [List.length_reverse]
  exact Nat.le_trans (dropWhile_le _ _) (by rw [List.length_reverse]; exact Nat.le_refl _)
theorem dropWhile_app {p : Nat → Bool} : ∀ {a b : List Nat}, (∃ x ∈ a, p x = false) → (a ++ b).dropWhile p = a.dropWhile p ++ b
  | [], b, ⟨x, hx, _⟩ => by simp at hx
  | y :: a, b, ⟨x, hx, hf⟩ => by
    rw [List.cons_append]
    by_cases h : p y = true
    · rw [List.dropWhile_cons_of_pos h, List.dropWhile_cons_of_pos h]
      refine dropWhile_app ⟨x, ?_, hf⟩
      rcases List.mem_cons.mp hx with e | e
      · subst e; rw [h] at hf; cases hf
      · exact e
    · rw [List.dropWhile_cons_of_neg h, List.dropWhile_cons_of_neg h, List.cons_append]
theorem tr_pos {l : List Nat} (h : hasF l) : 0 < (tr l).length := by
  obtain ⟨x, hx, hf⟩ := h
  unfold tr
  rw [List.length_reverse]
  apply Nat.pos_of_ne_zero
  intro z
  have e := List.eq_nil_of_length_eq_zero z
  have e2 := dropWhile_app (p := fun x => !isF x) (a := l.reverse) (b := [48]) ⟨x, by simpa using hx, by simp [hf]⟩
  have key : ∀ (m : List Nat), x ∈ m → m.dropWhile (fun x => !isF x) ≠ [] := by
    intro m
    induction m with
    | nil => intro h; simp at h
    | cons y m ih =>
      intro h
      by_cases hy : isF y = true
      · rw [List.dropWhile_cons_of_neg (by simp [hy])]; simp
      · rw [List.dropWhile_cons_of_pos (by simpa using hy)]
        rcases List.mem_cons.mp h with e | e
        · subst e; exact absurd hf hy
        · exact ih e
  exact key l.reverse (by simpa using hx) e
theorem tr_pre {a l : List Nat} (h : hasF l) : tr (a ++ l) = a ++ tr l := by
  obtain ⟨x, hx, hf⟩ := h
  unfold tr
  rw [List.reverse_append, dropWhile_app ⟨x, by simpa using hx, by simp [hf]⟩, List.reverse_append, List.reverse_reverse]
theorem tr_post (l : List Nat) : ∀ b : Nat, tr (l ++ List.replicate b 32) = tr l
  | 0 => by simp
  | b + 1 => by
    rw [List.replicate_succ', ← List.append_assoc, tr_snoc, if_neg (by decide), tr_post l b]
theorem ahd_pre {c : Nat} (hc : c ≠ 32) (u : List Nat) : ∀ a : Nat, ahd c (List.replicate a 32 ++ u) = List.replicate a 32 ++ ahd c u
  | 0 => by simp
  | a + 1 => by
    rw [List.replicate_succ, List.cons_append, List.cons_append]
    unfold ahd
    rw [List.takeWhile_cons_of_pos (by simpa using Ne.symm hc)]
    exact congrArg _ (ahd_pre hc u a)
theorem takeWhile_stop {p : Nat → Bool} : ∀ {a b : List Nat}, (∃ x ∈ a, p x = false) → (a ++ b).takeWhile p = a.takeWhile p
  | [], b, ⟨x, hx, _⟩ => by simp at hx
  | y :: a, b, ⟨x, hx, hf⟩ => by
    rw [List.cons_append]
    by_cases h : p y = true
    · rw [List.takeWhile_cons_of_pos h, List.takeWhile_cons_of_pos h]
      refine congrArg _ (takeWhile_stop ⟨x, ?_, hf⟩)
      rcases List.mem_cons.mp hx with e | e
      · subst e; rw [h] at hf; cases hf
      · exact e
    · rw [List.takeWhile_cons_of_neg h, List.takeWhile_cons_of_neg h]
theorem tr_ahd_post {c : Nat} (hc : c ≠ 32) (t : List Nat) (b : Nat) : tr (ahd c (t ++ List.replicate b 32)) = tr (ahd c t) := by
  by_cases h : c ∈ t
  · unfold ahd
    rw [takeWhile_stop ⟨c, h, by simp⟩]
  · rw [ahd_not h, ahd_not (by simp [h, hc]), tr_post]
/-- a text that can stand in a column -/
structure Gt (c : Nat) (t : List Nat) : Prop where
  b : c ≠ 32
  f : hasF (ahd c t)
  h : t.head? ≠ some 32
  l : t.getLast? ≠ some 32
  z : t.length ≤ 400
theorem Gt.ne {c : Nat} {t : List Nat} (g : Gt c t) : t ≠ [] := fun e => by
  obtain ⟨x, hx, _⟩ := g.f
  rw [e] at hx
  simp [ahd] at hx
theorem plc_pad {c : Nat} {t : List Nat} (g : Gt c t) (a b : Nat) : plc c (List.replicate a 32 ++ t ++ List.replicate b 32) = a + plc c t := by
  unfold plc
  rw [tr_ahd_post g.b, ahd_pre g.b, tr_pre g.f, List.length_append, List.length_replicate]
theorem hasF_pad {c : Nat} {t : List Nat} (g : Gt c t) (a b : Nat) : hasF (ahd c (List.replicate a 32 ++ t ++ List.replicate b 32)) := by
  rw [List.append_assoc, ahd_pre g.b]
  obtain ⟨x, hx, hf⟩ := g.f
  refine ⟨x, ?_, hf⟩
  rw [List.mem_append]
  refine .inr ?_
  by_cases h : c ∈ t
  · unfold ahd
    rw [takeWhile_stop ⟨c, h, by simp⟩]
    exact hx
  · rw [ahd_not (by simp [h, g.b])]
    rw [ahd_not h] at hx
    simp [hx]
theorem plc_le (c : Nat) (t : List Nat) : plc c t ≤ t.length := by
  unfold plc
  refine Nat.le_trans (tr_le _) ?_
  unfold ahd
  exact takeWhile_le _ t
theorem ls_pad (a : Nat) {t : List Nat} (h : t.head? ≠ some 32) (hn : t ≠ []) (r : List Nat) : lsL [32] (List.replicate a 32 ++ t ++ r) = t ++ r := by
  unfold lsL
  induction a with
  | zero =>
    cases t with
    | nil => exact absurd rfl hn
    | cons x t =>
      simp only [List.replicate_zero, List.nil_append, List.cons_append]
      rw [List.dropWhile_cons_of_neg]
      simpa using h
  | succ a ih =>
    rw [List.replicate_succ, List.cons_append, List.cons_append, List.dropWhile_cons_of_pos (by simp)]
    exact ih
theorem rs_pad (b : Nat) {t : List Nat} (h : t.getLast? ≠ some 32) (hn : t ≠ []) : rsL [32] (t ++ List.replicate b 32) = t := by
  unfold rsL
  rw [List.reverse_append, List.reverse_replicate]
  have e := ls_pad b (t := t.reverse) (by rw [List.head?_reverse]; exact h) (by simpa using hn) []
  unfold lsL at e
  rw [List.append_nil, List.append_nil] at e
  rw [e, List.reverse_reverse]
theorem st_pad {c : Nat} {t : List Nat} (g : Gt c t) (a b : Nat) : stL [32] (List.replicate a 32 ++ t ++ List.replicate b 32) = t := by
  unfold stL
  rw [ls_pad a g.h g.ne, rs_pad b g.l g.ne]
/-! ### the greatest -/
def mxN : List Nat → Nat
  | [] => 0
  | x :: l => max x (mxN l)
theorem le_mxN : ∀ {l : List Nat} {x : Nat}, x ∈ l → x ≤ mxN l
  | y :: l, x, h => by
    unfold mxN
    rcases List.mem_cons.mp h with e | e
    · omega
    · have := le_mxN e; omega
theorem mxN_le {n : Nat} : ∀ {l : List Nat}, (∀ x ∈ l, x ≤ n) → mxN l ≤ n
  | [], _ => Nat.zero_le _
  | y :: l, h => by
    unfold mxN
    have a := h y (by simp)
    have b := mxN_le fun x hx => h x (List.mem_cons_of_mem _ hx)
    omega
theorem mxN_mem : ∀ {l : List Nat}, l ≠ [] → mxN l ∈ l
  | [], h => absurd rfl h
  | [x], _ => by simp [mxN]
  | x :: y :: l, _ => by
    have := mxN_mem (l := y :: l) (by simp)
    rw [mxN]
    by_cases h : mxN (y :: l) ≤ x
    · rw [Nat.max_eq_left h]; simp
    · rw [Nat.max_eq_right (by omega)]; exact List.mem_cons_of_mem _ this
theorem mxN_congr {l m : List Nat} (h : ∀ x, x ∈ l ↔ x ∈ m) : mxN l = mxN m :=
  Nat.le_antisymm (mxN_le fun x hx => le_mxN ((h x).mp hx)) (mxN_le fun x hx => le_mxN ((h x).mpr hx))
theorem maxI_nat : ∀ {l : List Nat}, l ≠ [] → maxI (l.map fun n : Nat => (n : Int)) = ((mxN l : Nat) : Int)
  | [], h => absurd rfl h
  | [x], _ => by simp [maxI, mxN]
  | x :: y :: l, _ => by
    have := maxI_nat (l := y :: l) (by simp)
    rw [List.map_cons, List.map_cons] at *
    rw [mxN]
    show max (x : Int) (maxI _) = _
    rw [this]
    omega
theorem maxLD_nat {l : List Nat} (h : l ≠ []) : maxLD (.list (l.map fun n : Nat => PyData.int (n : Nat))) = .ok (.int (mxN l : Nat)) := by
  cases l with
  | nil => exact absurd rfl h
  | cons x l =>
    have e := maxI_nat h
    have q := maxLD_l (x : Int) (l.map fun n : Nat => (n : Int))
    rw [List.map_map] at q
    rw [List.map_cons] at e ⊢
    rw [e] at q
    exact q
/-! ### texts that stand in a column -/
def cM (c : Nat) (ts : List (List Nat)) : Nat := mxN (ts.map (plc c))
def cF (c M : Nat) (t : List Nat) : List Nat := List.replicate (M - plc c t) 32 ++ t
def cW (c : Nat) (ts : List (List Nat)) : Nat := mxN (ts.map fun t => (cF c (cM c ts) t).length)
def pad (c M W : Nat) (t : List Nat) : List Nat := cF c M t ++ List.replicate (W - (cF c M t).length) 32
def linL (c : Nat) (ts : List (List Nat)) : List (List Nat) := ts.map (pad c (cM c ts) (cW c ts))
theorem pad_len {c : Nat} {ts : List (List Nat)} {t : List Nat} (h : t ∈ ts) : (pad c (cM c ts) (cW c ts) t).length = cW c ts := by
  unfold pad
  rw [List.length_append, List.length_replicate]
  have : (cF c (cM c ts) t).length ≤ cW c ts := le_mxN (List.mem_map.mpr ⟨t, h, rfl⟩)
  omega
theorem pad_plc {c M W : Nat} {t : List Nat} (g : Gt c t) (h : plc c t ≤ M) : plc c (pad c M W t) = M := by
  unfold pad cF
  rw [plc_pad g]
  omega
theorem le_cM {c : Nat} {ts : List (List Nat)} {t : List Nat} (h : t ∈ ts) : plc c t ≤ cM c ts := le_mxN (List.mem_map.mpr ⟨t, h, rfl⟩)
theorem lin_rev (c : Nat) (ts : List (List Nat)) : linL c ts.reverse = (linL c ts).reverse := by
  have e1 : cM c ts.reverse = cM c ts := mxN_congr fun x => by simp [List.mem_map]
  have e2 : cW c ts.reverse = cW c ts := by
    unfold cW
    rw [e1]
    exact mxN_congr fun x => by simp [List.mem_map]
  unfold linL
  rw [e1, e2, List.map_reverse]
theorem lin_one (c : Nat) (t : List Nat) : linL c [t] = [t] := by
  have e1 : cM c [t] = plc c t := by simp [cM, mxN]
  have e2 : cF c (plc c t) t = t := by simp [cF]
  have e3 : cW c [t] = t.length := by simp [cW, mxN, e1, e2]
  unfold linL
  rw [e1, e3]
  simp [pad, e2]
theorem cM_more (c : Nat) (ts : List (List Nat)) (t : List Nat) : cM c ts ≤ cM c (ts ++ [t]) := mxN_le fun x hx => le_mxN (by simp at hx ⊢; obtain ⟨y, hy, e⟩ := hx; exact .inl ⟨y, hy, e⟩)
theorem cM_len {c : Nat} {ts : List (List Nat)} (h : ∀ t ∈ ts, t.length ≤ 400) : cM c ts ≤ 400 := mxN_le fun x hx => by
  obtain ⟨t, ht, rfl⟩ := List.mem_map.mp hx
  exact Nat.le_trans (plc_le c t) (h t ht)
theorem cF_len {c M : Nat} {t : List Nat} (h : t.length ≤ 400) (hM : M ≤ 400) : (cF c M t).length ≤ 800 := by
  unfold cF
  rw [List.length_append, List.length_replicate]
  omega
theorem cW_len {c : Nat} {ts : List (List Nat)} (h : ∀ t ∈ ts, t.length ≤ 400) : cW c ts ≤ 800 := mxN_le fun x hx => by
  obtain ⟨t, ht, rfl⟩ := List.mem_map.mp hx
  exact cF_len (h t ht) (cM_len h)
theorem lead_pad {c M W : Nat} {t : List Nat} (g : Gt c t) : (pad c M W t).length - (lsL [32] (pad c M W t)).length = M - plc c t ∧ (lsL [32] (pad c M W t)).length ≤ (pad c M W t).length := by
  unfold pad cF
  rw [ls_pad _ g.h g.ne]
  simp only [List.length_append, List.length_replicate]
  omega
/-- one has no blank ahead -/
theorem some_head {c : Nat} {ts : List (List Nat)} (hne : ts ≠ []) (g : ∀ t ∈ ts, Gt c t) : ∃ t ∈ ts, (pad c (cM c ts) (cW c ts) t).head? ≠ some 32 := by
  have := mxN_mem (l := ts.map (plc c)) (by simpa using hne)
  obtain ⟨t, ht, e⟩ := List.mem_map.mp this
  refine ⟨t, ht, ?_⟩
  have e : cM c ts = plc c t := e.symm
  have gt := g t ht
  unfold pad cF
  rw [e, Nat.sub_self]
  have n := gt.ne
  cases t with
  | nil => exact absurd rfl n
  | cons x t => simpa using gt.h
theorem some_last {c : Nat} {ts : List (List Nat)} (hne : ts ≠ []) (g : ∀ t ∈ ts, Gt c t) : ∃ t ∈ ts, (pad c (cM c ts) (cW c ts) t).getLast? ≠ some 32 := by
  have := mxN_mem (l := ts.map fun t => (cF c (cM c ts) t).length) (by simpa using hne)
  obtain ⟨t, ht, e⟩ := List.mem_map.mp this
  refine ⟨t, ht, ?_⟩
  have e : cW c ts = (cF c (cM c ts) t).length := e.symm
  have gt := g t ht
  unfold pad
  rw [e, Nat.sub_self, List.replicate_zero, List.append_nil]
  unfold cF
  rw [List.getLast?_append]
  have n := gt.ne
  have := gt.l
  cases h : t.getLast? with
  | none => rw [List.getLast?_eq_none_iff] at h; exact absurd h n
  | some y => rw [h] at this; simpa using this
end L2.Pz

namespace L2.Pz
/-! ### dealing by the greatest rests: plain -/
theorem perm_uniq {α : Type} {R : α → α → Prop} (as : ∀ a b, R a b → R b a → False) : ∀ {l m : List α}, l.Pairwise R → m.Pairwise R → l.Perm m → l = m
  | [], m, _, _, h => (List.Perm.eq_nil h.symm).symm
  | x :: l, [], _, _, h => absurd h.length_eq (by simp)
  | x :: l, y :: m, hl, hm, h => by
    have e : x = y := by
      rcases List.mem_cons.mp (h.mem_iff.mp (List.mem_cons_self (a := x) (l := l))) with e | hx
      · exact e
      · rcases List.mem_cons.mp (h.mem_iff.mpr (List.mem_cons_self (a := y) (l := m))) with e | hy
        · exact e.symm
        · exact (as x y ((List.pairwise_cons.mp hl).1 y hy) ((List.pairwise_cons.mp hm).1 x hx)).elim
    subst e
    rw [perm_uniq as (List.pairwise_cons.mp hl).2 (List.pairwise_cons.mp hm).2 h.cons_inv]
abbrev gI (l : List Int) (i : Nat) : Int := l.getD i 0
/-- a goes ahead of b -/
def Ahd (r : List Int) (a b : Nat) : Prop := gI r b < gI r a ∨ (gI r b = gI r a ∧ a < b)
structure Rk (r : List Int) (o : List Nat) : Prop where
  perm : o.Perm (List.range r.length)
  ord : o.Pairwise (Ahd r)
theorem Rk.uniq {r : List Int} {o o' : List Nat} (h : Rk r o) (h' : Rk r o') : o = o' :=
  perm_uniq (R := Ahd r) (fun a b h1 h2 => by unfold Ahd at *; omega) h.ord h'.ord (h.perm.trans h'.perm.symm)
def pairsR (r : List Int) : List (Int × Int) := r.zipIdx.map fun p => (-p.1, (p.2 : Int))
def ordR (r : List Int) : List Nat := (sortP (pairsR r)).map fun p => p.2.toNat
theorem pairsR_mem {r : List Int} {p : Int × Int} (h : p ∈ pairsR r) : 0 ≤ p.2 ∧ p.2.toNat < r.length ∧ p.1 = -gI r p.2.toNat := by
  obtain ⟨q, hq, rfl⟩ := List.mem_map.mp h
  obtain ⟨a, i⟩ := q
  have hm := List.mem_zipIdx hq
  simp only at hm ⊢
  have hi : i < r.length := by omega
  refine ⟨by omega, by simpa using hi, ?_⟩
  have : a = r[i] := by simpa using hm.2.2
  subst this
  simp [gI, hi]
theorem zipIdx_snd {α : Type} : ∀ (r : List α) (k : Nat), (r.zipIdx k).map Prod.snd = List.range' k r.length
  | [], _ => rfl
  | a :: r, k => by rw [List.zipIdx_cons, List.map_cons, zipIdx_snd r (k + 1)]; rfl
theorem perm_sum {l m : List Int} (h : l.Perm m) : l.sum = m.sum := by
  induction h with
  | nil => rfl
  | cons x _ ih => rw [List.sum_cons, List.sum_cons, ih]
  | swap x y l => simp only [List.sum_cons]; omega
  | trans _ _ h1 h2 => exact h1.trans h2
theorem pairsR_snd (r : List Int) : (pairsR r).map (fun p => p.2.toNat) = List.range r.length := by
  unfold pairsR
  rw [List.map_map]
  have : ((fun (p : Int × Int) => p.2.toNat) ∘ fun (p : Int × Nat) => (-p.1, (p.2 : Int))) = Prod.snd := by
    funext p; simp
  rw [this, zipIdx_snd]
  exact List.range_eq_range'.symm
theorem ordR_rk (r : List Int) : Rk r (ordR r) := by
  have hp : (ordR r).Perm (List.range r.length) := by
    rw [← pairsR_snd r]
    exact (sortP_perm _).map _
  refine ⟨hp, ?_⟩
  have nd : (ordR r).Nodup := hp.nodup_iff.mpr List.nodup_range
  unfold ordR at nd ⊢
  have hs := sortP_srt (pairsR r)
  have hm : ∀ p ∈ sortP (pairsR r), 0 ≤ p.2 ∧ p.2.toNat < r.length ∧ p.1 = -gI r p.2.toNat := fun p hp => pairsR_mem ((sortP_perm _).mem_iff.mp hp)
  rw [List.pairwise_map]
  rw [List.nodup_iff_pairwise_ne, List.pairwise_map] at nd
  have := List.Pairwise.and nd hs
  refine List.Pairwise.imp_of_mem (fun {a b} ha hb h => ?_) this
  obtain ⟨h1, h2⟩ := h
  have h2 := SrtO.lexB_no.mp h2
  obtain ⟨a0, _, a1⟩ := hm a ha
  obtain ⟨b0, _, b1⟩ := hm b hb
  unfold Ahd
  omega
theorem ordR_len (r : List Int) : (ordR r).length = r.length := by
  rw [(ordR_rk r).perm.length_eq, List.length_range]
theorem ordR_lt {r : List Int} {i : Nat} (h : i ∈ ordR r) : i < r.length := List.mem_range.mp ((ordR_rk r).perm.mem_iff.mp h)
theorem ordR_nd (r : List Int) : (ordR r).Nodup := (ordR_rk r).perm.nodup_iff.mpr List.nodup_range
def inc1 (f : List Int) (i : Nat) : List Int := f.set i (gI f i + 1)
def incs (f : List Int) (is : List Nat) : List Int := is.foldl inc1 f
def neg1 (f : List Int) (i : Nat) : List Int := f.set i (-1)
def negs (f : List Int) (is : List Nat) : List Int := is.foldl neg1 f
theorem incs_len : ∀ (is : List Nat) (f : List Int), (incs f is).length = f.length
  | [], _ => rfl
  | i :: is, f => by
    show (incs (inc1 f i) is).length = _
    rw [incs_len is]
    simp [inc1]
theorem negs_len : ∀ (is : List Nat) (f : List Int), (negs f is).length = f.length
  | [], _ => rfl
  | i :: is, f => by
    show (negs (neg1 f i) is).length = _
    rw [negs_len is]
    simp [neg1]
theorem gI_set {f : List Int} {i j : Nat} {x : Int} (h : i < f.length) : gI (f.set i x) j = if i = j then x else gI f j := by
  unfold gI
  rw [List.getD_eq_getElem?_getD, List.getD_eq_getElem?_getD, List.getElem?_set]
  by_cases e : i = j
  · subst e; simp [h]
  · simp [e]
theorem incs_get : ∀ {is : List Nat} {f : List Int} {j : Nat}, is.Nodup → (∀ i ∈ is, i < f.length) → gI (incs f is) j = if j ∈ is then gI f j + 1 else gI f j
  | [], f, j, _, _ => by simp [incs]
  | i :: is, f, j, nd, hl => by
    show gI (incs (inc1 f i) is) j = _
    obtain ⟨n1, n2⟩ := List.nodup_cons.mp nd
    have hi := hl i List.mem_cons_self
    rw [incs_get n2 (fun k hk => by simp [inc1]; exact hl k (List.mem_cons_of_mem _ hk))]
    unfold inc1
    rw [gI_set hi]
    by_cases e : i = j
    · subst e; simp [n1]
    · have e' : j ≠ i := Ne.symm e
      simp [e, e']
theorem negs_get : ∀ {is : List Nat} {f : List Int} {j : Nat}, (∀ i ∈ is, i < f.length) → gI (negs f is) j = if j ∈ is then -1 else gI f j
  | [], f, j, _ => by simp [negs]
  | i :: is, f, j, hl => by
    show gI (negs (neg1 f i) is) j = _
    have hi := hl i List.mem_cons_self
    rw [negs_get (fun k hk => by simp [neg1]; exact hl k (List.mem_cons_of_mem _ hk))]
    unfold neg1
    rw [gI_set hi]
    by_cases e : i = j
    · subst e; simp
    · have e' : j ≠ i := Ne.symm e
      simp [e, e']
theorem sum_set : ∀ {f : List Int} {i : Nat} {x : Int}, i < f.length → (f.set i x).sum = f.sum + (x - gI f i)
  | [], i, x, h => by simp at h
  | a :: f, 0, x, h => by simp [gI]; omega
  | a :: f, i + 1, x, h => by
    have := sum_set (f := f) (i := i) (x := x) (by simpa using h)
    simp only [List.set_cons_succ, List.sum_cons, this, gI, List.getD_cons_succ]
    omega
theorem incs_sum : ∀ {is : List Nat} {f : List Int}, (∀ i ∈ is, i < f.length) → (incs f is).sum = f.sum + is.length
  | [], f, _ => by simp [incs]
  | i :: is, f, hl => by
    show (incs (inc1 f i) is).sum = _
    rw [incs_sum (fun k hk => by simp [inc1]; exact hl k (List.mem_cons_of_mem _ hk))]
    unfold inc1
    rw [sum_set (hl i List.mem_cons_self)]
    simp only [List.length_cons]
    omega
def fl (ss : List Int) (w : Int) : List Int := ss.map fun s => s * w / ss.sum
def rs (ss : List Int) (w : Int) : List Int := ss.map fun s => s * w % ss.sum
def mny (ss : List Int) (w : Int) : Nat := (w - (fl ss w).sum).toNat
def partsI (ss : List Int) (w : Int) : List Int := incs (fl ss w) ((ordR (rs ss w)).take (mny ss w))
theorem sum_mulr (w : Int) : ∀ ss : List Int, (ss.map fun s => s * w).sum = ss.sum * w
  | [] => by simp
  | a :: ss => by simp [sum_mulr w ss, Int.add_mul]
theorem fl_rs (T w : Int) : ∀ l : List Int, (l.map fun s => s * w / T).sum * T + (l.map fun s => s * w % T).sum = (l.map fun s => s * w).sum
  | [] => by simp
  | a :: l => by
    have := fl_rs T w l
    have e := Int.mul_ediv_add_emod (a * w) T
    simp only [List.map_cons, List.sum_cons, Int.add_mul]
    rw [Int.mul_comm T] at e
    omega
theorem rs_bd {T w : Int} (hT : 0 < T) : ∀ l : List Int, 0 ≤ (l.map fun s => s * w % T).sum ∧ (l.map fun s => s * w % T).sum ≤ l.length * (T - 1)
  | [] => by simp
  | a :: l => by
    have := rs_bd (w := w) hT l
    have h1 := Int.emod_nonneg (a * w) (by omega : T ≠ 0)
    have h2 := Int.emod_lt_of_pos (a * w) hT
    simp only [List.map_cons, List.sum_cons, List.length_cons]
    have e : ((l.length + 1 : Nat) : Int) * (T - 1) = (l.length : Int) * (T - 1) + (T - 1) := by
      rw [Int.natCast_add, Int.add_mul]; simp
    rw [e]
    omega
section
variable {ss : List Int} {w : Int}
theorem mny_eq (hT : 0 < ss.sum) : (w - (fl ss w).sum) * ss.sum = (rs ss w).sum ∧ 0 ≤ w - (fl ss w).sum ∧ (mny ss w : Int) = w - (fl ss w).sum ∧ mny ss w < ss.length := by
  have h1 := fl_rs ss.sum w ss
  rw [sum_mulr] at h1
  have e : (w - (fl ss w).sum) * ss.sum = (rs ss w).sum := by
    unfold fl rs
    rw [Int.sub_mul, Int.mul_comm w]
    omega
  obtain ⟨b1, b2⟩ := rs_bd (w := w) hT ss
  have b1 : 0 ≤ (rs ss w).sum := b1
  have b2 : (rs ss w).sum ≤ ss.length * (ss.sum - 1) := b2
  have p : 0 ≤ w - (fl ss w).sum := by
    by_cases h : 0 ≤ w - (fl ss w).sum
    · exact h
    · have : (w - (fl ss w).sum) * ss.sum < 0 := Int.mul_neg_of_neg_of_pos (by omega) hT
      omega
  have m : (mny ss w : Int) = w - (fl ss w).sum := by unfold mny; omega
  refine ⟨e, p, m, ?_⟩
  by_cases h : mny ss w < ss.length
  · exact h
  · have h2 : (ss.length : Int) * ss.sum ≤ (w - (fl ss w).sum) * ss.sum := Int.mul_le_mul_of_nonneg_right (by omega) (by omega)
    have h3 : (ss.length : Int) * (ss.sum - 1) = (ss.length : Int) * ss.sum - ss.length := by rw [Int.mul_sub]; omega
    have h4 : ss.length ≠ 0 := fun z => by
      have : ss = [] := List.eq_nil_of_length_eq_zero z
      subst this
      simp at hT
    omega
theorem partsI_len : (partsI ss w).length = ss.length := by
  unfold partsI
  rw [incs_len]
  simp [fl]
theorem tk_lt {i : Nat} (h : i ∈ (ordR (rs ss w)).take (mny ss w)) : i < (fl ss w).length := by
  have := ordR_lt (List.mem_of_mem_take h)
  simpa [fl, rs] using this
theorem partsI_sum (hT : 0 < ss.sum) : (partsI ss w).sum = w := by
  obtain ⟨_, _, h3, h4⟩ := mny_eq (w := w) hT
  unfold partsI
  rw [incs_sum fun i hi => tk_lt hi]
  have : ((ordR (rs ss w)).take (mny ss w)).length = mny ss w := by
    rw [List.length_take, ordR_len]
    simp [rs]
    omega
  rw [this]
  omega
theorem partsI_get (i : Nat) : gI (partsI ss w) i = if i ∈ (ordR (rs ss w)).take (mny ss w) then gI (fl ss w) i + 1 else gI (fl ss w) i := by
  unfold partsI
  exact incs_get (List.Nodup.sublist (List.take_sublist _ _) (ordR_nd _)) fun i hi => tk_lt hi
theorem gI_map {f : Int → Int} {i : Nat} (h : i < ss.length) : gI (ss.map f) i = f (gI ss i) := by
  unfold gI
  simp [List.getD_eq_getElem?_getD, h]
theorem fl_get {i : Nat} (h : i < ss.length) : gI (fl ss w) i = gI ss i * w / ss.sum := gI_map h
theorem rs_get {i : Nat} (h : i < ss.length) : gI (rs ss w) i = gI ss i * w % ss.sum := gI_map h
theorem sum_gI : ∀ (r : List Int), r.sum = ((List.range r.length).map (gI r)).sum
  | [] => rfl
  | a :: r => by
    rw [List.length_cons, List.range_succ_eq_map, List.map_cons, List.map_map, List.sum_cons, List.sum_cons, sum_gI r]
    congr 1
theorem sum_ord (r : List Int) {o : List Nat} (h : o.Perm (List.range r.length)) : r.sum = (o.map (gI r)).sum := by
  rw [sum_gI r]
  exact (perm_sum (h.map (gI r))).symm
theorem sum_zero : ∀ {l : List Int}, (∀ x ∈ l, x = 0) → l.sum = 0
  | [], _ => rfl
  | a :: l, h => by
    rw [List.sum_cons, h a List.mem_cons_self, sum_zero fun x hx => h x (List.mem_cons_of_mem _ hx)]; rfl
theorem sum_le : ∀ {l : List Int} {T : Int}, (∀ x ∈ l, x ≤ T) → l.sum ≤ l.length * T
  | [], _, _ => by simp
  | a :: l, T, h => by
    have h1 := h a List.mem_cons_self
    have h2 := sum_le fun x hx => h x (List.mem_cons_of_mem _ hx)
    rw [List.sum_cons, List.length_cons]
    have e : ((l.length + 1 : Nat) : Int) * T = (l.length : Int) * T + T := by
      rw [Int.natCast_add, Int.add_mul]; simp
    rw [e]
    omega
/-- who has one more has a rest -/
theorem chosen_pos (hT : 0 < ss.sum) {i : Nat} (hi : i ∈ (ordR (rs ss w)).take (mny ss w)) : 0 < gI (rs ss w) i := by
  obtain ⟨e, p, hm, hlt⟩ := mny_eq (w := w) hT
  have hl : (rs ss w).length = ss.length := by simp [rs]
  have nn : ∀ j, 0 ≤ gI (rs ss w) j ∧ gI (rs ss w) j < ss.sum := fun j => by
    by_cases h : j < ss.length
    · rw [rs_get h]
      exact ⟨Int.emod_nonneg _ (by omega), Int.emod_lt_of_pos _ hT⟩
    · have : gI (rs ss w) j = 0 := by unfold gI; rw [List.getD_eq_getElem?_getD, List.getElem?_eq_none (by omega)]; rfl
      rw [this]; omega
  by_cases h : 0 < gI (rs ss w) i
  · exact h
  · have h0 : gI (rs ss w) i = 0 := by have := (nn i).1; omega
    obtain ⟨t, ht, et⟩ := List.getElem_of_mem hi
    have rk := ordR_rk (rs ss w)
    generalize hO : ordR (rs ss w) = o at *
    rw [List.length_take] at ht
    have ht1 : t < o.length := by omega
    have et : o[t] = i := by rw [← et]; simp
    have es := sum_ord (rs ss w) rk.perm
    have hsplit : o = o.take t ++ o.drop t := (List.take_append_drop t o).symm
    rw [hsplit, List.map_append, List.sum_append] at es
    have z : ((o.drop t).map (gI (rs ss w))).sum = 0 := by
      refine sum_zero fun x hx => ?_
      obtain ⟨j, hj, rfl⟩ := List.mem_map.mp hx
      obtain ⟨k, hk, ek⟩ := List.getElem_of_mem hj
      rw [List.getElem_drop] at ek
      rw [List.length_drop] at hk
      by_cases hk0 : k = 0
      · subst hk0
        simp only [Nat.add_zero] at ek
        rw [← ek, et, h0]
      · have := List.pairwise_iff_getElem.mp rk.ord t (t + k) ht1 (by omega) (by omega)
        rw [et, ek] at this
        unfold Ahd at this
        have := (nn j).1
        omega
    have u : ((o.take t).map (gI (rs ss w))).sum ≤ ((o.take t).map (gI (rs ss w))).length * ss.sum := sum_le fun x hx => by
      obtain ⟨j, hj, rfl⟩ := List.mem_map.mp hx
      have := (nn j).2
      omega
    rw [List.length_map, List.length_take] at u
    have u2 : ((min t o.length : Nat) : Int) * ss.sum ≤ (t : Int) * ss.sum := Int.mul_le_mul_of_nonneg_right (by omega) (by omega)
    have u3 : ((t : Int) + 1) * ss.sum ≤ (mny ss w : Int) * ss.sum := Int.mul_le_mul_of_nonneg_right (by omega) (by omega)
    rw [Int.add_mul] at u3
    rw [hm, e] at u3
    omega
theorem parts_near (hT : 0 < ss.sum) {i : Nat} (hi : i < ss.length) : (gI (partsI ss w) i * ss.sum - gI ss i * w).natAbs < ss.sum.natAbs := by
  have e := Int.mul_ediv_add_emod (gI ss i * w) ss.sum
  rw [Int.mul_comm] at e
  have h1 := Int.emod_nonneg (gI ss i * w) (by omega : ss.sum ≠ 0)
  have h2 := Int.emod_lt_of_pos (gI ss i * w) hT
  rw [partsI_get]
  split
  · rename_i hc
    have := chosen_pos hT hc
    rw [rs_get hi] at this
    rw [fl_get hi, Int.add_mul]
    omega
  · rw [fl_get hi]
    omega
theorem parts_two (i : Nat) : gI (partsI ss w) i = gI (fl ss w) i ∨ gI (partsI ss w) i = gI (fl ss w) i + 1 := by
  rw [partsI_get]
  split
  · exact .inr rfl
  · exact .inl rfl
theorem parts_mono (hT : 0 < ss.sum) (hw : 0 ≤ w) {i j : Nat} (hi : i < ss.length) (hj : j < ss.length) (h : gI ss i < gI ss j) : gI (partsI ss w) i ≤ gI (partsI ss w) j := by
  have hle : gI ss i * w ≤ gI ss j * w := Int.mul_le_mul_of_nonneg_right (by omega) hw
  have f1 : gI (fl ss w) i ≤ gI (fl ss w) j := by
    rw [fl_get hi, fl_get hj]
    exact Int.ediv_le_ediv hT hle
  rw [partsI_get, partsI_get]
  by_cases hc : i ∈ (ordR (rs ss w)).take (mny ss w)
  · rw [if_pos hc]
    by_cases hd : j ∈ (ordR (rs ss w)).take (mny ss w)
    · rw [if_pos hd]; omega
    · rw [if_neg hd]
      by_cases hf : gI (fl ss w) i = gI (fl ss w) j
      · exfalso
        have hw0 : w ≠ 0 := fun z => by
          subst z
          have := chosen_pos hT hc
          rw [rs_get hi] at this
          simp at this
        have hlt : gI ss i * w < gI ss j * w := Int.mul_lt_mul_of_pos_right h (by omega)
        have hr : gI (rs ss w) i < gI (rs ss w) j := by
          have e1 := Int.mul_ediv_add_emod (gI ss i * w) ss.sum
          have e2 := Int.mul_ediv_add_emod (gI ss j * w) ss.sum
          rw [fl_get hi, fl_get hj] at hf
          rw [rs_get hi, rs_get hj]
          rw [hf] at e1
          omega
        have rk := ordR_rk (rs ss w)
        have hl : (rs ss w).length = ss.length := by simp [rs]
        have jm : j ∈ ordR (rs ss w) := rk.perm.mem_iff.mpr (List.mem_range.mpr (by omega))
        generalize hO : ordR (rs ss w) = o at *
        obtain ⟨t, ht, et⟩ := List.getElem_of_mem hc
        rw [List.length_take] at ht
        have et : o[t]'(by omega) = i := by rw [← et]; simp
        obtain ⟨k, hk, ek⟩ := List.getElem_of_mem jm
        have hk2 : mny ss w ≤ k := by
          by_cases z : mny ss w ≤ k
          · exact z
          · exfalso
            apply hd
            rw [← ek]
            refine List.mem_iff_getElem.mpr ⟨k, by rw [List.length_take]; omega, by simp⟩
        have := List.pairwise_iff_getElem.mp rk.ord t k (by omega) hk (by omega)
        rw [et, ek] at this
        unfold Ahd at this
        omega
      · omega
  · rw [if_neg hc]
    split <;> omega
end
theorem Ahd_scale {r r' : List Int} {c : Int} (hc : 0 < c) (h : ∀ i, gI r' i = c * gI r i) (a b : Nat) : Ahd r a b → Ahd r' a b := by
  unfold Ahd
  rw [h a, h b]
  rintro (z | ⟨z1, z2⟩)
  · exact .inl (Int.mul_lt_mul_of_pos_left z hc)
  · exact .inr ⟨by rw [z1], z2⟩
theorem sum_scale (c : Int) : ∀ l : List Int, (l.map fun s => s * c).sum = c * l.sum
  | [] => by simp
  | a :: l => by simp only [List.map_cons, List.sum_cons, sum_scale c l, Int.mul_add, Int.mul_comm a c]
theorem gI_out {l : List Int} {i : Nat} (h : l.length ≤ i) : gI l i = 0 := by
  unfold gI
  rw [List.getD_eq_getElem?_getD, List.getElem?_eq_none h]
  rfl
theorem parts_scale {ss : List Int} {w c : Int} (hc : 0 < c) : partsI (ss.map fun s => s * c) w = partsI ss w := by
  have e1 : (ss.map fun s => s * c).sum = c * ss.sum := sum_scale c ss
  have e2 : fl (ss.map fun s => s * c) w = fl ss w := by
    unfold fl
    rw [e1, List.map_map]
    apply List.map_congr_left
    intro s _
    show s * c * w / (c * ss.sum) = s * w / ss.sum
    rw [show s * c * w = c * (s * w) by rw [Int.mul_assoc, Int.mul_left_comm]]
    exact Int.mul_ediv_mul_of_pos _ _ hc
  have e3 : ∀ i, gI (rs (ss.map fun s => s * c) w) i = c * gI (rs ss w) i := fun i => by
    by_cases h : i < ss.length
    · unfold rs
      rw [List.map_map, gI_map h, gI_map h, e1]
      show gI ss i * c * w % (c * ss.sum) = c * (gI ss i * w % ss.sum)
      rw [show gI ss i * c * w = c * (gI ss i * w) by rw [Int.mul_assoc, Int.mul_left_comm]]
      exact Int.mul_emod_mul_of_pos _ _ hc
    · rw [gI_out (by simp [rs]; omega), gI_out (by simp [rs]; omega)]; simp
  have e4 : ordR (rs (ss.map fun s => s * c) w) = ordR (rs ss w) := by
    refine (ordR_rk _).uniq ⟨?_, ?_⟩
    · have := (ordR_rk (rs ss w)).perm
      have e : (rs ss w).length = (rs (ss.map fun s => s * c) w).length := by simp [rs]
      rw [← e]
      exact this
    · exact (ordR_rk (rs ss w)).ord.imp fun {a b} h => Ahd_scale hc e3 a b h
  unfold partsI mny
  rw [e2, e4]
theorem parts_even {ss : List Int} {c : Int} (hT : 0 < ss.sum) : partsI ss (c * ss.sum) = ss.map fun s => c * s := by
  have e1 : fl ss (c * ss.sum) = ss.map fun s => c * s := by
    unfold fl
    apply List.map_congr_left
    intro s _
    show s * (c * ss.sum) / ss.sum = c * s
    rw [← Int.mul_assoc, Int.mul_ediv_cancel _ (by omega), Int.mul_comm]
  have e2 : mny ss (c * ss.sum) = 0 := by
    unfold mny
    rw [e1]
    have : (ss.map fun s => c * s).sum = c * ss.sum := by
      rw [← sum_scale c ss]
      congr 1
      apply List.map_congr_left
      intro s _
      exact Int.mul_comm _ _
    rw [this]
    omega
  unfold partsI
  rw [e2, e1]
  rfl
/-- the next one in turn is the first of the greatest that is left -/
theorem next_max {r : List Int} (hr : ∀ x ∈ r, 0 ≤ x) {t : Nat} (ht : t < r.length) : ∃ i, (ordR r)[t]? = some i ∧ i < r.length ∧ (∀ j, gI (negs r ((ordR r).take t)) j ≤ gI r i) ∧ gI (negs r ((ordR r).take t)) i = gI r i ∧ 0 ≤ gI r i ∧ ∀ j, j < i → gI (negs r ((ordR r).take t)) j ≠ gI r i := by
  have rk := ordR_rk r
  have hl := ordR_len r
  have hlt : ∀ i ∈ ordR r, i < r.length := fun i hi => ordR_lt hi
  have nd := ordR_nd r
  generalize hO : ordR r = o at *
  have ht1 : t < o.length := by omega
  have hm : o[t] ∈ o := List.getElem_mem ht1
  have nn : ∀ j, 0 ≤ gI r j := fun j => by
    by_cases h : j < r.length
    · unfold gI
      rw [List.getD_eq_getElem?_getD, List.getElem?_eq_getElem h]
      exact hr _ (List.getElem_mem h)
    · rw [gI_out (by omega)]; omega
  have gt : ∀ j, gI (negs r (o.take t)) j = if j ∈ o.take t then -1 else gI r j := fun j => negs_get fun i hi => hlt i (List.mem_of_mem_take hi)
  have out : o[t] ∉ o.take t := fun h => by
    obtain ⟨k, hk, ek⟩ := List.getElem_of_mem h
    rw [List.length_take] at hk
    have ek : o[k]'(by omega) = o[t] := by rw [← ek]; simp
    have := (List.getElem_inj nd).mp ek
    omega
  -- those behind
  have beh : ∀ j, j < r.length → j ∉ o.take t → j = o[t] ∨ Ahd r o[t] j := fun j hj hn => by
    have jm : j ∈ o := rk.perm.mem_iff.mpr (List.mem_range.mpr hj)
    obtain ⟨k, hk, ek⟩ := List.getElem_of_mem jm
    have hk2 : t ≤ k := by
      by_cases z : t ≤ k
      · exact z
      · exfalso
        apply hn
        rw [← ek]
        exact List.mem_iff_getElem.mpr ⟨k, by rw [List.length_take]; omega, by simp⟩
    by_cases z : k = t
    · subst z; exact .inl ek.symm
    · have := List.pairwise_iff_getElem.mp rk.ord t k ht1 hk (by omega)
      rw [ek] at this
      exact .inr this
  refine ⟨o[t], by simp [ht1], hlt _ hm, fun j => ?_, ?_, nn _, fun j hj => ?_⟩
  · rw [gt j]
    split
    · have := nn o[t]; omega
    · rename_i hn
      by_cases h : j < r.length
      · rcases beh j h hn with e | e
        · rw [e]; omega
        · unfold Ahd at e; omega
      · rw [gI_out (by omega)]; exact nn _
  · rw [gt, if_neg out]
  · rw [gt j]
    split
    · have := nn o[t]; omega
    · rename_i hn
      have h : j < r.length := Nat.lt_trans hj (hlt _ hm)
      rcases beh j h hn with e | e
      · omega
      · unfold Ahd at e; omega
end L2.Pz

namespace L2.Pz
open PySem PySem.Spec L2 L2.Pz.Fn
theorem lcL_of {α : Type} {h : PyData → Rs (List PyData)} {mk g : α → PyData} : ∀ {l : List α}, (∀ a ∈ l, h (mk a) = .ok [g a]) → lcL h (l.map mk) = .ok (l.map g)
  | [], _ => rfl
  | d :: ds, k => by
    rw [List.map_cons]
    unfold lcL
    rw [k d List.mem_cons_self, Rs.bind_ok, lcL_of fun e he => k e (List.mem_cons_of_mem _ he)]
    rfl
/-- a comprehension whose items are all this truth -/
theorem lcL_all {α : Type} {h : PyData → Rs (List PyData)} {mk : α → PyData} {b : Bool} : ∀ {l : List α}, (∀ a ∈ l, h (mk a) = .ok [.bool b] ∨ h (mk a) = .ok []) → ∃ n, lcL h (l.map mk) = .ok (List.replicate n (.bool b))
  | [], _ => ⟨0, rfl⟩
  | d :: ds, k => by
    obtain ⟨n, hn⟩ := lcL_all fun e he => k e (List.mem_cons_of_mem _ he)
    rw [List.map_cons]
    unfold lcL
    rcases k d List.mem_cons_self with e | e
    · refine ⟨n + 1, ?_⟩
      rw [e, Rs.bind_ok, hn]
      rfl
    · refine ⟨n, ?_⟩
      rw [e, Rs.bind_ok, hn]
      rfl
theorem bools_repb (b : Bool) : ∀ n : Nat, bools (List.replicate n (.bool b)) = some (List.replicate n b)
  | 0 => rfl
  | n + 1 => by rw [List.replicate_succ, bools, bools_repb b n]; rfl
theorem anyD_rep (n : Nat) : anyD (.list (List.replicate n (.bool false))) = .ok (.bool false) := by
  simp [anyD, bools_repb]
def inT (ss : List Int) : PyData := .tuple (ss.map PyData.int)
/-- shares that can be dealt by -/
structure Shr (ss : List Int) : Prop where
  pos : 0 < ss.sum
  nn : ∀ s ∈ ss, 0 ≤ s ∧ s < 2 ^ 40
  len : ss.length ≤ 1000
theorem sum_nn : ∀ {l : List Int}, (∀ x ∈ l, 0 ≤ x) → 0 ≤ l.sum
  | [], _ => by simp
  | a :: l, h => by
    have := h a List.mem_cons_self
    have := sum_nn fun x hx => h x (List.mem_cons_of_mem _ hx)
    rw [List.sum_cons]
    omega
theorem Shr.sml {ss : List Int} (h : Shr ss) : ss.sum.natAbs.log2 < 9000 := by
  have h1 := sum_le (l := ss) (T := 2 ^ 40) fun x hx => by have := (h.nn x hx).2; omega
  have h2 : (ss.length : Int) * 2 ^ 40 ≤ 1000 * 2 ^ 40 := Int.mul_le_mul_of_nonneg_right (by have := h.len; omega) (by decide)
  have h3 := h.pos
  exact log2_lt (Nat.lt_of_lt_of_le (show ss.sum.natAbs < 2 ^ 60 by omega) (Nat.pow_le_pow_right (by decide) (by decide))) (by decide)
theorem enumL_ints (ss : List Int) : enumL (ss.map PyData.int) = ss.zipIdx.map fun p => .tuple [.int (p.2 : Nat), .int p.1] := by
  unfold enumL
  rw [List.zipIdx_map, List.map_map]
  rfl
theorem cut_take {α : Type} (l : List α) (m : Nat) : cutL l none (some (m : Int)) = l.take m := by
  unfold cutL
  rw [HT.sIx_none, HT.sIx_nat, List.drop_zero, Nat.sub_zero, List.take_eq_take_iff]
  omega
theorem gI_at {f : List Int} {i : Nat} (h : i < f.length) : atI (f.map PyData.int) (i : Int) = some (.int (gI f i)) := by
  apply atI_nat
  unfold gI
  simp [List.getD_eq_getElem?_getD, h]
theorem ixN_nat {n i : Nat} (h : i < n) : ixN n (i : Int) = some i := by
  unfold ixN
  first
    | (rw [if_pos (by omega)]; simp; omega)
    | (simp; omega)
    | skip
/-- the loop that gives one more to each in turn -/
theorem give_loop {s0 s1 s2 s4 s7 : Option Sl} : ∀ (qs : List (Int × Int)) (f : List Int) (x5 x6 : Option Sl), (∀ p ∈ qs, 0 ≤ p.2 ∧ p.2.toNat < f.length) → ∃ y5 y6,
    forL (tgt (gT [gN 5, gN 6]) L1_parts) (qs.map prD) [s0, s1, s2, some (.own (f.map PyData.int)), s4, x5, x6, s7] = .nx [s0, s1, s2, some (.own ((incs f (qs.map fun p => p.2.toNat)).map PyData.int)), s4, y5, y6, s7]
  | [], f, x5, x6, _ => ⟨x5, x6, rfl⟩
  | p :: qs, f, x5, x6, h => by
    obtain ⟨h1, h2⟩ := h p List.mem_cons_self
    obtain ⟨y5, y6, e⟩ := give_loop (s0 := s0) (s1 := s1) (s2 := s2) (s4 := s4) (s7 := s7) qs (inc1 f p.2.toNat) (some (.v (.int p.1))) (some (.v (.int p.2))) fun q hq => by
      have := h q (List.mem_cons_of_mem _ hq)
      simpa [inc1] using this
    refine ⟨y5, y6, ?_⟩
    have ep : p.2 = ((p.2.toNat : Nat) : Int) := by omega
    have step : tgt (gT [gN 5, gN 6]) L1_parts (prD p) [s0, s1, s2, some (.own (f.map PyData.int)), s4, x5, x6, s7] = .nx [s0, s1, s2, some (.own ((inc1 f p.2.toNat).map PyData.int)), s4, some (.v (.int p.1)), some (.v (.int p.2)), s7] := by
      have a1 : atI (f.map PyData.int) p.2 = some (.int (gI f p.2.toNat)) := by
        have := gI_at h2
        rwa [← ep] at this
      have a2 : ixN (f.map PyData.int).length p.2 = some p.2.toNat := by
        rw [List.length_map]
        have := ixN_nat h2
        rwa [← ep] at this
      rw [List.length_map] at a2
      simp [L1_parts, a1, a2, inc1, List.map_set]
    rw [List.map_cons]
    unfold forL
    rw [step]
    exact e
theorem parts_eq {ss : List Int} {w : Int} (h : Shr ss) (hw : 0 ≤ w) : F_parts [inT ss, .int w] = .ok (inT (partsI ss w)) := by
  have hz : ss.length ≤ sizeLine := Nat.le_trans h.len (by decide)
  have m : ∀ s ∈ ss, mulOk s w = true := fun s hs => mulOk_l (by have := h.nn s hs; omega)
  have hp := h.pos
  have hs := h.sml
  obtain ⟨_, hm0, hm, hlt⟩ := mny_eq (w := w) hp
  have c1 : lcL (lc1 (gN 7) bYes C1_parts [some (.v (inT ss)), some (.v (.int w)), some (.v (.int ss.sum)), none, none, none, none, none]) (ss.map PyData.int) = .ok ((fl ss w).map PyData.int) := by
    rw [lcL_of (g := fun s => .int (s * w / ss.sum)) fun s hs' => by simp [C1_parts, m s hs', hp, hs]]
    unfold fl
    rw [List.map_map]
    rfl
  have c2 : lcL (lc1 (gT [gN 6, gN 7]) bYes C2_parts [some (.v (inT ss)), some (.v (.int w)), some (.v (.int ss.sum)), some (.own ((fl ss w).map PyData.int)), none, none, none, none]) (ss.zipIdx.map fun p => .tuple [.int (p.2 : Nat), .int p.1]) = .ok ((pairsR (rs ss w)).map prD) := by
    rw [lcL_of (g := fun p => prD (-(p.1 * w % ss.sum), (p.2 : Nat))) fun p hp' => by
      have : p.1 ∈ ss := by
        have := List.mem_zipIdx hp'
        rw [this.2.2]; exact List.getElem_mem _
      simp [C2_parts, m p.1 this, hp]]
    unfold pairsR rs
    rw [List.zipIdx_map, List.map_map, List.map_map]
    rfl
  obtain ⟨y5, y6, lp⟩ := give_loop (s0 := some (.v (inT ss))) (s1 := some (.v (.int w))) (s2 := some (.v (.int ss.sum))) (s4 := some (.v (.list ((sortP (pairsR (rs ss w))).map prD)))) (s7 := none) ((sortP (pairsR (rs ss w))).take (mny ss w)) (fl ss w) none none fun p hp' => by
    have := pairsR_mem ((sortP_perm _).mem_iff.mp (List.mem_of_mem_take hp'))
    have e : (rs ss w).length = (fl ss w).length := by simp [rs, fl]
    omega
  have e1 : cutL ((sortP (pairsR (rs ss w))).map prD) none (some (w - (fl ss w).sum)) = ((sortP (pairsR (rs ss w))).take (mny ss w)).map prD := by
    rw [← hm, cut_take, List.map_take]
  have e2 : incs (fl ss w) (((sortP (pairsR (rs ss w))).take (mny ss w)).map fun p => p.2.toNat) = partsI ss w := by
    unfold partsI ordR
    rw [List.map_take]
  rw [e2] at lp
  unfold inT at *
  unfold F_parts b_parts
  have hz2 : ss.zipIdx.length ≤ sizeLine := by simpa using hz
  rw [List.map_take] at lp e1
  generalize hL : (sortP (pairsR (rs ss w))).map prD = L at *
  simp [hz, hz2, c1, c2, enumL_ints, e1, lp, hL]
/-! ### the law's own dealing -/
theorem lay_loop {s0 s7 s8 : Option Sl} {w T : Int} (hT : 0 < T) (hs : T.natAbs.log2 < 9000) (hT2 : T.natAbs < 2 ^ 64) : ∀ (l f r : List Int) (x5 x6 : Option Sl), (∀ s ∈ l, mulOk s w = true) → f.length = r.length → f.length + l.length ≤ 1000 → ∃ y5 y6,
    forL (tgt (gN 5) L1__law_parts) (l.map PyData.int) [s0, some (.v (.int w)), some (.v (.int T)), some (.own (f.map PyData.int)), some (.own (r.map PyData.int)), x5, x6, s7, s8]
      = .nx [s0, some (.v (.int w)), some (.v (.int T)), some (.own ((f ++ l.map fun s => s * w / T).map PyData.int)), some (.own ((r ++ l.map fun s => s * w % T).map PyData.int)), y5, y6, s7, s8]
  | [], f, r, x5, x6, _, _, _ => ⟨x5, x6, by simp [forL]⟩
  | s :: l, f, r, x5, x6, h, he, hl => by
    have hz : f.length < sizeLine := Nat.lt_of_le_of_lt (by simp at hl; omega) (show 1000 < sizeLine by decide)
    have m := h s List.mem_cons_self
    have m2 : mulOk (s * w / T) T = true := mulOk_r hT2
    have e0 : s * w - s * w / T * T = s * w % T := by
      have := Int.mul_ediv_add_emod (s * w) T
      rw [Int.mul_comm] at this
      omega
    obtain ⟨y5, y6, e⟩ := lay_loop (s0 := s0) (s7 := s7) (s8 := s8) (w := w) hT hs hT2 l (f ++ [s * w / T]) (r ++ [s * w % T]) (some (.v (.int s))) (some (.v (.int (s * w / T)))) (fun q hq => h q (List.mem_cons_of_mem _ hq)) (by simp [he]) (by simp at hl ⊢; omega)
    refine ⟨y5, y6, ?_⟩
    have step : tgt (gN 5) L1__law_parts (.int s) [s0, some (.v (.int w)), some (.v (.int T)), some (.own (f.map PyData.int)), some (.own (r.map PyData.int)), x5, x6, s7, s8] = .nx [s0, some (.v (.int w)), some (.v (.int T)), some (.own ((f ++ [s * w / T]).map PyData.int)), some (.own ((r ++ [s * w % T]).map PyData.int)), some (.v (.int s)), some (.v (.int (s * w / T))), s7, s8] := by
      have hz2 : r.length < sizeLine := by omega
      simp [L1__law_parts, m, m2, hT, hs, hz, hz2, e0]
    rw [List.map_cons]
    unfold forL
    rw [step]
    simp only [e]
    simp
theorem maxI_is {l : List Int} {i : Nat} (hi : i < l.length) (h : ∀ j, gI l j ≤ gI l i) : ∃ n ns, l = n :: ns ∧ maxI (n :: ns) = gI l i := by
  cases l with
  | nil => simp at hi
  | cons n ns =>
    refine ⟨n, ns, rfl, ?_⟩
    obtain ⟨h1, h2⟩ := maxI_mem n ns
    refine Int.le_antisymm ?_ (h2 _ ?_)
    · obtain ⟨j, hj, ej⟩ := List.getElem_of_mem h1
      have := h j
      unfold gI at this ⊢
      rw [List.getD_eq_getElem?_getD, List.getElem?_eq_getElem hj, ej] at this
      exact this
    · unfold gI
      rw [List.getD_eq_getElem?_getD, List.getElem?_eq_getElem hi]
      exact List.getElem_mem hi
theorem find_is {l : List Int} {i : Nat} {x : Int} (hi : i < l.length) (h1 : gI l i = x) (h2 : ∀ j, j < i → gI l j ≠ x) : (l.map PyData.int).findIdx? (fun y => eqF y (.int x)) = some i := by
  refine List.findIdx?_eq_some_iff_getElem.mpr ⟨by simpa using hi, ?_, fun j hj => ?_⟩
  · unfold gI at h1
    rw [List.getD_eq_getElem?_getD, List.getElem?_eq_getElem hi] at h1
    simp only [Option.getD_some] at h1
    simp [eqF, h1]
  · have := h2 j hj
    unfold gI at this
    rw [List.getD_eq_getElem?_getD, List.getElem?_eq_getElem (by omega)] at this
    simp only [Option.getD_some] at this
    simpa [eqF] using this
theorem indexD_int {l : List Int} {i : Nat} {x : Int} (h : (l.map PyData.int).findIdx? (fun y => eqF y (.int x)) = some i) : indexD (.list (l.map PyData.int)) (.int x) = .ok (.int (i : Nat)) := by
  have fl : (l.map PyData.int).all flatD = true := by
    rw [List.all_map]
    exact List.all_eq_true.mpr fun _ _ => rfl
  have fx : flatD (.int x) = true := rfl
  unfold indexD
  simp only [fl, fx, Bool.and_self, if_true, h]
theorem turn_step {s0 s1 s2 s5 s6 x7 x8 : Option Sl} {f r : List Int} {i : Nat} (hf : i < f.length) (hi : i < r.length) (h1 : ∀ j, gI r j ≤ gI r i) (h2 : ∀ j, j < i → gI r j ≠ gI r i) (d : PyData) :
    tgt (gN 7) L2__law_parts d [s0, s1, s2, some (.own (f.map PyData.int)), some (.own (r.map PyData.int)), s5, s6, x7, x8] = .nx [s0, s1, s2, some (.own ((inc1 f i).map PyData.int)), some (.own ((neg1 r i).map PyData.int)), s5, s6, some (.v d), some (.v (.int (i : Nat)))] := by
  obtain ⟨n, ns, e1, e2⟩ := maxI_is hi h1
  have hm : maxLD (.list (r.map PyData.int)) = .ok (.int (gI r i)) := by
    rw [e1, List.map_cons, maxLD_l, e2]
    rw [← e1]
  have hx := indexD_int (find_is hi rfl h2)
  have a1 := gI_at hf
  have a2 := ixN_nat hf
  have a3 := ixN_nat hi
  unfold inc1 neg1
  clear h1 h2 e2
  generalize gI r i = g at *
  generalize gI f i = g2 at *
  simp [L2__law_parts, hm, hx, a1, a2, a3, List.map_set]
theorem law_parts_eq {ss : List Int} {w : Int} (h : Shr ss) (hw : 0 ≤ w) (hw2 : w < 2 ^ 60) : F__law_parts [inT ss, .int w] = .ok (inT (partsI ss w)) := by
  have m : ∀ s ∈ ss, mulOk s w = true := fun s hs => mulOk_l (by have := h.nn s hs; omega)
  have hp := h.pos
  have hs := h.sml
  obtain ⟨_, hm0, hm, hlt⟩ := mny_eq (w := w) hp
  have hT2 : ss.sum.natAbs < 2 ^ 64 := by
    have h1 := sum_le (l := ss) (T := 2 ^ 40) fun x hx => by have := (h.nn x hx).2; omega
    have h2 : (ss.length : Int) * 2 ^ 40 ≤ 1000 * 2 ^ 40 := Int.mul_le_mul_of_nonneg_right (by have := h.len; omega) (by decide)
    omega
  obtain ⟨y5, y6, l1⟩ := lay_loop (s0 := some (.v (inT ss))) (s7 := none) (s8 := none) (w := w) hp hs hT2 ss [] [] none none m rfl (by simpa using h.len)
  have rr : ∀ x ∈ rs ss w, 0 ≤ x := fun x hx => by
    obtain ⟨s, _, rfl⟩ := List.mem_map.mp hx
    exact Int.emod_nonneg _ (by omega)
  have hl : (rs ss w).length = ss.length := by simp [rs]
  have hl2 : (fl ss w).length = ss.length := by simp [fl]
  have olen := ordR_len (rs ss w)
  let st : Nat → En := fun t => [some (.v (inT ss)), some (.v (.int w)), some (.v (.int ss.sum)), some (.own ((incs (fl ss w) ((ordR (rs ss w)).take t)).map PyData.int)), some (.own ((negs (rs ss w) ((ordR (rs ss w)).take t)).map PyData.int)), y5, y6,
    if t = 0 then none else some (.v (.int (0 + ((t - 1 : Nat) : Int)))), if t = 0 then none else some (.v (.int (((ordR (rs ss w)).getD (t - 1) 0 : Nat) : Int)))]
  have l2 : forL (tgt (gN 7) L2__law_parts) (rangeD 0 (mny ss w)) (st 0) = .nx (st (mny ss w)) := forR_st st fun t ht => by
    obtain ⟨i, e1, e2, e3, e4, e5, e6⟩ := next_max rr (t := t) (by omega)
    have nl : (negs (rs ss w) ((ordR (rs ss w)).take t)).length = ss.length := by rw [negs_len, hl]
    have il : (incs (fl ss w) ((ordR (rs ss w)).take t)).length = ss.length := by rw [incs_len, hl2]
    have tk : (ordR (rs ss w)).take (t + 1) = (ordR (rs ss w)).take t ++ [i] := by
      rw [List.take_succ, e1]
      rfl
    have step := turn_step (s0 := some (.v (inT ss))) (s1 := some (.v (.int w))) (s2 := some (.v (.int ss.sum))) (s5 := y5) (s6 := y6) (x7 := if t = 0 then none else some (.v (.int (0 + ((t - 1 : Nat) : Int))))) (x8 := if t = 0 then none else some (.v (.int (((ordR (rs ss w)).getD (t - 1) 0 : Nat) : Int))))
      (f := incs (fl ss w) ((ordR (rs ss w)).take t)) (r := negs (rs ss w) ((ordR (rs ss w)).take t)) (i := i) (by omega) (by omega) (fun j => by rw [e4]; exact e3 j) (fun j hj => by rw [e4]; exact e6 j hj) (.int (0 + (t : Nat)))
    have eg : (ordR (rs ss w)).getD t 0 = i := by
      rw [List.getD_eq_getElem?_getD, e1]; rfl
    show tgt (gN 7) L2__law_parts (.int (0 + (t : Nat))) (st t) = .nx (st (t + 1))
    have e7 : st (t + 1) = [some (.v (inT ss)), some (.v (.int w)), some (.v (.int ss.sum)), some (.own ((inc1 (incs (fl ss w) ((ordR (rs ss w)).take t)) i).map PyData.int)), some (.own ((neg1 (negs (rs ss w) ((ordR (rs ss w)).take t)) i).map PyData.int)), y5, y6, some (.v (.int (0 + (t : Nat)))), some (.v (.int (i : Nat)))] := by
      show [_, _, _, _, _, _, _, _, _] = _
      rw [tk]
      unfold incs negs
      rw [List.foldl_append, List.foldl_append, if_neg (by omega), if_neg (by omega), Nat.add_sub_cancel, eg]
      rfl
    rw [e7]
    exact step
  have s0e : st 0 = [some (.v (inT ss)), some (.v (.int w)), some (.v (.int ss.sum)), some (.own ((fl ss w).map PyData.int)), some (.own ((rs ss w).map PyData.int)), y5, y6, none, none] := rfl
  rw [s0e] at l2
  have l1' : forL (tgt (gN 5) L1__law_parts) (ss.map PyData.int) [some (.v (inT ss)), some (.v (.int w)), some (.v (.int ss.sum)), some (.own []), some (.own []), none, none, none, none] = .nx [some (.v (inT ss)), some (.v (.int w)), some (.v (.int ss.sum)), some (.own ((fl ss w).map PyData.int)), some (.own ((rs ss w).map PyData.int)), y5, y6, none, none] := l1
  have r1 : w - (fl ss w).sum < 4611686018427387904 ∧ -4611686018427387904 ≤ w - (fl ss w).sum := by
    have := h.len
    omega
  have hmn : (w - (fl ss w).sum).toNat = mny ss w := rfl
  have fin : st (mny ss w) = [some (.v (inT ss)), some (.v (.int w)), some (.v (.int ss.sum)), some (.own ((partsI ss w).map PyData.int)), some (.own ((negs (rs ss w) ((ordR (rs ss w)).take (mny ss w))).map PyData.int)), y5, y6,
    if mny ss w = 0 then none else some (.v (.int (0 + ((mny ss w - 1 : Nat) : Int)))), if mny ss w = 0 then none else some (.v (.int (((ordR (rs ss w)).getD (mny ss w - 1) 0 : Nat) : Int)))] := rfl
  rw [fin] at l2
  unfold inT at *
  unfold F__law_parts b__law_parts
  simp [l1', r1, hmn, l2, range1D]
end L2.Pz

namespace L2.Pz
open PySem PySem.Spec PyProof.Rows
/-! ### raise, try -/
/-- an own exception class over ValueError, by its name -/
structure ExN (K : PySem.W.Frag) (mg : Str → Option Value) (c : Str) : Prop where
  ex : ∃ C, mg c = some (.ref C) ∧ PySem.W.excIn K C He.veBase "ValueError.__new__" = true ∧ PySem.W.keepIn K (.ref C) = true ∧ PySem.W.subIn K (.ref C) (.type "BaseException") = some true ∧ PySem.W.typeIn K (.ref C) = some (.type "type") ∧ ExcC K C
@[simp] def sRaise (c : Str) (ρ : En) : SR := .er c ρ
@[simp] def clr (i : Nat) : SR → SR
  | .nx ρ => .nx (ρ.set i none)
  | .rt d => .rt d
  | .bk ρ => .bk (ρ.set i none)
  | .ct ρ => .ct (ρ.set i none)
  | _ => .no
@[simp] def noEr : SR → SR
  | .er _ _ => .no
  | r => r
open Classical in
noncomputable def unif (f : Addr → SR) : SR := if ∀ a, f a = f 0 then f 0 else .no
@[simp] theorem unif_const (r : SR) : unif (fun _ => r) = r := by unfold unif; rw [if_pos (fun _ => rfl)]
theorem unif_pos {f : Addr → SR} (h : unif f ≠ .no) (a : Addr) : f a = unif f := by
  unfold unif at h ⊢
  split at h
  · rename_i k; rw [if_pos k]; exact k a
  · exact absurd rfl h
/-- try .. except X: .. -/
@[simp] def sTry (tbl : List (Str × Bool)) (g gs : SF) (ρ : En) : SR := match g ρ with
  | .er c ρ' => match tbl.lookup c with
    | some true => noEr (gs ρ')
    | some false => .er c ρ'
    | none => .no
  | r => r
/-- try .. except X as e: .. -/
@[simp] noncomputable def sTryAs (tbl : List (Str × Bool)) (i : Nat) (g : SF) (gs : Addr → Str → SF) (ρ : En) : SR := match g ρ with
  | .er c ρ' => match tbl.lookup c with
    | some true => unif fun a => clr i (gs a c (ρ'.set i (some (.x a))))
    | some false => .er c ρ'
    | none => .no
  | r => r
/-- isinstance(e, X) -/
@[simp] def eIs (tbl : List (Str × Bool)) (i : Nat) (a : Addr) (c : Str) (ρ : En) : Rs PyData := match ρ[i]? with
  | some (some (.x b)) => if b = a then (match tbl.lookup c with
    | some r => .ok (.bool r)
    | none => .no) else .no
  | _ => .no
section
variable {K : PySem.W.Frag} {G0 H0 G H : Hp} {σ : St} {ρ : En} {i : Nat}
theorem EnvOk.put (E : EnvOk K G0 H0 G H σ ρ) (v : Option V) (s : Option Sl) (h : ∀ t, s = some t → ∃ u, v = some u ∧ SlOk K H0 G H u t) (no : ∀ ds, s ≠ some (.own ds)) : EnvOk K G0 H0 G H (σ.set i v) (ρ.set i s) := by
  refine ⟨E.gr, by simp [E.len], fun j t hj => ?_, fun j k ds es a h1 h2 h3 h4 => ?_⟩
  · by_cases e : i = j
    · subst e
      have hl : i < ρ.length := by
        have := (List.getElem?_eq_some_iff.mp hj).1
        simpa using this
      rw [List.getElem?_set_self hl] at hj
      obtain ⟨u, hu, hs⟩ := h t (Option.some.inj hj)
      refine ⟨u, ?_, hs⟩
      rw [List.getElem?_set_self (by rw [E.len]; exact hl), hu]
    · rw [List.getElem?_set_ne e] at hj ⊢
      exact E.sl j t hj
  · have ne : ∀ {j : Nat} {ds : List PyData}, (ρ.set i s)[j]? = some (some (.own ds)) → i ≠ j := fun {j ds} h e => by
      subst e
      have hl : i < ρ.length := by
        have := (List.getElem?_eq_some_iff.mp h).1
        simpa using this
      rw [List.getElem?_set_self hl] at h
      exact no ds (Option.some.inj h)
    have n1 := ne h1
    have n2 := ne h2
    rw [List.getElem?_set_ne n1] at h1 h3
    rw [List.getElem?_set_ne n2] at h2 h4
    exact E.inj j k ds es a h1 h2 h3 h4
end
section
variable {X : Cx} {W : WX} {e a b c tg : Expr} {st : Stmt} {sts rest body suite : List Stmt} {f fk : EF} {g g1 g2 gs : SF} {gt : GF} {p : En → Rs Bool} {pos : Pos} {i : Nat} {is : List Nat}
theorem ps1_raise {x m : Str} {j : Nat} {k : Nat} {pn p2 p3 : Pos} (cc : Cok X W k) (hc : X.calm = true) (hx : ExN X.K X.mg x) (hg : Gl X x) (hdb : (x == ("__debug__" : Str)) = false := by decide) :
    PS1 X W (.Raise (some (.Call (.Name x pn) [.Constant (.str m) j p2] [] p3)) none pos) (sRaise x) := by
  obtain ⟨C, h1, h2, h3, h4, h5, _⟩ := hx.ex
  refine ps_weak (ps_raise hc cc.tk (pmk_own PySem.F.excBase_ValueError h2 h1 h3 (raises_own h4 h5) hg hdb)) fun D σ H ⟨G0, H0, G, ρ, E, q⟩ => ?_
  have := q G H σ E (Same.refl _)
  unfold XC at this
  rw [h1] at this
  exact this
theorem lookup_mem {tbl : List (Str × Bool)} {c : Str} {b : Bool} (h : tbl.lookup c = some b) : (c, b) ∈ tbl := by
  induction tbl with
  | nil => cases h
  | cons q r ih =>
    obtain ⟨d, e⟩ := q
    by_cases k : (c == d) = true
    · rw [List.lookup, k] at h
      cases h
      rw [eq_of_beq k]
      exact List.mem_cons_self
    · have k' : (c == d) = false := by simpa using k
      rw [List.lookup, k'] at h
      exact List.mem_cons_of_mem _ (ih h)
theorem PoS.noer {K : PySem.W.Frag} {mg : Str → Option Value} {W W' : WX} {G0 H0 G : Hp} {D : Ends} {r : SR} (h : PoS K mg W G0 H0 G D (noEr r)) : PoS K mg W' G0 H0 G D r := by
  cases r with
  | er c ρ => exact h.elim
  | _ => exact h
/-- try: .. except x: .. -/
theorem ps1_try {x : Str} {cx : Value} {b₀ : Stmt} {np pos' : Pos} {tbl : List (Str × Bool)} {k : Nat} (cc : Cok X W k) (hs : X.stack = X.env :: X.outer) (hf : X.env.frame = some X.env.locals) (hc : Names X x cx)
    (ht : ∀ q ∈ tbl, PySem.W.exmOne X.K (XC X.mg q.1) cx = some q.2)
    (hb : ∀ (W' : WX) (pn : List (Addr × Obj)) (xe : Value → Shared → Prop), Cok (X.tr pn xe) W' k → PSD (X.tr pn xe) W' body g)
    (hsu : ∀ (a : Addr) (oe : Obj) (pn : List (Addr × Obj)), PSD (X.suite a ((a, oe) :: pn)) W0 (b₀ :: suite) gs) :
    PS1 X W (.Try body [.ExceptHandler (some (.Name x np)) none (b₀ :: suite) pos'] [] [] pos) (sTry tbl g gs) := by
  refine ps_weak (ps_try_only (tb := fun W' => tSD X.K X.mg W' g) (ts := fun _ _ _ => tSD X.K X.mg W0 gs) hs hf hc cc.tk (fun W' pn xe tk po => hb W' pn xe ⟨cc.hr, tk, po⟩) (fun a oe _ _ pn _ _ => hsu a oe pn)) fun D σ H ⟨G0, H0, G, ρ, E, q⟩ => ?_
  refine ⟨G0, H0, G, ρ, E, ?_⟩
  unfold sTry at q
  cases r : g ρ with
  | er c ρ' =>
    rw [r] at q
    simp only at q
    intro G' H' σ' E' s'
    cases l : tbl.lookup c with
    | none => rw [l] at q; exact q.elim
    | some b =>
      rw [l] at q
      refine ⟨b, ht _ (lookup_mem l), fun hb1 a na => ?_, fun hb0 => ?_⟩
      · subst hb1
        exact ⟨G0, H0, G', ρ', E', (PoS.noer q).mono s'⟩
      · subst hb0
        exact q G' H' σ' E' s'
  | nx ρ' => rw [r] at q; exact q
  | rt d => rw [r] at q; exact q
  | bk ρ' => rw [r] at q; exact q
  | ct ρ' => rw [r] at q; exact q
  | no => rw [r] at q; exact q
theorem PoS.clr {K : PySem.W.Frag} {mg : Str → Option Value} {W W' : WX} {G0 H0 G : Hp} {D : Ends} {i : Nat} {r : SR} (h : PoS K mg W G0 H0 G D (Pz.clr i r)) :
    PoS K mg W' G0 H0 G { nx := fun σ' H' => D.nx (σ'.set i none) H', rt := D.rt, bk := fun σ' H' => D.bk (σ'.set i none) H', ct := fun σ' H' => D.ct (σ'.set i none) H' } r := by
  cases r with
  | nx ρ => exact fun G' H σ E s => h G' H _ (E.put none none (fun _ z => nomatch z) (fun _ z => nomatch z)) s
  | rt d => exact h
  | bk ρ => exact fun G' H σ E s => h G' H _ (E.put none none (fun _ z => nomatch z) (fun _ z => nomatch z)) s
  | ct ρ => exact fun G' H σ E s => h G' H _ (E.put none none (fun _ z => nomatch z) (fun _ z => nomatch z)) s
  | er c ρ => exact h.elim
  | no => exact h.elim
/-- what the suite knows of the exception -/
structure InSuite (X : Cx) (c : Str) (a : Addr) (oe : Obj) : Prop where
  ex : ∃ C, X.mg c = some (.ref C) ∧ ExcC X.K C ∧ Zc (.ref C) none oe
  fl : ∃ vs, oe.data = .fields vs
/-- try: .. except x as n: .. -/
theorem ps1_tryAs {x n : Str} {cx : Value} {b₀ : Stmt} {np pos' : Pos} {tbl : List (Str × Bool)} {k : Nat} {gs : Addr → Str → SF} (cc : Cok X W k) (hs : X.stack = X.env :: X.outer) (hf : X.env.frame = some X.env.locals) (hN : X.N.Nodup) (hi : X.N[i]? = some n) (hln : X.env.kindOf n = some .local)
    (hc : Names X x cx) (ht : ∀ q ∈ tbl, PySem.W.exmOne X.K (XC X.mg q.1) cx = some q.2) (he : ∀ q ∈ tbl, ExN X.K X.mg q.1)
    (hb : ∀ (W' : WX) (pn : List (Addr × Obj)) (xe : Value → Shared → Prop), Cok (X.tr pn xe) W' k → PSD (X.tr pn xe) W' body g)
    (hsu : ∀ (a : Addr) (oe : Obj) (pn : List (Addr × Obj)) (c : Str), InSuite X c a oe → PSD (X.suite a ((a, oe) :: pn)) W0 (b₀ :: suite) (gs a c)) :
    PS1 X W (.Try body [.ExceptHandler (some (.Name x np)) (some n) (b₀ :: suite) pos'] [] [] pos) (sTryAs tbl i g gs) := by
  refine ps_weak (ps_try_as (i := i) (tb := fun W' => tSD X.K X.mg W' g) (ts := fun a cls d D σ H => ∃ c C, X.mg c = some (.ref C) ∧ ExcC X.K C ∧ cls = .ref C ∧ d = none ∧ tSD X.K X.mg W0 (gs a c) D σ H) hs hf hN hi hln hc cc.tk (fun W' pn xe tk po => hb W' pn xe ⟨cc.hr, tk, po⟩)
    (fun a oe cls d pn hz hv => ⟨fun pins s σ H D I h => ?_⟩)) fun D σ H ⟨G0, H0, G, ρ, E, q⟩ => ?_
  · obtain ⟨c, C, h1, h2, rfl, rfl, h⟩ := h
    exact (hsu a oe pn c ⟨⟨C, h1, h2, hz⟩, hv⟩).run pins s σ H D I h
  refine ⟨G0, H0, G, ρ, E, ?_⟩
  unfold sTryAs at q
  cases r : g ρ with
  | er c ρ' =>
    rw [r] at q
    simp only at q
    intro G' H' σ' E' s'
    cases l : tbl.lookup c with
    | none => rw [l] at q; exact q.elim
    | some b =>
      rw [l] at q
      refine ⟨b, ht _ (lookup_mem l), fun hb1 a na => ?_, fun hb0 => ?_⟩
      · subst hb1
        obtain ⟨C, h1, h2, h3, h4, h5, h6⟩ := (he _ (lookup_mem l)).ex
        simp only at h1
        refine ⟨c, C, h1, h6, by unfold XC; rw [h1]; rfl, rfl, G0, H0, G', ρ'.set i (some (.x a)), E'.put (some (.ref a)) (some (.x a)) (fun t ht => ⟨_, rfl, by cases ht; rfl⟩) (fun _ z => nomatch z), ?_⟩
        simp only at q
        have hne : unif (fun a => Pz.clr i (gs a c (ρ'.set i (some (.x a))))) ≠ .no := fun z => by rw [z] at q; exact q
        have := unif_pos hne a
        rw [← this] at q
        exact (PoS.clr q).mono s'
      · subst hb0
        exact q G' H' σ' E' s'
  | nx ρ' => rw [r] at q; exact q
  | rt d => rw [r] at q; exact q
  | bk ρ' => rw [r] at q; exact q
  | ct ρ' => rw [r] at q; exact q
  | no => rw [r] at q; exact q
/-- isinstance(e, x), x an own class or a built-in one -/
theorem pd_isX {y x : Str} {c : Str} {ad : Addr} {oe : Obj} {pn : List (Addr × Obj)} {cv : V} {cu : Value} {tbl : List (Str × Bool)} {p py px : Pos} (S : InSuite X c ad oe) (kv : PE (X.suite ad ((ad, oe) :: pn)) (.Name y py) (tVar i))
    (hcl : PE (X.suite ad ((ad, oe) :: pn)) (.Name x px) (tC cv)) (hcv : ∀ u, RelV cv u → u = cu) (ht : ∀ q ∈ tbl, ∀ C, X.mg q.1 = some (.ref C) → PySem.W.kitOne X.K (.ref C) cu = some q.2)
    (hg : Gl X "isinstance") (hm : X.mg "isinstance" = none)
    (he2 : starEach [.Name x px] X.env = [(false, eval (.Name x px) X.env)] := by rfl) (he : starEach [.Name y py, .Name x px] X.env = (false, eval (.Name y py) X.env) :: starEach [.Name x px] X.env := by rfl) :
    PD (X.suite ad ((ad, oe) :: pn)) W0 (.Call (.Name "isinstance" p) [.Name y py, .Name x px] [] pos) (eIs tbl i ad c) := by
  obtain ⟨⟨C, h1, h2, h3⟩, h4⟩ := S
  refine pe_weak (pe_callB (call_isE h2 h3 h4) hg hm (by decide +kernel) (pa_cons kv (pa_cons hcl pa_nil he2) he) (by decide) (by decide) he (by rw [he2]; rfl)) fun σ H Q ⟨G0, H0, G, ρ, E, q⟩ => ?_
  unfold eIs at q
  split at q
  · rename_i b hb
    split at q
    · rename_i hab
      subst hab
      obtain ⟨u, hu, hs⟩ := E.sl i _ hb
      change u = .ref b at hs
      subst hs
      split at q
      · rename_i r hr
        refine ⟨.ref b, hu, cv, cu, r, rfl, hcv, ht _ (lookup_mem hr) C h1, ?_⟩
        exact q (.bl r) G H (Gr.refl E.gr.sub) (.bl r)
      · exact q.elim
    · exact q.elim
  · exact q.elim
end
end L2.Pz

namespace L2.Pz
open PySem PySem.Spec PyProof.Rows
/-! ### what the head says besides -/
def excCB (K : PySem.W.Frag) (D : Addr) : Bool :=
  He.eqO (PySem.W.findIn K (.ref D) "__getattribute__") (some (some (.builtin "BaseException.__getattribute__"))) && (He.eqO (PySem.W.findIn K (.ref D) "__getattr__") (some none) && (decide (PySem.W.subIn K (.ref D) (.type "BaseException") = some true) && (PySem.W.hasDictIn K D &&
  (He.eqO (PySem.W.findIn K (.ref D) "__class__") (some (some (.builtin "object.__class__"))) && (He.eqO (PySem.W.specialIn K (.builtin "object.__class__") "__get__") (some (some (.builtin "getset_descriptor.__get__"))) && (decide (PySem.W.takesIn K (.builtin "object.__class__") = some true) && decide (PySem.W.mroIn K D (.type "object") = some true)))))))
theorem excCB_ok {K : PySem.W.Frag} {D : Addr} (c : excCB K D = true) : ExcC K D := by
  obtain ⟨c1, c⟩ := He.ba c
  obtain ⟨c2, c⟩ := He.ba c
  obtain ⟨c3, c⟩ := He.ba c
  obtain ⟨c4, c⟩ := He.ba c
  obtain ⟨c5, c⟩ := He.ba c
  obtain ⟨c6, c⟩ := He.ba c
  obtain ⟨c7, c8⟩ := He.ba c
  exact ⟨He.eqO_ok c1, He.eqO_ok c2, of_decide_eq_true c3, c4, He.eqO_ok c5, He.eqO_ok c6, of_decide_eq_true c7, of_decide_eq_true c8⟩
inductive Fx where
  | exc (c : Str)
  | hd (x : Str) (tbl : List (Str × Bool))
  | is (x : Str) (tbl : List (Str × Bool))
  | ist (x : String) (tbl : List (Str × Bool))
  | tup (x : Str) (vs : List He.Dv)
def Fx.ok (K : PySem.W.Frag) : Fx → Bool
  | .exc c => (He.Fa.exc c).ok K && excCB K (He.ga K c)
  | .hd x tbl => tbl.all fun q => decide (PySem.W.exmOne K (.ref (He.ga K q.1)) (.ref (He.ga K x)) = some q.2)
  | .is x tbl => tbl.all fun q => decide (PySem.W.kitOne K (.ref (He.ga K q.1)) (.ref (He.ga K x)) = some q.2)
  | .ist x tbl => tbl.all fun q => decide (PySem.W.kitOne K (.ref (He.ga K q.1)) (.type x) = some q.2)
  | .tup x vs => He.tupB K x vs
def SaysE (fa : List He.Fa) (fn : List He.DefD) (fx : List Fx) (K : PySem.W.Frag) : Prop := He.SaysD fa fn K ∧ (fx.all fun f => f.ok K) = true
abbrev AlE : Type := He.AlD × Bool
def obsE (n : Nat) (fa : List He.Fa) (fn : List He.DefD) (fx : List Fx) (g : Addr → Option Obj) : AlE := (He.obsD fa fn (He.frG g (He.asD g n)), fx.all fun f => f.ok (He.frG g (He.asD g n)))
def hookE (n : Nat) (fa : List He.Fa) (fn : List He.DefD) (fx : List Fx) : PySem.W.Hook where
  α := AlE
  obs := fun s => obsE n fa fn fx s.heap.get?
  val := fun _ => (He.valD fn, true)
  says := fun _ h => ∃ K : PySem.W.Frag, K.In h ∧ SaysE fa fn fx K
  of := fun _ _ e => ⟨_, He.frG_in, congrArg (fun z : AlE => z.1) e, congrArg (fun z : AlE => z.2) e⟩
  keeps := fun _ _ _ ⟨K, hK, c⟩ k => ⟨K, PySem.W.Frag.In.keeps hK k, c⟩
theorem obsE_eq {n : Nat} {fa : List He.Fa} {fn : List He.DefD} {fx : List Fx} {g : Addr → Option Obj} {s : Shared} (h : ∀ a, g a = s.heap.get? a) : obsE n fa fn fx g = (hookE n fa fn fx).obs s := by
  have e : g = s.heap.get? := funext h
  rw [e] <;> rfl
theorem SaysE.x {fa : List He.Fa} {fn : List He.DefD} {fx : List Fx} {K : PySem.W.Frag} (c : SaysE fa fn fx K) (i : Nat) {f : Fx} (h : fx[i]? = some f := by rfl) : f.ok K = true := List.all_eq_true.mp c.2 f (List.mem_of_getElem? h)
section
variable {K : PySem.W.Frag} {mg : Str → Option Value}
theorem exN_of {c : Str} (g : mg c = some (.ref (He.ga K c))) (h : (Fx.exc c).ok K = true) : ExN K mg c := by
  obtain ⟨h1, h2⟩ := He.ba h
  obtain ⟨a1, a2, a3, a4⟩ := He.exc_ok h1
  exact ⟨_, g, a1, a2, a3, a4, excCB_ok h2⟩
/-- an except clause's class -/
structure HdN (K : PySem.W.Frag) (mg : Str → Option Value) (x : Str) (tbl : List (Str × Bool)) : Prop where
  nm : mg x = some (XC mg x)
  tb : ∀ q ∈ tbl, PySem.W.exmOne K (XC mg q.1) (XC mg x) = some q.2
  ex : ∀ q ∈ tbl, ExN K mg q.1
theorem hdN_of {x : Str} {tbl : List (Str × Bool)} (g : mg x = some (.ref (He.ga K x))) (h : (Fx.hd x tbl).ok K = true) (gm : ∀ q ∈ tbl, mg q.1 = some (.ref (He.ga K q.1))) (ex : ∀ q ∈ tbl, ExN K mg q.1) : HdN K mg x tbl := by
  have e : ∀ {y : Str}, mg y = some (.ref (He.ga K y)) → XC mg y = .ref (He.ga K y) := fun {y} z => by unfold XC; rw [z]; rfl
  refine ⟨by rw [e g]; exact g, fun q hq => ?_, ex⟩
  rw [e g, e (gm q hq)]
  exact of_decide_eq_true (List.all_eq_true.mp h q hq)
/-- a class that isinstance is asked for -/
structure IsC (K : PySem.W.Frag) (mg : Str → Option Value) (x : Str) (cv : V) (cu : Value) (tbl : List (Str × Bool)) : Prop where
  u : ∀ u, RelV cv u → u = cu
  tb : ∀ q ∈ tbl, ∀ C, mg q.1 = some (.ref C) → PySem.W.kitOne K (.ref C) cu = some q.2
structure IsO (K : PySem.W.Frag) (mg : Str → Option Value) (x : Str) (tbl : List (Str × Bool)) : Prop where
  ex : ∃ C, mg x = some (.ref C) ∧ IsC K mg x (.ref C) (.ref C) tbl
structure IsT (K : PySem.W.Frag) (mg : Str → Option Value) (x : Str) (T : String) (tbl : List (Str × Bool)) : Prop where
  m : mg x = none
  b : bootBuiltins x = some (.type T)
  c : IsC K mg x (.ty T) (.type T) tbl
theorem isO_of {x : Str} {tbl : List (Str × Bool)} (g : mg x = some (.ref (He.ga K x))) (h : (Fx.is x tbl).ok K = true) (gm : ∀ q ∈ tbl, mg q.1 = some (.ref (He.ga K q.1))) : IsO K mg x tbl := by
  refine ⟨_, g, fun u r => r, fun q hq C hC => ?_⟩
  have := gm q hq
  rw [hC] at this
  cases this
  exact of_decide_eq_true (List.all_eq_true.mp h q hq)
theorem isT_of {x : Str} {T : String} {tbl : List (Str × Bool)} (m : mg x = none) (b : bootBuiltins x = some (.type T)) (h : (Fx.ist T tbl).ok K = true) (gm : ∀ q ∈ tbl, mg q.1 = some (.ref (He.ga K q.1))) : IsT K mg x T tbl := by
  refine ⟨m, b, fun u r => r, fun q hq C hC => ?_⟩
  have := gm q hq
  rw [hC] at this
  cases this
  exact of_decide_eq_true (List.all_eq_true.mp h q hq)
/-- a module's constant -/
structure GlN (K : PySem.W.Frag) (mg : Str → Option Value) (x : Str) (d : PyData) : Prop where
  ex : ∃ v u, mg x = some u ∧ RelV v u ∧ ∀ G, Dq K G v d
theorem glN_int {h : Heap} (X : K.In h) (G : h.Ns mainGlobals mg) {x : Str} {i : Int} (c : (He.Fa.int x i).ok K = true) : GlN K mg x (.int i) := by
  obtain ⟨t, e⟩ := He.int_ok X G c
  exact ⟨.int i, _, e, ⟨t, rfl⟩, fun _ => .int i⟩
theorem glN_str {h : Heap} (X : K.In h) (G : h.Ns mainGlobals mg) {x : Str} {l : List Nat} (c : (He.Fa.str x (S l)).ok K = true) (hl : l.length ≤ sizeLine := by decide) : GlN K mg x (.str (S l)) := by
  obtain ⟨t, e⟩ := He.str_ok X G c
  exact ⟨.str (S l), _, e, ⟨t, rfl⟩, fun _ => .str _ hl⟩
theorem glN_ints {x : Str} {is : List Int} (g : mg x = some (.ref (He.ga K x))) (c : (Fx.tup x (is.map He.Dv.int)).ok K = true) : GlN K mg x (.tuple (is.map PyData.int)) := by
  refine ⟨.ref (He.ga K x), _, g, rfl, fun G => ?_⟩
  have := He.tupB_ok c G
  rw [List.map_map] at this
  refine .tup this ?_
  clear this c
  induction is with
  | nil => exact .nil
  | cons i r ih => exact .cons (.int i) ih
end
section
variable {X : Cx} {W : WX} {e a b c tg : Expr} {st : Stmt} {sts rest body suite : List Stmt} {f fk : EF} {g g1 g2 gs : SF} {pos : Pos} {i : Nat}
theorem pd_glob {x : Str} {d : PyData} (h : GlN X.K X.mg x d) (hg : Gl X x := by rfl) (hd : (x == ("__debug__" : Str)) = false := by decide) : PD X W (.Name x pos) (eC d) := by
  obtain ⟨v, u, h1, h2, h3⟩ := h.ex
  exact pe_weak (pe_glob hg h1 h2 hd) fun σ H Q ⟨G0, H0, G, ρ, E, q⟩ => q v G H (Gr.refl E.gr.sub) (h3 G)
theorem ps1_tryN {x : Str} {b₀ : Stmt} {np pos' : Pos} {tbl : List (Str × Bool)} {k : Nat} (cc : Cok X W k) (h : HdN X.K X.mg x tbl) (hs : X.stack = X.env :: X.outer) (hf : X.env.frame = some X.env.locals) (hg : Gl X x)
    (hb : ∀ (W' : WX) (pn : List (Addr × Obj)) (xe : Value → Shared → Prop), Cok (X.tr pn xe) W' k → PSD (X.tr pn xe) W' body g)
    (hsu : ∀ (a : Addr) (oe : Obj) (pn : List (Addr × Obj)), PSD (X.suite a ((a, oe) :: pn)) W0 (b₀ :: suite) gs) (hd : (x == ("__debug__" : Str)) = false := by decide) :
    PS1 X W (.Try body [.ExceptHandler (some (.Name x np)) none (b₀ :: suite) pos'] [] [] pos) (sTry tbl g gs) := ps1_try cc hs hf ⟨hg, hd, .inl h.nm⟩ h.tb hb hsu
theorem ps1_tryAsN {x n : Str} {b₀ : Stmt} {np pos' : Pos} {tbl : List (Str × Bool)} {k : Nat} {gs : Addr → Str → SF} (cc : Cok X W k) (h : HdN X.K X.mg x tbl) (hs : X.stack = X.env :: X.outer) (hf : X.env.frame = some X.env.locals) (hN : X.N.Nodup) (hi : X.N[i]? = some n) (hln : X.env.kindOf n = some .local) (hg : Gl X x)
    (hb : ∀ (W' : WX) (pn : List (Addr × Obj)) (xe : Value → Shared → Prop), Cok (X.tr pn xe) W' k → PSD (X.tr pn xe) W' body g)
    (hsu : ∀ (a : Addr) (oe : Obj) (pn : List (Addr × Obj)) (c : Str), InSuite X c a oe → PSD (X.suite a ((a, oe) :: pn)) W0 (b₀ :: suite) (gs a c)) (hd : (x == ("__debug__" : Str)) = false := by decide) :
    PS1 X W (.Try body [.ExceptHandler (some (.Name x np)) (some n) (b₀ :: suite) pos'] [] [] pos) (sTryAs tbl i g gs) := ps1_tryAs cc hs hf hN hi hln ⟨hg, hd, .inl h.nm⟩ h.tb h.ex hb hsu
theorem pd_isO {y x : Str} {c : Str} {ad : Addr} {oe : Obj} {pn : List (Addr × Obj)} {tbl : List (Str × Bool)} {p py px : Pos} (S : InSuite X c ad oe) (h : IsO X.K X.mg x tbl) (kv : PE (X.suite ad ((ad, oe) :: pn)) (.Name y py) (tVar i)) (hgx : Gl X x) (hg : Gl X "isinstance") (hm : X.mg "isinstance" = none)
    (he2 : starEach [.Name x px] X.env = [(false, eval (.Name x px) X.env)] := by rfl) (he : starEach [.Name y py, .Name x px] X.env = (false, eval (.Name y py) X.env) :: starEach [.Name x px] X.env := by rfl) (hd : (x == ("__debug__" : Str)) = false := by decide) :
    PD (X.suite ad ((ad, oe) :: pn)) W0 (.Call (.Name "isinstance" p) [.Name y py, .Name x px] [] pos) (eIs tbl i ad c) := by
  obtain ⟨C, h1, h2⟩ := h.ex
  exact pd_isX S kv (pe_glob (X := X.suite ad ((ad, oe) :: pn)) (v := .ref C) hgx h1 rfl hd) h2.u h2.tb hg hm he2 he
theorem pd_isT {y x : Str} {T : String} {c : Str} {ad : Addr} {oe : Obj} {pn : List (Addr × Obj)} {tbl : List (Str × Bool)} {p py px : Pos} (S : InSuite X c ad oe) (h : IsT X.K X.mg x T tbl) (kv : PE (X.suite ad ((ad, oe) :: pn)) (.Name y py) (tVar i)) (hgx : Gl X x) (hg : Gl X "isinstance") (hm : X.mg "isinstance" = none)
    (he2 : starEach [.Name x px] X.env = [(false, eval (.Name x px) X.env)] := by rfl) (he : starEach [.Name y py, .Name x px] X.env = (false, eval (.Name y py) X.env) :: starEach [.Name x px] X.env := by rfl) (hn : x ≠ "__name__" := by decide) (hd : (x == ("__debug__" : Str)) = false := by decide) :
    PD (X.suite ad ((ad, oe) :: pn)) W0 (.Call (.Name "isinstance" p) [.Name y py, .Name x px] [] pos) (eIs tbl i ad c) := by
  exact pd_isX S kv (pe_bltn (X := X.suite ad ((ad, oe) :: pn)) (v := .ty T) hgx h.m h.b rfl hn hd) h.c.u h.c.tb hg hm he2 he
end
end L2.Pz
namespace L2.Pz
open PySem PySem.Spec PyProof.Rows
section
variable {X : Cx} {W : WX} {e a b c tg : Expr} {st : Stmt} {sts rest body suite : List Stmt} {f fk : EF} {g g1 g2 gs : SF} {pos : Pos} {i : Nat}
/-! ### by the codes of the names -/
theorem ps1_raiseS {x m : Str} {j : Nat} {k : Nat} {pn p2 p3 : Pos} (l : List Nat) (cc : Cok X W k) (hc : X.calm = true) (hx : ExN X.K X.mg (S l)) (hg : Gl X x) (h : x = S l := by decide +kernel) (hdb : (x == ("__debug__" : Str)) = false := by decide) :
    PS1 X W (.Raise (some (.Call (.Name x pn) [.Constant (.str m) j p2] [] p3)) none pos) (sRaise (S l)) := by
  subst h
  exact ps1_raise cc hc hx hg hdb
theorem ps1_tryS {x : Str} {b₀ : Stmt} {np pos' : Pos} {tbl : List (Str × Bool)} {k : Nat} (l : List Nat) (cc : Cok X W k) (hd : HdN X.K X.mg (S l) tbl) (hs : X.stack = X.env :: X.outer) (hf : X.env.frame = some X.env.locals) (hg : Gl X x)
    (hb : ∀ (W' : WX) (pn : List (Addr × Obj)) (xe : Value → Shared → Prop), Cok (X.tr pn xe) W' k → PSD (X.tr pn xe) W' body g)
    (hsu : ∀ (a : Addr) (oe : Obj) (pn : List (Addr × Obj)), PSD (X.suite a ((a, oe) :: pn)) W0 (b₀ :: suite) gs) (h : x = S l := by decide +kernel) (hdb : (x == ("__debug__" : Str)) = false := by decide) :
    PS1 X W (.Try body [.ExceptHandler (some (.Name x np)) none (b₀ :: suite) pos'] [] [] pos) (sTry tbl g gs) := by
  subst h
  exact ps1_tryN cc hd hs hf hg hb hsu hdb
theorem ps1_tryAsS {x n : Str} {b₀ : Stmt} {np pos' : Pos} {tbl : List (Str × Bool)} {k : Nat} {gs : Addr → Str → SF} (l : List Nat) (cc : Cok X W k) (hd : HdN X.K X.mg (S l) tbl) (hs : X.stack = X.env :: X.outer) (hf : X.env.frame = some X.env.locals) (hN : X.N.Nodup) (hi : X.N[i]? = some n) (hln : X.env.kindOf n = some .local) (hg : Gl X x)
    (hb : ∀ (W' : WX) (pn : List (Addr × Obj)) (xe : Value → Shared → Prop), Cok (X.tr pn xe) W' k → PSD (X.tr pn xe) W' body g)
    (hsu : ∀ (a : Addr) (oe : Obj) (pn : List (Addr × Obj)) (c : Str), InSuite X c a oe → PSD (X.suite a ((a, oe) :: pn)) W0 (b₀ :: suite) (gs a c)) (h : x = S l := by decide +kernel) (hdb : (x == ("__debug__" : Str)) = false := by decide) :
    PS1 X W (.Try body [.ExceptHandler (some (.Name x np)) (some n) (b₀ :: suite) pos'] [] [] pos) (sTryAs tbl i g gs) := by
  subst h
  exact ps1_tryAsN cc hd hs hf hN hi hln hg hb hsu hdb
theorem pd_isOS {y x : Str} {c : Str} {ad : Addr} {oe : Obj} {pn : List (Addr × Obj)} {tbl : List (Str × Bool)} {p py px : Pos} (l : List Nat) (IS : InSuite X c ad oe) (hi : IsO X.K X.mg (S l) tbl) (kv : PE (X.suite ad ((ad, oe) :: pn)) (.Name y py) (tVar i)) (hgx : Gl X x) (hg : Gl X "isinstance") (hm : X.mg "isinstance" = none) (h : x = S l := by decide +kernel)
    (he2 : starEach [.Name x px] X.env = [(false, eval (.Name x px) X.env)] := by rfl) (he : starEach [.Name y py, .Name x px] X.env = (false, eval (.Name y py) X.env) :: starEach [.Name x px] X.env := by rfl) (hd : (x == ("__debug__" : Str)) = false := by decide) :
    PD (X.suite ad ((ad, oe) :: pn)) W0 (.Call (.Name "isinstance" p) [.Name y py, .Name x px] [] pos) (eIs tbl i ad c) := by
  subst h
  exact pd_isO IS hi kv hgx hg hm he2 he hd
end
end L2.Pz

namespace L2.Pz
open PySem PySem.Spec PyProof.Rows
/-! ### a, b = x, y -/
@[simp] def setAll : List Nat → List PyData → En → Option En
  | [], [], ρ => some ρ
  | i :: is, d :: ds, ρ => setAll is ds (ρ.set i (some (.v d)))
  | _, _, _ => none
@[simp] def sPar (is : List Nat) (fs : List EF) (ρ : En) : SR := match eL fs ρ with
  | .ok ds => match setAll is ds ρ with
    | some ρ' => .nx ρ'
    | none => .no
  | .er c => .er c ρ
  | .no => .no
section
variable {X : Cx} {W : WX} {e a b c tg : Expr} {f g h : EF} {pos : Pos} {i j l : Nat}
theorem ps1_par {x y : Str} {px py pt : Pos} {kt k2 pt2} (hc : X.calm = true) (hN : X.N.Nodup) (hi : X.N[i]? = some x) (hj : X.N[j]? = some y) (hij : i ≠ j)
    (hx : X.env.scope.names.lookup x = some .local) (hy : X.env.scope.names.lookup y = some .local) (ha : PL X W [a, b] [f, g])
    (hw : swappedStores [.Tuple [.Name x px, .Name y py] kt pt] (.Tuple [a, b] k2 pt2) X.env = pure (some [x, y]) := by rfl)
    (hs : swapsWithSole [.Tuple [.Name x px, .Name y py] kt pt] (.Tuple [a, b] k2 pt2) pos.line X.env = pure false := by rfl) :
    PS1 X W (.Assign [.Tuple [.Name x px, .Name y py] kt pt] (.Tuple [a, b] k2 pt2) pos) (sPar [i, j] [f, g]) := ps_weak (ps_par hc hN hi hj hij hx hy ha hw hs) fun D σ H ⟨G0, H0, G, ρ, E, q⟩ => by
  refine ⟨G0, H0, G, ρ, E, ?_⟩
  unfold sPar at q
  cases k : eL [f, g] ρ with
  | ok ds =>
    rw [k] at q
    have hl := eL_len k
    match ds, hl with
    | [d1, d2], _ =>
      intro vs G' H' g' z
      cases z with
      | cons z1 z2 => cases z2 with
        | cons z2 z3 =>
          cases z3
          exact ⟨_, _, rfl, q G' H' _ (((E.grow g').set z1).set z2) g'.g⟩
  | er c => rw [k] at q; exact fun G' H' g => q G' H' σ (E.grow g) g.g
  | no => rw [k] at q; exact q
theorem ps1_par3 {x y z : Str} {px py pz pt : Pos} {kt k2 pt2} (hc : X.calm = true) (hN : X.N.Nodup) (hi : X.N[i]? = some x) (hj : X.N[j]? = some y) (hl : X.N[l]? = some z) (hij : i ≠ j) (hil : i ≠ l) (hjl : j ≠ l)
    (hx : X.env.scope.names.lookup x = some .local) (hy : X.env.scope.names.lookup y = some .local) (hz : X.env.scope.names.lookup z = some .local) (ha : PL X W [a, b, c] [f, g, h])
    (hw : swappedStores [.Tuple [.Name x px, .Name y py, .Name z pz] kt pt] (.Tuple [a, b, c] k2 pt2) X.env = pure (some [x, y, z]) := by rfl)
    (hs : swapsWithSole [.Tuple [.Name x px, .Name y py, .Name z pz] kt pt] (.Tuple [a, b, c] k2 pt2) pos.line X.env = pure false := by rfl) :
    PS1 X W (.Assign [.Tuple [.Name x px, .Name y py, .Name z pz] kt pt] (.Tuple [a, b, c] k2 pt2) pos) (sPar [i, j, l] [f, g, h]) := ps_weak (ps_par3 hc hN hi hj hl hij hil hjl hx hy hz ha hw hs) fun D σ H ⟨G0, H0, G, ρ, E, q⟩ => by
  refine ⟨G0, H0, G, ρ, E, ?_⟩
  unfold sPar at q
  cases k : eL [f, g, h] ρ with
  | ok ds =>
    rw [k] at q
    have hl := eL_len k
    match ds, hl with
    | [d1, d2, d3], _ =>
      intro vs G' H' g' z
      cases z with
      | cons z1 z2 => cases z2 with
        | cons z2 z3 => cases z3 with
          | cons z3 z4 =>
            cases z4
            exact ⟨_, _, _, rfl, q G' H' _ ((((E.grow g').set z1).set z2).set z3) g'.g⟩
  | er c => rw [k] at q; exact fun G' H' g => q G' H' σ (E.grow g) g.g
  | no => rw [k] at q; exact q
/-! ### ranges -/
def rangeC (lo c : Int) (n : Nat) : List PyData := (List.range n).map fun i => .int (lo + (i : Nat) * c)
def range2D : PyData → PyData → Rs (List PyData)
  | .int i, .int j => if -(2 ^ 62) ≤ i ∧ i < 2 ^ 62 ∧ -(2 ^ 62) ≤ j ∧ j < 2 ^ 62 then .ok (rangeD i (j - i).toNat) else .no
  | _, _ => .no
def range3D : PyData → PyData → PyData → Rs (List PyData)
  | .int i, .int j, .int c => if c = -1 ∧ -(2 ^ 62) ≤ i ∧ i < 2 ^ 62 ∧ -(2 ^ 62) ≤ j ∧ j < 2 ^ 62 then .ok (rangeC i (-1) (i - j).toNat) else .no
  | _, _, _ => .no
@[simp] def iR2 (f g : EF) (ρ : En) : Rs (List PyData) := (f ρ).bind fun d => (g ρ).bind fun e => range2D d e
@[simp] def iR3 (f g h : EF) (ρ : En) : Rs (List PyData) := (f ρ).bind fun d => (g ρ).bind fun e => (h ρ).bind fun u => range3D d e u
theorem itOk_rangeC {K : PySem.W.Frag} {G : Hp} {lo c : Int} {n : Nat} : ItOk K G (Itc lo c n) (rangeC lo c n) := fun H s => by
  have hl : (rangeC lo c n).length = n := by simp [rangeC]
  refine ⟨by rw [hl]; exact Nat.le_refl n, fun i e he => ?_⟩
  have hi : i < n := by rw [← hl]; exact (List.getElem?_eq_some_iff.mp he).1
  refine ⟨hi, fun v H' y => ?_⟩
  obtain ⟨e1, rfl⟩ := y
  have : e = .int (lo + (i : Nat) * c) := by
    unfold rangeC at he
    rw [List.getElem?_map, List.getElem?_range hi] at he
    simpa using he.symm
  subst this
  exact .inl ⟨e1, .int _⟩
theorem pid_range2 {p : Pos} (hg : Gl X "range") (hm : X.mg "range" = none) (k : PD X W a f) (k' : PD X W b g) (hs : starEach [a, b] X.env = [(false, eval a X.env), (false, eval b X.env)] := by rfl) (hs2 : starEach [b] X.env = [(false, eval b X.env)] := by rfl) : PID X W tg (.Call (.Name "range" p) [a, b] [] pos) (iR2 f g) :=
  pi_weak (pi_range2 hg hm (pl_cons k (pl_cons k' pl_nil hs2) (by rw [hs, hs2])) hs hs2) fun σ H R ⟨G0, H0, G, ρ, E, q⟩ => by
    refine ⟨G0, H0, G, ρ, E, ?_⟩
    unfold iR2 at q
    unfold eL
    cases k : f ρ with
    | ok d =>
      rw [k, Rs.bind_ok] at q
      rw [Rs.bind_ok]
      unfold eL
      cases k2 : g ρ with
      | ok e =>
        rw [k2, Rs.bind_ok] at q
        unfold range2D at q
        split at q
        · rename_i i j
          split at q
          · rename_i hj
            intro vs G' H' g' z
            cases z with
            | cons z1 z2 => cases z2 with
              | cons z2 z3 =>
                cases z3
                cases z1
                cases z2
                exact ⟨i, j, rfl, ⟨hj.1, hj.2.1, hj.2.2.1, hj.2.2.2⟩, q _ G' H' g' itOk_range⟩
          · exact q.elim
        · exact q.elim
      | er c => rw [k2] at q; exact q
      | no => rw [k2] at q; exact q
    | er c => rw [k] at q; exact q
    | no => rw [k] at q; exact q
theorem pid_range3 {p : Pos} (hg : Gl X "range") (hm : X.mg "range" = none) (k : PD X W a f) (k' : PD X W b g) (k'' : PD X W c h) (hs : starEach [a, b, c] X.env = (false, eval a X.env) :: starEach [b, c] X.env := by rfl) (hs2 : starEach [b, c] X.env = (false, eval b X.env) :: starEach [c] X.env := by rfl) (hs3 : starEach [c] X.env = [(false, eval c X.env)] := by rfl)
    (hpl : (backTo pos (starEach [b, c] X.env)).any (·.1) = false := by rfl) : PID X W tg (.Call (.Name "range" p) [a, b, c] [] pos) (iR3 f g h) :=
  pi_weak (pi_range3 hg hm (pl_cons k (pl_cons k' (pl_cons k'' pl_nil hs3) hs2) hs) hs hpl) fun σ H R ⟨G0, H0, G, ρ, E, q⟩ => by
    refine ⟨G0, H0, G, ρ, E, ?_⟩
    unfold iR3 at q
    unfold eL
    cases k : f ρ with
    | ok d =>
      rw [k, Rs.bind_ok] at q
      rw [Rs.bind_ok]
      unfold eL
      cases k2 : g ρ with
      | ok e =>
        rw [k2, Rs.bind_ok] at q
        rw [Rs.bind_ok]
        unfold eL
        cases k3 : h ρ with
        | ok u =>
          rw [k3, Rs.bind_ok] at q
          unfold range3D at q
          split at q
          · rename_i i j c'
            split at q
            · rename_i hj
              obtain ⟨rfl, hj⟩ := hj
              intro vs G' H' g' z
              cases z with
              | cons z1 z2 => cases z2 with
                | cons z2 z3 => cases z3 with
                  | cons z3 z4 =>
                    cases z4
                    cases z1
                    cases z2
                    cases z3
                    exact ⟨i, j, -1, _, rfl, RgC.neg hj.1 hj.2.1 hj.2.2.1 hj.2.2.2, q _ G' H' g' itOk_rangeC⟩
            · exact q.elim
          · exact q.elim
        | er c => rw [k3] at q; exact q
        | no => rw [k3] at q; exact q
      | er c => rw [k2] at q; exact q
      | no => rw [k2] at q; exact q
    | er c => rw [k] at q; exact q
    | no => rw [k] at q; exact q
end
@[simp] theorem range2D_ii (i j : Int) : range2D (.int i) (.int j) = if -(2 ^ 62) ≤ i ∧ i < 2 ^ 62 ∧ -(2 ^ 62) ≤ j ∧ j < 2 ^ 62 then .ok (rangeD i (j - i).toNat) else .no := rfl
@[simp] theorem range3D_ii (i j c : Int) : range3D (.int i) (.int j) (.int c) = if c = -1 ∧ -(2 ^ 62) ≤ i ∧ i < 2 ^ 62 ∧ -(2 ^ 62) ≤ j ∧ j < 2 ^ 62 then .ok (rangeC i (-1) (i - j).toNat) else .no := rfl
end L2.Pz

namespace L2.Pz
open PySem PySem.Spec PyProof.Rows
/-! ### max(xs, default=i) -/
def maxL0D : PyData → Rs PyData
  | .list ds => match intL ds with
    | some [] => .ok (.int 0)
    | some (n :: ns) => .ok (.int (maxI (n :: ns)))
    | none => .no
  | _ => .no
theorem readsInts {h : Heap} : ∀ {its : List Value} {ns : List Int}, IntsAre its ns → ReadsAll h its (ns.map PyData.int) []
  | _, _, .nil => .nil
  | _, _, .cons n t r => ReadsAll.cons (as := []) (bs := []) (.int n t) (readsInts r)
theorem depthInts : ∀ ns : List Int, PyData.depthAll (ns.map PyData.int) ≤ 1
  | [] => Nat.zero_le _
  | n :: ns => by
    have := depthInts ns
    rw [List.map_cons]
    unfold PyData.depthAll
    have h1 : (PyData.int n).depth ≤ 1 := by unfold PyData.depth; omega
    omega
def rMaxD (K : PySem.W.Frag) : List V → List V → Hp → VK → Prop := fun vs zs H Q => ∃ (a : Addr) (ns : List Int) (i : Int), vs = [V.ref a] ∧ zs = [V.int i] ∧ SqL K H a (ns.map V.int) ∧ (ns = [] → Q (.int i) H) ∧ ∀ m, m ∈ ns → (∀ y, y ∈ ns → y ≤ m) → Q (.int m) H
theorem foldl_max : ∀ (ns : List Int) (n : Int), ns.foldl max n ∈ n :: ns ∧ ∀ y ∈ n :: ns, y ≤ ns.foldl max n
  | [], n => ⟨by simp, fun y hy => by simp at hy; simp; omega⟩
  | m :: ns, n => by
    obtain ⟨h1, h2⟩ := foldl_max ns (max n m)
    rw [List.foldl_cons]
    refine ⟨?_, fun y hy => ?_⟩
    · rcases List.mem_cons.mp h1 with h | h
      · rw [h]
        by_cases hm : n ≤ m
        · rw [Int.max_eq_right hm]; simp
        · rw [Int.max_eq_left (by omega)]; simp
      · simp [h]
    · have a := h2 (max n m) (by simp)
      rcases List.mem_cons.mp hy with rfl | hy
      · omega
      · rcases List.mem_cons.mp hy with rfl | hy
        · omega
        · exact h2 y (by simp [hy])
section
variable {X : Cx} {W : WX} {e a b c tg : Expr} {f g h : EF} {pos : Pos} {i j l : Nat}
theorem cr_maxD (hc : X.calm = true) (hu : X.A.units + 3 < cLine) : CallRK X (.builtin "max") [Str.ofString "default"] (rMaxD X.K) := by
  intro pins s σ H vs zs us ws Q I r rz h
  obtain ⟨a, ns, i, rfl, rfl, hs, h0, h1⟩ := h
  obtain ⟨its, rv, hl, _⟩ := I.list hs
  rw [Vals.ref1 r]
  cases rz with
  | cons rz1 rz2 =>
    cases rz2
    obtain ⟨t, rfl⟩ := rz1
    have hi := rv.ints
    have hd := depthInts ns
    refine PySem.W.max_list_default (I.ok.hd hc) hl.isList (xs := ns.map PyData.int) (as := []) (by rw [List.toList_toArray]; exact readsInts hi) ⟨fun x hx y hy => ?_, fun x hx z => ?_⟩ (by omega) (fun e h' tk hk => ?_) (fun y ys j v h' tk bs e hv hr hk => ?_)
    · obtain ⟨m, _, rfl⟩ := List.mem_map.mp hx
      obtain ⟨k, _, rfl⟩ := List.mem_map.mp hy
      simp [PySem.W.alike]
    · obtain ⟨m, _, rfl⟩ := List.mem_map.mp hx
      cases z
    · exact ⟨.int i, H, I.kept hk, ⟨_, rfl⟩, h0 (List.map_eq_nil_iff.mp e)⟩
    · cases ns with
      | nil => cases e
      | cons n ns =>
        cases e
        rw [PySem.W.maxD_ints] at hr
        cases hr with
        | int _ t' =>
          obtain ⟨m1, m2⟩ := foldl_max ns n
          exact ⟨.int _, H, I.kept hk, ⟨_, rfl⟩, h1 _ m1 m2⟩
theorem pd_maxL0 {p kp cp : Pos} {jj k : Nat} (cc : Cok X W k) (hc : X.calm = true) (hg : Gl X "max") (hm : X.mg "max" = none) (ha : PP X W a f)
    (he : backTo pos (starEach [a] X.env) = (false, eval a X.env) :: backTo pos (starEach [] X.env) := by rfl) (hs : starEach [a] X.env = [(false, eval a X.env)] := by rfl) (hpl : (backTo pos (starEach [a] X.env)).any (·.1) = false := by rfl) :
    PD X W (.Call (.Name "max" p) [a] [⟨some "default", .Constant (.int 0) jj cp, kp⟩] pos) (e1 maxL0D f) := by
  have hu : X.A.units + 3 < cLine := by have := cc.hr.un; omega
  refine pe_weak (pe_callBK (cr_maxD hc hu) hg hm (by decide +kernel) (pa_cons ha pa_nil hs) (pk_cons pe_int pk_nil) (by decide) (by decide) he hpl) fun σ H Q ⟨G0, H0, G, ρ, E, q⟩ => ⟨G0, H0, G, ρ, E, ?_⟩
  unfold e1 at q
  cases k : f ρ with
  | er c => rw [k] at q; exact q
  | no => rw [k] at q; exact q
  | ok d =>
    rw [k, Rs.bind_ok] at q
    intro v G' H' g' z
    unfold maxL0D at q
    split at q
    · rename_i ds
      obtain ⟨p, xs, rfl, h1, h2⟩ := z.lst g'.sub
      have q := RD.grow g' q
      split at q
      · rename_i hi
        cases ints_dq h2 hi
        exact ⟨p, [], 0, rfl, rfl, h1, fun _ => RD.val g'.sub q fun _ => .int 0, fun m hm => nomatch hm⟩
      · rename_i n ns hi
        cases ints_dq h2 hi
        refine ⟨p, n :: ns, 0, rfl, rfl, h1, (fun z => nomatch z), fun m hm hy => ?_⟩
        obtain ⟨m1, m2⟩ := maxI_mem n ns
        have : m = maxI (n :: ns) := Int.le_antisymm (m2 m hm) (hy _ m1)
        subst this
        exact RD.val g'.sub q fun _ => .int _
      · exact q.elim
    · exact q.elim
end
@[simp] theorem maxL0D_nil : maxL0D (.list []) = .ok (.int 0) := rfl
@[simp] theorem maxL0D_l (n : Int) (ns : List Int) : maxL0D (.list (PyData.int n :: ns.map PyData.int)) = .ok (.int (maxI (n :: ns))) := by
  have : intL (PyData.int n :: ns.map PyData.int) = some (n :: ns) := ints_map (n :: ns)
  simp [maxL0D, this]
end L2.Pz

namespace L2.Pz
open PySem PySem.Spec PyProof.Rows
/-! ### in, over a list of tuples -/
def inDQ : PyData → PyData → Option Bool
  | d, .list ds => if SeqAt.shaped d && SeqAt.shaped (.list ds) && noDict d && noDict (.list ds) then some (ds.any fun z => PyData.eqv z d) else none
  | _, _ => none
def inDD (d e : PyData) : Rs PyData := match inDQ d e with
  | some b => .ok (.bool b)
  | none => .no
def ninDD (d e : PyData) : Rs PyData := match inDQ d e with
  | some b => .ok (.bool (!b))
  | none => .no
section
variable {X : Cx} {W : WX} {e a b c : Expr} {f g h : EF} {pos : Pos}
theorem inDQ_ok {K : PySem.W.Frag} {G H : Hp} {v w : V} {d e : PyData} {b : Bool} (s : Same G H) (hv : PkOk K G H v d) (hw : PkOk K G H w e) (q : inDQ d e = some b) :
    ∃ d ds, Dp K H v d ∧ Dp K H w (.list ds) ∧ SeqAt.shaped d = true ∧ SeqAt.shaped (.list ds) = true ∧ b = ds.any fun z => PyData.eqv z d := by
  unfold inDQ at q
  split at q
  · split at q
    · rename_i hz
      rw [Bool.and_eq_true, Bool.and_eq_true, Bool.and_eq_true] at hz
      cases q
      exact ⟨_, _, dq_dp hz.1.2 (hv.dp s), dq_dp hz.2 (hw.dp s), hz.1.1.1, hz.1.1.2, rfl⟩
    · cases q
  · cases q
theorem sp_inDD : Spec2 X W (rInD X.K) inDD := by
  intro G H v w d e σ Q s hv hw q
  unfold inDD at q
  cases k : inDQ d e with
  | none => rw [k] at q; exact q.elim
  | some b =>
    rw [k] at q
    have q' : Q (.bl b) H := RD.val s q fun _ => .bl b
    obtain ⟨d, ds, h1, h2, h3, h4, h5⟩ := inDQ_ok s hv hw k
    rw [h5] at q'; exact ⟨d, ds, h1, h2, h3, h4, q'⟩
theorem sp_ninDD : Spec2 X W (rNotInD X.K) ninDD := by
  intro G H v w d e σ Q s hv hw q
  unfold ninDD at q
  cases k : inDQ d e with
  | none => rw [k] at q; exact q.elim
  | some b =>
    rw [k] at q
    have q' : Q (.bl (!b)) H := RD.val s q fun _ => .bl _
    obtain ⟨d, ds, h1, h2, h3, h4, h5⟩ := inDQ_ok s hv hw k
    rw [h5] at q'; exact ⟨d, ds, h1, h2, h3, h4, q'⟩
theorem pd_inDD {j : Nat} (k : Cok X W j) (ha : PP X W a f) (hb : PP X W b g) (hm : behindInMarks .In b = false := by with_unfolding_all rfl) : PD X W (.Compare a [.In] [b] pos) (e2 inDD f g) := pd_cmp (op_inD (by have := k.hr.un; omega)) sp_inDD ha hb hm
theorem pd_ninDD {j : Nat} (k : Cok X W j) (ha : PP X W a f) (hb : PP X W b g) (hm : behindInMarks .NotIn b = false := by with_unfolding_all rfl) : PD X W (.Compare a [.NotIn] [b] pos) (e2 ninDD f g) := pd_cmp (op_notInD (by have := k.hr.un; omega)) sp_ninDD ha hb hm
theorem pt_inDD {j : Nat} (k : Cok X W j) (ha : PP X W a f) (hb : PP X W b g) (hm : behindInMarks .In b = false := by with_unfolding_all rfl) : PTD X W (.Compare a [.In] [b] pos) (bT (e2 inDD f g)) := ptd_cmp (op_inD (by have := k.hr.un; omega)) sp_inDD ha hb hm
theorem pt_ninDD {j : Nat} (k : Cok X W j) (ha : PP X W a f) (hb : PP X W b g) (hm : behindInMarks .NotIn b = false := by with_unfolding_all rfl) : PTD X W (.Compare a [.NotIn] [b] pos) (bT (e2 ninDD f g)) := ptd_cmp (op_notInD (by have := k.hr.un; omega)) sp_ninDD ha hb hm
end
end L2.Pz

namespace L2.Pz
open PySem PySem.Spec PyProof.Rows
/-! ### a comprehension of ints that looks at a list which a slot owns, and keeps -/
def allInt : List PyData → Bool
  | [] => true
  | .int _ :: ds => allInt ds
  | _ => false
theorem dqAll_int {K : PySem.W.Frag} {G G' : Hp} : ∀ {ds : List PyData} {vs : List V}, allInt ds = true → DqAll K G vs ds → DqAll K G' vs ds
  | [], _, _, h => by cases h; exact .nil
  | .int i :: ds, _, k, h => by
    cases h with
    | cons a b => cases a; exact .cons (.int i) (dqAll_int (by unfold allInt at k; exact k) b)
  | .none :: ds, _, k, h => by simp [allInt] at k
  | .bool _ :: ds, _, k, h => by simp [allInt] at k
  | .str _ :: ds, _, k, h => by simp [allInt] at k
  | .list _ :: ds, _, k, h => by simp [allInt] at k
  | .tuple _ :: ds, _, k, h => by simp [allInt] at k
  | .dict _ :: ds, _, k, h => by simp [allInt] at k
theorem allInt_map (l : List Int) : allInt (l.map PyData.int) = true := by
  induction l with
  | nil => rfl
  | cons a l ih => rw [List.map_cons]; unfold allInt; exact ih
def eTh (i : Nat) (f : EF) (ρ : En) : Rs PyData := match ρ[i]? with
  | some (some (.own ds)) => match f (ρ.set i (some (.v (.list ds)))) with
    | .ok (.list rs) => if allInt rs then .ok (.list rs) else .no
    | _ => .no
  | _ => .no
theorem eTh_ok {i : Nat} {f : EF} {ρ : En} {ds : List PyData} {l : List Int} (h : ρ[i]? = some (some (.own ds))) (k : f (ρ.set i (some (.v (.list ds)))) = .ok (.list (l.map PyData.int))) : eTh i f ρ = .ok (.list (l.map PyData.int)) := by
  unfold eTh
  rw [h]
  simp only
  rw [k]
  simp only
  rw [allInt_map, if_pos rfl]
theorem EnvOk.frz {K : PySem.W.Frag} {G0 H0 G H : Hp} {σ : St} {ρ : En} {i : Nat} {ds : List PyData} {a : Addr} {xs : List V} (E : EnvOk K G0 H0 G H σ ρ) (k : ρ[i]? = some (some (.own ds))) (hv : σ[i]? = some (some (.ref a))) (h0 : H0 a = none) (ga : G a = none) (ha : H a = some (.lst xs)) (hd : DqAll K G xs ds) :
    EnvOk K G0 H0 (upd G a (.lst xs)) H σ (ρ.set i (some (.v (.list ds)))) := by
  have g : Gr G0 H0 (upd G a (.lst xs)) H := by
    refine ⟨fun b u eb => ?_, E.gr.g.trans (same_upd ga), E.gr.h, fun b hb gb => ?_, nf_upd (fun _ _ z => nomatch z) E.gr.nf⟩
    · by_cases hb : b = a
      · subst hb; rw [upd_same] at eb; cases eb; exact ha
      · rw [upd_ne hb] at eb; exact E.gr.sub _ _ eb
    · have hne : b ≠ a := fun z => hb (by rw [z]; exact h0)
      rw [upd_ne hne]; exact E.gr.n b hb gb
  have hl : i < ρ.length := (List.getElem?_eq_some_iff.mp k).1
  refine ⟨g, by simp [E.len], fun j s hj => ?_, fun j k' ds' es b h1 h2 h3 h4 => ?_⟩
  · by_cases e : i = j
    · subst e
      rw [List.getElem?_set_self hl] at hj
      cases hj
      exact ⟨_, hv, .lst (SqL.of upd_same) (dpAll_mono (same_upd ga) hd)⟩
    · rw [List.getElem?_set_ne e] at hj
      obtain ⟨v, h1, h2⟩ := E.sl j s hj
      refine ⟨v, h1, ?_⟩
      cases s with
      | v d => exact dp_mono (same_upd ga) h2
      | x a => exact h2
      | g d => obtain ⟨h3, a', o, ys, e', h4⟩ := h2; exact ⟨dp_mono (same_upd ga) h3, a', o, ys, e', same_upd ga _ _ h4⟩
      | own es =>
        obtain ⟨b, ys, e1, b0, gb, hb, hds⟩ := h2
        subst e1
        have nb : b ≠ a := fun z => e (E.inj i j ds es a k hj hv (by rw [h1, z]))
        exact ⟨b, ys, rfl, b0, by rw [upd_ne nb]; exact gb, hb, dpAll_mono (same_upd ga) hds⟩
  · have ne : ∀ {j : Nat} {ds' : List PyData}, (ρ.set i (some (.v (.list ds))))[j]? = some (some (.own ds')) → i ≠ j := fun {j ds'} h e => by
      subst e
      rw [List.getElem?_set_self hl] at h; cases h
    have n1 := ne h1
    have n2 := ne h2
    rw [List.getElem?_set_ne n1] at h1
    rw [List.getElem?_set_ne n2] at h2
    exact E.inj j k' ds' es b h1 h2 h3 h4
theorem tF_th {K : PySem.W.Frag} {mg : Str → Option Value} {W : WX} {i : Nat} {f : EF} {σ : St} {H : Hp} {Q : VK} : tF K mg W (eTh i f) σ H Q → tF K mg W f σ H Q := fun ⟨G0, H0, G, ρ, E, q⟩ => by
  unfold eTh at q
  split at q
  · rename_i ds k
    obtain ⟨v, hv, a, xs, rfl, h0, ga, ha, hd⟩ := E.sl i _ k
    refine ⟨G0, H0, upd G a (.lst xs), _, E.frz k hv h0 ga ha hd, ?_⟩
    split at q
    · rename_i rs k2
      rw [k2]
      by_cases hz : allInt rs = true
      · rw [if_pos hz] at q
        intro D ys G' H' g hD gD hHD hda
        have na : D ≠ a := fun z => by rw [z, ha] at hD; cases hD
        refine q D ys (fun b => if b = a then none else G' b) H' ⟨fun b u eb => ?_, fun b u eb => ?_, g.h, fun b hb gb => ?_, fun b o zs z => ?_⟩ hD ?_ hHD (dqAll_int hz hda)
        · by_cases e : b = a
          · simp [e] at eb
          · simp only [e, if_false] at eb; exact g.sub _ _ eb
        · have e : b ≠ a := fun z => by rw [z, ga] at eb; cases eb
          simp only [e, if_false]
          exact g.g _ _ (by rw [upd_ne e]; exact eb)
        · by_cases e : b = a
          · simp [e]
          · simp only [e, if_false]; exact g.n b hb (by rw [upd_ne e]; exact gb)
        · by_cases e : b = a
          · simp [e] at z
          · simp only [e, if_false] at z
            have := g.nf b o zs z
            rwa [upd_ne e] at this
        · simp only [na, if_false]; exact gD
      · rw [if_neg hz] at q; exact q.elim
    · exact q.elim
  · exact q.elim
section
variable {X : Cx} {W : WX} {e a b c tg elt iter : Expr} {ifs : List Expr} {f : EF} {fi : IF} {gt : GF} {p : En → Rs Bool} {pos : Pos} {is : List Nat} {scope : Scope} {own : List (Str × Nat)}
theorem ps1_setLcTh (j : Nat) {i : Nat} {y : Str} {py spos : Pos} (hc : X.calm = true) (hN : X.N.Nodup) (hy : X.N[i]? = some y) (hyl : X.env.scope.names.lookup y = some .local) (hsw : swapsWith (.ListComp elt [⟨tg, iter, ifs, 0⟩] scope pos) (some (.Name y py)) spos.line X.env = pure true)
    (ki : PID X W tg iter fi) (ok : BlkOk X.N X.env.scope scope own) (hiv : ∀ i ∈ is, i ∈ own.map (·.2))
    (hg : ∀ (s : Shared) (H : Hp) (C : Addr) (cl : List (Str × Addr)) (fp : List Addr), PGD (X.blk s H scope (compEnvC scope cl C X.env) fp) tg is gt) (ht : ∀ (s : Shared) (H : Hp) (C : Addr) (cl : List (Str × Addr)) (fp : List Addr), PTsD (X.blk s H scope (compEnvC scope cl C X.env) fp) W0 ifs p)
    (he : ∀ (s : Shared) (H : Hp) (C : Addr) (cl : List (Str × Addr)) (fp : List Addr), PD (X.blk s H scope (compEnvC scope cl C X.env) fp) W0 elt f) (hs : ∀ x, foldedSetIterable iter X.env x = pure x := by intro _; rfl) :
    PS1 X W (.Assign [.Name y py] (.ListComp elt [⟨tg, iter, ifs, 0⟩] scope pos) spos) (sAsg (gN i) (eTh j (eLc (own.map (·.2)) fi gt p f))) := ps_weak (ps_setLc hc hN hy hyl hsw ki ok hg ht he hs) fun _ _ _ q => runLc hiv (tF_th (tD_tF (runAsgN q)))
end
end L2.Pz

namespace L2.Pz
open PySem PySem.Spec PyProof.Rows
/-! ### len(set(xs)), xs ints that are all the same -/
theorem firstMet_same (n : Int) (m : Nat) : ∀ i, i ≤ m → firstMet (fun j => (List.replicate (m + 1) n).getD j 0) (i + 1) = [n]
  | 0, _ => by
    rw [firstMet_succ, firstMet_zero]
    rfl
  | i + 1, hi => by
    have e : (List.replicate (m + 1) n).getD (i + 1) 0 = n := by
      rw [List.getD_eq_getElem?_getD, List.getElem?_replicate, if_pos (by omega)]
      rfl
    rw [firstMet_succ, firstMet_same n m i (by omega), e]
    unfold step_dedup
    simp
def tLenSet1 (K : PySem.W.Frag) (ta : TE) : TE := fun σ H Q => ta σ H fun x H1 => ∃ (l : Addr) (n : Int) (m : Nat), x = .ref l ∧ SqL K H1 l ((List.replicate (m + 1) n).map V.int) ∧ m ≤ 3000 ∧ Q (.int 1) H1
theorem pe_lenSet1 {X : Cx} {a : Expr} {ta : TE} {p p2 q pos : Pos} (hg : Gl X "len") (hm : X.mg "len" = none) (hg2 : Gl X "set") (hm2 : X.mg "set" = none) (ha : PE X a ta) (hc : X.calm = true := by rfl)
    (na : starEach [a] X.env = (false, eval a X.env) :: starEach [] X.env := by rfl) : PE X (.Call (.Name "len" p) [.Call (.Name "set" p2) [a] [] q] [] pos) (tLenSet1 X.K ta) := by
  refine ⟨fun pins s σ H Q I h => ?_⟩
  refine Call_ (ld_blt I hg hm boot_len ?_)
  refine PyProof.Rows.callWith_builtin1 (PyProof.Rows.args_cons ?_ rfl) rfl rfl
  refine Call_ (ld_blt I hg2 hm2 boot_set ?_)
  refine PyProof.Rows.callWith_type1 (PyProof.Rows.args_cons (thn (ha.run pins s σ H _ I h) fun v s1 ⟨x, H1, I1, r1, q1⟩ => PyProof.Rows.args_nil ?_) na) na rfl
  obtain ⟨l, n, m, rfl, hq, hl, q1⟩ := q1
  cases r1
  obtain ⟨its, r, pl, hz⟩ := I1.list hq
  have hlen : its.toArray.size = m + 1 := by rw [List.size_toArray, ← r.length, List.length_map, List.length_replicate]
  refine call_set_list (I1.ok.hd hc) pl.isList (by simpa using RZ.intsAre_vals r) (by rw [hlen]; unfold scanBound; omega) fun h' tk hS hk => ?_
  refine PyProof.Rows.args_nil ?_
  rw [hlen, firstMet_same n m m (Nat.le_refl _)] at hS
  obtain ⟨o, es, ep, t, ho, hex, hd, _, _, _, hf, hn⟩ := hS
  have I2 : Inv X pins σ H1 { s1 with heap := h', toks := tk } := I1.kept fun b o e => hk b o (Heap.lt_size e) e
  refine call_len_set ho hex hd hf (by rw [hn]; show (1 : Int) < 2 ^ 63; decide) ⟨.int 1, H1, I2.tok _, ⟨_, by rw [hn]; rfl⟩, q1⟩
def sameI (n : Int) : List PyData → Bool
  | [] => true
  | .int m :: ds => decide (m = n) && sameI n ds
  | _ => false
def lenSet1D : PyData → Rs PyData
  | .list (.int n :: ds) => if sameI n ds = true ∧ ds.length ≤ 3000 then .ok (.int 1) else .no
  | _ => .no
theorem sameI_vals {K : PySem.W.Frag} {G : Hp} {n : Int} : ∀ {ds : List PyData} {vs : List V}, sameI n ds = true → DqAll K G vs ds → vs = (List.replicate ds.length n).map V.int
  | [], _, _, h => by cases h; rfl
  | .int i :: ds, _, k, h => by
    unfold sameI at k
    rw [Bool.and_eq_true] at k
    have e := of_decide_eq_true k.1
    subst e
    cases h with
    | cons a b => cases a; rw [sameI_vals k.2 b]; rfl
  | .none :: ds, _, k, h => by simp [sameI] at k
  | .bool _ :: ds, _, k, h => by simp [sameI] at k
  | .str _ :: ds, _, k, h => by simp [sameI] at k
  | .list _ :: ds, _, k, h => by simp [sameI] at k
  | .tuple _ :: ds, _, k, h => by simp [sameI] at k
  | .dict _ :: ds, _, k, h => by simp [sameI] at k
section
variable {X : Cx} {W : WX} {e a b c : Expr} {f g h : EF} {pos : Pos}
theorem pd_lenSet1 {p p2 q : Pos} (hg : Gl X "len") (hm : X.mg "len" = none) (hg2 : Gl X "set") (hm2 : X.mg "set" = none) (ha : PP X W a f) (hc : X.calm = true := by rfl)
    (na : starEach [a] X.env = (false, eval a X.env) :: starEach [] X.env := by rfl) : PD X W (.Call (.Name "len" p) [.Call (.Name "set" p2) [a] [] q] [] pos) (e1 lenSet1D f) :=
  pe_weak (pe_lenSet1 hg hm hg2 hm2 ha hc na) fun σ H Q ⟨G0, H0, G, ρ, E, q⟩ => by
    refine ⟨G0, H0, G, ρ, E, ?_⟩
    unfold e1 at q
    cases k : f ρ with
    | er c => rw [k] at q; exact q
    | no => rw [k] at q; exact q
    | ok d =>
      rw [k, Rs.bind_ok] at q
      intro v G1 H1 g1 z1
      unfold lenSet1D at q
      split at q
      · split at q
        · rename_i n ds hz
          obtain ⟨l, xs, e, hs, hd⟩ := z1.lst g1.sub
          cases hd with
          | cons a b =>
            cases a
            have ev := sameI_vals hz.1 b
            subst ev
            exact ⟨l, n, ds.length, e, hs, hz.2, q _ G1 H1 g1 (.int 1)⟩
        · exact q.elim
      · exact q.elim
end
theorem sameI_rep (n : Int) : ∀ m : Nat, sameI n ((List.replicate m n).map PyData.int) = true
  | 0 => rfl
  | m + 1 => by rw [List.replicate_succ, List.map_cons, sameI, sameI_rep n m]; simp
theorem lenSet1_ok {l : List Int} {n : Int} (hne : l ≠ []) (h : ∀ x ∈ l, x = n) (hl : l.length ≤ 3000) : lenSet1D (.list (l.map PyData.int)) = .ok (.int 1) := by
  have e : l = List.replicate l.length n := List.eq_replicate_iff.mpr ⟨rfl, h⟩
  cases l with
  | nil => exact absurd rfl hne
  | cons a l =>
    have ea := h a (by simp)
    subst ea
    have e2 : l = List.replicate l.length a := List.eq_replicate_iff.mpr ⟨rfl, fun x hx => h x (by simp [hx])⟩
    rw [List.map_cons]
    show (if _ then _ else _) = _
    refine if_pos ⟨?_, ?_⟩
    · rw [e2]; exact sameI_rep a _
    · rw [List.length_map]; simp at hl; omega
end L2.Pz

namespace L2.Pz.Fn
open PySem PySem.Spec PyProof.Rows L2 L2.Pz
noncomputable def C1_last_pair (ρ : En) : Rs PyData :=
    (eV 5) ρ
noncomputable def b_last_pair : SF :=
    (sSeq (sAsg (gT [(gN 2), (gN 3)]) (eV 0))
    (sSeq (sAsg (gN 4) (eLc [5, 6] (iE (eV 1)) (gT [(gN 5), (gN 6)]) (bT (e2 geD (e1 absD (eV 2)) (eCall F_ten_to [(e2 addD (eV 3) (e2 ixD (eV 6) (eC (.int 0))))]))) C1_last_pair))
    (sRet (e1 maxL0D (eV 4)))))
noncomputable def F_last_pair : FF := lock (fnF 7 b_last_pair)
noncomputable def b_short : SF :=
    (sSeq (sAsg (gN 5) (eCall F_last_pair [(eV 0), (eV 2)]))
    (sSeq (sAsg (gT [(gN 6), (gN 7)]) (eCall F_led [(eV 0), (e2 ixD (e2 ixD (eV 2) (eV 5)) (eC (.int 0))), (eV 3), (eV 4)]))
    (sSeq (sIf (bT (e2 ltD (e2 addD (eV 5) (eC (.int 1))) (e1 lenD (eV 2)))) (sSeq (sAsg (gN 8) (e2 subD (e2 ixD (e2 ixD (eV 2) (e2 addD (eV 5) (eC (.int 1)))) (eC (.int 0))) (e2 ixD (e2 ixD (eV 2) (eV 5)) (eC (.int 0)))))
    (sIf (bT (e2 geD (e2 mulD (e1 absD (eV 6)) (eCall F_ten_to [(eV 7)])) (e2 mulD (eCall F_ten_to [(eV 8)]) (eCall F_ten_to [(e1 negD (eV 7))])))) (sSeq (sAsg (gN 5) (e2 addD (eV 5) (eC (.int 1))))
    (sAsg (gT [(gN 6), (gN 7)]) (eCall F_led [(eV 0), (e2 ixD (e2 ixD (eV 2) (eV 5)) (eC (.int 0))), (eV 3), (eV 4)]))) sNx)) sNx)
    (sSeq (sIf (bT (e2 geD (eV 7) (eC (.int 0)))) (sAsg (gN 9) (eTup [(e2 mulD (eV 6) (eCall F_ten_to [(eV 7)])), (eC (.int 0))])) (sAsg (gN 9) (eCall F_normal [(eV 6), (e1 negD (eV 7))])))
    (sSeq (sAsg (gN 10) (eCall F_text_of [(eV 9), (eV 1), (eC (.int 0))]))
    (sSeq (sIf (bT (e2 eqD (e2 ixD (e2 ixD (eV 2) (eV 5)) (eC (.int 1))) (eC (.str (S []))))) (sRet (eV 10)) sNx)
    (sRet (e2 addD (e2 addD (eV 10) (eC (.str (S [32])))) (e2 ixD (e2 ixD (eV 2) (eV 5)) (eC (.int 1)))))))))))
noncomputable def F_short : FF := lock (fnF 11 b_short)
noncomputable def L1__law_scale (ρ : En) : SR :=
    (sSeq (sApp 2 (e2 addD (e2 ixD (eO 2) (e1 negD (eC (.int 1)))) (e2 ixD (eTup [(eC (.int 3)), (eC (.int 3)), (eC (.int 2)), (eC (.int 1)), (eC (.int 6))]) (eCall F__law_mix [(e2 addD (eV 0) (eV 4)), (eC (.int 9749)), (eC (.int 5))]))))
    (sApp 3 (eTup [(e2 ixD (eO 2) (e1 negD (eC (.int 1)))), (e2 ixD (eV 1) (eV 4))]))) ρ
noncomputable def b__law_scale : SF :=
    (sSeq (sAsg (gN 1) (eTup [(eC (.str (S []))), (eC (.str (S [75]))), (eC (.str (S [77]))), (eC (.str (S [66]))), (eC (.str (S [116, 110]))), (eC (.str (S [81])))]))
    (sSeq (sIf (bT (e2 eqD (e2 modD (eV 0) (eC (.int 4))) (eC (.int 0)))) (sAsg (gN 1) (eTup [(eC (.str (S [117]))), (eC (.str (S [107]))), (eC (.str (S [108, 97, 107, 104]))), (eC (.str (S []))), (eC (.str (S [99, 114]))), (eC (.str (S [69])))])) sNx)
    (sSeq (sOwn 2 (eLst [(eC (.int 0))]))
    (sSeq (sOwn 3 (eLst [(eTup [(eC (.int 0)), (e2 ixD (eV 1) (eC (.int 0)))])]))
    (sSeq (sFor (gN 4) (iR2 (eC (.int 1)) (e2 addD (eC (.int 1)) (eCall F__law_mix [(eV 0), (eC (.int 9767)), (eC (.int 6))]))) L1__law_scale)
    (sRet (e1 tupleD (eO 3))))))))
noncomputable def F__law_scale : FF := lock (fnF 5 b__law_scale)
noncomputable def b_worded : SF :=
    (sSeq (sIf (bT (eCall F_is_too_great [(e1 absD (eV 0)), (eV 1)])) (sRaise (S [78, 111, 78, 117, 109, 98, 101, 114])) sNx)
    (sSeq (sIf (bT (e2 ltD (eV 0) (eC (.int 0)))) (sRet (eM_join1 (eC (.str (S [32]))) (e2 addD (eLst [(e2 ixD (eV 1) (eC (.int 3)))]) (eCall (F_words_of 14) [(e1 negD (eV 0)), (eV 1)])))) sNx)
    (sRet (eM_join1 (eC (.str (S [32]))) (eCall (F_words_of 14) [(eV 0), (eV 1)])))))
noncomputable def F_worded : FF := lock (fnF 2 b_worded)
noncomputable def L1__law_worded (rec_ : FF) (ρ : En) : SR :=
    (sIf (bT (e2 geD (eV 0) (e2 ixD (eV 7) (eV 9)))) (sSeq (sAsg (gN 8) (e2 addD (e2 addD (e2 addD (e2 addD (eV 8) (eCall rec_ [(e2 fdivD (eV 0) (e2 ixD (eV 7) (eV 9))), (eV 1)])) (eC (.str (S [32])))) (e2 ixD (eV 4) (eV 9))) (eC (.str (S [32])))))
    (sAsg (gN 0) (e2 modD (eV 0) (e2 ixD (eV 7) (eV 9))))) sNx) ρ
noncomputable def b__law_worded (rec_ : FF) : SF :=
    (sSeq (sAsg (gT [(gN 2), (gN 3), (gN 4), (gN 5)]) (eV 1))
    (sSeq (sIf (bT (e2 ltD (eV 0) (eC (.int 0)))) (sRet (e2 addD (e2 addD (eV 5) (eC (.str (S [32])))) (eCall rec_ [(e1 negD (eV 0)), (eV 1)]))) sNx)
    (sSeq (sIf (bT (e2 ltD (eV 0) (eC (.int 20)))) (sRet (e2 ixD (eV 2) (eV 0))) sNx)
    (sSeq (sIf (bT (e2 ltD (eV 0) (eC (.int 100)))) (sSeq (sAsg (gN 6) (e2 modD (eV 0) (eC (.int 10))))
    (sRet (e2 addD (e2 ixD (eV 3) (e2 subD (e2 fdivD (e2 subD (eV 0) (eV 6)) (eC (.int 10))) (eC (.int 2)))) (e2 repD (e2 addD (eC (.str (S [32]))) (e2 ixD (eV 2) (eV 6))) (e1 intD (e2 gtD (eV 6) (eC (.int 0)))))))) sNx)
    (sSeq (sAsg (gN 7) (eTup [(eC (.int 100)), (eC (.int 1000)), (eC (.int 1000000)), (eC (.int 1000000000))]))
    (sSeq (sAsg (gN 8) (eC (.str (S []))))
    (sSeq (sFor (gN 9) (iR3 (e2 subD (e1 lenD (eV 4)) (eC (.int 1))) (e1 negD (eC (.int 1))) (e1 negD (eC (.int 1)))) (L1__law_worded rec_))
    (sSeq (sIf (bT (e2 gtD (eV 0) (eC (.int 0)))) (sAsg (gN 8) (e2 addD (eV 8) (eCall rec_ [(eV 0), (eV 1)]))) sNx)
    (sRet (eM_strip1 (eV 8) (eC (.str (S [32])))))))))))))
noncomputable def F__law_worded : Nat → FF
  | 0 => fun _ => .no
  | k + 1 => lock (fnF 10 (b__law_worded (F__law_worded k)))
noncomputable def b__law_told_v1 : SF :=
    (sSeq (sAsg (gN 2) (eC .none))
    (sSeq (sTryAs [((S [78, 111, 78, 117, 109, 98, 101, 114]), true)] 3 (sAsg (gN 2) (eCall F_worded [(eV 0), (eV 1)])) (fun ad_ c_ => (sAsg (gN 2) (eTup [(eC (.str (S [110, 111]))), (eIs [((S [78, 111, 78, 117, 109, 98, 101, 114]), true)] 3 ad_ c_), (eIs [((S [78, 111, 78, 117, 109, 98, 101, 114]), false)] 3 ad_ c_)]))))
    (sRet (eV 2))))
noncomputable def F__law_told_v1 : FF := lock (fnF 4 b__law_told_v1)
noncomputable def b_small : SF :=
    (sSeq (sAsg (gT [(gN 2), (gN 3), (gN 4), (gN 5)]) (eV 1))
    (sSeq (sIf (bAnd (bT (e2 eqD (e1 lenD (eV 0)) (eC (.int 1)))) (bT (e2 inD (e2 ixD (eV 0) (eC (.int 0))) (eV 2)))) (sRet (eM_index1 (eV 2) (e2 ixD (eV 0) (eC (.int 0))))) sNx)
    (sSeq (sIf (bOr (bNot (bT (eCh leD leD (eC (.int 1)) (e1 lenD (eV 0)) (eC (.int 2))))) (bT (e2 ninD (e2 ixD (eV 0) (eC (.int 0))) (eV 3)))) (sRaise (S [78, 111, 78, 117, 109, 98, 101, 114])) sNx)
    (sSeq (sAsg (gN 6) (e2 addD (e2 mulD (eC (.int 10)) (eM_index1 (eV 3) (e2 ixD (eV 0) (eC (.int 0))))) (eC (.int 20))))
    (sSeq (sIf (bT (e2 eqD (e1 lenD (eV 0)) (eC (.int 2)))) (sSeq (sIf (bT (e2 ninD (e2 ixD (eV 0) (eC (.int 1))) (eV 2))) (sRaise (S [78, 111, 78, 117, 109, 98, 101, 114])) sNx)
    (sAsg (gN 6) (e2 addD (eV 6) (eM_index1 (eV 2) (e2 ixD (eV 0) (eC (.int 1))))))) sNx)
    (sRet (eV 6)))))))
noncomputable def F_small : FF := lock (fnF 7 b_small)
noncomputable def b_number_of (rec_ : FF) : SF :=
    (sSeq (sIf (bT (e2 eqD (eV 2) (eC (.int 0)))) (sRet (eCall F_small [(eV 0), (eV 1)])) sNx)
    (sSeq (sAsg (gN 3) (e2 ixD (e2 ixD (eV 1) (eC (.int 2))) (e2 subD (eV 2) (eC (.int 1)))))
    (sSeq (sIf (bT (e2 ninD (eV 3) (eV 0))) (sRet (eCall rec_ [(eV 0), (eV 1), (e2 subD (eV 2) (eC (.int 1)))])) sNx)
    (sSeq (sAsg (gN 4) (eM_index1 (eV 0) (eV 3)))
    (sSeq (sAsg (gN 5) (e2 mulD (e2 ixD (eC (.tuple [(.int 100), (.int 1000), (.int 1000000), (.int 1000000000)])) (e2 subD (eV 2) (eC (.int 1)))) (eCall rec_ [(eSl (eV 0) none (some (eV 4))), (eV 1), (e2 subD (eV 2) (eC (.int 1)))])))
    (sSeq (sIf (bT (e2 ltD (e2 addD (eV 4) (eC (.int 1))) (e1 lenD (eV 0)))) (sAsg (gN 5) (e2 addD (eV 5) (eCall rec_ [(eSl (eV 0) (some (e2 addD (eV 4) (eC (.int 1)))) none), (eV 1), (e2 subD (eV 2) (eC (.int 1)))]))) sNx)
    (sRet (eV 5))))))))
noncomputable def F_number_of : Nat → FF
  | 0 => fun _ => .no
  | k + 1 => lock (fnF 6 (b_number_of (F_number_of k)))
noncomputable def b_read_worded : SF :=
    (sSeq (sAsg (gN 2) (eM_split1 (eV 0) (eC (.str (S [32])))))
    (sSeq (sIf (bT (e2 eqD (e2 ixD (eV 2) (eC (.int 0))) (e2 ixD (eV 1) (eC (.int 3))))) (sAsg (gN 3) (e1 negD (eCall (F_number_of 6) [(eSl (eV 2) (some (eC (.int 1))) none), (eV 1), (e1 lenD (e2 ixD (eV 1) (eC (.int 2))))]))) (sAsg (gN 3) (eCall (F_number_of 6) [(eV 2), (eV 1), (e1 lenD (e2 ixD (eV 1) (eC (.int 2))))])))
    (sSeq (sIf (bOr (bT (eCall F_is_too_great [(e1 absD (eV 3)), (eV 1)])) (bT (e2 neD (eCall F_worded [(eV 3), (eV 1)]) (eV 0)))) (sRaise (S [78, 111, 78, 117, 109, 98, 101, 114])) sNx)
    (sRet (eV 3)))))
noncomputable def F_read_worded : FF := lock (fnF 4 b_read_worded)
noncomputable def b__law_told_v2 : SF :=
    (sSeq (sAsg (gN 2) (eC .none))
    (sSeq (sTryAs [((S [78, 111, 78, 117, 109, 98, 101, 114]), true)] 3 (sAsg (gN 2) (eCall F_read_worded [(eV 0), (eV 1)])) (fun ad_ c_ => (sAsg (gN 2) (eTup [(eC (.str (S [110, 111]))), (eIs [((S [78, 111, 78, 117, 109, 98, 101, 114]), true)] 3 ad_ c_), (eIs [((S [78, 111, 78, 117, 109, 98, 101, 114]), false)] 3 ad_ c_)]))))
    (sRet (eV 2))))
noncomputable def F__law_told_v2 : FF := lock (fnF 4 b__law_told_v2)
noncomputable def b__law_is_right_v1 : SF :=
    (sSeq (sAsg (gN 2) (eCall F__law_told_v2 [(eV 0), (eV 1)]))
    (sSeq (sIf (bT (e1 (isiD "tuple") (eV 2))) (sRet (e2 eqD (eV 2) (eTup [(eC (.str (S [110, 111]))), (eC (.bool true)), (eC (.bool false))]))) sNx)
    (sSeq (sIf (bOr (bNot (bT (e1 (isiD "int") (eV 2)))) (bOr (bT (e1 (isiD "bool") (eV 2))) (bT (e2 geD (e1 absD (eV 2)) (eCall F__law_most [(eV 1)]))))) (sRet (eC (.bool false))) sNx)
    (sRet (e2 eqD (eCall (F__law_worded 6) [(eV 2), (eV 1)]) (eV 0))))))
noncomputable def F__law_is_right_v1 : FF := lock (fnF 3 b__law_is_right_v1)
noncomputable def b_added : SF :=
    (sSeq (sIf (bT (e2 neD (e2 ixD (eV 0) (eC (.int 1))) (e2 ixD (eV 1) (eC (.int 1))))) (sRaise (S [78, 111, 77, 111, 110, 101, 121])) sNx)
    (sRet (eTup [(e2 addD (e2 ixD (eV 0) (eC (.int 0))) (e2 ixD (eV 1) (eC (.int 0)))), (e2 ixD (eV 0) (eC (.int 1)))])))
noncomputable def F_added : FF := lock (fnF 2 b_added)
noncomputable def b__law_added : SF :=
    (sSeq (sAsg (gN 2) (eC .none))
    (sSeq (sTryAs [((S [78, 111, 77, 111, 110, 101, 121]), true)] 3 (sAsg (gN 2) (eCall F_added [(eV 0), (eV 1)])) (fun ad_ c_ => (sAsg (gN 2) (eTup [(eC (.str (S [110, 111]))), (eIs [((S [78, 111, 77, 111, 110, 101, 121]), true)] 3 ad_ c_), (eIs [((S [78, 111, 77, 111, 110, 101, 121]), false)] 3 ad_ c_)]))))
    (sRet (eV 2))))
noncomputable def F__law_added : FF := lock (fnF 4 b__law_added)
noncomputable def L1__law_sum (ρ : En) : SR :=
    (sAsg (gN 1) (eCall F_added [(eV 1), (eV 2)])) ρ
noncomputable def b__law_sum : SF :=
    (sSeq (sAsg (gN 1) (eTup [(eC (.int 0)), (e2 ixD (e2 ixD (eV 0) (eC (.int 0))) (eC (.int 1)))]))
    (sSeq (sFor (gN 2) (iS (eV 0)) L1__law_sum)
    (sRet (eV 1))))
noncomputable def F__law_sum : FF := lock (fnF 3 b__law_sum)
noncomputable def C1_place_of (ρ : En) : Rs PyData :=
    (eV 3) ρ
noncomputable def b_place_of : SF :=
    (sSeq (sAsg (gN 2) (e2 ixD (eM_partition1 (eV 0) (e2 ixD (eV 1) (eC (.int 0)))) (eC (.int 0))))
    (sRet (e2 addD (e1 maxLD (eLc [3, 4] (iE (eV 2)) (gT [(gN 3), (gN 4)]) (bT (e2 inD (eV 4) (eC (.str (S [48, 49, 50, 51, 52, 53, 54, 55, 56, 57]))))) C1_place_of)) (eC (.int 1)))))
noncomputable def F_place_of : FF := lock (fnF 5 b_place_of)
noncomputable def C1_lined (ρ : En) : Rs PyData :=
    (eCall F_place_of [(eV 5), (eV 1)]) ρ
noncomputable def C2_lined (ρ : En) : Rs PyData :=
    (e2 addD (e2 repD (eC (.str (S [32]))) (e2 subD (e1 maxLD (eV 2)) (eV 6))) (eV 5)) ρ
noncomputable def C3_lined (ρ : En) : Rs PyData :=
    (e1 lenD (eV 5)) ρ
noncomputable def C4_lined (ρ : En) : Rs PyData :=
    (e2 addD (eV 5) (e2 repD (eC (.str (S [32]))) (e2 subD (eV 4) (e1 lenD (eV 5))))) ρ
noncomputable def b_lined : SF :=
    (sSeq (sAsg (gN 2) (eLc [5] (iS (eV 0)) (gN 5) bYes C1_lined))
    (sSeq (sAsg (gN 3) (eLc [5, 6] (iZ (eV 0) (eV 2)) (gT [(gN 5), (gN 6)]) bYes C2_lined))
    (sSeq (sAsg (gN 4) (e1 maxLD (eLc [5] (iS (eV 3)) (gN 5) bYes C3_lined)))
    (sRet (e1 tupleD (eLc [5] (iS (eV 3)) (gN 5) bYes C4_lined))))))
noncomputable def F_lined : FF := lock (fnF 7 b_lined)
noncomputable def C1_column (ρ : En) : Rs PyData :=
    (eCall F_shown [(eV 4), (eV 1), (eV 2), (eV 3)]) ρ
noncomputable def b_column : SF :=
    (sRet (eCall F_lined [(eLc [4] (iS (eV 0)) (gN 4) bYes C1_column), (eV 1)]))
noncomputable def F_column : FF := lock (fnF 5 b_column)
noncomputable def T1__law_place (ρ : En) : Rs Bool :=
    (bT (e2 ninD (e2 ixD (eV 2) (e1 negD (eC (.int 1)))) (eC (.str (S [48, 49, 50, 51, 52, 53, 54, 55, 56, 57]))))) ρ
noncomputable def L1__law_place (ρ : En) : SR :=
    (sAsg (gN 2) (eSl (eV 2) none (some (e1 negD (eC (.int 1)))))) ρ
noncomputable def b__law_place : SF :=
    (sSeq (sAsg (gN 2) (e2 ixD (eM_split1 (eV 0) (e2 ixD (eV 1) (eC (.int 0)))) (eC (.int 0))))
    (sSeq (whL T1__law_place L1__law_place 1000)
    (sRet (e1 lenD (eV 2)))))
noncomputable def F__law_place : FF := lock (fnF 3 b__law_place)
noncomputable def C1__law_lined (ρ : En) : Rs PyData :=
    (eCall F__law_place [(eV 5), (eV 1)]) ρ
noncomputable def C2__law_lined (ρ : En) : Rs PyData :=
    (e2 addD (e2 repD (eC (.str (S [32]))) (e2 subD (eV 2) (eCall F__law_place [(eV 5), (eV 1)]))) (eV 5)) ρ
noncomputable def C3__law_lined (ρ : En) : Rs PyData :=
    (e1 lenD (eV 5)) ρ
noncomputable def C4__law_lined (ρ : En) : Rs PyData :=
    (e2 addD (eV 5) (e2 repD (eC (.str (S [32]))) (e2 subD (eV 4) (e1 lenD (eV 5))))) ρ
noncomputable def b__law_lined : SF :=
    (sSeq (sAsg (gN 2) (e1 maxLD (eLc [5] (iS (eV 0)) (gN 5) bYes C1__law_lined)))
    (sSeq (sAsg (gN 3) (eLc [5] (iS (eV 0)) (gN 5) bYes C2__law_lined))
    (sSeq (sAsg (gN 4) (e1 maxLD (eLc [5] (iS (eV 3)) (gN 5) bYes C3__law_lined)))
    (sRet (e1 tupleD (eLc [5] (iS (eV 3)) (gN 5) bYes C4__law_lined))))))
noncomputable def F__law_lined : FF := lock (fnF 6 b__law_lined)
noncomputable def C1_behind_point (ρ : En) : Rs PyData :=
    (eV 2) ρ
noncomputable def b_behind_point : SF :=
    (sRet (e1 lenD (eLc [2] (iS (e2 ixD (eM_partition1 (eV 0) (e2 ixD (eV 1) (eC (.int 0)))) (eC (.int 2)))) (gN 2) (bT (e2 inD (eV 2) (eC (.str (S [48, 49, 50, 51, 52, 53, 54, 55, 56, 57]))))) C1_behind_point)))
noncomputable def F_behind_point : FF := lock (fnF 3 b_behind_point)
noncomputable def C1__law_footed (ρ : En) : Rs PyData :=
    (e2 mulD (e2 mulD (e2 ixD (eV 13) (eC (.int 0))) (eV 3)) (eCall F__law_ten [(e2 subD (eC (.int 9)) (e2 ixD (eV 13) (eC (.int 1))))])) ρ
noncomputable def C2__law_footed (ρ : En) : Rs PyData :=
    (e2 fdivD (eV 14) (eV 5)) ρ
noncomputable def C3__law_footed (ρ : En) : Rs PyData :=
    (e2 subD (eV 14) (e2 mulD (eV 15) (eV 5))) ρ
noncomputable def L1__law_footed (ρ : En) : SR :=
    (sSeq (sAsg (gN 11) (eTh 6 (eLc [14, 15] (iZ (eV 4) (eV 6)) (gT [(gN 14), (gN 15)]) bYes C3__law_footed)))
    (sSeq (sAsg (gN 12) (eM_index1 (eV 11) (e1 maxLD (eV 11))))
    (sPut 6 (eV 12) (e2 addD (e2 ixD (eO 6) (eV 12)) (eC (.int 1)))))) ρ
noncomputable def C4__law_footed (ρ : En) : Rs PyData :=
    (eCall F__law_normal [(eV 15), (eV 1)]) ρ
noncomputable def b__law_footed : SF :=
    (sSeq (sAsg (gN 3) (eCall F__law_ten [(eV 1)]))
    (sSeq (sAsg (gN 4) (eLc [13] (iS (eV 0)) (gN 13) bYes C1__law_footed))
    (sSeq (sAsg (gN 5) (eCall F__law_ten [(eC (.int 9))]))
    (sSeq (sOwn 6 (eLc [14] (iS (eV 4)) (gN 14) bYes C2__law_footed))
    (sSeq (sAsg (gN 7) (eCall F__law_sum_v1 [(eV 0)]))
    (sSeq (sAsg (gN 8) (eCall F_made [(e2 ixD (eV 7) (eC (.int 0))), (eCall F__law_ten [(e2 ixD (eV 7) (eC (.int 1)))]), (eV 1), (eV 2)]))
    (sSeq (sAsg (gN 9) (e2 mulD (e2 ixD (eV 8) (eC (.int 0))) (eCall F__law_ten [(e2 subD (eV 1) (e2 ixD (eV 8) (eC (.int 1))))])))
    (sSeq (sFor (gN 10) (iR1 (e2 subD (eV 9) (e1 sumD (eO 6)))) L1__law_footed)
    (sFrz 6 (sRet (e1 tupleD (eLc [15] (iS (eV 6)) (gN 15) bYes C4__law_footed))))))))))))
noncomputable def F__law_footed : FF := lock (fnF 16 b__law_footed)
end L2.Pz.Fn

namespace L2.Pz
open PySem PySem.Spec L2 L2.Pz.Fn
/-! ### columns, the walk -/
theorem lcL_fil {α : Type} {h : PyData → Rs (List PyData)} {mk g : α → PyData} {p : α → Bool} : ∀ {l : List α}, (∀ a ∈ l, h (mk a) = if p a = true then .ok [g a] else .ok []) → lcL h (l.map mk) = .ok ((l.filter p).map g)
  | [], _ => rfl
  | d :: ds, k => by
    rw [List.map_cons]
    unfold lcL
    rw [k d List.mem_cons_self, lcL_fil fun e he => k e (List.mem_cons_of_mem _ he)]
    by_cases hp : p d = true
    · rw [if_pos hp, List.filter_cons_of_pos hp]; rfl
    · rw [if_neg hp, List.filter_cons_of_neg hp]; rfl
theorem inS_1 (c : Nat) (l : List Nat) : inS (S [c]) (S l) = decide (c ∈ l) := rfl
theorem enum_signs (l : List Nat) : enumL (signsD (S l)) = l.zipIdx.map fun p => .tuple [.int (p.2 : Nat), .str (S [p.1])] := by
  unfold enumL signsD
  show List.map _ ((l.map fun c => PyData.str (S [c])).zipIdx) = _
  rw [List.zipIdx_map, List.map_map]
  rfl
def idx (l : List Nat) : List Nat := (l.zipIdx.filter fun p => isF p.1).map fun p => p.2
theorem idx_snoc (l : List Nat) (x : Nat) : idx (l ++ [x]) = if isF x = true then idx l ++ [l.length] else idx l := by
  unfold idx
  rw [List.zipIdx_append, List.filter_append, List.map_append]
  by_cases h : isF x = true
  · rw [if_pos h]; simp [h]
  · rw [if_neg h]; simp [h]
theorem idx_lt {l : List Nat} {n : Nat} (h : n ∈ idx l) : n < l.length := by
  obtain ⟨p, hp, rfl⟩ := List.mem_map.mp h
  have := List.mem_zipIdx (List.mem_filter.mp hp).1
  omega
theorem idx_max : ∀ r : List Nat, hasF r.reverse → (tr r.reverse).length - 1 ∈ idx r.reverse ∧ ∀ y ∈ idx r.reverse, y ≤ (tr r.reverse).length - 1
  | [], ⟨x, hx, _⟩ => by simp at hx
  | x :: r, h => by
    rw [List.reverse_cons] at *
    rw [tr_snoc, idx_snoc]
    by_cases hx : isF x = true
    · rw [if_pos hx, if_pos hx]
      simp only [List.length_append, List.length_singleton]
      refine ⟨by simp, fun y hy => ?_⟩
      rcases List.mem_append.mp hy with e | e
      · have := idx_lt e; omega
      · simp at e; simp; omega
    · rw [if_neg hx, if_neg hx]
      refine idx_max r ?_
      obtain ⟨y, hy, hf⟩ := h
      refine ⟨y, ?_, hf⟩
      rcases List.mem_append.mp hy with e | e
      · exact e
      · simp at e; subst e; exact absurd hf hx
theorem mx_idx {l : List Nat} (h : hasF l) : idx l ≠ [] ∧ mxN (idx l) + 1 = (tr l).length := by
  have q := idx_max l.reverse (by rw [List.reverse_reverse]; exact h)
  rw [List.reverse_reverse] at q
  have p := tr_pos h
  refine ⟨fun e => by rw [e] at q; simp at q, ?_⟩
  have a := mxN_le q.2
  have b := le_mxN q.1
  omega
theorem ahd_len (c : Nat) (t : List Nat) : (ahd c t).length ≤ t.length := takeWhile_le _ t
theorem place_of_eq {m : Man} {t : List Nat} (hf : hasF (ahd m.pt t)) (ht : t.length ≤ 2000) : F_place_of [sD t, manD m] = .ok (.int (plc m.pt t : Nat)) := by
  obtain ⟨hn, hx⟩ := mx_idx hf
  have hz := ahd_len m.pt t
  unfold plc
  have lc : ∀ s0 s1 s2 : Option Sl, lcL (lc1 (gT [gN 3, gN 4]) (bT (e2 inD (eV 4) (eC (.str (S [48, 49, 50, 51, 52, 53, 54, 55, 56, 57]))))) C1_place_of [s0, s1, s2, none, none]) (enumL (signsD (S (ahd m.pt t)))) = .ok ((idx (ahd m.pt t)).map fun n : Nat => PyData.int (n : Nat)) := by
    intro s0 s1 s2
    rw [enum_signs, lcL_fil (p := fun p => isF p.1) (g := fun p => .int (p.2 : Nat)) fun p hp => by
      have e := inS_1 p.1 [48, 49, 50, 51, 52, 53, 54, 55, 56, 57]
      by_cases h : isF p.1 = true
      · have e2 : inS (S [p.1]) (S [48, 49, 50, 51, 52, 53, 54, 55, 56, 57]) = true := by rw [e]; exact h
        generalize S [48, 49, 50, 51, 52, 53, 54, 55, 56, 57] = F at *
        simp [C1_place_of, e2, h]
      · have e2 : inS (S [p.1]) (S [48, 49, 50, 51, 52, 53, 54, 55, 56, 57]) = false := by rw [e]; simpa [isF] using h
        generalize S [48, 49, 50, 51, 52, 53, 54, 55, 56, 57] = F at *
        simp [C1_place_of, e2, h]]
    unfold idx
    rw [List.map_map]
    rfl
  have x0 : ixD (manD m) (.int 0) = .ok (.str (S [m.pt])) := rfl
  have pt : partitionD (.str (S t)) (.str (S [m.pt])) = .ok (.tuple [.str (S (ahd m.pt t)), .str (S (partL m.pt t).2.1), .str (S (partL m.pt t).2.2)]) := by rw [partitionD_S, part1]
  have el : (enumL (signsD (S (ahd m.pt t)))).length ≤ sizeLine := by
    rw [enum_signs, List.length_map, List.length_zipIdx]
    exact Nat.le_trans (Nat.le_trans hz ht) (by decide)
  have mx := maxLD_nat hn
  have e3 : ((mxN (idx (ahd m.pt t)) : Nat) : Int) + 1 = (((tr (ahd m.pt t)).length : Nat) : Int) := by omega
  unfold sD F_place_of b_place_of
  have lc := lc (some (.v (.str (S t)))) (some (.v (manD m))) (some (.v (.str (S (ahd m.pt t)))))
  generalize (partL m.pt t).2.1 = P1 at *
  generalize (partL m.pt t).2.2 = P2 at *
  have en : enumD (.str (S (ahd m.pt t))) = .ok (enumL (signsD (S (ahd m.pt t)))) := rfl
  generalize enumL (signsD (S (ahd m.pt t))) = EN at *
  generalize mxN (idx (ahd m.pt t)) = MX at *
  generalize (tr (ahd m.pt t)).length = TL at *
  generalize ((idx (ahd m.pt t)).map fun n : Nat => PyData.int (n : Nat)) = IX at *
  generalize S (ahd m.pt t) = AH at *
  generalize S [48, 49, 50, 51, 52, 53, 54, 55, 56, 57] = FG at *
  generalize manD m = M at *
  rw [lock_eq]
  show outF (sSeq _ _ _) = _
  rw [show startE 5 [.str (S t), M] = [some (.v (.str (S t))), some (.v M), none, none, none] from rfl, sSeq_nx (sAsg_nx (d := .str AH) (by simp [x0, pt, atI0]) rfl)]
  refine congrArg outF (sRet_rt (d := .int (TL : Nat)) ?_)
  rw [e2_ok (d := .int (MX : Nat)) (e := .int 1) (by rw [e1_ok' (lc_ok (ds := EN) (by simp [en]) el lc)]; exact mx) rfl]
  show Rs.ok _ = _
  rw [e3]
theorem ix_last (l : List Nat) (x : Nat) : ixD (.str (S (l ++ [x]))) (.int (-1)) = .ok (.str (S [x])) := by
  have a1 : atI (S (l ++ [x])).cps.toList (-1) = some x := by
    show atI (l ++ [x]) (-1) = some x
    unfold atI ixN
    have h1 : ¬ ((0 : Int) ≤ -1) := by omega
    have h2 : -((l ++ [x]).length : Int) ≤ -1 := by rw [List.length_append, List.length_singleton]; omega
    have h3 : ((-1 : Int) + ((l ++ [x]).length : Nat)).toNat = l.length := by rw [List.length_append, List.length_singleton]; omega
    rw [if_neg h1, if_pos h2]
    show (l ++ [x])[((-1 : Int) + ((l ++ [x]).length : Nat)).toNat]? = some x
    rw [h3]
    simp
  unfold ixD
  simp only [a1]
  rfl
/-- the law's own place -/
theorem lp_loop {s0 s1 : Option Sl} : ∀ (r : List Nat) (n : Nat), hasF r.reverse → r.length < n → whL T1__law_place L1__law_place n [s0, s1, some (.v (sD r.reverse))] = .nx [s0, s1, some (.v (sD (tr r.reverse)))]
  | [], _, ⟨x, hx, _⟩, _ => by simp at hx
  | x :: r, 0, _, h => by simp at h
  | x :: r, n + 1, h, hn => by
    rw [List.reverse_cons] at *
    rw [tr_snoc]
    have ix : ixD (.str (S (r.reverse ++ [x]))) (.int (-1)) = .ok (.str (S [x])) := ix_last r.reverse x
    have e := inS_1 x [48, 49, 50, 51, 52, 53, 54, 55, 56, 57]
    unfold whL
    by_cases hx : isF x = true
    · have e2 : inS (S [x]) (S [48, 49, 50, 51, 52, 53, 54, 55, 56, 57]) = true := by rw [e]; exact hx
      rw [if_pos hx]
      unfold sD
      have t : T1__law_place [s0, s1, some (.v (.str (S (r.reverse ++ [x]))))] = .ok false := by
        unfold T1__law_place
        generalize S [48, 49, 50, 51, 52, 53, 54, 55, 56, 57] = F at *
        generalize S (r.reverse ++ [x]) = R at *
        simp [ix, e2]
      rw [t]
    · have e2 : inS (S [x]) (S [48, 49, 50, 51, 52, 53, 54, 55, 56, 57]) = false := by rw [e]; simpa [isF] using hx
      rw [if_neg hx]
      have hr : hasF r.reverse := by
        obtain ⟨y, hy, hf⟩ := h
        refine ⟨y, ?_, hf⟩
        rcases List.mem_append.mp hy with e | e
        · exact e
        · simp at e; subst e; exact absurd hf hx
      have ih := lp_loop (s0 := s0) (s1 := s1) r n hr (by simp at hn; omega)
      have t : T1__law_place [s0, s1, some (.v (.str (S (r.reverse ++ [x]))))] = .ok true := by
        unfold T1__law_place
        generalize S [48, 49, 50, 51, 52, 53, 54, 55, 56, 57] = F at *
        generalize S (r.reverse ++ [x]) = R at *
        simp [ix, e2]
      have c1 : cutL (r.reverse ++ [x]) none (some (-1)) = r.reverse := by
        have := cut_front (l := r.reverse ++ [x]) (k := 1) (by decide)
        rw [List.length_append, List.length_singleton, Nat.add_sub_cancel, List.take_left'] at this
        · exact this
        · rfl
      have b : L1__law_place [s0, s1, some (.v (.str (S (r.reverse ++ [x]))))] = .nx [s0, s1, some (.v (.str (S r.reverse)))] := by
        unfold L1__law_place
        have sl : slD (.str (S (r.reverse ++ [x]))) none (some (-1)) = .ok (.str (S r.reverse)) := by
          show Rs.ok (PyData.str (cutS _ _ _)) = _
          rw [cutS_S, c1]
        generalize S (r.reverse ++ [x]) = R at *
        generalize S r.reverse = R2 at *
        simp [sl]
      unfold sD at ih ⊢
      rw [t, b]
      exact ih
theorem law_place_eq {m : Man} {t : List Nat} (hf : hasF (ahd m.pt t)) (ht : t.length ≤ 900) : F__law_place [sD t, manD m] = .ok (.int (plc m.pt t : Nat)) := by
  have hz := ahd_len m.pt t
  have lp := lp_loop (s0 := some (.v (sD t))) (s1 := some (.v (manD m))) (ahd m.pt t).reverse 1000 (by rw [List.reverse_reverse]; exact hf) (by rw [List.length_reverse]; omega)
  rw [List.reverse_reverse] at lp
  obtain ⟨r, sp⟩ := split0 m.pt t
  have x0 : ixD (manD m) (.int 0) = .ok (.str (S [m.pt])) := rfl
  have sd : splitD (.str (S t)) (.str (S [m.pt])) = .ok (.list (.str (S (ahd m.pt t)) :: r.map fun l => .str (S l))) := by
    rw [splitD_S, if_pos (by omega), sp]
    rfl
  unfold plc
  unfold sD at *
  unfold F__law_place b__law_place
  have le : lenD (.str (S (tr (ahd m.pt t)))) = .ok (.int ((tr (ahd m.pt t)).length : Nat)) := by simp
  generalize (tr (ahd m.pt t)).length = TL at *
  generalize S (tr (ahd m.pt t)) = TR at *
  generalize S (ahd m.pt t) = AH at *
  generalize (r.map fun l => PyData.str (S l)) = RS at *
  generalize manD m = M at *
  rw [lock_eq]
  show outF (sSeq _ _ _) = _
  rw [show startE 3 [.str (S t), M] = [some (.v (.str (S t))), some (.v M), none] from rfl, sSeq_nx (sAsg_nx (d := .str AH) (by simp [x0, sd, atI0]) rfl)]
  simp only [gN, List.set_cons_succ, List.set_cons_zero]
  rw [sSeq_nx (show whL T1__law_place L1__law_place 1000 _ = _ from lp)]
  simp [le]
theorem repB (n : Nat) (h : n ≤ 100000) : repD (.str (S [32])) (.int (n : Nat)) = .ok (.str (S (List.replicate n 32))) := by
  rw [repD_S (by omega) (by omega) (by decide), Int.toNat_natCast, rep1]
theorem subNat {a b : Nat} (h : b ≤ a) : (a : Int) - (b : Nat) = ((a - b : Nat) : Int) := by omega
structure Col (c : Nat) (ts : List (List Nat)) : Prop where
  ne : ts ≠ []
  g : ∀ t ∈ ts, Gt c t
  n : ts.length ≤ 100
theorem Col.z {c : Nat} {ts : List (List Nat)} (h : Col c ts) : ∀ t ∈ ts, t.length ≤ 400 := fun t ht => (h.g t ht).z
theorem sl_3000 : 3000 ≤ sizeLine := by decide
theorem zipSI (ts : List (List Nat)) (f : List Nat → Nat) : List.zipWith pairD (ts.map sD) (ts.map fun t => PyData.int (f t : Nat)) = ts.map fun t => .tuple [sD t, .int (f t : Nat)] := by
  induction ts with
  | nil => rfl
  | cons t ts ih => simp [ih]
theorem fnd_eq {c M : Nat} {t : List Nat} (h : plc c t ≤ M) (hM : M ≤ 400) (hz : t.length ≤ 400) : (repD (.str (S [32])) (.int ((M : Int) - (plc c t : Nat)))).bind (fun d => addD d (.str (S t))) = .ok (.str (S (cF c M t))) := by
  rw [subNat h, repB _ (by omega), Rs.bind_ok, addD_S (by rw [List.length_replicate]; omega)]
  rfl
theorem padd_eq {c M W : Nat} {t : List Nat} (h : (cF c M t).length ≤ W) (hW : W ≤ 800) : (repD (.str (S [32])) (.int ((W : Int) - ((cF c M t).length : Nat)))).bind (fun d => addD (.str (S (cF c M t))) d) = .ok (.str (S (pad c M W t))) := by
  rw [subNat h, repB _ (by omega), Rs.bind_ok, addD_S (by rw [List.length_replicate]; omega)]
  rfl
theorem lined_eq {m : Man} {ts : List (List Nat)} (h : Col m.pt ts) : F_lined [.list (ts.map sD), manD m] = .ok (.tuple ((linL m.pt ts).map sD)) := by
  have hz := h.z
  have hM := cM_len (c := m.pt) hz
  have hW := cW_len (c := m.pt) hz
  have sl := sl_3000
  have hn := h.n
  have hl : (ts.map sD).length ≤ sizeLine := by rw [List.length_map]; omega
  have c1 : ∀ s0 s2 s3 s4 s6 : Option Sl, lcL (lc1 (gN 5) bYes C1_lined [s0, some (.v (manD m)), s2, s3, s4, none, s6]) (ts.map sD) = .ok (ts.map fun t => PyData.int (plc m.pt t : Nat)) := fun s0 s2 s3 s4 s6 =>
    lcL_of (g := fun t => PyData.int (plc m.pt t : Nat)) fun t ht => by
      have q := place_of_eq (h.g t ht).f (by have := hz t ht; omega)
      generalize manD m = M at *
      generalize sD t = T at *
      simp [C1_lined, q]
  have mx : maxLD (.list (ts.map fun t => PyData.int (plc m.pt t : Nat))) = .ok (.int (cM m.pt ts : Nat)) := by
    have := maxLD_nat (l := ts.map (plc m.pt)) (by simpa using h.ne)
    rw [List.map_map] at this
    exact this
  have c2 : ∀ s0 s1 s3 s4 : Option Sl, lcL (lc1 (gT [gN 5, gN 6]) bYes C2_lined [s0, s1, some (.v (.list (ts.map fun t => PyData.int (plc m.pt t : Nat)))), s3, s4, none, none]) (List.zipWith pairD (ts.map sD) (ts.map fun t => PyData.int (plc m.pt t : Nat))) = .ok ((ts.map (cF m.pt (cM m.pt ts))).map sD) := fun s0 s1 s3 s4 => by
    rw [zipSI, lcL_of (g := fun t => sD (cF m.pt (cM m.pt ts) t)) fun t ht => by
      have q := fnd_eq (c := m.pt) (le_cM ht) hM (hz t ht)
      generalize (ts.map fun t => PyData.int (plc m.pt t : Nat)) = PL at *
      unfold sD
      generalize S (cF m.pt (cM m.pt ts) t) = R at *
      generalize cM m.pt ts = MM at *
      generalize S t = T at *
      simp [C2_lined, mx, q], List.map_map]
    rfl
  have c3 : ∀ s0 s1 s2 s3 s4 s6 : Option Sl, lcL (lc1 (gN 5) bYes C3_lined [s0, s1, s2, s3, s4, none, s6]) ((ts.map (cF m.pt (cM m.pt ts))).map sD) = .ok ((ts.map fun t => (cF m.pt (cM m.pt ts) t).length).map fun n : Nat => PyData.int (n : Nat)) := fun s0 s1 s2 s3 s4 s6 => by
    rw [lcL_of (g := fun f : List Nat => .int (f.length : Nat)) fun f hf => by simp [C3_lined, sD], List.map_map, List.map_map]
    rfl
  have mw0 := maxLD_nat (l := ts.map fun t => (cF m.pt (cM m.pt ts) t).length) (by simpa using h.ne)
  have c4 : ∀ s0 s1 s2 s3 s6 : Option Sl, lcL (lc1 (gN 5) bYes C4_lined [s0, s1, s2, s3, some (.v (.int (cW m.pt ts : Nat))), none, s6]) ((ts.map (cF m.pt (cM m.pt ts))).map sD) = .ok ((linL m.pt ts).map sD) := fun s0 s1 s2 s3 s6 => by
    rw [List.map_map, lcL_of (g := fun t => sD (pad m.pt (cM m.pt ts) (cW m.pt ts) t)) fun t ht => by
      have hw : (cF m.pt (cM m.pt ts) t).length ≤ cW m.pt ts := le_mxN (List.mem_map.mpr ⟨t, ht, rfl⟩)
      have q := padd_eq (c := m.pt) hw hW
      have le : lenD (.str (S (cF m.pt (cM m.pt ts) t))) = .ok (.int ((cF m.pt (cM m.pt ts) t).length : Nat)) := by simp
      show lc1 _ _ _ _ (sD (cF m.pt (cM m.pt ts) t)) = _
      unfold sD
      generalize S (pad m.pt (cM m.pt ts) (cW m.pt ts) t) = R at *
      generalize (cF m.pt (cM m.pt ts) t).length = L at *
      generalize cW m.pt ts = WW at *
      generalize S (cF m.pt (cM m.pt ts) t) = T at *
      simp [C4_lined, le, q]]
    unfold linL
    rw [List.map_map]
    rfl
  have z2 : (List.zipWith pairD (ts.map sD) (ts.map fun t => PyData.int (plc m.pt t : Nat))).length ≤ sizeLine := by rw [zipSI, List.length_map]; omega
  have z3 : ((ts.map (cF m.pt (cM m.pt ts))).map sD).length ≤ sizeLine := by rw [List.length_map, List.length_map]; omega
  have zd : zipD (.list (ts.map sD)) (.list (ts.map fun t => PyData.int (plc m.pt t : Nat))) = .ok (List.zipWith pairD (ts.map sD) (ts.map fun t => PyData.int (plc m.pt t : Nat))) := rfl
  have mw : maxLD (.list ((ts.map fun t => (cF m.pt (cM m.pt ts) t).length).map fun n : Nat => PyData.int (n : Nat))) = .ok (.int (cW m.pt ts : Nat)) := mw0
  clear mw0
  unfold F_lined b_lined
  clear hz hM hW mx hn
  generalize ((ts.map fun t => (cF m.pt (cM m.pt ts) t).length).map fun n : Nat => PyData.int (n : Nat)) = LW at *
  generalize cW m.pt ts = WW at *
  generalize (linL m.pt ts).map sD = R at *
  generalize (ts.map (cF m.pt (cM m.pt ts))).map sD = FF at *
  generalize List.zipWith pairD (ts.map sD) (ts.map fun t => PyData.int (plc m.pt t : Nat)) = ZZ at *
  generalize (ts.map fun t => PyData.int (plc m.pt t : Nat)) = PL at *
  generalize ts.map sD = TS at *
  generalize manD m = M at *
  rw [lock_eq]
  show outF (sSeq _ _ _) = _
  rw [show startE 7 [.list TS, M] = [some (.v (.list TS)), some (.v M), none, none, none, none, none] from rfl]
  rw [sSeq_nx (sAsg_nx (d := .list PL) (lc_ok (ds := TS) (by simp) hl (by simp only [wipeE, List.set_cons_succ, List.set_cons_zero]; exact c1 _ _ _ _ _)) rfl)]
  simp only [gN, List.set_cons_succ, List.set_cons_zero]
  rw [sSeq_nx (sAsg_nx (d := .list FF) (lc_ok (ds := ZZ) (by simp [zd]) z2 (by simp only [wipeE, List.set_cons_succ, List.set_cons_zero]; exact c2 _ _ _ _)) rfl)]
  simp only [gN, List.set_cons_succ, List.set_cons_zero]
  rw [sSeq_nx (sAsg_nx (d := .int (WW : Nat)) (by rw [e1_ok' (lc_ok (ds := FF) (by simp) z3 (by simp only [wipeE, List.set_cons_succ, List.set_cons_zero]; exact c3 _ _ _ _ _ _))]; exact mw) rfl)]
  simp only [gN, List.set_cons_succ, List.set_cons_zero]
  refine congrArg outF (sRet_rt ?_)
  rw [e1_ok' (lc_ok (ds := FF) (by simp) z3 (by simp only [wipeE, List.set_cons_succ, List.set_cons_zero]; exact c4 _ _ _ _ _))]
  rfl
theorem law_lined_eq {m : Man} {ts : List (List Nat)} (h : Col m.pt ts) : F__law_lined [.list (ts.map sD), manD m] = .ok (.tuple ((linL m.pt ts).map sD)) := by
  have hz := h.z
  have hM := cM_len (c := m.pt) hz
  have hW := cW_len (c := m.pt) hz
  have sl := sl_3000
  have hn := h.n
  have hl : (ts.map sD).length ≤ sizeLine := by rw [List.length_map]; omega
  have c1 : ∀ s0 s2 s3 s4 : Option Sl, lcL (lc1 (gN 5) bYes C1__law_lined [s0, some (.v (manD m)), s2, s3, s4, none]) (ts.map sD) = .ok (ts.map fun t => PyData.int (plc m.pt t : Nat)) := fun s0 s2 s3 s4 =>
    lcL_of (g := fun t => PyData.int (plc m.pt t : Nat)) fun t ht => by
      have q := law_place_eq (h.g t ht).f (by have := hz t ht; omega)
      generalize manD m = M at *
      generalize sD t = T at *
      simp [C1__law_lined, q]
  have mx : maxLD (.list (ts.map fun t => PyData.int (plc m.pt t : Nat))) = .ok (.int (cM m.pt ts : Nat)) := by
    have := maxLD_nat (l := ts.map (plc m.pt)) (by simpa using h.ne)
    rw [List.map_map] at this
    exact this
  have c2 : ∀ s0 s3 s4 : Option Sl, lcL (lc1 (gN 5) bYes C2__law_lined [s0, some (.v (manD m)), some (.v (.int (cM m.pt ts : Nat))), s3, s4, none]) (ts.map sD) = .ok ((ts.map (cF m.pt (cM m.pt ts))).map sD) := fun s0 s3 s4 => by
    rw [lcL_of (g := fun t => sD (cF m.pt (cM m.pt ts) t)) fun t ht => by
      have q := fnd_eq (c := m.pt) (le_cM ht) hM (hz t ht)
      have p := law_place_eq (h.g t ht).f (by have := hz t ht; omega)
      generalize manD m = MD at *
      unfold sD at *
      generalize S (cF m.pt (cM m.pt ts) t) = R at *
      generalize cM m.pt ts = MM at *
      generalize S t = T at *
      simp [C2__law_lined, p, q], List.map_map]
    rfl
  have c3 : ∀ s0 s1 s2 s3 s4 : Option Sl, lcL (lc1 (gN 5) bYes C3__law_lined [s0, s1, s2, s3, s4, none]) ((ts.map (cF m.pt (cM m.pt ts))).map sD) = .ok ((ts.map fun t => (cF m.pt (cM m.pt ts) t).length).map fun n : Nat => PyData.int (n : Nat)) := fun s0 s1 s2 s3 s4 => by
    rw [lcL_of (g := fun f : List Nat => .int (f.length : Nat)) fun f hf => by simp [C3__law_lined, sD], List.map_map, List.map_map]
    rfl
  have mw0 := maxLD_nat (l := ts.map fun t => (cF m.pt (cM m.pt ts) t).length) (by simpa using h.ne)
  have c4 : ∀ s0 s1 s2 s3 : Option Sl, lcL (lc1 (gN 5) bYes C4__law_lined [s0, s1, s2, s3, some (.v (.int (cW m.pt ts : Nat))), none]) ((ts.map (cF m.pt (cM m.pt ts))).map sD) = .ok ((linL m.pt ts).map sD) := fun s0 s1 s2 s3 => by
    rw [List.map_map, lcL_of (g := fun t => sD (pad m.pt (cM m.pt ts) (cW m.pt ts) t)) fun t ht => by
      have hw : (cF m.pt (cM m.pt ts) t).length ≤ cW m.pt ts := le_mxN (List.mem_map.mpr ⟨t, ht, rfl⟩)
      have q := padd_eq (c := m.pt) hw hW
      have le : lenD (.str (S (cF m.pt (cM m.pt ts) t))) = .ok (.int ((cF m.pt (cM m.pt ts) t).length : Nat)) := by simp
      show lc1 _ _ _ _ (sD (cF m.pt (cM m.pt ts) t)) = _
      unfold sD
      generalize S (pad m.pt (cM m.pt ts) (cW m.pt ts) t) = R at *
      generalize (cF m.pt (cM m.pt ts) t).length = L at *
      generalize cW m.pt ts = WW at *
      generalize S (cF m.pt (cM m.pt ts) t) = T at *
      simp [C4__law_lined, le, q]]
    unfold linL
    rw [List.map_map]
    rfl
  have z3 : ((ts.map (cF m.pt (cM m.pt ts))).map sD).length ≤ sizeLine := by rw [List.length_map, List.length_map]; omega
  have mw : maxLD (.list ((ts.map fun t => (cF m.pt (cM m.pt ts) t).length).map fun n : Nat => PyData.int (n : Nat))) = .ok (.int (cW m.pt ts : Nat)) := mw0
  clear mw0
  unfold F__law_lined b__law_lined
  clear hz hM hW hn
  generalize ((ts.map fun t => (cF m.pt (cM m.pt ts) t).length).map fun n : Nat => PyData.int (n : Nat)) = LW at *
  generalize cW m.pt ts = WW at *
  generalize (linL m.pt ts).map sD = R at *
  generalize (ts.map (cF m.pt (cM m.pt ts))).map sD = FF at *
  generalize (ts.map fun t => PyData.int (plc m.pt t : Nat)) = PL at *
  generalize cM m.pt ts = MM at *
  generalize ts.map sD = TS at *
  generalize manD m = M at *
  rw [lock_eq]
  show outF (sSeq _ _ _) = _
  rw [show startE 6 [.list TS, M] = [some (.v (.list TS)), some (.v M), none, none, none, none] from rfl]
  rw [sSeq_nx (sAsg_nx (d := .int (MM : Nat)) (by rw [e1_ok' (lc_ok (ds := TS) (by simp) hl (by simp only [wipeE, List.set_cons_succ, List.set_cons_zero]; exact c1 _ _ _ _))]; exact mx) rfl)]
  simp only [gN, List.set_cons_succ, List.set_cons_zero]
  rw [sSeq_nx (sAsg_nx (d := .list FF) (lc_ok (ds := TS) (by simp) hl (by simp only [wipeE, List.set_cons_succ, List.set_cons_zero]; exact c2 _ _ _)) rfl)]
  simp only [gN, List.set_cons_succ, List.set_cons_zero]
  rw [sSeq_nx (sAsg_nx (d := .int (WW : Nat)) (by rw [e1_ok' (lc_ok (ds := FF) (by simp) z3 (by simp only [wipeE, List.set_cons_succ, List.set_cons_zero]; exact c3 _ _ _ _ _))]; exact mw) rfl)]
  simp only [gN, List.set_cons_succ, List.set_cons_zero]
  refine congrArg outF (sRet_rt ?_)
  rw [e1_ok' (lc_ok (ds := FF) (by simp) z3 (by simp only [wipeE, List.set_cons_succ, List.set_cons_zero]; exact c4 _ _ _ _))]
  rfl
end L2.Pz

namespace L2.Pz
open PySem
/-! ### figures read -/
theorem D_all (n : Nat) : NumText.AllDigits (D n) := by
  induction n using Nat.strongRecOn with
  | ind n ih =>
    by_cases h : n < 10
    · rw [D_small h]
      intro c hc
      rw [List.mem_singleton.mp hc]
      omega
    · rw [D_step (by omega)]
      intro c hc
      rcases List.mem_append.mp hc with hc | hc
      · exact ih (n / 10) (by omega) c hc
      · rw [List.mem_singleton.mp hc]
        omega
theorem padD_all : ∀ p n, NumText.AllDigits (padD p n)
  | 0, n => fun c hc => by cases hc
  | p + 1, n => fun c hc => by
    rcases List.mem_append.mp hc with hc | hc
    · exact padD_all p (n / 10) c hc
    · rw [List.mem_singleton.mp hc]
      omega
theorem val_D (n : Nat) : NumText.digitsVal (D n) = n := PySem.W.KIN.val_back n
theorem val_padD : ∀ p n, NumText.digitsVal (padD p n) = n % 10 ^ p
  | 0, n => by simp [padD, NumText.digitsVal]; omega
  | p + 1, n => by
    have e2 : n / 10 % 10 ^ p * 10 + n % 10 = n % 10 ^ (p + 1) := by
      have h := Nat.mod_mul (x := n) (a := 10) (b := 10 ^ p)
      rw [Nat.pow_succ, Nat.mul_comm (10 ^ p) 10, h]
      omega
    rw [padD, NumText.digitsVal_snoc, val_padD p, ← e2]
    omega
theorem intD_S {l : List Nat} (h : NumText.AllDigits l) (hne : l ≠ []) (hl : l.length ≤ 640) : intD (.str (S l)) = .ok (.int ((NumText.digitsVal l : Nat) : Int)) := by
  have := PySem.intText_digits (x := S l) h hne (by show l.length ≤ 4300; omega)
  show (match PySem.intText? (S l) with
    | some n => if (S l).length ≤ 640 then Rs.ok (PyData.int n) else Rs.no
    | none => Rs.no) = _
  rw [this]
  exact if_pos (show (S l).length ≤ 640 from hl)
/-- the last figures -/
theorem D_last {n k : Nat} (hk : 0 < k) : NumText.AllDigits ((D n).drop ((D n).length - k)) ∧ (D n).drop ((D n).length - k) ≠ [] ∧ NumText.digitsVal ((D n).drop ((D n).length - k)) = n % 10 ^ k := by
  by_cases h : 10 ^ k ≤ n
  · have e : (D n).drop ((D n).length - k) = padD k n := by
      rw [D_split h, List.length_append, padD_len, Nat.add_sub_cancel, List.drop_left]
    rw [e]
    refine ⟨padD_all k n, fun z => ?_, val_padD k n⟩
    have := congrArg List.length z
    rw [padD_len, List.length_nil] at this
    omega
  · cases k with
    | zero => omega
    | succ k =>
      have hl := (padD_small (p := k) (n := n) (by omega)).1
      have e : (D n).drop ((D n).length - (k + 1)) = D n := by
        have : (D n).length - (k + 1) = 0 := by omega
        rw [this, List.drop_zero]
      rw [e, val_D, Nat.mod_eq_of_lt (by omega)]
      exact ⟨D_all n, D_ne n, rfl⟩
end L2.Pz

namespace L2.Pz
open PySem PySem.Spec L2 L2.Pz.Fn
/-! ### shown texts can stand in a column -/
theorem joinC_head (g : List Nat) : ∀ (xs : List (List Nat)) (x : List Nat) (c : Nat), x.head? = some c → (joinC g (x :: xs)).head? = some c
  | [], x, c, h => by simpa [joinC] using h
  | y :: r, x, c, h => by
    show (x ++ g ++ joinC g (y :: r)).head? = some c
    rw [List.append_assoc, List.head?_append, h]
    rfl
theorem chk_head {s : Nat} (hs : 0 < s) : ∀ (f : Nat) (l : List Nat) (c : Nat), l.head? = some c → ∃ x r, chk s f l = x :: r ∧ x.head? = some c
  | 0, l, c, h => ⟨l, [], rfl, h⟩
  | f + 1, l, c, h => by
    unfold chk
    split
    · exact ⟨l, [], rfl, h⟩
    · rename_i hz
      obtain ⟨x, r, e, hx⟩ := chk_head hs f (l.take (l.length - s)) c (by
        cases l with
        | nil => simp at h
        | cons y l =>
          obtain ⟨k, hk⟩ : ∃ k, (y :: l).length - s = k + 1 := ⟨(y :: l).length - s - 1, by omega⟩
          rw [hk]
          simpa using h)
      exact ⟨x, r ++ [l.drop (l.length - s)], by rw [e]; rfl, hx⟩
theorem grp_head {m : Man} (hm : m.Ok) {l : List Nat} {c : Nat} (h : l.head? = some c) : (grp m l).head? = some c := by
  unfold grp
  have h0 := hm.s0
  have h1 := hm.ls
  split
  · exact h
  · rename_i hz
    obtain ⟨x, r, e, hx⟩ := chk_head hm.sl.1 l.length (l.take (l.length - m.s0)) c (by
      cases l with
      | nil => simp at h
      | cons y l =>
        obtain ⟨k, hk⟩ : ∃ k, (y :: l).length - m.s0 = k + 1 := ⟨(y :: l).length - m.s0 - 1, by omega⟩
        rw [hk]
        simpa using h)
    rw [e, List.cons_append]
    exact joinC_head _ _ _ _ hx
theorem grp_last {m : Man} (hm : m.Ok) {l : List Nat} {c : Nat} (h : l.getLast? = some c) : (grp m l).getLast? = some c := by
  unfold grp
  have h0 := hm.s0
  have h1 := hm.ls
  split
  · exact h
  · rename_i hz
    rw [joinC_snoc _ _ _ (chk_ne _ _ _), List.getLast?_append, List.getLast?_drop, if_neg (by omega), h]
    rfl
theorem D_isF (n : Nat) : ∀ c ∈ D n, isF c = true := fun c hc => by
  have := D_all n c hc
  rw [isF_iff]
  omega
theorem D_h (n : Nat) : ∃ c, (D n).head? = some c ∧ isF c = true := by
  obtain ⟨c, r, e, h1, h2⟩ := D_head n
  exact ⟨c, by rw [e]; rfl, isF_iff.mpr ⟨h1, h2⟩⟩
theorem D_l (n : Nat) : ∃ c, (D n).getLast? = some c ∧ isF c = true := by
  cases h : (D n).getLast? with
  | none => rw [List.getLast?_eq_none_iff] at h; exact absurd h (D_ne n)
  | some c => exact ⟨c, rfl, D_isF n c (List.mem_of_getLast? h)⟩
theorem isF_32 {c : Nat} (h : isF c = true) : c ≠ 32 := by rw [isF_iff] at h; omega
theorem Man.Ok.ptF {m : Man} (h : m.Ok) : isF m.pt = false ∧ m.pt ≠ 32 ∧ m.pt ≠ 45 ∧ m.pt ≠ 40 ∧ m.pt ≠ 41 := by
  have := h.pt
  simp only [pts, List.mem_cons, List.not_mem_nil, or_false] at this
  rcases this with h | h | h | h <;> rw [h] <;> decide
theorem bhd_isF (n p least : Nat) : ∀ c ∈ bhd n p least, isF c = true := fun c hc => by
  unfold bhd at hc
  rcases List.mem_append.mp hc with h | h
  · have := padD_all p n c h
    rw [isF_iff]
    omega
  · rw [List.mem_replicate] at h
    rw [h.2]; rfl
theorem bdy_hl {m : Man} (hm : m.Ok) (n p least : Nat) : (∃ c, (bdy m n p least).head? = some c ∧ isF c = true) ∧ ∃ c, (bdy m n p least).getLast? = some c ∧ isF c = true := by
  obtain ⟨c, hc, fc⟩ := D_h (n / 10 ^ p)
  obtain ⟨d, hd, fd⟩ := D_l (n / 10 ^ p)
  have g1 := grp_head hm hc
  have g2 := grp_last hm hd
  unfold bdy
  split
  · exact ⟨⟨c, g1, fc⟩, d, g2, fd⟩
  · rename_i hz
    refine ⟨⟨c, by rw [List.append_assoc, List.head?_append, g1]; rfl, fc⟩, ?_⟩
    cases h : (bhd n p least).getLast? with
    | none => rw [List.getLast?_eq_none_iff] at h; exact absurd h hz
    | some e => exact ⟨e, by rw [List.getLast?_append, h]; rfl, bhd_isF _ _ _ e (List.mem_of_getLast? h)⟩
theorem hasF_cons {c x : Nat} {t : List Nat} (h : isF x = true) (hc : isF c = false) : hasF (ahd c (x :: t)) := by
  refine ⟨x, ?_, h⟩
  unfold ahd
  have : x ≠ c := fun e => by rw [e, hc] at h; cases h
  rw [List.takeWhile_cons_of_pos (by simpa using this)]
  simp
theorem hasF_cons2 {c x : Nat} {t : List Nat} (hx : x ≠ c) (h : hasF (ahd c t)) : hasF (ahd c (x :: t)) := by
  obtain ⟨y, hy, hf⟩ := h
  refine ⟨y, ?_, hf⟩
  unfold ahd at *
  rw [List.takeWhile_cons_of_pos (by simpa using hx)]
  exact List.mem_cons_of_mem _ hy
theorem hasF_app {c : Nat} {t u : List Nat} (hf : ∃ x, t.head? = some x ∧ isF x = true) (hc : isF c = false) : hasF (ahd c (t ++ u)) := by
  obtain ⟨x, hx, f⟩ := hf
  cases t with
  | nil => simp at hx
  | cons y t => simp at hx; subst hx; exact hasF_cons f hc
theorem txt_gt {m : Man} (hm : m.Ok) {d : Int} {p least : Nat} (hd : d.natAbs < 10 ^ 60) (hp : p ≤ 60) (hl : least ≤ 60) : Gt m.pt (txt m d p least) := by
  obtain ⟨h1, h2, h3, h4, h5⟩ := hm.ptF
  have hz := txt_len hm hd hp hl
  obtain ⟨⟨a, ha, fa⟩, b, hb, fb⟩ := bdy_hl hm d.natAbs p least
  have f0 : ∀ u, hasF (ahd m.pt (bdy m d.natAbs p least ++ u)) := fun u => hasF_app ⟨a, ha, fa⟩ h1
  refine ⟨h2, ?_, ?_, ?_, by omega⟩
  · unfold txt
    split
    · unfold sgn
      cases m.sg with
      | ahead => have := f0 []; rw [List.append_nil] at this; exact hasF_cons2 (Ne.symm h3) this
      | behind => exact f0 [45]
      | brackets => exact hasF_cons2 (Ne.symm h4) (f0 [41])
    · have := f0 []; rw [List.append_nil] at this; exact this
  · unfold txt
    split
    · unfold sgn
      cases m.sg with
      | ahead => simp
      | behind => rw [List.head?_append, ha]; simpa using isF_32 fa
      | brackets => simp
    · rw [ha]; simpa using isF_32 fa
  · unfold txt
    split
    · unfold sgn
      cases m.sg with
      | ahead =>
        rw [List.getLast?_cons, hb]
        simpa using isF_32 fb
      | behind => simp
      | brackets =>
        show (([40] ++ bdy m d.natAbs p least) ++ [41]).getLast? ≠ some 32
        rw [List.getLast?_append]
        simp
    · rw [hb]; simpa using isF_32 fb
theorem shown_gt {m : Man} (hm : m.Ok) {f : Fm} (hf : f.Ok) (w : Way) {x : Int × Nat} (hb : x.1.natAbs < 10 ^ 25) : Gt m.pt (shownL m f w x) :=
  txt_gt hm (lt60 (rdN_abs hb)) (by have := rdN_le w f x; omega) (by have := fmL_le hf; omega)
theorem column_eq {m : Man} (hm : m.Ok) {f : Fm} (hf : f.Ok) (w : Way) {xs : List (Int × Nat)} (hne : xs ≠ []) (hn : xs.length ≤ 100) (hx : ∀ x ∈ xs, x.2 ≤ 9 ∧ x.1.natAbs < 10 ^ 25) :
    F_column [.tuple (xs.map numD), manD m, fmD f, wD w] = .ok (.tuple ((linL m.pt (xs.map (shownL m f w))).map sD)) := by
  have c1 : ∀ s0 : Option Sl, lcL (lc1 (gN 4) bYes C1_column [s0, some (.v (manD m)), some (.v (fmD f)), some (.v (wD w)), none]) (xs.map numD) = .ok ((xs.map (shownL m f w)).map sD) := fun s0 => by
    rw [lcL_of (g := fun x => sD (shownL m f w x)) fun x h => by
      have q := shown_eq hm hf (w := w) (hx x h).1 (hx x h).2
      generalize sD (shownL m f w x) = R at *
      generalize manD m = M at *
      generalize fmD f = FD at *
      generalize wD w = W at *
      generalize numD x = X at *
      simp [C1_column, q], List.map_map]
    rfl
  have q := lined_eq (m := m) (ts := xs.map (shownL m f w)) ⟨by simpa using hne, fun t ht => by
    obtain ⟨x, h, rfl⟩ := List.mem_map.mp ht
    exact shown_gt hm hf w (hx x h).2, by rw [List.length_map]; exact hn⟩
  have hl : (xs.map numD).length ≤ sizeLine := by rw [List.length_map]; have := sl_3000; omega
  generalize (linL m.pt (xs.map (shownL m f w))).map sD = R at *
  generalize (xs.map (shownL m f w)).map sD = T at *
  generalize xs.map numD = X at *
  generalize manD m = M at *
  generalize fmD f = FD at *
  generalize wD w = W at *
  unfold F_column b_column
  simp [c1, hl, q]
end L2.Pz

namespace L2.Pz
open PySem PySem.Spec L2 L2.Pz.Fn
/-! ### adding, comparing -/
theorem small_ten {k : Nat} (h : k ≤ 18) : ((10 : Int) ^ k).natAbs < 2 ^ 64 := by
  rw [Int.natAbs_pow]
  exact Nat.lt_of_le_of_lt (Nat.pow_le_pow_right (by decide) h) (by decide)
/-- a number's steps of the ninth place -/
def dig9 (a : Int × Nat) : Int := a.1 * 10 ^ (9 - a.2)
def sumN (a b : Int × Nat) : Int × Nat := nrm (a.1 * 10 ^ (max a.2 b.2 - a.2) + b.1 * 10 ^ (max a.2 b.2 - b.2)) (max a.2 b.2)
theorem max_cast (a b : Nat) : max (a : Int) (b : Int) = ((max a b : Nat) : Int) := by omega
theorem sub_ten {a b : Nat} (h : b ≤ a) (ha : a ≤ 30) : F_ten_to [.int ((a : Int) - (b : Nat))] = .ok (.int (10 ^ (a - b))) := by
  rw [ten_to_eq (by omega) (by omega)]
  congr 3
  omega
theorem sum_of_eq {a b : Int × Nat} (ha : a.2 ≤ 9) (hb : b.2 ≤ 9) : F_sum_of [numD a, numD b] = .ok (numD (sumN a b)) := by
  unfold F_sum_of b_sum_of numD sumN
  obtain ⟨x, p⟩ := a
  obtain ⟨y, r⟩ := b
  simp only at ha hb ⊢
  generalize hm : max p r = m
  have h1 : p ≤ m := by omega
  have h2 : r ≤ m := by omega
  have h3 : m ≤ 9 := by omega
  have m1 : mulOk x (10 ^ (m - p)) = true := mulOk_r (small_ten (by omega))
  have m2 : mulOk y (10 ^ (m - r)) = true := mulOk_r (small_ten (by omega))
  simp [atI0, atI1, max_cast, hm, sub_ten h1 (by omega), sub_ten h2 (by omega), m1, m2, normal_eq (show m < 1000 by omega), nrmD]
theorem sumN_val {a b : Int × Nat} (ha : a.2 ≤ 9) (hb : b.2 ≤ 9) : sumN a b = nrm (dig9 a + dig9 b) 9 := by
  obtain ⟨x, p⟩ := a
  obtain ⟨y, r⟩ := b
  unfold sumN dig9
  simp only at ha hb ⊢
  generalize hm : max p r = m
  have e : dig9 (x, p) + dig9 (y, r) = (x * 10 ^ (m - p) + y * 10 ^ (m - r)) * 10 ^ (9 - m) := by
    unfold dig9
    rw [Int.add_mul, Int.mul_assoc, Int.mul_assoc, ← Int.pow_add, ← Int.pow_add]
    congr 3 <;> congr 1 <;> omega
  unfold dig9 at e
  simp only at e
  rw [e]
  have := nrm_scale (x * 10 ^ (m - p) + y * 10 ^ (m - r)) m (9 - m)
  rw [show m + (9 - m) = 9 by omega] at this
  exact this.symm
theorem dig9_neg (x : Int) (p : Nat) : dig9 (-x, p) = -dig9 (x, p) := by unfold dig9; rw [Int.neg_mul]
theorem is_less_eq {a b : Int × Nat} (ha : a.2 ≤ 9) (hb : b.2 ≤ 9) : F_is_less [numD a, numD b] = .ok (.bool (decide (dig9 a < dig9 b))) := by
  have h := sum_of_eq (a := a) (b := (-b.1, b.2)) ha hb
  have hv := sumN_val (a := a) (b := (-b.1, b.2)) ha hb
  have e : (sumN a (-b.1, b.2)).1 < 0 ↔ dig9 a < dig9 b := by
    rw [hv, nrm_lt, dig9_neg]
    show dig9 a + -dig9 b < 0 ↔ dig9 a < dig9 b
    omega
  unfold numD at h
  simp only at h
  unfold F_is_less b_is_less numD
  by_cases k : dig9 a < dig9 b
  · simp [atI0, atI1, h, e.mpr k, k]
  · simp [atI0, atI1, h, k, Int.not_lt.mp (fun z => k (e.mp z))]
theorem dig9_gv (x : Int × Nat) : dig9 x = gv x := rfl
theorem less_eq {a b : Int × Nat} (ha : a.2 ≤ 9) (hb : b.2 ≤ 9) : F_is_less [numD a, numD b] = .ok (.bool (decide (gv a < gv b))) := is_less_eq ha hb
/-! ### what rounding keeps -/
theorem gv_nrm (Y : Int) : gv (nrm Y 9) = Y := nrm_val Y 9
theorem gv_rdN (w : Way) (f : Fm) (x : Int × Nat) : gv (rdN w f x) = rdY w f (gv x) := gv_nrm _
theorem Rg_exact (w : Way) (k : Int) (n : Nat) : Rg w (k * 10 ^ n) n = k * 10 ^ n := by rw [Rg, rnd_exact w k (ten_pos n)]
theorem dvd_Rg {w : Way} {X : Int} {n : Nat} (h : (10 : Int) ^ n ∣ X) : Rg w X n = X := by
  obtain ⟨k, rfl⟩ := h
  rw [Int.mul_comm]; exact Rg_exact w k n
theorem Rg_dvd (w : Way) (X : Int) (n : Nat) : (10 : Int) ^ n ∣ Rg w X n := ⟨rnd w X (10 ^ n), Int.mul_comm _ _⟩
theorem Rg_neg (w : Way) (X : Int) (n : Nat) : Rg (turn w) (-X) n = -Rg w X n := by
  unfold Rg; rw [rnd_neg w X (ten_pos n), Int.neg_mul]
theorem Rg_mono (w : Way) {X Y : Int} (n : Nat) (h : X ≤ Y) : Rg w X n ≤ Rg w Y n := by
  unfold Rg
  exact Int.mul_le_mul_of_nonneg_right (rnd_mono w (ten_pos n) h) (by have := ten_pos n; omega)
theorem ten_dvd {a b : Nat} (h : a ≤ b) : (10 : Int) ^ a ∣ 10 ^ b := ⟨10 ^ (b - a), by rw [← Int.pow_add]; congr 1; omega⟩
/-- a rounded amount lies between the powers that the amount lies between -/
theorem Rg_ge (w : Way) {X : Int} {n k : Nat} (hk : n ≤ k) (h : (10 : Int) ^ k ≤ X) : (10 : Int) ^ k ≤ Rg w X n := by
  have := Rg_mono w n h
  rwa [dvd_Rg (ten_dvd hk)] at this
theorem Rg_le (w : Way) {X : Int} {n k : Nat} (hk : n ≤ k) (h : X ≤ (10 : Int) ^ k) : Rg w X n ≤ (10 : Int) ^ k := by
  have := Rg_mono w n h
  rwa [dvd_Rg (ten_dvd hk)] at this
theorem Rg_ge0 (w : Way) {X : Int} (n : Nat) (h : 0 ≤ X) : 0 ≤ Rg w X n := by
  have := Rg_mono w n h
  rwa [Rg_0] at this
theorem turn_turn (w : Way) : turn (turn w) = w := by cases w <;> rfl
theorem Rg_abs2 (w : Way) (X : Int) (n : Nat) : ∃ w', ((Rg w X n).natAbs : Int) = Rg w' (X.natAbs : Int) n := by
  by_cases h : 0 ≤ X
  · have := Rg_ge0 w n h
    refine ⟨w, ?_⟩
    rw [show ((X.natAbs : Nat) : Int) = X by omega]
    omega
  · have h1 : 0 ≤ -X := by omega
    have := Rg_ge0 (turn w) n h1
    have e := Rg_neg w X n
    refine ⟨turn w, ?_⟩
    rw [show ((X.natAbs : Nat) : Int) = -X by omega]
    omega
theorem fig_bd (w : Way) {X : Int} (h0 : X ≠ 0) {m : Nat} (hm : 1 ≤ m) (hd : m ≤ dl X.natAbs) : 10 ^ (dl X.natAbs - 1) ≤ (Rg w X (dl X.natAbs - m)).natAbs ∧ (Rg w X (dl X.natAbs - m)).natAbs ≤ 10 ^ dl X.natAbs := by
  have a := dl_low (n := X.natAbs) (by omega)
  have b := dl_lt X.natAbs
  obtain ⟨w', e⟩ := Rg_abs2 w X (dl X.natAbs - m)
  have g1 := Rg_ge w' (X := (X.natAbs : Int)) (n := dl X.natAbs - m) (k := dl X.natAbs - 1) (by omega) (by rw [ten_cast]; exact Int.ofNat_le.mpr a)
  have g2 := Rg_le w' (X := (X.natAbs : Int)) (n := dl X.natAbs - m) (k := dl X.natAbs) (by omega) (by rw [ten_cast]; exact Int.ofNat_le.mpr (Nat.le_of_lt b))
  rw [← e, ten_cast] at g1 g2
  exact ⟨Int.ofNat_le.mp g1, Int.ofNat_le.mp g2⟩
theorem rdY_idem (w : Way) {f : Fm} (hf : f.Ok) (X : Int) : rdY w f (rdY w f X) = rdY w f X := by
  unfold rdY
  cases f with
  | pl a b => exact dvd_Rg (Rg_dvd w X _)
  | fig m =>
    obtain ⟨h1, _⟩ := hf
    by_cases h0 : X = 0
    · subst h0; rw [Rg_0, Rg_0]
    · unfold fmN
      simp only
      by_cases hd : m ≤ dl X.natAbs
      · obtain ⟨b1, b2⟩ := fig_bd w h0 h1 hd
        have dv := Rg_dvd w X (dl X.natAbs - m)
        generalize hY : Rg w X (dl X.natAbs - m) = Y at *
        by_cases e : Y.natAbs = 10 ^ dl X.natAbs
        · refine dvd_Rg ?_
          rw [e, dl_ten]
          have : (10 : Int) ^ (dl X.natAbs + 1 - m) ∣ 10 ^ dl X.natAbs := ten_dvd (by omega)
          have e2 : (10 : Int) ^ dl X.natAbs = (Y.natAbs : Int) := by rw [ten_cast, e]
          rw [e2] at this
          exact Int.dvd_natAbs.mp this
        · have : dl Y.natAbs = dl X.natAbs := by
            have p := dl_pos X.natAbs
            have := dl_of (n := Y.natAbs) (k := dl X.natAbs - 1) b1 (by rw [show dl X.natAbs - 1 + 1 = dl X.natAbs by omega]; omega)
            omega
          rw [this]
          exact dvd_Rg dv
      · rw [show dl X.natAbs - m = 0 by omega]
        have : Rg w X 0 = X := dvd_Rg ⟨X, by rw [Int.pow_zero, Int.one_mul]⟩
        rw [this, show dl X.natAbs - m = 0 by omega, this]
theorem rdN_idem (w : Way) {f : Fm} (hf : f.Ok) (x : Int × Nat) : rdN w f (rdN w f x) = rdN w f x := by
  show nrm (rdY w f (gv (rdN w f x))) 9 = nrm (rdY w f (gv x)) 9
  rw [gv_rdN, rdY_idem w hf]
theorem rdN_neg (w : Way) (f : Fm) (d : Int) (p : Nat) : rdN (turn w) f (-d, p) = (-(rdN w f (d, p)).1, (rdN w f (d, p)).2) := by
  have e : gv (-d, p) = -gv (d, p) := dig9_neg d p
  have e2 : fmN f (-gv (d, p)) = fmN f (gv (d, p)) := by cases f <;> simp [fmN]
  unfold rdN rdY
  rw [e, e2, Rg_neg, nrm_neg]
theorem rdN_pl (w : Way) {a b : Nat} (hb : b ≤ 9) (x : Int × Nat) : (rdN w (.pl a b) x).2 ≤ b := by
  unfold rdN rdY Rg fmN
  simp only
  have := nrm_scale (rnd w (gv x) (10 ^ (9 - b))) b (9 - b)
  rw [show b + (9 - b) = 9 by omega] at this
  rw [this]
  exact nrm_le _ _
theorem rdY_sgn (w : Way) (f : Fm) {X : Int} (h : 0 ≤ X) : 0 ≤ rdY w f X := Rg_ge0 w _ h
theorem rdY_neg (w : Way) (f : Fm) (X : Int) : rdY (turn w) f (-X) = -rdY w f X := by
  have e2 : fmN f (-X) = fmN f X := by cases f <;> simp [fmN]
  unfold rdY
  rw [e2, Rg_neg]
theorem fig_mono (w : Way) {m : Nat} (hm : 1 ≤ m) {X Y : Int} (h0 : 0 < X) (h : X ≤ Y) : Rg w X (dl X.natAbs - m) ≤ Rg w Y (dl Y.natAbs - m) := by
  have d := dl_mono (n := X.natAbs) (m := Y.natAbs) (by omega)
  by_cases e : dl X.natAbs = dl Y.natAbs
  · rw [e]; exact Rg_mono w _ h
  · have a1 := dl_lt X.natAbs
    have a2 := dl_low (n := Y.natAbs) (by omega)
    have g1 := Rg_le w (X := X) (n := dl X.natAbs - m) (k := dl X.natAbs) (by omega) (by rw [ten_cast]; omega)
    have g2 := Rg_ge w (X := Y) (n := dl Y.natAbs - m) (k := dl Y.natAbs - 1) (by omega) (by rw [ten_cast]; omega)
    have g3 : (10 : Int) ^ dl X.natAbs ≤ 10 ^ (dl Y.natAbs - 1) := by
      rw [ten_cast, ten_cast]
      exact Int.ofNat_le.mpr (Nat.pow_le_pow_right (by decide) (by omega))
    omega
theorem rdY_mono (w : Way) {f : Fm} (hf : f.Ok) {X Y : Int} (h : X ≤ Y) : rdY w f X ≤ rdY w f Y := by
  cases f with
  | pl a b => exact Rg_mono w _ h
  | fig m =>
    obtain ⟨h1, _⟩ := hf
    by_cases hx : 0 < X
    · exact fig_mono w h1 hx h
    · by_cases hy : 0 ≤ Y
      · have a := rdY_sgn w (.fig m) hy
        have b := rdY_sgn (turn w) (.fig m) (X := -X) (by omega)
        rw [rdY_neg] at b
        omega
      · have a := fig_mono (turn w) h1 (X := -Y) (Y := -X) (by omega) (by omega)
        have e1 := rdY_neg w (.fig m) X
        have e2 := rdY_neg w (.fig m) Y
        unfold rdY fmN at e1 e2 ⊢
        simp only at e1 e2 ⊢
        omega
theorem rdY_up {f : Fm} (X : Int) : X ≤ rdY .up f X := rnd_up (ten_pos _)
theorem rdY_down {f : Fm} (X : Int) : rdY .down f X ≤ X := rnd_down (ten_pos _)
/-! ### noughts behind -/
theorem D_ten {n : Nat} (h : 0 < n) : D (n * 10) = D n ++ [48] := by
  rw [D_step (by omega)]
  rw [show n * 10 / 10 = n by omega, show n * 10 % 10 = 0 by omega]
end L2.Pz

namespace L2.Pz
open PySem PySem.Spec L2 L2.Pz L2.Pz.Fn
/-! ### money led, money added -/
theorem sml_10 {u : Int} {k : Nat} (h : u.natAbs < 10 ^ k) (hk : k ≤ 100) : Sml u := Nat.lt_of_lt_of_le h (Nat.pow_le_pow_right (by decide) hk)
theorem mul_lt10 {x y : Int} {a b : Nat} (hx : x.natAbs < 10 ^ a) (hy : y.natAbs < 10 ^ b) : (x * y).natAbs < 10 ^ (a + b) := by
  rw [Int.natAbs_mul, Nat.pow_add]
  exact Nat.mul_lt_mul'' hx hy
theorem ten_lt10 (k : Nat) : ((10 : Int) ^ k).natAbs < 10 ^ (k + 1) := by
  rw [Int.natAbs_pow]
  exact Nat.pow_lt_pow_of_lt (by decide) (by omega)
def ledC (c : Int) (pl : Nat) (r : Int × Nat) (p : Nat) (w : Way) : Int := rnd w (c * r.1 * 10 ^ p) (10 ^ (pl + r.2))
theorem led_eq {m : Mon} (hc : m.coins.natAbs < 10 ^ 30) (hp : m.pl ≤ 4) {gw : List Nat} {gp : Nat} (hg : gp ≤ 4) {r : Int × Nat} (hr : r.1.natAbs < 10 ^ 25) (hr2 : r.2 ≤ 9) (w : Way) :
    F_led_v1 [monD m, coinD gw gp, numD r, wD w] = .ok (.tuple [.int (ledC m.coins m.pl r gp w), coinD gw gp]) := by
  have b1 := mul_lt10 hc hr
  have b2 := mul_lt10 b1 (ten_lt10 gp)
  have m1 : mulOk m.coins r.1 = true := mulOk_s (sml_10 hc (by omega)) (sml_10 hr (by omega))
  have m2 : mulOk (m.coins * r.1) (10 ^ gp) = true := mulOk_s (sml_10 b1 (by omega)) (sml_ten (by omega))
  have t1 : F_ten_to [.int (gp : Nat)] = .ok (.int (10 ^ gp)) := ten_nat (by omega)
  have t2 : F_ten_to [.int ((m.pl : Int) + (r.2 : Int))] = .ok (.int (10 ^ (m.pl + r.2))) := by
    have := ten_nat (p := m.pl + r.2) (by omega)
    rwa [show ((m.pl + r.2 : Nat) : Int) = (m.pl : Int) + (r.2 : Int) by omega] at this
  have q := made_eq (w := w) (u := m.coins * r.1 * 10 ^ gp) (l := 10 ^ (m.pl + r.2)) (p := 0) (by have := ten_pos (m.pl + r.2); omega) (by omega) (by rw [Int.pow_zero, Int.mul_one]; exact sml_10 b2 (by omega))
  rw [rndZ_pos w (ten_pos _), Int.pow_zero, Int.mul_one] at q
  have q : F_made [.int (m.coins * r.1 * 10 ^ gp), .int (10 ^ (m.pl + r.2)), .int 0, wD w] = .ok (.tuple [.int (rnd w (m.coins * r.1 * 10 ^ gp) (10 ^ (m.pl + r.2))), .int 0]) := q
  unfold ledC F_led_v1 b_led_v1 monD coinD numD
  generalize rnd w (m.coins * r.1 * 10 ^ gp) (10 ^ (m.pl + r.2)) = R at *
  simp [atI0, atI1, m1, m2, t1, t2, q]
def okW (w : List Nat) : Prop := ∀ c ∈ w, c < 1114112
theorem okW_str {w : List Nat} (h : okW w) : PyData.strOk (S w) = true := by
  show (S w).cps.all (fun x => decide (x < 1114112)) = true
  rw [Array.all_eq_true']
  intro x hx
  exact decide_eq_true (h x (by simpa [S] using hx))
theorem shaped_coin {w : List Nat} (h : okW w) (p : Int) : SeqAt.shaped (.tuple [.str (S w), .int p]) = true := by
  have := okW_str h
  simp [SeqAt.shaped, PyData.canLay0, PyData.canLayAll0, PyData.depth, PyData.depthAll, this]
theorem eqv_coin (w v : List Nat) (p r : Nat) : PyData.eqv (.tuple [.str (S w), .int (p : Nat)]) (.tuple [.str (S v), .int (r : Nat)]) = decide (w = v ∧ p = r) := by
  by_cases h1 : w = v
  · subst h1
    by_cases h2 : p = r
    · subst h2; simp [PyData.eqv, PyData.eqvAll]
    · simp [PyData.eqv, PyData.eqvAll, h2]
      omega
  · have : ¬ S w = S v := fun z => h1 (S_eq.mp z)
    simp [PyData.eqv, PyData.eqvAll, h1, this]
theorem neD_coin {w v : List Nat} (hw : okW w) (hv : okW v) (p r : Nat) : neD (coinD w p) (coinD v r) = .ok (.bool (!decide (w = v ∧ p = r))) := by
  unfold coinD sD
  rw [neD_tt (by rw [shaped_coin hw, shaped_coin hv]; rfl), eqv_coin]
theorem eqD_coin {w v : List Nat} (hw : okW w) (hv : okW v) (p r : Nat) : eqD (coinD w p) (coinD v r) = .ok (.bool (decide (w = v ∧ p = r))) := by
  unfold coinD sD
  rw [eqD_tt (by rw [shaped_coin hw, shaped_coin hv]; rfl), eqv_coin]
theorem coinW_ok (c : Int) : okW (coinW c) := fun x hx => by
  obtain ⟨k, _, rfl⟩ := List.mem_map.mp hx
  have := mix_nn (c + 7 * (k : Nat)) 9491 (m := 26) (by decide)
  have := mix_lt (c + 7 * (k : Nat)) 9491 (m := 26) (by decide)
  omega
def cNoMoney : Str := S [78, 111, 77, 111, 110, 101, 121]
theorem added_eq (a b : Int) {w v : List Nat} (hw : okW w) (hv : okW v) (p r : Nat) : F_added [monD ⟨a, w, p⟩, monD ⟨b, v, r⟩] = if w = v ∧ p = r then .ok (monD ⟨a + b, w, p⟩) else .er cNoMoney := by
  have q := neD_coin hw hv p r
  unfold F_added b_added monD
  generalize hx : coinD w p = X at *
  generalize coinD v r = Y at *
  by_cases h : w = v ∧ p = r
  · rw [decide_eq_true h] at q
    rw [if_pos h]
    simp [atI0, atI1, q]
  · rw [decide_eq_false h] at q
    rw [if_neg h]
    simp [atI0, atI1, q, cNoMoney]
end L2.Pz

namespace L2.Pz
open PySem PySem.Spec L2 L2.Pz.Fn
/-! ### texts as data -/
theorem okW_app {a b : List Nat} (h : okW a) (k : okW b) : okW (a ++ b) := fun c hc => by
  rcases List.mem_append.mp hc with e | e
  · exact h c e
  · exact k c e
theorem okW_rep (n : Nat) : okW (List.replicate n 32) := fun c hc => by
  rw [List.mem_replicate] at hc
  rw [hc.2]; decide
theorem okW_F {l : List Nat} (h : ∀ c ∈ l, isF c = true) : okW l := fun c hc => by
  have := isF_iff.mp (h c hc)
  omega
theorem joinC_mem {g : List Nat} {c : Nat} : ∀ {xs : List (List Nat)}, c ∈ joinC g xs → c ∈ g ∨ ∃ x ∈ xs, c ∈ x
  | [], h => by simp [joinC] at h
  | [x], h => .inr ⟨x, by simp, by simpa [joinC] using h⟩
  | x :: y :: r, h => by
    have h : c ∈ x ++ g ++ joinC g (y :: r) := h
    rcases List.mem_append.mp h with e | e
    · rcases List.mem_append.mp e with e | e
      · exact .inr ⟨x, by simp, e⟩
      · exact .inl e
    · rcases joinC_mem e with e | ⟨z, hz, e⟩
      · exact .inl e
      · exact .inr ⟨z, List.mem_cons_of_mem _ hz, e⟩
theorem chk_mem {s : Nat} : ∀ {f : Nat} {l x : List Nat} {c : Nat}, x ∈ chk s f l → c ∈ x → c ∈ l
  | 0, l, x, c, h, k => by simp [chk] at h; rwa [h] at k
  | f + 1, l, x, c, h, k => by
    unfold chk at h
    split at h
    · simp at h; rwa [h] at k
    · rcases List.mem_append.mp h with e | e
      · exact List.mem_of_mem_take (chk_mem e k)
      · simp at e; rw [e] at k; exact List.mem_of_mem_drop k
theorem grp_mem {m : Man} {l : List Nat} {c : Nat} (h : c ∈ grp m l) : c ∈ m.gp ∨ c ∈ l := by
  unfold grp at h
  split at h
  · exact .inr h
  · rcases joinC_mem h with e | ⟨x, hx, e⟩
    · exact .inl e
    · rcases List.mem_append.mp hx with k | k
      · exact .inr (List.mem_of_mem_take (chk_mem k e))
      · simp at k; rw [k] at e; exact .inr (List.mem_of_mem_drop e)
theorem Man.Ok.gpW {m : Man} (h : m.Ok) : okW m.gp := fun c hc => by
  have := h.gp
  simp only [gps, List.mem_cons, List.not_mem_nil, or_false] at this
  rcases this with e | e | e | e | e | e | e <;> rw [e] at hc <;> simp at hc <;> omega
theorem bdy_okW {m : Man} (hm : m.Ok) (n p least : Nat) : okW (bdy m n p least) := by
  have g : okW (grp m (D (n / 10 ^ p))) := fun c hc => by
    rcases grp_mem hc with e | e
    · exact hm.gpW c e
    · exact okW_F (D_isF _) c e
  have b : okW (bhd n p least) := okW_F (bhd_isF n p least)
  have q : okW [m.pt] := fun c hc => by
    have := hm.pt
    simp at hc
    simp only [pts, List.mem_cons, List.not_mem_nil, or_false] at this
    omega
  unfold bdy
  split
  · exact g
  · exact okW_app (okW_app g q) b
theorem txt_okW {m : Man} (hm : m.Ok) (d : Int) (p least : Nat) : okW (txt m d p least) := by
  have b := bdy_okW hm d.natAbs p least
  have k : ∀ c : Nat, c < 1000 → okW [c] := fun c h x hx => by simp at hx; omega
  unfold txt
  split
  · unfold sgn
    cases m.sg with
    | ahead => exact okW_app (k 45 (by decide)) b
    | behind => exact okW_app b (k 45 (by decide))
    | brackets => exact okW_app (a := 40 :: bdy m d.natAbs p least) (okW_app (k 40 (by decide)) b) (k 41 (by decide))
  · exact b
theorem pad_okW {c M W : Nat} {t : List Nat} (h : okW t) : okW (pad c M W t) := okW_app (okW_app (okW_rep _) h) (okW_rep _)
theorem strs_lay : ∀ {l : List (List Nat)}, (∀ t ∈ l, okW t) → PyData.canLayAll0 (l.map sD) = true
  | [], _ => rfl
  | x :: l, h => by
    have e : (sD x).canLay0 = true := okW_str (h x (by simp))
    rw [List.map_cons, PyData.canLayAll0, strs_lay fun t ht => h t (by simp [ht]), e]
    rfl
theorem strs_dep : ∀ l : List (List Nat), PyData.depthAll (l.map sD) ≤ 2
  | [] => by simp [PyData.depthAll]
  | x :: l => by
    have := strs_dep l
    rw [List.map_cons, PyData.depthAll]
    have h : (sD x).depth ≤ 2 := by simp [sD, PyData.depth]
    omega
theorem strs_nd : ∀ l : List (List Nat), noDicts (l.map sD) = true
  | [] => rfl
  | x :: l => by rw [List.map_cons, noDicts, strs_nd l]; rfl
theorem strs_shT {l : List (List Nat)} (h : ∀ t ∈ l, okW t) : SeqAt.shaped (.tuple (l.map sD)) = true := by
  unfold SeqAt.shaped
  have k := strs_dep l
  have e : (PyData.tuple (l.map sD)).depth ≤ 64 := by simp only [PyData.depth]; omega
  rw [decide_eq_true e, Bool.and_true]
  exact strs_lay h
theorem strs_shL {l : List (List Nat)} (h : ∀ t ∈ l, okW t) : SeqAt.shaped (.list (l.map sD)) = true := by
  unfold SeqAt.shaped
  have k := strs_dep l
  have e : (PyData.list (l.map sD)).depth ≤ 64 := by simp only [PyData.depth]; omega
  rw [decide_eq_true e, Bool.and_true]
  exact strs_lay h
theorem ne_strsT {l : List (List Nat)} (h : ∀ t ∈ l, okW t) : neD (.tuple (l.map sD)) (.tuple (l.map sD)) = .ok (.bool false) := by
  rw [neD_tt (by rw [strs_shT h]; simp [noDict, strs_nd]), SeqAt.eqv_refl (.tuple (l.map sD)) (strs_lay h)]
  rfl
theorem neD_ll {a b : List PyData} (h : (SeqAt.shaped (.list a) && SeqAt.shaped (.list b) && noDict (.list a) && noDict (.list b)) = true) : neD (.list a) (.list b) = .ok (.bool (!PyData.eqv (.list a) (.list b))) := by
  unfold neD eqQ
  simp only [h, if_true]
theorem eqD_ll {a b : List PyData} (h : (SeqAt.shaped (.list a) && SeqAt.shaped (.list b) && noDict (.list a) && noDict (.list b)) = true) : eqD (.list a) (.list b) = .ok (.bool (PyData.eqv (.list a) (.list b))) := by
  unfold eqD eqQ
  simp only [h, if_true]
theorem ne_strsL {l : List (List Nat)} (h : ∀ t ∈ l, okW t) : neD (.list (l.map sD)) (.list (l.map sD)) = .ok (.bool false) := by
  rw [neD_ll (by rw [strs_shL h]; simp [noDict, strs_nd]), SeqAt.eqv_refl (.list (l.map sD)) (strs_lay h)]
  rfl
theorem ones_ne : ∀ {n : Nat}, 0 < n → n ≤ 1000 → eqD (.list (List.replicate n (.int 1))) (.list []) = .ok (.bool false) := by
  intro n h h2
  have lay : ∀ n : Nat, PyData.canLayAll0 (List.replicate n (.int 1)) = true := by
    intro n
    induction n with
    | zero => rfl
    | succ n ih => rw [List.replicate_succ, PyData.canLayAll0, ih]; rfl
  have dep : ∀ n : Nat, PyData.depthAll (List.replicate n (.int 1)) ≤ 1 := by
    intro n
    induction n with
    | zero => simp [PyData.depthAll]
    | succ n ih =>
      rw [List.replicate_succ, PyData.depthAll]
      have : (PyData.int 1).depth ≤ 1 := by simp [PyData.depth]
      omega
  have nd : ∀ n : Nat, noDicts (List.replicate n (.int 1)) = true := by
    intro n
    induction n with
    | zero => rfl
    | succ n ih => rw [List.replicate_succ, noDicts, ih]; rfl
  have s1 : SeqAt.shaped (.list (List.replicate n (.int 1))) = true := by
    unfold SeqAt.shaped
    have k := dep n
    have e : (PyData.list (List.replicate n (.int 1))).depth ≤ 64 := by simp only [PyData.depth]; omega
    rw [decide_eq_true e, Bool.and_true]
    exact lay n
  have s2 : SeqAt.shaped (.list []) = true := rfl
  rw [eqD_ll (by rw [s1, s2]; simp [noDict, nd, noDicts])]
  obtain ⟨k, rfl⟩ : ∃ k, n = k + 1 := ⟨n - 1, by omega⟩
  rw [List.replicate_succ]
  simp [PyData.eqv, PyData.eqvAll]
end L2.Pz

namespace L2.Pz
open PySem PySem.Spec PyProof.Rows
/-! ### tokens that were given out -/
def TokO (n : Nat) (o : Obj) : Prop := o.cls = .type "tuple" ∧ o.dict = none ∧ ∃ us k, o.data = .seq us k ∧ (us.size = 5 → ∀ x t, us[1]? = some (Value.str x t) → x ≠ S [] → t ≠ 0 ∧ t < n)
def Tk (n : Nat) (G : Hp) : Prop := ∀ a o xs, G a = some (.frz o (.tup xs)) → TokO n o
theorem TokO.mono {n m : Nat} {o : Obj} (h : TokO n o) (k : n ≤ m) : TokO m o := by
  obtain ⟨c, d, us, j, e, q⟩ := h
  exact ⟨c, d, us, j, e, fun z x t ht hx => ⟨(q z x t ht hx).1, Nat.lt_of_lt_of_le (q z x t ht hx).2 k⟩⟩
theorem Tk.mono {n m : Nat} {G : Hp} (h : Tk n G) (k : n ≤ m) : Tk m G := fun a o xs e => (h a o xs e).mono k
theorem Tk.gr {n : Nat} {G0 H0 G H : Hp} (h : Tk n G0) (g : Gr G0 H0 G H) : Tk n G := fun a o xs e => h a o xs (g.nf a o xs e)
/-- a known tuple; of four, its tuples are known too -/
def KnV (G : Hp) (v : V) : Prop := ∃ a o xs, v = .ref a ∧ G a = some (.frz o (.tup xs))
theorem KnV.mono {G G' : Hp} {v : V} (h : KnV G v) (s : Same G G') : KnV G' v := by
  obtain ⟨a, o, xs, e, k⟩ := h
  exact ⟨a, o, xs, e, s _ _ k⟩
def KnAll (ms : List Bool) (G : Hp) (vs : List V) : Prop := ∀ (i : Nat) (v : V), ms[i]? = some true → vs[i]? = some v → KnV G v
/-! ### judgements where tokens are counted -/
def PDt (X : Cx) (W : WX) (e : Expr) (f : EF) : Prop := ∀ (pins : List (Addr × Obj)) (s : Shared) (σ : St) (H : Hp) (Q : VK) (G0 H0 G : Hp) (ρ : En), Inv X pins σ H s → EnvOk X.K G0 H0 G H σ ρ → Tk s.toks G0 → RD X.K X.mg W G H σ Q (f ρ) →
  wpAny (model X.prog X.w) X.A (eval e X.env) (EP X pins σ Q) X.xe s
def RDk (K : PySem.W.Frag) (mg : Str → Option Value) (W : WX) (ms : List Bool) (G H : Hp) (σ : St) (Q : List V → Hp → Prop) : Rs (List PyData) → Prop
  | .ok ds => ∀ vs G' H', Gr G H G' H' → DqAll K G' vs ds → KnAll ms G' vs → Q vs H'
  | .er c => ∀ G' H', Gr G H G' H' → W (XC mg c) none σ H'
  | .no => False
def PLt (X : Cx) (W : WX) (es : List Expr) (ms : List Bool) (fs : List EF) : Prop := ∀ (pos : Pos) (pins : List (Addr × Obj)) (s : Shared) (σ : St) (H : Hp) (Q : List V → Hp → Prop) (G0 H0 G : Hp) (ρ : En), Inv X pins σ H s → EnvOk X.K G0 H0 G H σ ρ → Tk s.toks G0 → RDk X.K X.mg W ms G H σ Q (eL fs ρ) →
  wpAny (model X.prog X.w) X.A (spliced (backTo pos (starEach es X.env))) (AP X pins σ Q) X.xe s
def PTt (X : Cx) (W : WX) (e : Expr) (p : En → Rs Bool) : Prop := ∀ (pins : List (Addr × Obj)) (s : Shared) (σ : St) (H : Hp) (Q : Bool → Hp → Prop) (G0 H0 G : Hp) (ρ : En), Inv X pins σ H s → EnvOk X.K G0 H0 G H σ ρ → Tk s.toks G0 → RT X.mg W G H σ Q (p ρ) →
  wpAny (model X.prog X.w) X.A (isTrue e X.env (eval e X.env)) (TP X pins σ Q) X.xe s
def PWt (X : Cx) (W : WX) (e : Expr) (p : En → Rs Bool) : Prop := ∀ (wh : Sem Value) (pins : List (Addr × Obj)) (s : Shared) (σ : St) (H : Hp) (Q : Bool → Hp → Prop) (G0 H0 G : Hp) (ρ : En), Inv X pins σ H s → EnvOk X.K G0 H0 G H σ ρ → Tk s.toks G0 → RT X.mg W G H σ Q (p ρ) →
  wpAny (model X.prog X.w) X.A (isTrue e X.env wh) (TP X pins σ Q) X.xe s
/-- where a body stands on: the same ground, or one with known tuples more -/
abbrev RB := Hp → Hp → Hp → Hp → Prop
def rbEq : RB := fun G0 H0 G1 H1 => G1 = G0 ∧ H1 = H0
structure RbNew (G0 H0 G1 H1 : Hp) : Prop where
  g : Same G0 G1
  h : Same H0 H1
  n : ∀ a, H0 a ≠ none → G0 a = none → G1 a = none
structure RbOk (R : RB) : Prop where
  refl : ∀ G H, R G H G H
  trans : ∀ {G0 H0 G1 H1 G2 H2}, R G0 H0 G1 H1 → R G1 H1 G2 H2 → R G0 H0 G2 H2
theorem rbEq_ok : RbOk rbEq := ⟨fun _ _ => ⟨rfl, rfl⟩, fun a b => ⟨b.1.trans a.1, b.2.trans a.2⟩⟩
theorem rbNew_ok : RbOk RbNew := ⟨fun _ _ => ⟨Same.refl _, Same.refl _, fun _ _ z => z⟩, fun a b => ⟨a.g.trans b.g, a.h.trans b.h, fun x h0 g0 => b.n x (fun z => h0 (a.h.free z)) (a.n x h0 g0)⟩⟩
def ErT (K : PySem.W.Frag) (mg : Str → Option Value) (W : WX) (R : RB) (G0 H0 G : Hp) : SR → Prop
  | .er c ρ => ∀ G1 H1 G' H σ, R G0 H0 G1 H1 → EnvOk K G1 H1 G' H σ ρ → Same G G' → W (XC mg c) none σ H
  | .no => False
  | _ => True
def GoT (X : Cx) (R : RB) (G0 H0 G : Hp) (pins : List (Addr × Obj)) (ρ : En) (s' : Shared) : Prop := ∃ G1 H1 G' H σ, Inv X pins σ H s' ∧ R G0 H0 G1 H1 ∧ EnvOk X.K G1 H1 G' H σ ρ ∧ Same G G' ∧ Tk s'.toks G1
def PoT (X : Cx) (R : RB) (G0 H0 G : Hp) (pins : List (Addr × Obj)) : SR → Flow → Shared → Prop
  | .nx ρ, .next, s' => GoT X R G0 H0 G pins ρ s'
  | .rt d, .ret u, s' => ∃ G1 H1 G' H σ v, Inv X pins σ H s' ∧ R G0 H0 G1 H1 ∧ Gr G1 H1 G' H ∧ RelV v u ∧ Dq X.K G' v d
  | .bk ρ, .brk, s' => GoT X R G0 H0 G pins ρ s'
  | .ct ρ, .cont, s' => GoT X R G0 H0 G pins ρ s'
  | _, _, _ => False
def PSt (X : Cx) (W : WX) (R : RB) (st : Stmt) (g : SF) : Prop := ∀ (pins : List (Addr × Obj)) (s : Shared) (σ : St) (H G0 H0 G : Hp) (ρ : En), Inv X pins σ H s → EnvOk X.K G0 H0 G H σ ρ → Tk s.toks G0 → ErT X.K X.mg W R G0 H0 G (g ρ) →
  wpAny (model X.prog X.w) X.A (exec st X.env) (PoT X R G0 H0 G pins (g ρ)) X.xe s
def PSDt (X : Cx) (W : WX) (R : RB) (sts : List Stmt) (g : SF) : Prop := ∀ (pins : List (Addr × Obj)) (s : Shared) (σ : St) (H G0 H0 G : Hp) (ρ : En), Inv X pins σ H s → EnvOk X.K G0 H0 G H σ ρ → Tk s.toks G0 → ErT X.K X.mg W R G0 H0 G (g ρ) →
  wpAny (model X.prog X.w) X.A (execs sts X.env) (PoT X R G0 H0 G pins (g ρ)) X.xe s
section
variable {X : Cx} {W : WX} {R : RB} {pins : List (Addr × Obj)} {s : Shared} {σ : St} {G0 H0 G H G1 H1 G' : Hp} {ρ : En} {r : SR}
theorem GoT.grow {s' : Shared} (hR : RbOk R) (a : R G0 H0 G1 H1) (b : Same G G') (h : GoT X R G1 H1 G' pins ρ s') : GoT X R G0 H0 G pins ρ s' := by
  obtain ⟨G2, H2, G3, H3, σ3, I, r2, E, sm, T⟩ := h
  exact ⟨G2, H2, G3, H3, σ3, I, hR.trans a r2, E, b.trans sm, T⟩
theorem PoT.grow {fl : Flow} {s' : Shared} (hR : RbOk R) (a : R G0 H0 G1 H1) (b : Same G G') (h : PoT X R G1 H1 G' pins r fl s') : PoT X R G0 H0 G pins r fl s' := by
  cases r <;> cases fl <;> first | exact h.elim | exact GoT.grow hR a b h | skip
  obtain ⟨G2, H2, G3, H3, σ3, v, I, r2, g, rv, d⟩ := h
  exact ⟨G2, H2, G3, H3, σ3, v, I, hR.trans a r2, g, rv, d⟩
theorem ErT.grow (hR : RbOk R) (a : R G0 H0 G1 H1) (b : Same G G') (h : ErT X.K X.mg W R G0 H0 G r) : ErT X.K X.mg W R G1 H1 G' r := by
  cases r with
  | er c ρ => exact fun G2 H2 G3 H3 σ3 r2 E sm => h G2 H2 G3 H3 σ3 (hR.trans a r2) E (b.trans sm)
  | _ => exact h
end
section
variable {X : Cx} {W : WX} {R : RB} {e a b c tg : Expr} {es : List Expr} {st : Stmt} {sts rest body : List Stmt} {f : EF} {fs : List EF} {ms : List Bool} {g g1 g2 : SF} {gt : GF} {p p' : En → Rs Bool} {pos : Pos} {i : Nat} {is : List Nat}
theorem pdt_of (h : PD X W e f) : PDt X W e f := fun pins s σ H Q G0 H0 G ρ I E _ q => h.run pins s σ H Q I ⟨G0, H0, G, ρ, E, q⟩
theorem ptt_of (h : PTD X W e p) : PTt X W e p := fun pins s σ H Q G0 H0 G ρ I E _ q => h.run pins s σ H Q I ⟨G0, H0, G, ρ, E, q⟩
/-- how a value is gone on with -/
theorem PDt.go (h : PDt X W e f) {pins : List (Addr × Obj)} {s : Shared} {σ : St} {G0 H0 G H : Hp} {ρ : En} {Po : Value → Shared → Prop} (I : Inv X pins σ H s) (E : EnvOk X.K G0 H0 G H σ ρ) (T : Tk s.toks G0)
    (ok : ∀ d, f ρ = .ok d → ∀ v s1 x H1 G1, Gr G H G1 H1 → Inv X pins σ H1 s1 → Tk s1.toks G0 → RelV x v → Dq X.K G1 x d → Po v s1)
    (er : ∀ c, f ρ = .er c → ∀ G' H', Gr G H G' H' → W (XC X.mg c) none σ H') (no : f ρ ≠ .no) : wpAny (model X.prog X.w) X.A (eval e X.env) Po X.xe s := by
  cases k : f ρ with
  | no => exact absurd k no
  | er c =>
    refine wpAny_mono (h pins s σ H (fun _ _ => False) G0 H0 G ρ I E T (by rw [k]; exact er c k)) (fun v s1 z => ?_) fun _ _ z => z
    obtain ⟨_, _, _, _, z⟩ := z
    exact z.elim
  | ok d =>
    refine wpAny_mono (wpAny_toks (h pins s σ H (fun x H1 => ∃ G1, Gr G H G1 H1 ∧ Dq X.K G1 x d) G0 H0 G ρ I E T (by rw [k]; exact fun v G1 H1 g z => ⟨G1, g, z⟩))) (fun v s1 z => ?_) fun _ _ z => z.2
    obtain ⟨tk, x, H1, I1, r1, G1, g1, d1⟩ := z
    exact ok d k v s1 x H1 G1 g1 I1 (T.mono tk) r1 d1
theorem PTt.go (h : PTt X W e p) {pins : List (Addr × Obj)} {s : Shared} {σ : St} {G0 H0 G H : Hp} {ρ : En} {Po : Bool → Shared → Prop} (I : Inv X pins σ H s) (E : EnvOk X.K G0 H0 G H σ ρ) (T : Tk s.toks G0)
    (ok : ∀ d, p ρ = .ok d → ∀ s1 H1 G1, Gr G H G1 H1 → Inv X pins σ H1 s1 → Tk s1.toks G0 → Po d s1)
    (er : ∀ c, p ρ = .er c → ∀ G' H', Gr G H G' H' → W (XC X.mg c) none σ H') (no : p ρ ≠ .no) : wpAny (model X.prog X.w) X.A (isTrue e X.env (eval e X.env)) Po X.xe s := by
  cases k : p ρ with
  | no => exact absurd k no
  | er c =>
    refine wpAny_mono (h pins s σ H (fun _ _ => False) G0 H0 G ρ I E T (by rw [k]; exact er c k)) (fun v s1 z => ?_) fun _ _ z => z
    obtain ⟨_, _, z⟩ := z
    exact z.elim
  | ok d =>
    refine wpAny_mono (wpAny_toks (h pins s σ H (fun x H1 => x = d ∧ ∃ G1, Gr G H G1 H1) G0 H0 G ρ I E T (by rw [k]; exact fun G1 H1 g => ⟨rfl, G1, g⟩))) (fun v s1 z => ?_) fun _ _ z => z.2
    obtain ⟨tk, H1, I1, rfl, G1, g1⟩ := z
    exact ok v k s1 H1 G1 g1 I1 (T.mono tk)
/-! tests -/
theorem ptt_not (h : PTt X W e p) : PTt X W (.UnaryOp .Not e pos) (bNot p) := fun pins s σ H Q G0 H0 G ρ I E T q => by
  unfold bNot at q
  refine isTrue_not (h.go I E T (fun d k s1 H1 G1 g1 I1 T1 => ?_) (fun c k => ?_) fun k => ?_)
  · rw [k] at q; exact ⟨H1, I1, q G1 H1 g1⟩
  · rw [k] at q; exact q
  · rw [k] at q; exact q
theorem ptt_val (h : PDt X W e f) (he : ∀ whole, isTrue e X.env whole = (do let v ← whole; standAt e.pos; holding [v] (truthy v)) := by intro _; rfl) : PTt X W e (bT f) := fun pins s σ H Q G0 H0 G ρ I E T q => by
  unfold bT at q
  refine isTrue_plain (h.go I E T (fun d k v s1 x H1 G1 g1 I1 T1 r1 z => ?_) (fun c k => ?_) fun k => ?_) (he _)
  · rw [k, Rs.bind_ok] at q
    unfold truB at q
    split at q
    · cases z; cases r1
      exact wpAny_truthy_bool ⟨H1, I1, q G1 H1 g1⟩
    · exact q.elim
  · rw [k] at q; exact q
  · rw [k] at q; exact q
theorem pwt_of (h : PTt X W e p) (w : PTt X W e p → PWt X W e p) : PWt X W e p := w h
theorem pwt_or1 (h : PTt X W e p) : PWt X W (.BoolOp .Or [e] pos) p := fun wh pins s σ H Q G0 H0 G ρ I E T q =>
  isTrue_or (wpAny_mono (h pins s σ H Q G0 H0 G ρ I E T q) (fun c s1 z => by
    cases c with
    | false => exact isTrue_or_nil z
    | true => exact z) fun _ _ z => z)
theorem pwt_or (h : PTt X W a p) (k : PWt X W (.BoolOp .Or (b :: es) pos) p') : PWt X W (.BoolOp .Or (a :: b :: es) pos) (bOr p p') := fun wh pins s σ H Q G0 H0 G ρ I E T q => by
  unfold bOr at q
  refine isTrue_or (h.go I E T (fun d k1 s1 H1 G1 g1 I1 T1 => ?_) (fun c k1 => ?_) fun k1 => ?_)
  · rw [k1, Rs.bind_ok] at q
    cases d with
    | true => exact ⟨H1, I1, q G1 H1 g1⟩
    | false => exact k wh pins s1 σ H1 Q G0 H0 G1 ρ I1 (E.grow g1) T1 (RT.grow g1 q)
  · rw [k1] at q; exact q
  · rw [k1] at q; exact q
theorem pwt_and1 (h : PTt X W e p) : PWt X W (.BoolOp .And [e] pos) p := fun wh pins s σ H Q G0 H0 G ρ I E T q =>
  isTrue_and (wpAny_mono (h pins s σ H Q G0 H0 G ρ I E T q) (fun c s1 z => by
    cases c with
    | true => exact isTrue_and_nil z
    | false => exact z) fun _ _ z => z)
theorem pwt_and (h : PTt X W a p) (k : PWt X W (.BoolOp .And (b :: es) pos) p') : PWt X W (.BoolOp .And (a :: b :: es) pos) (bAnd p p') := fun wh pins s σ H Q G0 H0 G ρ I E T q => by
  unfold bAnd at q
  refine isTrue_and (h.go I E T (fun d k1 s1 H1 G1 g1 I1 T1 => ?_) (fun c k1 => ?_) fun k1 => ?_)
  · rw [k1, Rs.bind_ok] at q
    cases d with
    | false => exact ⟨H1, I1, q G1 H1 g1⟩
    | true => exact k wh pins s1 σ H1 Q G0 H0 G1 ρ I1 (E.grow g1) T1 (RT.grow g1 q)
  · rw [k1] at q; exact q
  · rw [k1] at q; exact q
theorem ptt_w (h : PWt X W e p) : PTt X W e p := h _
/-! comparisons -/
theorem pdt_cmp {op : CmpOp} {r : R2} {F2 : PyData → PyData → Rs PyData} {f2 : EF} (ho : OpR X (compareOp op) r) (hF : Spec2 X W r F2) (ha : PDt X W a f) (hb : PDt X W b f2) (hm : behindInMarks op b = false) : PDt X W (.Compare a [op] [b] pos) (e2 F2 f f2) := fun pins s σ H Q G0 H0 G ρ I E T q => by
  unfold e2 at q
  refine wpAny_Compare1 (ha.go I E T (fun d k1 v s1 x H1 G1 g1 I1 T1 r1 z1 => hb.go I1 (E.grow g1) T1 (fun d2 k2 u s2 y H2 G2 g2 I2 T2 r2 z2 => ?_) (fun c k2 => ?_) fun k2 => ?_) (fun c k1 => ?_) fun k1 => ?_) hm
  · rw [k1, Rs.bind_ok, k2, Rs.bind_ok] at q
    exact ho pins s2 σ H2 x y v u Q I2 r1 r2 (hF G2 H2 x y d d2 σ Q g2.sub (.inl (dp_mono g2.g z1)) (.inl z2) (RD.grow (g1.trans g2) q))
  · rw [k1, Rs.bind_ok, k2] at q; exact fun G' H' g' => q G' H' (g1.trans g')
  · rw [k1, Rs.bind_ok, k2] at q; exact q
  · rw [k1] at q; exact q
  · rw [k1] at q; exact q
theorem ptt_cmp {op : CmpOp} {r : R2} {F2 : PyData → PyData → Rs PyData} {f2 : EF} (ho : OpR X (compareOp op) r) (hF : Spec2 X W r F2) (ha : PDt X W a f) (hb : PDt X W b f2) (hm : behindInMarks op b = false) : PTt X W (.Compare a [op] [b] pos) (bT (e2 F2 f f2)) := fun pins s σ H Q G0 H0 G ρ I E T q => by
  unfold bT e2 at q
  refine wpAny_isTrue_Compare1 (ha.go I E T (fun d k1 v s1 x H1 G1 g1 I1 T1 r1 z1 => hb.go I1 (E.grow g1) T1 (fun d2 k2 u s2 y H2 G2 g2 I2 T2 r2 z2 => ?_) (fun c k2 => ?_) fun k2 => ?_) (fun c k1 => ?_) fun k1 => ?_) hm
  · rw [k1, Rs.bind_ok, k2, Rs.bind_ok] at q
    have q := RT.grow (g1.trans g2) q
    cases k3 : F2 d d2 with
    | no => rw [k3] at q; exact q.elim
    | er c =>
      rw [k3] at q
      refine wpAny_mono (ho pins s2 σ H2 x y v u (fun _ _ => False) I2 r1 r2 (hF G2 H2 x y d d2 σ _ g2.sub (.inl (dp_mono g2.g z1)) (.inl z2) (by rw [k3]; exact q))) (fun v s3 z => ?_) fun _ _ z => z
      obtain ⟨_, _, _, _, z⟩ := z
      exact z.elim
    | ok d3 =>
      rw [k3, Rs.bind_ok] at q
      unfold truB at q
      split at q
      · refine wpAny_mono (ho pins s2 σ H2 x y v u (fun z H3 => ∃ G3, Gr G2 H2 G3 H3 ∧ Dq X.K G3 z _) I2 r1 r2 (hF G2 H2 x y d d2 σ _ g2.sub (.inl (dp_mono g2.g z1)) (.inl z2) (by rw [k3]; exact fun v G3 H3 g3 z3 => ⟨G3, g3, z3⟩))) (fun v s3 z => ?_) fun _ _ z => z
        obtain ⟨z, H3, I3, r3, G3, g3, z3⟩ := z
        cases z3; cases r3
        exact wpAny_truthy_bool ⟨H3, I3, q G3 H3 g3⟩
      · exact q.elim
  · rw [k1, Rs.bind_ok, k2] at q; exact fun G' H' g' => q G' H' (g1.trans g')
  · rw [k1, Rs.bind_ok, k2] at q; exact q
  · rw [k1] at q; exact q
  · rw [k1] at q; exact q
end
end L2.Pz

namespace L2.Pz
open PySem PySem.Spec PyProof.Rows
/-- a known tuple's slot -/
@[simp] def eG (i : Nat) (ρ : En) : Rs PyData := match ρ[i]? with
  | some (some (.g d)) => .ok d
  | _ => .no
section
variable {X : Cx} {W : WX} {R : RB} {e a b c tg : Expr} {es : List Expr} {st : Stmt} {sts rest body : List Stmt} {f : EF} {fs : List EF} {ms : List Bool} {g g1 g2 : SF} {gt : GF} {p p' : En → Rs Bool} {pos : Pos} {i : Nat} {is : List Nat}
/-! ### argument lists -/
theorem KnAll.nil {G : Hp} {vs : List V} : KnAll [] G vs := fun i v h => by simp at h
theorem KnAll.cons {b : Bool} {G : Hp} {v : V} {vs : List V} (h : b = true → KnV G v) (k : KnAll ms G vs) : KnAll (b :: ms) G (v :: vs) := fun i w hi hw => by
  cases i with
  | zero => simp at hi hw; subst hw; exact h hi
  | succ i => exact k i w (by simpa using hi) (by simpa using hw)
theorem plt_nil : PLt X W [] [] [] := fun pos pins s σ H Q G0 H0 G ρ I E T q => Calls.spliced_nil ⟨[], H, I, .nil, q [] G H (Gr.refl E.gr.sub) .nil KnAll.nil⟩
theorem PLt.go (h : PLt X W es ms fs) {pos : Pos} {pins : List (Addr × Obj)} {s : Shared} {σ : St} {G0 H0 G H : Hp} {ρ : En} {Po : List Value → Shared → Prop} (I : Inv X pins σ H s) (E : EnvOk X.K G0 H0 G H σ ρ) (T : Tk s.toks G0)
    (ok : ∀ ds, eL fs ρ = .ok ds → ∀ us s1 vs H1 G1, Gr G H G1 H1 → Inv X pins σ H1 s1 → Tk s1.toks G0 → Vals vs us → DqAll X.K G1 vs ds → KnAll ms G1 vs → Po us s1)
    (er : ∀ c, eL fs ρ = .er c → ∀ G' H', Gr G H G' H' → W (XC X.mg c) none σ H') (no : eL fs ρ ≠ .no) : wpAny (model X.prog X.w) X.A (spliced (backTo pos (starEach es X.env))) Po X.xe s := by
  cases k : eL fs ρ with
  | no => exact absurd k no
  | er c =>
    refine wpAny_mono (h pos pins s σ H (fun _ _ => False) G0 H0 G ρ I E T (by rw [k]; exact er c k)) (fun v s1 z => ?_) fun _ _ z => z
    obtain ⟨_, _, _, _, z⟩ := z
    exact z.elim
  | ok d =>
    refine wpAny_mono (wpAny_toks (h pos pins s σ H (fun x H1 => ∃ G1, Gr G H G1 H1 ∧ DqAll X.K G1 x d ∧ KnAll ms G1 x) G0 H0 G ρ I E T (by rw [k]; exact fun v G1 H1 g z kn => ⟨G1, g, z, kn⟩))) (fun v s1 z => ?_) fun _ _ z => z.2
    obtain ⟨tk, x, H1, I1, r1, G1, g1, d1, kn⟩ := z
    exact ok d k v s1 x H1 G1 g1 I1 (T.mono tk) r1 d1 kn
theorem plt_cons (ha : PDt X W e f) (hr : PLt X W es ms fs) (hs : starEach (e :: es) X.env = (false, eval e X.env) :: starEach es X.env := by rfl) : PLt X W (e :: es) (false :: ms) (f :: fs) := fun pos pins s σ H Q G0 H0 G ρ I E T q => by
  unfold eL at q
  rw [hs]
  show wpAny _ _ (spliced ((false, eval e X.env) :: backTo pos (starEach es X.env))) _ _ s
  refine Calls.spliced_cons (ha.go I E T (fun d k1 v s1 x H1 G1 g1 I1 T1 r1 z1 => hr.go I1 (E.grow g1) T1 (fun ds k2 us s2 vs H2 G2 g2 I2 T2 r2 z2 kn => ?_) (fun c k2 => ?_) fun k2 => ?_) (fun c k1 => ?_) fun k1 => ?_)
  · rw [k1, Rs.bind_ok, k2, Rs.bind_ok] at q
    exact ⟨x :: vs, H2, I2, .cons r1 r2, q (x :: vs) G2 H2 (g1.trans g2) (.cons (dp_mono g2.g z1) z2) (KnAll.cons (fun z => nomatch z) kn)⟩
  · rw [k1, Rs.bind_ok, k2] at q; exact fun G' H' g' => q G' H' (g1.trans g')
  · rw [k1, Rs.bind_ok, k2] at q; exact q
  · rw [k1] at q; exact q
  · rw [k1] at q; exact q
theorem plt_consG (i : Nat) {x : Str} (hv : PE X (.Name x pos) (tVar i)) (hr : PLt X W es ms fs) (hs : starEach (.Name x pos :: es) X.env = (false, eval (.Name x pos) X.env) :: starEach es X.env := by rfl) : PLt X W (.Name x pos :: es) (true :: ms) (eG i :: fs) := fun pos' pins s σ H Q G0 H0 G ρ I E T q => by
  unfold eL eG at q
  split at q
  · rename_i d hd
    rw [Rs.bind_ok] at q
    obtain ⟨v, h1, h2, kv⟩ := E.sl i _ hd
    rw [hs]
    show wpAny _ _ (spliced ((false, eval (.Name x pos) X.env) :: backTo pos' (starEach es X.env))) _ _ s
    refine Calls.spliced_cons (wpAny_mono (wpAny_toks (hv.run pins s σ H (fun w H1 => w = v ∧ H1 = H) I ⟨v, h1, rfl, rfl⟩)) (fun u s1 z => ?_) fun _ _ z => z.2)
    obtain ⟨tk, w, H1, I1, r1, rfl, rfl⟩ := z
    refine hr.go I1 E (T.mono tk) (fun ds k2 us s2 vs H2 G2 g2 I2 T2 r2 z2 kn => ?_) (fun c k2 => ?_) fun k2 => ?_
    · rw [k2, Rs.bind_ok] at q
      exact ⟨w :: vs, H2, I2, .cons r1 r2, q (w :: vs) G2 H2 g2 (.cons (dp_mono g2.g h2) z2) (KnAll.cons (fun _ => KnV.mono kv g2.g) kn)⟩
    · rw [k2] at q; exact q
    · rw [k2] at q; exact q
  · exact q.elim
theorem pdt_tup {j} (k : PLt X W es ms fs) (hl : fs.length ≤ sizeLine := by decide) : PDt X W (.Tuple es j pos) (eTup fs) := fun pins s σ H Q G0 H0 G ρ I E T q => by
  unfold eTup at q
  refine wpAny_Tuple_spliced (k.go I E T (fun ds k1 us s1 vs H1 G1 g1 I1 T1 r1 z1 kn => ?_) (fun c k1 => ?_) fun k1 => ?_)
  · rw [k1, Rs.bind_ok] at q
    have hz : vs.length ≤ sizeLine := by rw [dpAll_len z1, eL_len k1]; exact hl
    refine ⟨by rw [← r1.length]; exact hz, ?_⟩
    refine ⟨.ref s1.heap.objs.size, upd H1 s1.heap.objs.size (.tup vs), I1.laid (t' := s1.toks) (fun b u e => Heap.get?_push_of_some _ e) (Nat.le_refl _) ⟨hz, us, r1, ⟨_, Heap.get?_push_size _ rfl, rfl, _, rfl⟩⟩, rfl, ?_⟩
    exact RD.newT g1.sub (RD.grow g1 q) z1 _ (I1.hok.fresh (Nat.le_refl _))
  · rw [k1] at q; exact q
  · rw [k1] at q; exact q
/-! ### calls -/
theorem rfn_rd {K : PySem.W.Frag} {mg : Str → Option Value} {G H G1 H1 : Hp} {σ : St} {Q : VK} {r : Rs PyData} (g1 : Gr G H G1 H1) (q : RD K mg W G H σ Q r) : RFn K mg G1 H1 Q (WE W σ) r := by
  cases r with
  | ok d => exact fun v G2 H2 g2 z2 => q v G2 H2 (g1.trans g2) z2
  | er c => exact fun G2 H2 g2 => q G2 H2 (g1.trans g2)
  | no => exact q
/-- a def that needs no tokens, its arguments may -/
theorem pdt_call {x : Str} {k j n : Nat} {F : FF} {pn : Pos} (c : Cok X W j) (h : Has X.prog X.w X.K X.mg X.base k x n F) (hj : k ≤ j) (hg : Gl X x) (ka : PLt X W (e :: es) ms fs) (hn : fs.length = n) (hdb : (x == ("__debug__" : Str)) = false := by decide)
    (he : starEach (e :: es) X.env = (false, eval e X.env) :: starEach es X.env := by rfl) (hpl : (backTo pos (starEach es X.env)).any (·.1) = false := by rfl) : PDt X W (.Call (.Name x pn) (e :: es) [] pos) (eCall F fs) := fun pins s σ H Q G0 H0 G ρ I E T q => by
  obtain ⟨fa, fd, ps, h1, h2, h3, h4⟩ := h.ex
  unfold eCall at q
  refine wpAny_Call_Name_kw (ld_glob I hg h2 ?_ hdb)
  refine PySem.W.callWith_K (h₀ := X.base) I.ok.mod.kin h3 (ka.go I E T (fun ds k1 us s1 vs H1 G1 g1 I1 T1 r1 z1 kn => ⟨I1.kIn, ?_⟩) (fun c k1 => ?_) fun k1 => ?_) he hpl
  · rw [k1, Rs.bind_ok] at q
    refine run_fnSD (E := WE W) (dvs := []) h1 (c.hr.mono hj) h4 .nil (passAt c.tk σ) I1 r1 ⟨G1, ds, g1.sub, by rw [List.append_nil]; exact z1, by rw [List.append_nil, dpAll_len z1, eL_len k1]; exact hn, rfn_rd g1 q⟩
  · rw [k1] at q; exact q
  · rw [k1] at q; exact q
/-- what a def promises where tokens are counted -/
def spT (K : PySem.W.Frag) (mg : Str → Option Value) (ms : List Bool) (F : FF) (n : Nat) (vs : List V) (H : Hp) (Q : VK) (E : XK) : Prop := ∃ G ds, Same G H ∧ Tk n G ∧ DqAll K G vs ds ∧ KnAll ms G vs ∧ vs.length = ms.length ∧ RFn K mg G H Q E (F ds)
structure HasT (P : Program) (w : World) (K : PySem.W.Frag) (mg : Str → Option Value) (base : Heap) (k : Nat) (x : Str) (ms : List Bool) (F : FF) : Prop where
  ex : ∃ (fa : Addr) (fd : FuncData) (ps : List Str), ps.length = ms.length ∧ (∀ (A : Around) (outer : List Env) (s : Shared) (H : Hp) (args : Args) (us : List Value) (vs : List V) (Q : VK) (E : XK), Room k A → Env0 P w K mg base A outer s H → BindsTo s fd args (ps.zip us) → Vals vs us → spT K mg ms F s.toks vs H Q E →
    codeAny (model P w) A (.call (.ref fa) args) (CR (L2.CX P w) outer P w H s Q E) s) ∧ mg x = some (.ref fa) ∧ PySem.W.keepIn K (.ref fa) = true ∧ Binds K fd ps []
theorem pdt_callT {x : Str} {k j : Nat} {F : FF} {pn : Pos} (c : Cok X W j) (h : HasT X.prog X.w X.K X.mg X.base k x ms F) (hj : k ≤ j) (hg : Gl X x) (ka : PLt X W (e :: es) ms fs) (hn : fs.length = ms.length) (hdb : (x == ("__debug__" : Str)) = false := by decide)
    (he : starEach (e :: es) X.env = (false, eval e X.env) :: starEach es X.env := by rfl) (hpl : (backTo pos (starEach es X.env)).any (·.1) = false := by rfl) : PDt X W (.Call (.Name x pn) (e :: es) [] pos) (eCall F fs) := fun pins s σ H Q G0 H0 G ρ I E T q => by
  obtain ⟨fa, fd, ps, hp, h1, h2, h3, h4⟩ := h.ex
  unfold eCall at q
  refine wpAny_Call_Name_kw (ld_glob I hg h2 ?_ hdb)
  refine PySem.W.callWith_K (h₀ := X.base) I.ok.mod.kin h3 (ka.go I E T (fun ds k1 us s1 vs H1 G1 g1 I1 T1 r1 z1 kn => ⟨I1.kIn, ?_⟩) (fun c k1 => ?_) fun k1 => ?_) he hpl
  · rw [k1, Rs.bind_ok] at q
    have hl : vs.length = ms.length := by rw [dpAll_len z1, eL_len k1]; exact hn
    have hb := h4 s1 us I1.kIn (by rw [List.append_nil, ← r1.length, hl, hp])
    rw [List.append_nil] at hb
    refine wpAny_call (codeAny_mono (h1 X.A X.stack s1 H1 ⟨us, []⟩ us vs Q (WE W σ) (c.hr.mono hj) I1.env0 hb r1 ⟨G1, ds, g1.sub, T1.gr (E.grow g1).gr, z1, kn, hl, rfn_rd g1 q⟩) fun r s' hq => ?_)
    cases r with
    | error er => exact passAt c.tk σ pins H1 s1 er s' I1 hq
    | ok fl =>
      cases fl with
      | ret u => exact I1.after hq
      | _ => exact hq.elim
  · rw [k1] at q; exact q
  · rw [k1] at q; exact q
end
end L2.Pz

namespace L2.Pz
open PySem PySem.Spec PyProof.Rows
/-- the ends that a result asks for -/
def DT (K : PySem.W.Frag) (G0 H0 G : Hp) (r : SR) : Ends where
  nx := fun σ H => ∃ ρ G', r = .nx ρ ∧ EnvOk K G0 H0 G' H σ ρ ∧ Same G G'
  rt := fun v H => ∃ d G', r = .rt d ∧ Gr G0 H0 G' H ∧ Dq K G' v d
  bk := fun σ H => ∃ ρ G', r = .bk ρ ∧ EnvOk K G0 H0 G' H σ ρ ∧ Same G G'
  ct := fun σ H => ∃ ρ G', r = .ct ρ ∧ EnvOk K G0 H0 G' H σ ρ ∧ Same G G'
section
variable {X : Cx} {W : WX} {R : RB} {e a b c tg : Expr} {es : List Expr} {st : Stmt} {sts rest body : List Stmt} {f : EF} {fs : List EF} {ms : List Bool} {g g1 g2 : SF} {gt : GF} {p p' : En → Rs Bool} {pos : Pos} {i : Nat} {is : List Nat}
theorem po_sp {pins : List (Addr × Obj)} {G0 H0 G : Hp} {r : SR} {fl : Flow} {s' : Shared} (hR : RbOk R) (T : Tk s'.toks G0) (h : SP X pins (DT X.K G0 H0 G r) fl s') : PoT X R G0 H0 G pins r fl s' := by
  cases fl with
  | next => obtain ⟨σ, H, I, ρ, G', rfl, E, sm⟩ := h; exact ⟨G0, H0, G', H, σ, I, hR.refl _ _, E, sm, T⟩
  | brk => obtain ⟨σ, H, I, ρ, G', rfl, E, sm⟩ := h; exact ⟨G0, H0, G', H, σ, I, hR.refl _ _, E, sm, T⟩
  | cont => obtain ⟨σ, H, I, ρ, G', rfl, E, sm⟩ := h; exact ⟨G0, H0, G', H, σ, I, hR.refl _ _, E, sm, T⟩
  | ret u => obtain ⟨v, σ, H, I, rv, d, G', rfl, E, z⟩ := h; exact ⟨G0, H0, G', H, σ, v, I, hR.refl _ _, E, rv, z⟩
theorem pos_dt {G0 H0 G : Hp} {r : SR} (hR : RbOk R) (h : ErT X.K X.mg W R G0 H0 G r) : PoS X.K X.mg W G0 H0 G (DT X.K G0 H0 G r) r := by
  cases r with
  | nx ρ => exact fun G' H σ E sm => ⟨ρ, G', rfl, E, sm⟩
  | rt d => exact fun G' H v gr z => ⟨d, G', rfl, gr, z⟩
  | bk ρ => exact fun G' H σ E sm => ⟨ρ, G', rfl, E, sm⟩
  | ct ρ => exact fun G' H σ E sm => ⟨ρ, G', rfl, E, sm⟩
  | er c ρ => exact fun G' H σ E sm => h G0 H0 G' H σ (hR.refl _ _) E sm
  | no => exact h.elim
theorem pst_of (hR : RbOk R) (h : PS1 X W st g) : PSt X W R st g := fun pins s σ H G0 H0 G ρ I E T q =>
  wpAny_mono (wpAny_toks (h.run pins s σ H (DT X.K G0 H0 G (g ρ)) I ⟨G0, H0, G, ρ, E, pos_dt hR q⟩)) (fun _ _ z => po_sp hR (T.mono z.1) z.2) fun _ _ z => z.2
theorem psdt_of (hR : RbOk R) (h : PSD X W sts g) : PSDt X W R sts g := fun pins s σ H G0 H0 G ρ I E T q =>
  wpAny_mono (wpAny_toks (h.run pins s σ H (DT X.K G0 H0 G (g ρ)) I ⟨G0, H0, G, ρ, E, pos_dt hR q⟩)) (fun _ _ z => po_sp hR (T.mono z.1) z.2) fun _ _ z => z.2
theorem psdt_nil (hR : RbOk R) : PSDt X W R [] sNx := psdt_of hR psd_nil
theorem psdt_cons (hR : RbOk R) (h1 : PSt X W R st g1) (h2 : PSDt X W R rest g2) : PSDt X W R (st :: rest) (sSeq g1 g2) := fun pins s σ H G0 H0 G ρ I E T q => by
  unfold sSeq at q ⊢
  have q1 : ErT X.K X.mg W R G0 H0 G (g1 ρ) := by
    cases k : g1 ρ with
    | er c ρ' => rw [k] at q; exact q
    | no => rw [k] at q; exact q
    | _ => exact trivial
  refine wpAny_execs_cons (wpAny_mono (h1 pins s σ H G0 H0 G ρ I E T q1) (fun fl s1 z => ?_) fun _ _ z => z)
  cases k : g1 ρ with
  | nx ρ' =>
    rw [k] at z q
    cases fl <;> first | exact z.elim | skip
    obtain ⟨G1, H1, G', H', σ', I', r', E', sm, T'⟩ := z
    exact wpAny_mono (h2 pins s1 σ' H' G1 H1 G' ρ' I' E' T' (ErT.grow hR r' sm q)) (fun _ _ z => PoT.grow hR r' sm z) fun _ _ z => z
  | rt d => rw [k] at z; cases fl <;> first | exact z.elim | exact z
  | bk ρ' => rw [k] at z; cases fl <;> first | exact z.elim | exact z
  | ct ρ' => rw [k] at z; cases fl <;> first | exact z.elim | exact z
  | er c ρ' => rw [k] at z; cases fl <;> exact z.elim
  | no => rw [k] at z; cases fl <;> exact z.elim
theorem psdt_one (hR : RbOk R) (h1 : PSt X W R st g) : PSDt X W R [st] g := fun pins s σ H G0 H0 G ρ I E T q => by
  have := psdt_cons hR h1 (psdt_nil (X := X) (W := W) hR) pins s σ H G0 H0 G ρ I E T
  have e : sSeq g sNx ρ = g ρ := by
    unfold sSeq
    cases g ρ <;> rfl
  rw [e] at this
  exact this q
theorem pst_ret (hR : RbOk R) (k : PDt X W e f) : PSt X W R (.Return (some e) pos) (sRet f) := fun pins s σ H G0 H0 G ρ I E T q => by
  unfold sRet at q ⊢
  refine wpAny_Return_some (k.go I E T (fun d k1 v s1 x H1 G1 g1 I1 T1 r1 z1 => ?_) (fun c k1 => ?_) fun k1 => ?_)
  · rw [k1]; exact ⟨G0, H0, G1, H1, σ, x, I1, hR.refl _ _, E.gr.trans g1, r1, z1⟩
  · rw [k1] at q; exact fun G' H' g' => q G0 H0 G' H' σ (hR.refl _ _) (E.grow g') g'.g
  · rw [k1] at q; exact q
theorem pst_asg (hR : RbOk R) (k : PDt X W e f) (hg : PGD X tg is gt) (hs : swapsWithSole [tg] e pos.line X.env = pure false := by rfl) (hw : swappedStores [tg] e X.env = pure none := by rfl) (h1 : (assignEach [tg] X.env).map (·.2) = [assign tg X.env] := by rfl) :
    PSt X W R (.Assign [tg] e pos) (sAsg gt f) := fun pins s σ H G0 H0 G ρ I E T q => by
  unfold sAsg at q ⊢
  refine wpAny_Assign_stores (k.go I E T (fun d k1 v s1 x H1 G1 g1 I1 T1 r1 z1 => ?_) (fun c k1 => ?_) fun k1 => ?_) hs hw
  · rw [k1] at q ⊢
    simp only at q ⊢
    rw [h1]
    cases k2 : gt d ρ with
    | none => rw [k2] at q; exact q.elim
    | some ρ' =>
      refine wpAny_mono (wpAny_toks (hg.run pins s1 σ H1 x v (fun σ' H' => H' = H1 ∧ EnvOk X.K G0 H0 G1 H1 σ' ρ') I1 r1 ⟨G0, H0, G1, ρ, d, E.grow g1, z1, ρ', k2, fun σ' E' _ => ⟨rfl, E'⟩⟩)) (fun _ s2 z => ?_) fun _ _ z => z.2
      obtain ⟨tk, σ', H', I', rfl, E'⟩ := z
      exact ⟨G0, H0, G1, H', σ', I', hR.refl _ _, E', g1.g, T1.mono tk⟩
  · rw [k1] at q; exact fun G' H' g' => q G0 H0 G' H' σ (hR.refl _ _) (E.grow g') g'.g
  · rw [k1] at q; exact q
theorem pst_if (hR : RbOk R) (hc : PTt X W c p) (h1 : PSDt X W R sts g1) (h2 : PSDt X W R rest g2) : PSt X W R (.If c sts rest pos) (sIf p g1 g2) := fun pins s σ H G0 H0 G ρ I E T q => by
  unfold sIf at q ⊢
  refine wpAny_If (hc.go I E T (fun d k1 s1 H1 G1 g1 I1 T1 => ?_) (fun c k1 => ?_) fun k1 => ?_)
  · rw [k1] at q ⊢
    cases d with
    | true => exact wpAny_mono (h1 pins s1 σ H1 G0 H0 G1 ρ I1 (E.grow g1) T1 (ErT.grow hR (hR.refl _ _) g1.g q)) (fun _ _ z => PoT.grow hR (hR.refl _ _) g1.g z) fun _ _ z => z
    | false => exact wpAny_mono (h2 pins s1 σ H1 G0 H0 G1 ρ I1 (E.grow g1) T1 (ErT.grow hR (hR.refl _ _) g1.g q)) (fun _ _ z => PoT.grow hR (hR.refl _ _) g1.g z) fun _ _ z => z
  · rw [k1] at q; exact fun G' H' g' => q G0 H0 G' H' σ (hR.refl _ _) (E.grow g') g'.g
  · rw [k1] at q; exact q
theorem tgt_some {d : PyData} {ρ ρ' : En} (h : gt d ρ = some ρ') : tgt gt g d ρ = g ρ' := by unfold tgt; rw [h]
theorem forL_cons {bd : PyData → SF} (d : PyData) (ds : List PyData) (ρ : En) : forL bd (d :: ds) ρ = match bd d ρ with
    | .nx ρ' => forL bd ds ρ'
    | .ct ρ' => forL bd ds ρ'
    | .bk ρ' => .nx ρ'
    | r => r := rfl
theorem pst_for {fi : IF} (hR : RbOk R) (hp : PassesOwn (model X.prog X.w) X.A X.env X.xe) (hc : X.calm = true) (ki : PID X W tg e fi) (kg : PGD X tg is gt) (kb : PSDt X W R body g)
    (hs : ∀ x, foldedSetIterable e X.env x = pure x := by intro _; rfl) : PSt X W R (.For tg e body [] pos) (sFor gt fi g) := fun pins s σ H G0 H0 G ρ I E T q => by
  cases k : fi ρ with
  | no => unfold sFor at q; rw [k] at q; exact q.elim
  | er c =>
    unfold sFor at q
    rw [k] at q
    refine wpAny_For (wpAny_mono (ki.run pins s σ H (fun _ _ => False) I ⟨G0, H0, G, ρ, E, by rw [k]; exact fun G' H' g' => q G0 H0 G' H' σ (hR.refl _ _) (E.grow g') g'.g⟩) (fun v s1 h1 => wpAny_mono h1 (fun itv s2 h2 => ?_) fun _ _ z => z) fun _ _ z => z) hs
    obtain ⟨_, _, _, _, _, _, _, _, _, _, z⟩ := h2
    exact z.elim
  | ok ds =>
    have hrr : sFor gt fi g ρ = forL (tgt gt g) ds ρ := by unfold sFor; rw [k]
    rw [hrr] at q ⊢
    generalize hr0 : forL (tgt gt g) ds ρ = rr at *
    refine wpAny_For (wpAny_mono (wpAny_toks (ki.run pins s σ H (fun J H1 => ∃ G1, Gr G H G1 H1 ∧ ItOk X.K G1 J ds) I ⟨G0, H0, G, ρ, E, by rw [k]; exact fun J G1 H1 g1 it => ⟨G1, g1, it⟩⟩)) (fun v s1 h1 => wpAny_mono (wpAny_toks h1.2) (fun itv s2 h2 => ?_) fun _ _ z => z.2) fun _ _ z => z.2) hs
    obtain ⟨t2, it, fp, tn, J, H2, rfl, I2, TT, st2, f2, G1, g1, ito⟩ := h2
    have T2 := T.mono (Nat.le_trans h1.1 t2)
    have stat : ∀ {H' : Hp}, (∀ b ∈ fp, H' b = none) → ∀ b ∈ fp, FpOk X pins H' b := fun hn b hb => ⟨hn b hb, (f2 b hb).2⟩
    refine codeAny_forLoop_any (fun n s' => ∃ i σ' H' G2 A0 B0 ρ', n = ds.length - i ∧ i ≤ ds.length ∧ Inv X pins σ' H' s' ∧ tn i s'.heap ∧ (∀ b ∈ fp, H' b = none) ∧ R G0 H0 A0 B0 ∧ EnvOk X.K A0 B0 G2 H' σ' ρ' ∧ Same G1 G2 ∧ Tk s'.toks A0 ∧ forL (tgt gt g) (ds.drop i) ρ' = rr) ?_ ds.length
      ⟨0, σ, H2, G1, G0, H0, ρ, by simp, Nat.zero_le _, I2, st2, fun b hb => (f2 b hb).1, hR.refl _ _, E.grow g1, Same.refl _, T2, hr0⟩
    rintro n s3 ⟨i, σ3, H3, G2, A0, B0, ρ3, rfl, hi, I3, st3, fr3, r3, E3, sm3, T3, ef⟩
    obtain ⟨stp, go⟩ := ito H3 (sm3.trans E3.gr.sub)
    have sG : Same G G2 := g1.g.trans sm3
    by_cases hlt : i < ds.length
    · have hd : ds[i]? = some ds[i] := by simp [hlt]
      obtain ⟨go1, yl⟩ := go i _ hd
      rw [List.drop_eq_getElem_cons hlt, forL_cons] at ef
      refine wpAny_passesOwn hp (wpAny_mono (wpAny_toks (TT.item X rfl rfl rfl hc i pins s3 σ3 H3 X.xe I3 (stat fr3) st3 go1)) (fun r s4 h4 => ?_) fun _ _ z => z.2)
      obtain ⟨t4, u, rfl, h4⟩ := h4
      refine wpAny_passesOwn hp (wpAny_mono (wpAny_toks h4) (fun _ s5 h5 => ?_) fun _ _ z => z.2)
      obtain ⟨t5, x, H5, I5, r5, y5, st5, fr5⟩ := h5
      obtain ⟨G5, g5, z5⟩ := (yl x H5 y5).grow sm3 E3.gr.sub
      have I5' := I5.pinned (stat fr5) (TT.obj _ _ st5)
      cases k2 : gt ds[i] ρ3 with
      | none =>
        unfold tgt at ef
        rw [k2] at ef
        subst ef
        exact q.elim
      | some ρ4 =>
        rw [tgt_some k2] at ef
        refine wpAny_passesOwn hp (wpAny_mono (wpAny_toks (kg.run _ s5 σ3 H5 x u (fun σ' H' => H' = H5 ∧ EnvOk X.K A0 B0 G5 H5 σ' ρ4) I5' r5 ⟨A0, B0, G5, ρ3, _, E3.grow g5, z5, ρ4, k2, fun σ' E' _ => ⟨rfl, E'⟩⟩)) (fun _ s6 h6 => ?_) fun _ _ z => z.2)
        obtain ⟨t6, σ6, H6, I6, rfl, E6⟩ := h6
        have T6 := T3.mono (Nat.le_trans t4 (Nat.le_trans t5 t6))
        have sG5 : Same G G5 := sG.trans g5.g
        have qb : ErT X.K X.mg W R A0 B0 G5 (g ρ4) := by
          cases k3 : g ρ4 with
          | er c ρ' => rw [k3] at ef; subst ef; exact ErT.grow hR r3 sG5 q
          | no => rw [k3] at ef; subst ef; exact q
          | _ => exact trivial
        refine wpAny_passesOwn hp (wpAny_mono (kb _ s6 σ6 H6 A0 B0 G5 ρ4 I6 E6 T6 qb) (fun fl s7 z => ?_) fun _ _ z => z)
        have again : ∀ {ρ7 : En}, GoT X R A0 B0 G5 (pins ++ pinsAt fp s5.heap) ρ7 s7 → forL (tgt gt g) (ds.drop (i + 1)) ρ7 = rr →
            ∃ m, m < ds.length - i ∧ ∃ i σ' H' G2 A0 B0 ρ', m = ds.length - i ∧ i ≤ ds.length ∧ Inv X pins σ' H' s7 ∧ tn i s7.heap ∧ (∀ b ∈ fp, H' b = none) ∧ R G0 H0 A0 B0 ∧ EnvOk X.K A0 B0 G2 H' σ' ρ' ∧ Same G1 G2 ∧ Tk s7.toks A0 ∧ forL (tgt gt g) (ds.drop i) ρ' = rr := fun {ρ7} z e7 => by
          obtain ⟨A7, B7, G7, H7, σ7, I7, r7, E7, sm7, T7⟩ := z
          refine ⟨ds.length - (i + 1), by omega, i + 1, σ7, H7, G7, A7, B7, ρ7, rfl, hlt, I7.unpinned, TT.keep _ _ _ st5 fun b hb o eo => (I7.pin (b, o) (List.mem_append_right _ (List.mem_append_right _ (mem_pinsAt hb eo)))).1, fun b hb => ?_, hR.trans r3 r7, E7, (sm3.trans g5.g).trans sm7, T7, e7⟩
          obtain ⟨o, eo, _⟩ := TT.obj _ _ st5 b hb
          exact (I7.pin (b, o) (List.mem_append_right _ (List.mem_append_right _ (mem_pinsAt hb eo)))).2.1
        have unpin : ∀ {r : SR} {fl : Flow}, PoT X R A0 B0 G5 (pins ++ pinsAt fp s5.heap) r fl s7 → PoT X R G0 H0 G pins r fl s7 := fun {r fl} z => by
          refine PoT.grow hR r3 sG5 ?_
          cases r <;> cases fl <;> first | exact z.elim | skip
          · obtain ⟨A7, B7, G7, H7, σ7, I7, w7⟩ := z; exact ⟨A7, B7, G7, H7, σ7, I7.unpinned, w7⟩
          · obtain ⟨A7, B7, G7, H7, σ7, v7, I7, w7⟩ := z; exact ⟨A7, B7, G7, H7, σ7, v7, I7.unpinned, w7⟩
          · obtain ⟨A7, B7, G7, H7, σ7, I7, w7⟩ := z; exact ⟨A7, B7, G7, H7, σ7, I7.unpinned, w7⟩
          · obtain ⟨A7, B7, G7, H7, σ7, I7, w7⟩ := z; exact ⟨A7, B7, G7, H7, σ7, I7.unpinned, w7⟩
        cases k3 : g ρ4 with
        | nx ρ7 => rw [k3] at z ef; cases fl <;> first | exact z.elim | exact again z ef
        | ct ρ7 => rw [k3] at z ef; cases fl <;> first | exact z.elim | exact again z ef
        | bk ρ7 =>
          rw [k3] at z ef
          subst ef
          cases fl <;> first | exact z.elim | skip
          have z' : PoT X R A0 B0 G5 (pins ++ pinsAt fp s5.heap) (.nx ρ7) .next s7 := z
          exact unpin z'
        | rt d => rw [k3] at z ef; subst ef; cases fl <;> first | exact z.elim | exact unpin z
        | er c ρ7 => rw [k3] at z; cases fl <;> exact z.elim
        | no => rw [k3] at z; cases fl <;> exact z.elim
    · have e : i = ds.length := by omega
      subst e
      rw [List.drop_length] at ef
      have ef : SR.nx ρ3 = rr := ef
      subst ef
      refine wpAny_passesOwn hp (wpAny_mono (wpAny_toks (TT.done X rfl rfl rfl hc _ pins s3 σ3 H3 X.xe I3 (stat fr3) st3 stp)) (fun r s4 h4 => ?_) fun _ _ z => z.2)
      obtain ⟨t4, rfl, I4⟩ := h4
      exact wpAny_execs_nil ⟨A0, B0, G2, H3, σ3, I4, r3, E3, sG, T3.mono t4⟩
end
end L2.Pz

namespace L2.Pz
open PySem PySem.Spec PyProof.Rows
/-! ### defs where tokens are counted -/
def mkS : Bool → PyData → Sl
  | true, d => .g d
  | false, d => .v d
@[simp] def startT (n : Nat) (ms : List Bool) (ds : List PyData) : En := List.zipWith (fun m d => some (mkS m d)) ms ds ++ List.replicate (n - ds.length) none
@[simp] def fnT (n : Nat) (ms : List Bool) (g : SF) (ds : List PyData) : Rs PyData := outF (g (startT n ms ds))
theorem env_startT {K : PySem.W.Frag} {G H : Hp} {vs : List V} {ds : List PyData} {ms : List Bool} {N : List Str} (s : Same G H) (h : DqAll K G vs ds) (kn : KnAll ms G vs) (hm : vs.length = ms.length) : EnvOk K G H G H (start N vs) (startT N.length ms ds) := by
  have hl := dpAll_len h
  have noOwn : ∀ (i : Nat) (es : List PyData), (startT N.length ms ds)[i]? ≠ some (some (.own es)) := fun i es z => by
    unfold startT at z
    by_cases hlt : i < (List.zipWith (fun m d => some (mkS m d)) ms ds).length
    · rw [List.getElem?_append_left hlt, List.getElem?_zipWith] at z
      cases k1 : ms[i]? with
      | none => rw [k1] at z; cases z
      | some b =>
        cases k2 : ds[i]? with
        | none => rw [k1, k2] at z; cases z
        | some d => rw [k1, k2] at z; cases b <;> cases z
    · rw [List.getElem?_append_right (by omega), List.getElem?_replicate] at z
      split at z <;> simp at z
  refine ⟨Gr.refl s, by simp [start, startT, hl, ← hm], fun i sl hi => ?_, fun i j ds' es a h1 => absurd h1 (noOwn i ds')⟩
  unfold startT at hi
  by_cases hlt : i < (List.zipWith (fun m d => some (mkS m d)) ms ds).length
  · have hlt2 : i < ds.length := by rw [List.length_zipWith] at hlt; omega
    have hi' : i < vs.length := by omega
    rw [List.getElem?_append_left hlt, List.getElem?_zipWith] at hi
    have e1 : vs[i]? = some vs[i] := by simp [hi']
    obtain ⟨d', h1, h2⟩ := dpAll_get h e1
    have em : ms[i]? = some ms[i] := by simp [show i < ms.length by omega]
    rw [em, h1] at hi
    have hi := Option.some.inj (Option.some.inj hi)
    refine ⟨vs[i], ?_, ?_⟩
    · unfold start
      rw [List.getElem?_append_left (by simpa using hi'), List.getElem?_map, e1]
      rfl
    · rw [← hi]
      cases kb : ms[i] with
      | false => exact h2
      | true => exact ⟨h2, kn i vs[i] (by rw [em, kb]) e1⟩
  · rw [List.getElem?_append_right (by omega), List.getElem?_replicate] at hi
    split at hi <;> simp at hi
section
variable {P : Program} {w : World} {K : PySem.W.Frag} {mg : Str → Option Value} {base : Heap}
/-- the body of a def is run: the raw way in -/
theorem in_def {x qual : Str} {params : Arguments} {body : List Stmt} {scope : Scope} {kws : List (Str × V)} {f : Addr} {fd : FuncData} {N ps : List Str} {k : Nat} {A : Around} {outer : List Env} {s : Shared} {H : Hp} {args : Args} {us : List Value} {vs : List V} {E : XK} {Rr : Result → Shared → Prop} (F : FunD K x qual params body scope [] kws f fd) (S : FnScope N ps scope)
    (hr : Room (k + 1) A) (e0 : Env0 P w K mg base A outer s H) (hb : BindsTo s fd args (ps.zip us)) (r : Vals vs us) (hl : vs.length = ps.length)
    (go : ∀ (cdv : Value) (s1 : Shared), s.toks ≤ s1.toks → Inv (cxOf (L2.CX P w) P w K mg base N qual scope f cdv A outer s H E) [] (start N vs) H s1 → Room k (A.deeper (envOfC qual scope s.heap.objs.size f cdv)) →
      wpAny (model P w) (A.deeper (envOfC qual scope s.heap.objs.size f cdv)) (execs body (envOfC qual scope s.heap.objs.size f cdv)) (fun fl s' => Rr (.ok (match fl with | .ret v => .ret v | _ => .ret .none)) s') (cxOf (L2.CX P w) P w K mg base N qual scope f cdv A outer s H E).xe s1)
    (hx : ∀ e s', L2.CX P w outer H s E e s' → Rr (.error e) s') : codeAny (model P w) A (.call (.ref f) args) Rr s := by
  obtain ⟨oc, od, dV, kV, doc, pm, an, cdv, ct, osl, rfl, lk, hcd, _, _⟩ := F.ex
  have KX : K.In s.heap := e0.mod.kin.keeps fun b o e => (e0.bs b o e).1
  have lim : s.heap.NoLimit := e0.mod.nolimit.keeps fun b o e => (e0.bs b o e).1
  have hkind : ∀ y ∈ ps.zip us, scope.names.lookup y.1 = some .local ∨ (scope.names.lookup y.1 = some .cell ∧ ((cellsFrom (s.heap.objs.size + 1) scope.names []).lookup y.1).isSome = true) := fun ⟨n, v⟩ hy =>
    (S.par n (List.of_mem_zip hy).1).imp id fun q => ⟨q, PySem.W.cellsFrom_some _ _ _ (.inl q)⟩
  refine codeAny_call_function hr.depth (KX _ _ lk) rfl S.co S.gen rfl (PySem.W.codeRec_of KX hcd) (hb _ _ _ _ (wpAny_with_toks (Nat.le_refl _) ?_))
  refine wpAny_newFunctionEnv_cells S.kind hkind fun env he s1 xx tk => ?_
  subst he
  refine ⟨lim.keeps xx.toInCall.keep, codeAny_func ?_⟩
  refine wpAny_mono (go cdv s1 tk (inv_start S hr.hd e0 hl r xx) (hr.deeper _)) (fun fl s' z => ?_) fun e s' z => ?_
  · cases fl <;> exact z
  · exact wpAny_mono z (fun _ _ h => hx _ _ h) fun _ _ h => hx _ _ h
theorem fn_hasT {x qual : Str} {params : Arguments} {body : List Stmt} {scope : Scope} {kws : List (Str × V)} {f : Addr} {fd : FuncData} {N ps : List Str} {k : Nat} {g : SF} (ms : List Bool) (F : FunD K x qual params body scope [] kws f fd) (S : FnScope N ps scope) (hm : mg x = some (.ref f)) (hms : ps.length = ms.length)
    (hbd : ∀ (kV doc pm : Value) (an : Option Addr) (cdv ct : Value) (us : List Value), us.length = ps.length → bindArgs (PySem.W.fnOf x qual params body scope .none kV doc pm an cdv ct) ⟨us, []⟩ = pure (ps.zip us))
    (hb : ∀ (cdv : Value) (A : Around) (outer : List Env) (s : Shared) (H : Hp) (E : XK), Cok (cxOf (L2.CX P w) P w K mg base N qual scope f cdv A outer s H E) (fun cls d _ H => E cls d H) k →
      PSDt (cxOf (L2.CX P w) P w K mg base N qual scope f cdv A outer s H E) (fun cls d _ H => E cls d H) rbEq body g) : HasT P w K mg base (k + 1) x ms (fnT N.length ms g) := by
  refine ⟨f, fd, ps, hms, fun A outer s H args us vs Q E hr e0 hbn r h => ?_, hm, F.kp, F.bindsN hbd⟩
  obtain ⟨G, ds, sG, T, hd, kn, hl, q⟩ := h
  refine in_def (E := E) F S hr e0 hbn r (by omega) (fun cdv s1 tk I hr1 => ?_) fun e s' z => z
  have cc : Cok (cxOf (L2.CX P w) P w K mg base N qual scope f cdv A outer s H E) (fun cls d _ H => E cls d H) k := ⟨hr1, takes_of rfl rfl rfl rfl, passes_of rfl⟩
  have er : ErT K mg (fun cls d _ H => E cls d H) rbEq G H G (g (startT N.length ms ds)) := by
    unfold fnT at q
    cases k1 : g (startT N.length ms ds) with
    | er c ρ => rw [k1] at q; exact fun G1 H1 G' H' σ r1 E' _ => by obtain ⟨rfl, rfl⟩ := r1; exact q G' H' E'.gr
    | no => rw [k1] at q; exact q.elim
    | _ => exact trivial
  refine wpAny_mono (hb cdv A outer s H E cc [] s1 (start N vs) H G H G (startT N.length ms ds) I (env_startT sG hd kn hl) (T.mono tk) er) (fun fl s' z => ?_) fun _ _ z => z
  unfold fnT at q
  cases k1 : g (startT N.length ms ds) with
  | nx ρ =>
    rw [k1] at z q
    cases fl <;> first | exact z.elim | skip
    obtain ⟨G1, H1, G', H', σ', J, ⟨rfl, rfl⟩, E', _, _⟩ := z
    exact ⟨.non, H', J.os, J.bare, J.base, J.hok, rfl, q .non G' H' E'.gr .non⟩
  | rt d =>
    rw [k1] at z q
    cases fl <;> first | exact z.elim | skip
    obtain ⟨G1, H1, G', H', σ', v, J, ⟨rfl, rfl⟩, gr, rv, z⟩ := z
    exact ⟨v, H', J.os, J.bare, J.base, J.hok, rv, q v G' H' gr z⟩
  | bk ρ => rw [k1] at q; exact q.elim
  | ct ρ => rw [k1] at q; exact q.elim
  | er c ρ => rw [k1] at z; cases fl <;> exact z.elim
  | no => rw [k1] at z; cases fl <;> exact z.elim
theorem hasT_lock {k : Nat} {x : Str} {ms : List Bool} {F : FF} (h : HasT P w K mg base k x ms F) : HasT P w K mg base k x ms (lock F) := by rw [lock_eq]; exact h
theorem hasT_zero {x qual : Str} {params : Arguments} {body : List Stmt} {scope : Scope} {kws : List (Str × V)} {f : Addr} {fd : FuncData} {N ps : List Str} {k : Nat} (ms : List Bool) (F : FunD K x qual params body scope [] kws f fd) (S : FnScope N ps scope) (hm : mg x = some (.ref f)) (hms : ps.length = ms.length)
    (hbd : ∀ (kV doc pm : Value) (an : Option Addr) (cdv ct : Value) (us : List Value), us.length = ps.length → bindArgs (PySem.W.fnOf x qual params body scope .none kV doc pm an cdv ct) ⟨us, []⟩ = pure (ps.zip us)) :
    HasT P w K mg base k x ms (fun _ => .no) :=
  ⟨f, fd, ps, hms, fun A outer s H args us vs Q E _ _ _ _ h => by obtain ⟨G, ds, _, _, _, _, _, q⟩ := h; exact q.elim, hm, F.kp, F.bindsN hbd⟩
/-- the law: it may bring known tuples forth -/
def spL (K : PySem.W.Frag) (F : FF) : Sp := fun vs H Q E => ∃ G ds, Same G H ∧ (∀ a o xs, G a ≠ some (.frz o (.tup xs))) ∧ DqAll K G vs ds ∧ vs.length = 1 ∧ F ds = .ok (.bool true) ∧ ∀ H', Q (.bl true) H'
theorem law_okT {x qual : Str} {params : Arguments} {body : List Stmt} {scope : Scope} {kws : List (Str × V)} {f : Addr} {fd : FuncData} {N : List Str} {p1 : Str} {k : Nat} {g : SF} (F : FunD K x qual params body scope [] kws f fd) (S : FnScope N [p1] scope)
    (hb : ∀ (cdv : Value) (A : Around) (outer : List Env) (s : Shared) (H : Hp) (E : XK), Cok (cxOf (L2.CX P w) P w K mg base N qual scope f cdv A outer s H E) (fun cls d _ H => E cls d H) k →
      PSDt (cxOf (L2.CX P w) P w K mg base N qual scope f cdv A outer s H E) (fun cls d _ H => E cls d H) RbNew body g) : FnOk P w K mg base (L2.CX P w) (k + 1) f fd [p1] (spL K (fnF N.length g)) := by
  refine ⟨fun vs H Q E h => by obtain ⟨G, ds, _, _, _, hl, _⟩ := h; exact hl, fun A outer s H args us vs Q E hr e0 hbn r h => ?_⟩
  obtain ⟨G, ds, sG, nf, hd, hl, q, fin⟩ := h
  refine in_def (E := E) F S hr e0 hbn r hl (fun cdv s1 tk I hr1 => ?_) fun e s' z => z
  have cc : Cok (cxOf (L2.CX P w) P w K mg base N qual scope f cdv A outer s H E) (fun cls d _ H => E cls d H) k := ⟨hr1, takes_of rfl rfl rfl rfl, passes_of rfl⟩
  unfold fnF at q
  have k1 : g (startE N.length ds) = .rt (.bool true) := by
    cases k1 : g (startE N.length ds) with
    | rt d => rw [k1] at q; cases q; rfl
    | nx ρ => rw [k1] at q; cases q
    | er c ρ => rw [k1] at q; cases q
    | bk ρ => rw [k1] at q; cases q
    | ct ρ => rw [k1] at q; cases q
    | no => rw [k1] at q; cases q
  refine wpAny_mono (hb cdv A outer s H E cc [] s1 (start N vs) H G H G (startE N.length ds) I (env_start sG hd) (fun a o xs z => absurd z (nf a o xs)) (by rw [k1]; exact trivial)) (fun fl s' z => ?_) fun _ _ z => z
  rw [k1] at z
  cases fl <;> first | exact z.elim | skip
  obtain ⟨G1, H1, G', H', σ', v, J, _, gr, rv, z⟩ := z
  cases z
  exact ⟨.bl true, H', J.os, J.bare, J.base, J.hok, rv, fin H'⟩
theorem law_spL {F : FF} {H : Hp} {a : Addr} {ns : List Int} (hS : SqL K H a (ns.map V.int)) (h : F [.list (ns.map PyData.int)] = .ok (.bool true)) : spL K F [.ref a] H (fun v _ => v = .bl true) fun _ _ _ => False := by
  have hd : ∀ (G : Hp) (ns : List Int), DqAll K G (ns.map V.int) (ns.map PyData.int) := fun G ns => by
    induction ns with
    | nil => exact .nil
    | cons n ns ih => exact .cons (.int n) ih
  have key : ∃ G : Hp, Same G H ∧ (∀ a o xs, G a ≠ some (.frz o (.tup xs))) ∧ SqL K G a (ns.map V.int) := by
    rcases hS with (h1 | ⟨o, h1⟩) | h1
    · refine ⟨fun b => if b = a then some (.lst (ns.map V.int)) else none, fun b u e => ?_, fun b o xs z => ?_, .inl (.inl (by simp))⟩
      · by_cases hb : b = a
        · simp only [hb, if_true] at e; rw [hb, h1, e]
        · simp only [hb, if_false] at e; cases e
      · by_cases hb : b = a
        · simp only [hb, if_true] at z; cases z
        · simp only [hb, if_false] at z; cases z
    · refine ⟨fun b => if b = a then some (.frz o (.lst (ns.map V.int))) else none, fun b u e => ?_, fun b o' xs z => ?_, .inl (.inr ⟨o, by simp⟩)⟩
      · by_cases hb : b = a
        · simp only [hb, if_true] at e; rw [hb, h1, e]
        · simp only [hb, if_false] at e; cases e
      · by_cases hb : b = a
        · simp only [hb, if_true] at z; cases z
        · simp only [hb, if_false] at z; cases z
    · exact ⟨fun _ => none, (fun b u e => nomatch e), (fun b o xs z => nomatch z), .inr h1⟩
  obtain ⟨G, h1, h2, h3⟩ := key
  exact ⟨G, [.list (ns.map PyData.int)], h1, h2, .cons (.lst h3 (hd G ns)) .nil, rfl, h, fun _ => rfl⟩
end
end L2.Pz

namespace L2.Pz
open PySem PySem.Spec PyProof.Rows
/-! ### try, at one state -/
/-- an exception that has come down to its handlers, the heap then being hp -/
structure Down (X : Cx) (pins : List (Addr × Obj)) (a : Addr) (cls : Value) (d : Option Addr) (σ : St) (H : Hp) (s' : Shared) (hp : Heap) : Prop where
  ex : ∃ (B : Heap) (sI : Shared), Inv X pins σ H sI ∧ (∀ b o, sI.heap.get? b = some o → b ∉ frs X.stack → B.get? b = some o) ∧ sI.heap.UpToSlots hp ∧ HandSPX.FlyingZ B (X.env :: X.outer) a (Zc cls d) hp ∧ s'.os = sI.os ∧ AllBare s'.gens
  na : H a = none
section
variable {X : Cx} {x n : Str} {c : Value} {i : Nat} {body suite : List Stmt} {b₀ : Stmt} {np pos pos' : Pos} {ts : Addr → Value → Option Addr → TS} {Wo : WX} {D : Ends} {pins : List (Addr × Obj)} {s s' : Shared} {σ : St} {H : Hp} {hds : List ExceptHandler}
  {a : Addr} {cls : Value} {d : Option Addr} {hp : Heap} {Q : Flow → Shared → Prop}
theorem Down.inv (h : Down X pins a cls d σ H s' hp) : Inv X pins σ H { s' with heap := hp } := by
  obtain ⟨B, sI, J, nb, up, fly, os, ag⟩ := h.ex
  exact J.landed nb fly.1 up os ag
/-- it stands apart from the frames -/
theorem Down.inSuite (hf : X.env.frame = some X.env.locals) (h : Down X pins a cls d σ H s' hp) : ∃ oe vs, hp.get? a = some oe ∧ Zc cls d oe ∧ oe.data = .fields vs ∧ Inv (X.suite a ((a, oe) :: (X.pn ++ pins))) [] σ H { s' with heap := hp } := by
  obtain ⟨B, sI, J, nb, up, fly, os, ag⟩ := h.ex
  obtain ⟨oe, vs, e1, e2, e3⟩ := fly.there
  have apart : a ∉ frs (X.env :: X.outer) := fun hm => by
    obtain ⟨_, o, e4, e5⟩ := fly.2.2.1.mem hm
    rw [e1] at e4
    cases e4
    exact e5 _ e3
  refine ⟨oe, vs, e1, e2, e3, h.inv.suite e1 e3 h.na (fun z => apart (List.mem_filterMap.mpr ⟨X.env, List.mem_cons_self, by rw [hf, z]⟩)) fun hm => ?_⟩
  obtain ⟨e, he, q⟩ := List.mem_filterMap.mp hm
  exact apart (List.mem_filterMap.mpr ⟨e, List.mem_cons_of_mem _ he, q⟩)
/-- the flight is ended once more -/
theorem Down.again {A : Around} {E : Value → Shared → Prop} {Qu : Unit → Shared → Prop} (h : Down X pins a cls d σ H s' hp) (k : ∀ h4, Down X pins a cls d σ H s' h4 → Qu () { s' with heap := h4 }) : wpAny (model X.prog X.w) A (setFlight (.ref a) none) Qu E { s' with heap := hp } := by
  obtain ⟨B, sI, J, nb, up, fly, os, ag⟩ := h.ex
  exact HandSPX.lands_againZ (s := { s' with heap := hp }) fly fun h4 fly4 up4 => k h4 ⟨⟨B, sI, J, nb, up.trans up4, fly4, os, ag⟩, h.na⟩
/-- no handler is left: it goes on -/
theorem Down.pass (hs : X.stack = X.env :: X.outer) (hf : X.env.frame = some X.env.locals) (tk : Takes X Wo) (h : Down X pins a cls d σ H s' hp) (w : Wo cls d σ H) : wpAny (model X.prog X.w) X.A (handleBy (.ref a) X.env []) Q X.xe { s' with heap := hp } := by
  obtain ⟨B, sI, J, nb, up, fly, os, ag⟩ := h.ex
  have fl : wpAny (model X.prog X.w) X.A (setFlight (.ref a) X.env.frame) (fun _ s4 => wpAny (model X.prog X.w) X.A (throw (.ref a) : Sem Flow) Q X.xe s4) X.xe { s' with heap := hp } := by
    rw [hf]
    exact HandSPX.setFlight_upZ (s := { s' with heap := hp }) fly fun h4 held up4 => wpAny_throw (tk _ _ ⟨a, B, sI, pins, σ, H, cls, d, rfl, J, nb, up.trans up4, .inr (.inr (by rw [hs]; exact held)), h.na, os, ag, w⟩)
  obtain ⟨_, _, _, oe, vs, T, oT, ts', g1, g2, g3, g4, g5⟩ := id fly
  refine wpAny_handleBy_nil ?_
  unfold PySem.passOn
  refine wpAny_bind (wpAny_field g1 g3 g4 ?_)
  rw [if_neg (fun z : (Value.ref T == Value.none) = true => by simp at z)]
  first | exact wpAny_bind (wpAny_pure (wpAny_bind fl)) | exact wpAny_bind fl
theorem Down.test {A : Around} {Qv E : Value → Shared → Prop} (hf : X.env.frame = some X.env.locals) (hA : A = X.A.mark (some (.ref a))) (hc : Names X x c) (h : Down X pins a cls d σ H s' hp) (k : Qv c { s' with heap := hp }) : wpAny (model X.prog X.w) A (eval (.Name x np) X.env) Qv E { s' with heap := hp } := by
  subst hA
  obtain ⟨oe, vs, _, _, _, S⟩ := h.inSuite hf
  obtain ⟨hg, hdb, hm | ⟨hm, hv, hn⟩⟩ := hc
  · exact ld_glob (X := X.suite a ((a, oe) :: (X.pn ++ pins))) S hg hm k hdb
  · exact ld_blt (X := X.suite a ((a, oe) :: (X.pn ++ pins))) S hg hm hv k hn hdb
theorem Down.isOne (hf : X.env.frame = some X.env.locals) (h : Down X pins a cls d σ H s' hp) {b : Bool} (hb : PySem.W.exmOne X.K cls c = some b) : PySem.W.Looks (model X.prog X.w) hp (PySem.excMatches (.ref a) c) b := by
  obtain ⟨oe, vs, e1, e2, _, _⟩ := h.inSuite hf
  exact PySem.W.exm_one (M := model X.prog X.w) h.inv.kIn (fun A Q E s k q => wpAny_typeOf_ref (k _ _ e1) (by rw [e2.1]; exact q)) hb
theorem down_of {B : Heap} {sI : Shared} {pins' : List (Addr × Obj)} {pn : List (Addr × Obj)} {xe : Value → Shared → Prop} (hs : X.stack = X.env :: X.outer) (hf : X.env.frame = some X.env.locals) (ok : X.Ok) (J' : Inv (X.tr (X.pn ++ pins) xe) pins' σ H sI) (nb : ∀ b o, sI.heap.get? b = some o → b ∉ frs X.stack → B.get? b = some o) (up : sI.heap.UpToSlots s'.heap)
    (sky : Sky B X.stack a (Zc cls d) X.env.locals s'.heap) (na : H a = none) (os : s'.os = sI.os) (ag : AllBare s'.gens) {Qu : Unit → Shared → Prop} (k : ∀ h3, Down X pins a cls d σ H s' h3 → Qu () { s' with heap := h3 }) :
    wpAny (model X.prog X.w) X.A (noteFrame (.ref a) X.env) (fun _ s₂ => wpAny (model X.prog X.w) X.A (setFlight (.ref a) none) Qu X.xe s₂) X.xe s' := by
  rw [hs] at sky
  exact Sky.land Zc.steady (by rw [ok.frames, hs]) hf sky fun h3 fly up3 => k h3 ⟨⟨B, sI, J'.ofTry ok, nb, up.trans up3, fly, os, ag⟩, na⟩
theorem end_of {pn : List (Addr × Obj)} {xe : Value → Shared → Prop} {f : Flow} {s1 : Shared} (ok : X.Ok) (h : SP (X.tr (X.pn ++ pins) xe) [] D f s1) : match f with
    | .next => wpAny (model X.prog X.w) X.A (execs [] X.env) (SP X pins D) X.xe s1
    | f => SP X pins D f s1 := by
  cases f with
  | next =>
    obtain ⟨σ1, H1, J, q⟩ := h
    exact wpAny_execs_nil ⟨σ1, H1, J.ofTry ok, q⟩
  | ret u =>
    obtain ⟨v, σ1, H1, J, r, q⟩ := h
    exact ⟨v, σ1, H1, J.ofTry ok, r, q⟩
  | brk =>
    obtain ⟨σ1, H1, J, q⟩ := h
    exact ⟨σ1, H1, J.ofTry ok, q⟩
  | cont =>
    obtain ⟨σ1, H1, J, q⟩ := h
    exact ⟨σ1, H1, J.ofTry ok, q⟩
abbrev Handled (X : Cx) (pins : List (Addr × Obj)) (D : Ends) (hds : List ExceptHandler) (e : Value) (s₁ : Shared) : Prop := wpAny (model X.prog X.w) X.A (noteFrame e X.env) (fun _ s₂ => wpAny (model X.prog X.w) X.A (setFlight e none) (fun _ s₃ => wpAny (model X.prog X.w) X.A (handleBy e X.env hds) (SP X pins D) X.xe s₃) X.xe s₂) X.xe s₁
theorem try_only_at (hs : X.stack = X.env :: X.outer) (hf : X.env.frame = some X.env.locals) (hc : Names X x c) (tk : Takes X Wo) (I : Inv X pins σ H s)
    (hb : ∀ (pn : List (Addr × Obj)) (xe : Value → Shared → Prop), Takes (X.tr pn xe) (wOnly X.K c ts Wo D) → PassesOwn (model X.prog X.w) X.A X.env xe → Inv (X.tr pn xe) [] σ H s → wpAny (model X.prog X.w) X.A (execs body X.env) (SP (X.tr pn xe) [] D) xe s)
    (hsu : ∀ a oe cls d pn, Zc cls d oe → (∃ vs, oe.data = .fields vs) → PSs (X.suite a ((a, oe) :: pn)) (b₀ :: suite) (ts a cls d)) :
    wpAny (model X.prog X.w) X.A (exec (.Try body [.ExceptHandler (some (.Name x np)) none (b₀ :: suite) pos'] [] [] pos) X.env) (SP X pins D) X.xe s := by
  refine wpAny_Try_except (wpAny_mono (hb (X.pn ++ pins) (Handled X pins D [.ExceptHandler (some (.Name x np)) none (b₀ :: suite) pos']) (fun u s' xx => ?_) PassesOwn.looking (I.toTry _)) (fun f s1 hsp => by have z := end_of (pn := []) I.ok hsp; cases f <;> exact z) fun _ _ he => he)
  obtain ⟨a, B, sI, pins', σ', H', cls, d, rfl, J', nb, up, sky, na, os, ag, b, hb1, hyes, hno⟩ := xx
  refine down_of (pn := []) hs hf I.ok J' nb up sky na os ag fun h3 dn => ?_
  refine wpAny_handleBy_cons (codeAny_handlers_test (dn.test hf rfl hc ((dn.isOne hf hb1).here ?_))) fun q => nomatch q
  cases b with
  | false => exact dn.pass hs hf tk (hno rfl)
  | true =>
    refine codeAny_handlers_suite (dn.again fun h4 dn4 => ?_)
    obtain ⟨oe, vs, _, z, dd, S⟩ := dn4.inSuite hf
    refine wpAny_mono ((hsu a oe cls d _ z ⟨vs, dd⟩).run [] _ _ H' _ S (hyes rfl a na)) (fun f s6 hsp => ?_) fun _ _ z => z.elim
    cases f with
    | ret u => obtain ⟨v, σ6, H6, S6, r, q⟩ := hsp; exact ⟨v, σ6, H6, S6.unsuite I.ok, r, q⟩
    | _ => obtain ⟨σ6, H6, S6, q⟩ := hsp; exact ⟨σ6, H6, S6.unsuite I.ok, q⟩
theorem try_as_at (hs : X.stack = X.env :: X.outer) (hf : X.env.frame = some X.env.locals) (hN : X.N.Nodup) (hi : X.N[i]? = some n) (hln : X.env.kindOf n = some .local) (hc : Names X x c) (tk : Takes X Wo) (I : Inv X pins σ H s)
    (hb : ∀ (pn : List (Addr × Obj)) (xe : Value → Shared → Prop), Takes (X.tr pn xe) (wAs X.K c i ts Wo D) → PassesOwn (model X.prog X.w) X.A X.env xe → Inv (X.tr pn xe) [] σ H s → wpAny (model X.prog X.w) X.A (execs body X.env) (SP (X.tr pn xe) [] D) xe s)
    (hsu : ∀ a oe cls d pn, Zc cls d oe → (∃ vs, oe.data = .fields vs) → PSs (X.suite a ((a, oe) :: pn)) (b₀ :: suite) (ts a cls d)) :
    wpAny (model X.prog X.w) X.A (exec (.Try body [.ExceptHandler (some (.Name x np)) (some n) (b₀ :: suite) pos'] [] [] pos) X.env) (SP X pins D) X.xe s := by
  refine wpAny_Try_except (wpAny_mono (hb (X.pn ++ pins) (Handled X pins D [.ExceptHandler (some (.Name x np)) (some n) (b₀ :: suite) pos']) (fun u s' xx => ?_) PassesOwn.looking (I.toTry _)) (fun f s1 hsp => by have z := end_of (pn := []) I.ok hsp; cases f <;> exact z) fun _ _ he => he)
  obtain ⟨a, B, sI, pins', σ', H', cls, d, rfl, J', nb, up, sky, na, os, ag, b, hb1, hyes, hno⟩ := xx
  refine down_of (pn := []) hs hf I.ok J' nb up sky na os ag fun h3 dn => ?_
  refine wpAny_handleBy_cons (codeAny_handlers_test (dn.test hf rfl hc ((dn.isOne hf hb1).here ?_))) fun q => nomatch q
  cases b with
  | false => exact dn.pass hs hf tk (hno rfl)
  | true =>
    refine codeAny_handlers_suite_as (dn.again fun h4 dn4 => ?_)
    obtain ⟨oe, vs, _, z, dd, S⟩ := dn4.inSuite hf
    refine store_ok (X := X.suite a ((a, oe) :: (X.pn ++ pins))) (v := .ref a) S hN hi (.inl hln) rfl (fun s5 S5 => wpAny_mono ((hsu a oe cls d _ z ⟨vs, dd⟩).run [] s5 _ H' _ S5 (hyes rfl a na)) (fun f s6 hsp => ?_) fun _ _ z => z.elim) (.inr hln)
    cases f with
    | ret u => obtain ⟨v, σ6, H6, S6, r, q⟩ := hsp; exact gone_ok (S6.unsuite I.ok) hN hi hln fun s7 J7 => ⟨v, _, H6, J7, r, q⟩
    | next => obtain ⟨σ6, H6, S6, q⟩ := hsp; exact gone_ok (S6.unsuite I.ok) hN hi hln fun s7 J7 => ⟨_, H6, J7, q⟩
    | brk => obtain ⟨σ6, H6, S6, q⟩ := hsp; exact gone_ok (S6.unsuite I.ok) hN hi hln fun s7 J7 => ⟨_, H6, J7, q⟩
    | cont => obtain ⟨σ6, H6, S6, q⟩ := hsp; exact gone_ok (S6.unsuite I.ok) hN hi hln fun s7 J7 => ⟨_, H6, J7, q⟩
end
section
variable {X : Cx} {W : WX} {body suite : List Stmt} {b₀ : Stmt} {g gs : SF} {pos np pos' : Pos} {i : Nat}
theorem sp_po {G0 H0 G : Hp} {pins : List (Addr × Obj)} {r r' : SR} {fl : Flow} {s' : Shared} (e : ∀ c ρ, r ≠ .er c ρ) (h : PoT X rbEq G0 H0 G pins r fl s') (er : r' = r) : SP X pins (DT X.K G0 H0 G r') fl s' := by
  subst er
  cases r' <;> cases fl <;> first | exact h.elim | skip
  · obtain ⟨G1, H1, G', H, σ, I, ⟨rfl, rfl⟩, E, sm, _⟩ := h; exact ⟨σ, H, I, _, G', rfl, E, sm⟩
  · obtain ⟨G1, H1, G', H, σ, v, I, ⟨rfl, rfl⟩, gr, rv, z⟩ := h; exact ⟨v, σ, H, I, rv, _, G', rfl, gr, z⟩
  · obtain ⟨G1, H1, G', H, σ, I, ⟨rfl, rfl⟩, E, sm, _⟩ := h; exact ⟨σ, H, I, _, G', rfl, E, sm⟩
  · obtain ⟨G1, H1, G', H, σ, I, ⟨rfl, rfl⟩, E, sm, _⟩ := h; exact ⟨σ, H, I, _, G', rfl, E, sm⟩
theorem pst_try {x : Str} {cx : Value} {tbl : List (Str × Bool)} {k : Nat} (cc : Cok X W k) (hs : X.stack = X.env :: X.outer) (hf : X.env.frame = some X.env.locals) (hc : Names X x cx) (ht : ∀ q ∈ tbl, PySem.W.exmOne X.K (XC X.mg q.1) cx = some q.2)
    (hb : ∀ (W' : WX) (pn : List (Addr × Obj)) (xe : Value → Shared → Prop), Cok (X.tr pn xe) W' k → PSDt (X.tr pn xe) W' rbEq body g)
    (hsu : ∀ (a : Addr) (oe : Obj) (pn : List (Addr × Obj)), PSD (X.suite a ((a, oe) :: pn)) W0 (b₀ :: suite) gs) :
    PSt X W rbEq (.Try body [.ExceptHandler (some (.Name x np)) none (b₀ :: suite) pos'] [] [] pos) (sTry tbl g gs) := fun pins s σ H G0 H0 G ρ I E T q => by
  have key : wpAny (model X.prog X.w) X.A (exec (.Try body [.ExceptHandler (some (.Name x np)) none (b₀ :: suite) pos'] [] [] pos) X.env) (SP X pins (DT X.K G0 H0 G (sTry tbl g gs ρ))) X.xe s := by
    refine try_only_at (ts := fun _ _ _ => tSD X.K X.mg W0 gs) (Wo := W) hs hf hc cc.tk I (fun pn xe tk po J => ?_) fun a oe _ _ pn _ _ => hsu a oe pn
    refine wpAny_mono (hb _ pn xe ⟨cc.hr, tk, po⟩ [] s σ H G0 H0 G ρ J E T ?_) (fun fl s1 z => ?_) fun _ _ z => z
    · unfold sTry at q ⊢
      cases r : g ρ with
      | er cn ρ' =>
        rw [r] at q
        simp only at q ⊢
        rintro G1 H1 G' H' σ' ⟨rfl, rfl⟩ E' sm
        cases l : tbl.lookup cn with
        | none => rw [l] at q; exact q.elim
        | some b =>
          rw [l] at q
          refine ⟨b, ht _ (lookup_mem l), fun hb1 a na => ?_, fun hb0 => ?_⟩
          · subst hb1
            simp only at q ⊢
            exact ⟨G1, H1, G', ρ', E', PoS.mono sm (PoS.noer (W := W) (pos_dt rbEq_ok q))⟩
          · subst hb0
            exact q G1 H1 G' H' σ' ⟨rfl, rfl⟩ E' sm
      | no => rw [r] at q; exact q
      | _ => exact trivial
    · cases r : g ρ with
      | er cn ρ' => rw [r] at z; cases fl <;> exact z.elim
      | no => rw [r] at z; cases fl <;> exact z.elim
      | nx ρ' => exact sp_po (X := X.tr pn xe) (fun c ρ e => by rw [r] at e; cases e) z (by unfold sTry; rw [r])
      | rt ρ' => exact sp_po (X := X.tr pn xe) (fun c ρ e => by rw [r] at e; cases e) z (by unfold sTry; rw [r])
      | bk ρ' => exact sp_po (X := X.tr pn xe) (fun c ρ e => by rw [r] at e; cases e) z (by unfold sTry; rw [r])
      | ct ρ' => exact sp_po (X := X.tr pn xe) (fun c ρ e => by rw [r] at e; cases e) z (by unfold sTry; rw [r])
  exact wpAny_mono (wpAny_toks key) (fun _ _ z => po_sp rbEq_ok (T.mono z.1) z.2) fun _ _ z => z.2
theorem pst_tryAs {x n : Str} {cx : Value} {tbl : List (Str × Bool)} {k : Nat} {gs : Addr → Str → SF} (cc : Cok X W k) (hs : X.stack = X.env :: X.outer) (hf : X.env.frame = some X.env.locals) (hN : X.N.Nodup) (hi : X.N[i]? = some n) (hln : X.env.kindOf n = some .local) (hc : Names X x cx) (ht : ∀ q ∈ tbl, PySem.W.exmOne X.K (XC X.mg q.1) cx = some q.2) (he : ∀ q ∈ tbl, ExN X.K X.mg q.1)
    (hb : ∀ (W' : WX) (pn : List (Addr × Obj)) (xe : Value → Shared → Prop), Cok (X.tr pn xe) W' k → PSDt (X.tr pn xe) W' rbEq body g)
    (hsu : ∀ (a : Addr) (oe : Obj) (pn : List (Addr × Obj)) (c : Str), InSuite X c a oe → PSD (X.suite a ((a, oe) :: pn)) W0 (b₀ :: suite) (gs a c)) :
    PSt X W rbEq (.Try body [.ExceptHandler (some (.Name x np)) (some n) (b₀ :: suite) pos'] [] [] pos) (sTryAs tbl i g gs) := fun pins s σ H G0 H0 G ρ I E T q => by
  have key : wpAny (model X.prog X.w) X.A (exec (.Try body [.ExceptHandler (some (.Name x np)) (some n) (b₀ :: suite) pos'] [] [] pos) X.env) (SP X pins (DT X.K G0 H0 G (sTryAs tbl i g gs ρ))) X.xe s := by
    refine try_as_at (ts := fun a cls d D σ H => ∃ c C, X.mg c = some (.ref C) ∧ ExcC X.K C ∧ cls = .ref C ∧ d = none ∧ tSD X.K X.mg W0 (gs a c) D σ H) (Wo := W) hs hf hN hi hln hc cc.tk I (fun pn xe tk po J => ?_) fun a oe cls d pn hz hv => ⟨fun pins s σ H D I h => ?_⟩
    · refine wpAny_mono (hb _ pn xe ⟨cc.hr, tk, po⟩ [] s σ H G0 H0 G ρ J E T ?_) (fun fl s1 z => ?_) fun _ _ z => z
      · unfold sTryAs at q ⊢
        cases r : g ρ with
        | er cn ρ' =>
          rw [r] at q
          simp only at q ⊢
          rintro G1 H1 G' H' σ' ⟨rfl, rfl⟩ E' sm
          cases l : tbl.lookup cn with
          | none => rw [l] at q; exact q.elim
          | some b =>
            rw [l] at q
            refine ⟨b, ht _ (lookup_mem l), fun hb1 a na => ?_, fun hb0 => ?_⟩
            · subst hb1
              obtain ⟨C, h1, h2, h3, h4, h5, h6⟩ := (he _ (lookup_mem l)).ex
              simp only at h1 q ⊢
              refine ⟨cn, C, h1, h6, by unfold XC; rw [h1]; rfl, by first | rfl | trivial, G1, H1, G', ρ'.set i (some (.x a)), E'.put (some (.ref a)) (some (.x a)) (fun t ht => ⟨_, rfl, by cases ht; rfl⟩) (fun _ z => nomatch z), ?_⟩
              have hne : unif (fun a => Pz.clr i (gs a cn (ρ'.set i (some (.x a))))) ≠ .no := fun z => by rw [z] at q; exact q
              have q := pos_dt (W := W) rbEq_ok q
              have e := unif_pos hne a
              rw [← e] at q ⊢
              exact PoS.mono sm (PoS.clr q)
            · subst hb0
              exact q G1 H1 G' H' σ' ⟨rfl, rfl⟩ E' sm
        | no => rw [r] at q; exact q
        | _ => exact trivial
      · cases r : g ρ with
        | er cn ρ' => rw [r] at z; cases fl <;> exact z.elim
        | no => rw [r] at z; cases fl <;> exact z.elim
        | nx ρ' => exact sp_po (X := X.tr pn xe) (fun c ρ e => by rw [r] at e; cases e) z (by unfold sTryAs; rw [r])
        | rt ρ' => exact sp_po (X := X.tr pn xe) (fun c ρ e => by rw [r] at e; cases e) z (by unfold sTryAs; rw [r])
        | bk ρ' => exact sp_po (X := X.tr pn xe) (fun c ρ e => by rw [r] at e; cases e) z (by unfold sTryAs; rw [r])
        | ct ρ' => exact sp_po (X := X.tr pn xe) (fun c ρ e => by rw [r] at e; cases e) z (by unfold sTryAs; rw [r])
    · obtain ⟨c, C, h1, h2, rfl, rfl, h⟩ := h
      exact (hsu a oe pn c ⟨⟨C, h1, h2, hz⟩, hv⟩).run pins s σ H D I h
  exact wpAny_mono (wpAny_toks key) (fun _ _ z => po_sp rbEq_ok (T.mono z.1) z.2) fun _ _ z => z.2
/-! by the codes of the names -/
theorem pst_tryS {x : Str} {tbl : List (Str × Bool)} {k : Nat} (l : List Nat) (cc : Cok X W k) (hd : HdN X.K X.mg (S l) tbl) (hs : X.stack = X.env :: X.outer) (hf : X.env.frame = some X.env.locals) (hg : Gl X x)
    (hb : ∀ (W' : WX) (pn : List (Addr × Obj)) (xe : Value → Shared → Prop), Cok (X.tr pn xe) W' k → PSDt (X.tr pn xe) W' rbEq body g)
    (hsu : ∀ (a : Addr) (oe : Obj) (pn : List (Addr × Obj)), PSD (X.suite a ((a, oe) :: pn)) W0 (b₀ :: suite) gs) (h : x = S l := by decide +kernel) (hdb : (x == ("__debug__" : Str)) = false := by decide) :
    PSt X W rbEq (.Try body [.ExceptHandler (some (.Name x np)) none (b₀ :: suite) pos'] [] [] pos) (sTry tbl g gs) := by
  subst h
  exact pst_try cc hs hf ⟨hg, hdb, .inl hd.nm⟩ hd.tb hb hsu
theorem pst_tryAsS {x n : Str} {tbl : List (Str × Bool)} {k : Nat} {gs : Addr → Str → SF} (l : List Nat) (cc : Cok X W k) (hd : HdN X.K X.mg (S l) tbl) (hs : X.stack = X.env :: X.outer) (hf : X.env.frame = some X.env.locals) (hN : X.N.Nodup) (hi : X.N[i]? = some n) (hln : X.env.kindOf n = some .local) (hg : Gl X x)
    (hb : ∀ (W' : WX) (pn : List (Addr × Obj)) (xe : Value → Shared → Prop), Cok (X.tr pn xe) W' k → PSDt (X.tr pn xe) W' rbEq body g)
    (hsu : ∀ (a : Addr) (oe : Obj) (pn : List (Addr × Obj)) (c : Str), InSuite X c a oe → PSD (X.suite a ((a, oe) :: pn)) W0 (b₀ :: suite) (gs a c)) (h : x = S l := by decide +kernel) (hdb : (x == ("__debug__" : Str)) = false := by decide) :
    PSt X W rbEq (.Try body [.ExceptHandler (some (.Name x np)) (some n) (b₀ :: suite) pos'] [] [] pos) (sTryAs tbl i g gs) := by
  subst h
  exact pst_tryAs cc hs hf hN hi hln ⟨hg, hdb, .inl hd.nm⟩ hd.tb hd.ex hb hsu
end
end L2.Pz

namespace L2.Pz
open PySem PySem.Spec PyProof.Rows
/-! ### text.replace(manner[1], "") -/
@[simp] def eRepl (i : Nat) (f : EF) (ρ : En) : Rs PyData := (f ρ).bind fun d => match d with
  | .str x => match ρ[i]? with
    | some (some (.g (.tuple [_, .str y, _, _, _]))) => if (y == S []) = false ∧ x.length ≤ 1000000 then .ok (.str (Txt.replace x y (S []))) else .no
    | _ => .no
  | _ => .no
section
variable {X : Cx} {W : WX} {o : Expr} {f : EF} {pos : Pos}
/-- what a known tuple's object is -/
theorem known_obj {pins : List (Addr × Obj)} {s : Shared} {σ : St} {G H : Hp} {n : Nat} {a : Addr} {ob : Obj} {xs : List V} {ds : List PyData} (I : Inv X pins σ H s) (sm : Same G H) (T : Tk n G) (h : G a = some (.frz ob (.tup xs))) (d : Dq X.K G (.ref a) (.tuple ds)) :
    ∃ its : List Value, Vals xs its ∧ DqAll X.K G xs ds ∧ IsTup s.heap a its.toArray ∧ (its.length = 5 → ∀ x t, its[1]? = some (Value.str x t) → x ≠ S [] → t ≠ 0 ∧ t < n) := by
  have hH := sm _ _ h
  have q : SqT X.K H a xs := .inl (.inr ⟨ob, hH⟩)
  cases d with
  | tup p r =>
    have e := I.tuple_inj (sqT_mono sm p) q
    subst e
    obtain ⟨h5, z, its, rv, ip⟩ := I.hok a _ hH
    refine ⟨its, rv, r, ip, fun hl x t hx hne => ?_⟩
    obtain ⟨_, _, us, k, ed, tk⟩ := T a ob _ h
    obtain ⟨o2, e2, _, k2, d2⟩ := ip
    rw [h5] at e2
    cases e2
    rw [ed] at d2
    injection d2 with d3 _
    subst d3
    exact tk (by simpa using hl) x t (by simpa using hx) hne
theorem pdt_repl (i : Nat) {px c0s : Str} {j0 j1 : Nat} {p2 c0 c1 q0 apos : Pos} (ho : PDt X W o f) (hN : X.N[i]? = some px) (hv : Vis X.env.scope px) (he : c0s = S [] := by decide +kernel)
    (hd : (px == ("__debug__" : Str)) = false := by decide) (hcd : (px == ("__classdict__" : Str)) = false := by decide)
    (hst : starEach [.Subscript (.Name px p2) (.Constant (.int 1) j0 c0) q0, .Constant (.str c0s) j1 c1] X.env = [(false, eval (.Subscript (.Name px p2) (.Constant (.int 1) j0 c0) q0) X.env), (false, eval (.Constant (.str c0s) j1 c1) X.env)] := by rfl)
    (hbase : attributeBase o "replace" X.env (eval o X.env) = eval o X.env := by rfl) (hline : (apos.endLine == pos.line) = true := by rfl)
    (hix : ∀ a u, subscripted (.Constant (.int 1) j0 c0) false (.ref a) (.int 1 u) = operate [.ref a, .int 1 u] (getItem (.ref a) (.int 1 u)) := by intro _ _; with_unfolding_all rfl) (hgo : ∀ a r, letTemporaryGo (.Name px p2) (.ref a) r = pure () := by intro _ _; with_unfolding_all rfl) :
    PDt X W (.Call (.Attribute o "replace" apos) [.Subscript (.Name px p2) (.Constant (.int 1) j0 c0) q0, .Constant (.str c0s) j1 c1] [] pos) (eRepl i f) := fun pins s σ H Q G0 H0 G ρ I E T q => by
  subst he
  unfold eRepl at q
  refine PySem.Call_method2 hbase hst hline (ho.go I E T (fun d k1 v s1 x H1 G1 g1 I1 T1 r1 z1 => ?_) (fun c k1 => ?_) fun k1 => ?_)
  · rw [k1, Rs.bind_ok] at q
    split at q
    · rename_i xt
      cases z1
      obtain ⟨tx, rfl⟩ := r1
      split at q
      · rename_i d0 y d2 d3 d4 hg
        split at q
        · rename_i hy
          obtain ⟨v, hsl, dq, a, ob, xs, rfl, hG⟩ := (E.grow g1).sl i _ hg
          obtain ⟨its, rv, dall, itp, tk⟩ := known_obj I1 g1.sub (T1.gr (E.grow g1).gr) hG dq
          have l5 : its.length = 5 := by rw [← rv.length, dpAll_len dall]; rfl
          obtain ⟨x1, hx1⟩ : ∃ x1, xs[1]? = some x1 := ⟨xs[1]'(by rw [rv.length, l5]; decide), by simp⟩
          obtain ⟨dd, e1, e2⟩ := dpAll_get dall hx1
          cases (show some (PyData.str y) = some dd from e1)
          cases e2 with
          | str _ hz =>
            obtain ⟨u1, hu1, r1⟩ := rv.get hx1
            obtain ⟨t1, rfl⟩ := r1
            obtain ⟨t0, tlt⟩ := tk l5 y t1 hu1 fun z => by rw [z] at hy; simp at hy
            refine ⟨"str", _, F.plainAttrs_str, F.slot_str_replace, F.type_str_replace, typeIs_str _ _ _, (fun _ e => nomatch e), Calls.callWith_builtin rfl (Calls.evalArgs_plain (Calls.spliced_cons (Subscript_ (raw_name hN hv I1 hsl (fun u r => ?_) hd hcd))))⟩
            cases (show u = Value.ref a from r)
            refine wpAny_Constant_int ?_
            refine item_tupleL (s := { s1 with toks := s1.toks + 1 }) (j := 1) itp (by decide) (by decide) (by rw [l5]; rfl) hu1 ?_ (hix _ _) (hgo _)
            refine Calls.spliced_cons (Calls.Constant_str (Calls.spliced_nil ?_))
            have b0 : xt.length + (xt.length + 1) * (S []).length ≤ 16777216 := by show xt.length + (xt.length + 1) * 0 ≤ _; omega
            refine PySem.SC.replace t0 (show s1.toks + 1 ≠ 0 by omega) (Nat.ne_of_lt (Nat.lt_succ_of_lt tlt)) hy.1 b0 fun t' k => ⟨.str (Txt.replace xt y (S [])), H1, I1.tok k, ⟨t', rfl⟩, ?_⟩
            refine q _ G1 H1 g1 (.str _ (Nat.le_trans (TK.replace_len _ _ _) ?_))
            show xt.length + (xt.length + 1) * 0 ≤ _
            have := hy.2
            have : (1000000 : Nat) ≤ sizeLine := by decide
            omega
        · exact q.elim
      · exact q.elim
    · exact q.elim
  · rw [k1] at q; exact q
  · rw [k1] at q; exact q
end
end L2.Pz

namespace L2.Pz
open PySem PySem.Spec PyProof.Rows
/-! ### a local text whose token was given out, kept in sight -/
def GoodV (n : Nat) : Value → Prop
  | .str x t => x ≠ S [] → t ≠ 0 ∧ t < n
  | _ => True
theorem GoodV.mono {n m : Nat} {u : Value} (h : GoodV n u) (k : n ≤ m) : GoodV m u := by
  cases u with
  | str x t => exact fun z => ⟨(h z).1, Nat.lt_of_lt_of_le (h z).2 k⟩
  | _ => exact trivial
def Gp (X : Cx) (y : Str) (s : Shared) : Prop := ∃ m u, s.heap.Ns X.env.locals m ∧ m y = some u ∧ GoodV s.toks u
/-- the frame stays, but for its slots -/
def FK (L : Addr) (h h' : Heap) : Prop := ∀ o, h.get? L = some o → ∃ sl, h'.get? L = some { o with slots := sl }
theorem FK.of {L : Addr} {h h' : Heap} (k : ∀ o, h.get? L = some o → h'.get? L = some o) : FK L h h' := fun o e => ⟨o.slots, k o e⟩
theorem ns_fk {L : Addr} {h h' : Heap} {m : Str → Option Value} (n : h.Ns L m) (k : FK L h h') : h'.Ns L m := by
  obtain ⟨o, es, ep, e, d, r⟩ := n
  obtain ⟨sl, e'⟩ := k o e
  exact ⟨_, es, ep, e', d, r⟩
theorem Gp.keep {X : Cx} {y : Str} {s s' : Shared} (h : Gp X y s) (k : FK X.env.locals s.heap s'.heap) (t : s.toks ≤ s'.toks) : Gp X y s' := by
  obtain ⟨m, u, n, e, g⟩ := h
  exact ⟨m, u, ns_fk n k, e, g.mono t⟩
/-- values, the text in sight -/
def PDm (X : Cx) (W : WX) (y : Str) (e : Expr) (f : EF) : Prop := ∀ (pins : List (Addr × Obj)) (s : Shared) (σ : St) (H : Hp) (Q : VK) (G0 H0 G : Hp) (ρ : En), Inv X pins σ H s → EnvOk X.K G0 H0 G H σ ρ → Gp X y s → RD X.K X.mg W G H σ Q (f ρ) →
  wpAny (model X.prog X.w) X.A (eval e X.env) (fun v s' => Gp X y s' ∧ EP X pins σ Q v s') X.xe s
def PLm (X : Cx) (W : WX) (y : Str) (es : List Expr) (fs : List EF) : Prop := ∀ (pos : Pos) (pins : List (Addr × Obj)) (s : Shared) (σ : St) (H : Hp) (Q : List V → Hp → Prop) (G0 H0 G : Hp) (ρ : En), Inv X pins σ H s → EnvOk X.K G0 H0 G H σ ρ → Gp X y s → RDs X.K X.mg W G H σ Q (eL fs ρ) →
  wpAny (model X.prog X.w) X.A (spliced (backTo pos (starEach es X.env))) (fun us s' => Gp X y s' ∧ AP X pins σ Q us s') X.xe s
section
variable {X : Cx} {W : WX} {y : Str} {e a b c tg : Expr} {es : List Expr} {st : Stmt} {sts rest body : List Stmt} {f f2 : EF} {fs : List EF} {g g1 g2 : SF} {p : En → Rs Bool} {pos : Pos} {i : Nat}
theorem PDm.go (h : PDm X W y e f) {pins : List (Addr × Obj)} {s : Shared} {σ : St} {G0 H0 G H : Hp} {ρ : En} {Po : Value → Shared → Prop} (I : Inv X pins σ H s) (E : EnvOk X.K G0 H0 G H σ ρ) (T : Gp X y s)
    (ok : ∀ d, f ρ = .ok d → ∀ v s1 x H1 G1, Gr G H G1 H1 → Inv X pins σ H1 s1 → Gp X y s1 → RelV x v → Dq X.K G1 x d → Po v s1)
    (er : ∀ c, f ρ = .er c → ∀ G' H', Gr G H G' H' → W (XC X.mg c) none σ H') (no : f ρ ≠ .no) : wpAny (model X.prog X.w) X.A (eval e X.env) Po X.xe s := by
  cases k : f ρ with
  | no => exact absurd k no
  | er c =>
    refine wpAny_mono (h pins s σ H (fun _ _ => False) G0 H0 G ρ I E T (by rw [k]; exact er c k)) (fun v s1 z => ?_) fun _ _ z => z
    obtain ⟨_, _, _, _, _, z⟩ := z
    exact z.elim
  | ok d =>
    refine wpAny_mono (h pins s σ H (fun x H1 => ∃ G1, Gr G H G1 H1 ∧ Dq X.K G1 x d) G0 H0 G ρ I E T (by rw [k]; exact fun v G1 H1 g z => ⟨G1, g, z⟩)) (fun v s1 z => ?_) fun _ _ z => z
    obtain ⟨tk, x, H1, I1, r1, G1, g1, d1⟩ := z
    exact ok d k v s1 x H1 G1 g1 I1 tk r1 d1
theorem PLm.go (h : PLm X W y es fs) {pos : Pos} {pins : List (Addr × Obj)} {s : Shared} {σ : St} {G0 H0 G H : Hp} {ρ : En} {Po : List Value → Shared → Prop} (I : Inv X pins σ H s) (E : EnvOk X.K G0 H0 G H σ ρ) (T : Gp X y s)
    (ok : ∀ ds, eL fs ρ = .ok ds → ∀ us s1 vs H1 G1, Gr G H G1 H1 → Inv X pins σ H1 s1 → Gp X y s1 → Vals vs us → DqAll X.K G1 vs ds → Po us s1)
    (er : ∀ c, eL fs ρ = .er c → ∀ G' H', Gr G H G' H' → W (XC X.mg c) none σ H') (no : eL fs ρ ≠ .no) : wpAny (model X.prog X.w) X.A (spliced (backTo pos (starEach es X.env))) Po X.xe s := by
  cases k : eL fs ρ with
  | no => exact absurd k no
  | er c =>
    refine wpAny_mono (h pos pins s σ H (fun _ _ => False) G0 H0 G ρ I E T (by rw [k]; exact er c k)) (fun v s1 z => ?_) fun _ _ z => z
    obtain ⟨_, _, _, _, _, z⟩ := z
    exact z.elim
  | ok d =>
    refine wpAny_mono (h pos pins s σ H (fun x H1 => ∃ G1, Gr G H G1 H1 ∧ DqAll X.K G1 x d) G0 H0 G ρ I E T (by rw [k]; exact fun v G1 H1 g z => ⟨G1, g, z⟩)) (fun v s1 z => ?_) fun _ _ z => z
    obtain ⟨tk, x, H1, I1, r1, G1, g1, d1⟩ := z
    exact ok d k v s1 x H1 G1 g1 I1 tk r1 d1
theorem Gp.tok {s : Shared} {k : Nat} (h : Gp X y s) (hk : s.toks ≤ k) : Gp X y { s with toks := k } := h.keep (FK.of fun _ e => e) hk
theorem pdm_name {x : Str} (hN : X.N[i]? = some x) (hv : Vis X.env.scope x) (hd : (x == ("__debug__" : Str)) = false := by decide) (hcd : (x == ("__classdict__" : Str)) = false := by decide) : PDm X W y (.Name x pos) (eV i) := fun pins s σ H Q G0 H0 G ρ I E T q => by
  cases k : eV i ρ with
  | ok d =>
    rw [k] at q
    obtain ⟨v, h1, h2⟩ := env_v E k
    exact raw_name hN hv I h1 (fun u r => ⟨T, v, H, I, r, q v G H (Gr.refl E.gr.sub) h2⟩) hd hcd
  | er c => unfold eV at k; split at k <;> cases k
  | no => rw [k] at q; exact q.elim
theorem pdm_int {n : Int} {j} : PDm X W y (.Constant (.int n) j pos) (eC (.int n)) := fun pins s σ H Q G0 H0 G ρ I E T q =>
  wpAny_Constant_int ⟨T.tok (Nat.le_succ _), .int n, H, I.tok _, ⟨_, rfl⟩, q _ G H (Gr.refl E.gr.sub) (.int n)⟩
theorem pdm_strS {x : Str} {j} (l : List Nat) (h : x = S l := by decide +kernel) (hz : l.length ≤ sizeLine := by decide) : PDm X W y (.Constant (.str x) j pos) (eC (.str (S l))) := fun pins s σ H Q G0 H0 G ρ I E T q => by
  subst h
  exact Calls.Constant_str ⟨T.tok (Nat.le_succ _), .str (S l), H, I.tok _, ⟨_, rfl⟩, q _ G H (Gr.refl E.gr.sub) (.str _ hz)⟩
theorem plm_nil : PLm X W y [] [] := fun pos pins s σ H Q G0 H0 G ρ I E T q => Calls.spliced_nil ⟨T, [], H, I, .nil, q [] G H (Gr.refl E.gr.sub) .nil⟩
theorem plm_cons (ha : PDm X W y e f) (hr : PLm X W y es fs) (hs : starEach (e :: es) X.env = (false, eval e X.env) :: starEach es X.env := by rfl) : PLm X W y (e :: es) (f :: fs) := fun pos pins s σ H Q G0 H0 G ρ I E T q => by
  unfold eL at q
  rw [hs]
  refine Calls.spliced_cons (rest := backTo pos (starEach es X.env)) (ha.go I E T (fun d k1 v s1 x H1 G1 g1 I1 T1 r1 z1 => hr.go I1 (E.grow g1) T1 (fun ds k2 us s2 vs H2 G2 g2 I2 T2 r2 z2 => ?_) (fun c k2 => ?_) fun k2 => ?_) (fun c k1 => ?_) fun k1 => ?_)
  · rw [k1, Rs.bind_ok, k2, Rs.bind_ok] at q
    exact ⟨T2, x :: vs, H2, I2, .cons r1 r2, q (x :: vs) G2 H2 (g1.trans g2) (.cons (dp_mono g2.g z1) z2)⟩
  · rw [k1, Rs.bind_ok, k2] at q; exact fun G' H' g' => q G' H' (g1.trans g')
  · rw [k1, Rs.bind_ok, k2] at q; exact q
  · rw [k1] at q; exact q
  · rw [k1] at q; exact q
theorem pdm_tup {j} (k : PLm X W y es fs) (hl : fs.length ≤ sizeLine := by decide) : PDm X W y (.Tuple es j pos) (eTup fs) := fun pins s σ H Q G0 H0 G ρ I E T q => by
  unfold eTup at q
  refine wpAny_Tuple_spliced (k.go I E T (fun ds k1 us s1 vs H1 G1 g1 I1 T1 r1 z1 => ?_) (fun c k1 => ?_) fun k1 => ?_)
  · rw [k1, Rs.bind_ok] at q
    have hz : vs.length ≤ sizeLine := by rw [dpAll_len z1, eL_len k1]; exact hl
    refine ⟨by rw [← r1.length]; exact hz, T1.keep (FK.of fun o e => Heap.get?_push_of_some _ e) (Nat.le_refl _), .ref s1.heap.objs.size, upd H1 s1.heap.objs.size (.tup vs), I1.laid (t' := s1.toks) (fun b u e => Heap.get?_push_of_some _ e) (Nat.le_refl _) ⟨hz, us, r1, ⟨_, Heap.get?_push_size _ rfl, rfl, _, rfl⟩⟩, rfl, ?_⟩
    exact RD.newT g1.sub (RD.grow g1 q) z1 _ (I1.hok.fresh (Nat.le_refl _))
  · rw [k1] at q; exact q
  · rw [k1] at q; exact q
theorem pdm_call {x : Str} {k j n : Nat} {F : FF} {pn : Pos} (c : Cok X W j) (hst : X.stack = X.env :: X.outer) (hf : X.env.frame = some X.env.locals) (h : Has X.prog X.w X.K X.mg X.base k x n F) (hj : k ≤ j) (hg : Gl X x) (ka : PLm X W y (e :: es) fs) (hn : fs.length = n) (hdb : (x == ("__debug__" : Str)) = false := by decide)
    (he : starEach (e :: es) X.env = (false, eval e X.env) :: starEach es X.env := by rfl) (hpl : (backTo pos (starEach es X.env)).any (·.1) = false := by rfl) : PDm X W y (.Call (.Name x pn) (e :: es) [] pos) (eCall F fs) := fun pins s σ H Q G0 H0 G ρ I E T q => by
  obtain ⟨fa, fd, ps, h1, h2, h3, h4⟩ := h.ex
  unfold eCall at q
  refine wpAny_Call_Name_kw (ld_glob I hg h2 ?_ hdb)
  refine PySem.W.callWith_K (h₀ := X.base) I.ok.mod.kin h3 (ka.go I E T (fun ds k1 us s1 vs H1 G1 g1 I1 T1 r1 z1 => ⟨I1.kIn, ?_⟩) (fun c k1 => ?_) fun k1 => ?_) he hpl
  · rw [k1, Rs.bind_ok] at q
    have sp : spF X.K X.mg n F vs H1 Q (WE W σ) := ⟨G1, ds, g1.sub, z1, by rw [dpAll_len z1, eL_len k1]; exact hn, rfn_rd g1 q⟩
    have hl : us.length = ps.length := by rw [← r1.length]; exact h1.len _ _ _ _ sp
    have hb := h4 s1 us I1.kIn (by rw [List.append_nil]; exact hl)
    rw [List.append_nil] at hb
    have key : wpAny (model X.prog X.w) X.A (call (.ref fa) us) (fun v s' => EP X pins σ Q v s' ∧ FK X.env.locals s1.heap s'.heap) X.xe s1 := by
      refine wpAny_call (codeAny_mono (h1.run X.A X.stack s1 H1 ⟨us, []⟩ us vs Q (WE W σ) (c.hr.mono hj) I1.env0 hb r1 sp) fun r s' hq => ?_)
      cases r with
      | error er => exact passAt c.tk σ pins H1 s1 er s' I1 hq
      | ok fl =>
        cases fl with
        | ret u =>
          refine ⟨I1.after hq, ?_⟩
          obtain ⟨v, H', _, _, un, _⟩ := hq
          exact fun o eo => un.any eo I1.free fun hm => by simp at hm
        | _ => exact hq.elim
    exact wpAny_mono (wpAny_toks key) (fun v s' w => ⟨T1.keep w.2.2 w.1, w.2.1⟩) fun _ _ w => w.2
  · rw [k1] at q; exact q
  · rw [k1] at q; exact q
/-- an int and a call that gives an int are added -/
theorem pdm_addI (ha : PDm X W y a f) (hb : PDm X W y b f2) (hi1 : ∀ ρ d, f ρ = .ok d → ∃ n, d = .int n) (hi2 : ∀ ρ d, f2 ρ = .ok d → ∃ n, d = .int n) : PDm X W y (.BinOp a .Add b pos) (e2 addD f f2) := fun pins s σ H Q G0 H0 G ρ I E T q => by
  unfold e2 at q
  refine wpAny_BinOp (ha.go I E T (fun d k1 v s1 x H1 G1 g1 I1 T1 r1 z1 => hb.go I1 (E.grow g1) T1 (fun d2 k2 u s2 z H2 G2 g2 I2 T2 r2 z2 => ?_) (fun c k2 => ?_) fun k2 => ?_) (fun c k1 => ?_) fun k1 => ?_)
  · rw [k1, Rs.bind_ok, k2, Rs.bind_ok] at q
    obtain ⟨n1, rfl⟩ := hi1 ρ d k1
    obtain ⟨n2, rfl⟩ := hi2 ρ d2 k2
    cases z1; cases z2
    obtain ⟨t1, rfl⟩ := r1
    obtain ⟨t2, rfl⟩ := r2
    exact PyProof.Rows.add_int ⟨T2.tok (Nat.le_succ _), .int (n1 + n2), H2, I2.tok _, ⟨_, rfl⟩, q _ G2 H2 (g1.trans g2) (.int _)⟩
  · rw [k1, Rs.bind_ok, k2] at q; exact fun G' H' g' => q G' H' (g1.trans g')
  · rw [k1, Rs.bind_ok, k2] at q; exact q
  · rw [k1] at q; exact q
  · rw [k1] at q; exact q
/-- a tuple, and one more written one -/
theorem pdm_addT (ha : PDm X W y a f) (hb : PDm X W y b f2) (hi2 : ∀ ρ d, f2 ρ = .ok d → ∃ e ds, d = .tuple (e :: ds)) : PDm X W y (.BinOp a .Add b pos) (e2 addD f f2) := fun pins s σ H Q G0 H0 G ρ I E T q => by
  unfold e2 at q
  refine wpAny_BinOp (ha.go I E T (fun d k1 v s1 x H1 G1 g1 I1 T1 r1 z1 => hb.go I1 (E.grow g1) T1 (fun d2 k2 u s2 z H2 G2 g2 I2 T2 r2 z2 => ?_) (fun c k2 => ?_) fun k2 => ?_) (fun c k1 => ?_) fun k1 => ?_)
  · rw [k1, Rs.bind_ok, k2, Rs.bind_ok] at q
    obtain ⟨e2, ds2, rfl⟩ := hi2 ρ d2 k2
    unfold addD at q
    split at q
    · rename_i h; cases h
    · rename_i h; cases h
    · rename_i h; cases h
    · rename_i as bs h1
      cases h1
      split at q
      · rename_i hz
        have z1 := dp_mono g2.g z1
        cases z1 with
        | tup p1 w1 =>
          cases z2 with
          | tup p2 w2 =>
            cases r1; cases r2
            obtain ⟨its, v1, q1, _⟩ := I2.tuple (sqT_mono g2.sub p1)
            obtain ⟨its2, v2, q2, _⟩ := I2.tuple (sqT_mono g2.sub p2)
            have hz' : its.length + its2.length ≤ sizeLine := by rw [← v1.length, ← v2.length, dpAll_len w1, dpAll_len w2]; exact hz
            have q := RD.grow (g1.trans g2) q
            by_cases hne : its = []
            · subst hne
              cases v1
              cases w1
              exact cat_tup0 q1 q2 ⟨T2, .ref _, H2, I2, rfl, q _ G2 H2 (Gr.refl g2.sub) (.tup p2 w2)⟩
            · refine HT.cat_tup q1 q2 hne (fun e => ?_) (fun e => ?_) hz'
              · subst e; cases v2; cases w2
              · refine ⟨T2.keep (FK.of fun o eo => Heap.get?_push_of_some _ eo) (Nat.le_refl _), .ref s2.heap.objs.size, _, I2.laid (t' := s2.toks) (o := .tup _) (fun b ob q => Heap.get?_push_of_some _ q) (Nat.le_refl _) ⟨by rw [List.length_append, v1.length, v2.length]; exact hz', _, v1.append v2, IsTup.new _ _⟩, rfl, ?_⟩
                exact RD.newT g2.sub q (dpAll_app w1 w2) _ (I2.hok.fresh (Nat.le_refl _))
      · exact q.elim
    · exact q.elim
  · rw [k1, Rs.bind_ok, k2] at q; exact fun G' H' g' => q G' H' (g1.trans g')
  · rw [k1, Rs.bind_ok, k2] at q; exact q
  · rw [k1] at q; exact q
  · rw [k1] at q; exact q
/-- a written tuple, at an int's place -/
theorem pdm_ix {j} (ha : PDm X W y (.Tuple es j pos) f) (hb : PDm X W y b f2) (hi1 : ∀ ρ d, f ρ = .ok d → ∃ ds, d = .tuple ds) (hi2 : ∀ ρ d, f2 ρ = .ok d → ∃ n, d = .int n) {pos' : Pos}
    (hix : ∀ o i, subscripted b false o i = operate [o, i] (getItem o i)) : PDm X W y (.Subscript (.Tuple es j pos) b pos') (e2 ixD f f2) := fun pins s σ H Q G0 H0 G ρ I E T q => by
  unfold e2 at q
  refine Subscript_ (ha.go I E T (fun d k1 v s1 x H1 G1 g1 I1 T1 r1 z1 => hb.go I1 (E.grow g1) T1 (fun d2 k2 u s2 z H2 G2 g2 I2 T2 r2 z2 => ?_) (fun c k2 => ?_) fun k2 => ?_) (fun c k1 => ?_) fun k1 => ?_)
  · rw [k1, Rs.bind_ok, k2, Rs.bind_ok] at q
    obtain ⟨ds, rfl⟩ := hi1 ρ d k1
    obtain ⟨n, rfl⟩ := hi2 ρ d2 k2
    unfold ixD at q
    simp only at q
    cases k3 : atI ds n with
    | none => rw [k3] at q; exact q.elim
    | some r =>
      rw [k3] at q
      have z1 := dp_mono g2.g z1
      cases z1 with
      | tup p1 w1 =>
        cases z2
        cases r1
        obtain ⟨t2, rfl⟩ := r2
        obtain ⟨its, v1, q1, hz⟩ := I2.tuple (sqT_mono g2.sub p1)
        have hl : its.length = ds.length := by rw [← v1.length, dpAll_len w1]
        unfold atI at k3
        cases k4 : ixN ds.length n with
        | none => rw [k4] at k3; cases k3
        | some j4 =>
          rw [k4] at k3
          have k3 : ds[j4]? = some r := k3
          obtain ⟨s1', s2', s3', s4'⟩ := ixN_seq k4
          have hlt : j4 < ds.length := s2'
          have hx := List.getElem?_eq_getElem (show j4 < _ from (dpAll_len w1).symm ▸ hlt)
          obtain ⟨d', e1, e2⟩ := dpAll_get w1 hx
          rw [k3] at e1
          cases e1
          obtain ⟨u1, hu, ru⟩ := v1.get hx
          have hb2 : (ds.length : Int) < 2 ^ 63 := by
            have h1 : ds.length ≤ sizeLine := by rw [← hl, ← v1.length]; exact hz
            have h2 : (sizeLine : Int) < 2 ^ 63 := by decide
            omega
          exact item_tupleT (j := j4) q1 (by omega) (by omega) (by rw [hl]; exact s1') hu ⟨T2, _, H2, I2, ru, RD.grow (g1.trans g2) q _ G2 H2 (Gr.refl g2.sub) e2⟩ (hix _ _)
  · rw [k1, Rs.bind_ok, k2] at q; exact fun G' H' g' => q G' H' (g1.trans g')
  · rw [k1, Rs.bind_ok, k2] at q; exact q
  · rw [k1] at q; exact q
  · rw [k1] at q; exact q
end
end L2.Pz

namespace L2.Pz
open PySem PySem.Spec PyProof.Rows
/-! ### a run has one end -/
theorem runs_det {M : Model} {Γ : PySem.Ctx} {p : Pos} {t : Sem Fin} {fs : List Frame} {s s' : Shared} {e : End} (h : Runs M Γ p t fs s e s') : ∀ {e2 : End} {s2 : Shared}, Runs M Γ p t fs s e2 s2 → e2 = e ∧ s2 = s' := by
  induction h with
  | done => intro e2 s2 h2; cases h2; exact ⟨rfl, rfl⟩
  | raise => intro e2 s2 h2; cases h2; exact ⟨rfl, rfl⟩
  | again _ _ ih => intro e2 s2 h2; cases h2; rename_i _ z; exact ih z
  | rule _ ih => intro e2 s2 h2; cases h2; rename_i z; exact ih z
  | «at» _ ih => intro e2 s2 h2; cases h2; rename_i z; exact ih z
  | load e1 _ ih => intro e2 s2 h2; cases h2; rename_i e3 z; rw [e1] at e3; cases e3; exact ih z
  | update _ _ ih => intro e2 s2 h2; cases h2; rename_i _ z; exact ih z
  | loadIfAlive _ ih => intro e2 s2 h2; cases h2; rename_i z; exact ih z
  | point _ ih => intro e2 s2 h2; cases h2; rename_i z; exact ih z
  | alloc _ ih => intro e2 s2 h2; cases h2; rename_i z; exact ih z
  | fresh _ ih => intro e2 s2 h2; cases h2; rename_i z; exact ih z
  | ask _ ih => intro e2 s2 h2; cases h2; rename_i z; exact ih z
  | choose _ _ ih => intro e2 s2 h2; cases h2; rename_i _ z; exact ih z
  | os _ ih => intro e2 s2 h2; cases h2; rename_i z; exact ih z
  | handled _ ih => intro e2 s2 h2; cases h2; rename_i z; exact ih z
  | genState e1 _ ih => intro e2 s2 h2; cases h2; rename_i e3 z; rw [e1] at e3; cases e3; exact ih z
  | stack _ ih => intro e2 s2 h2; cases h2; rename_i z; exact ih z
  | thread _ ih => intro e2 s2 h2; cases h2; rename_i z; exact ih z
  | newGen _ ih => intro e2 s2 h2; cases h2; rename_i z; exact ih z
  | call _ _ ih1 ih2 =>
    intro e2 s2 h2
    cases h2 with
    | call a b => obtain ⟨e3, e4⟩ := ih1 a; cases e3; subst e4; exact ih2 b
    | callSusp a => obtain ⟨e3, e4⟩ := ih1 a; cases e3
  | callSusp _ ih =>
    intro e2 s2 h2
    cases h2 with
    | call a b => obtain ⟨e3, e4⟩ := ih a; cases e3
    | callSusp a => obtain ⟨e3, e4⟩ := ih a; cases e3; subst e4; exact ⟨rfl, rfl⟩
  | yield => intro e2 s2 h2; cases h2; exact ⟨rfl, rfl⟩
  | resumeFresh g1 _ q1 _ ih1 ih2 =>
    intro e2 s2 h2
    cases h2 with
    | resumeFresh g2 a q2 b => rw [g1] at g2; cases g2; obtain ⟨e3, e4⟩ := ih1 a; subst e3 e4; exact ih2 b
    | resumeSuspended g2 a q2 b => rw [g1] at g2; cases g2
    | resumeJustStarted g2 a b => exact absurd rfl a
    | resumeRunning g2 a => rw [g1] at g2; cases g2
    | resumeFinished g2 a => rw [g1] at g2; cases g2
  | resumeSuspended g1 _ q1 _ ih1 ih2 =>
    intro e2 s2 h2
    cases h2 with
    | resumeFresh g2 a q2 b => rw [g1] at g2; cases g2
    | resumeSuspended g2 a q2 b => rw [g1] at g2; cases g2; obtain ⟨e3, e4⟩ := ih1 a; subst e3 e4; exact ih2 b
    | resumeJustStarted g2 a b => rw [g1] at g2; cases g2
    | resumeThrowFresh g2 a => rw [g1] at g2; cases g2
    | resumeRunning g2 a => rw [g1] at g2; cases g2
    | resumeFinished g2 a => rw [g1] at g2; cases g2
  | resumeJustStarted g1 n1 _ ih =>
    intro e2 s2 h2
    cases h2 with
    | resumeFresh g2 a q2 b => exact absurd rfl n1
    | resumeSuspended g2 a q2 b => rw [g1] at g2; cases g2
    | resumeJustStarted g2 a b => exact ih b
    | resumeRunning g2 a => rw [g1] at g2; cases g2
    | resumeFinished g2 a => rw [g1] at g2; cases g2
  | resumeThrowFresh g1 _ ih =>
    intro e2 s2 h2
    cases h2 with
    | resumeSuspended g2 a q2 b => rw [g1] at g2; cases g2
    | resumeThrowFresh g2 a => exact ih a
    | resumeRunning g2 a => rw [g1] at g2; cases g2
    | resumeFinished g2 a => rw [g1] at g2; cases g2
  | resumeRunning g1 _ ih =>
    intro e2 s2 h2
    cases h2 with
    | resumeFresh g2 a q2 b => rw [g1] at g2; cases g2
    | resumeSuspended g2 a q2 b => rw [g1] at g2; cases g2
    | resumeJustStarted g2 a b => rw [g1] at g2; cases g2
    | resumeThrowFresh g2 a => rw [g1] at g2; cases g2
    | resumeRunning g2 a => exact ih a
    | resumeFinished g2 a => rw [g1] at g2; cases g2
  | resumeFinished g1 _ ih =>
    intro e2 s2 h2
    cases h2 with
    | resumeFresh g2 a q2 b => rw [g1] at g2; cases g2
    | resumeSuspended g2 a q2 b => rw [g1] at g2; cases g2
    | resumeJustStarted g2 a b => rw [g1] at g2; cases g2
    | resumeThrowFresh g2 a => rw [g1] at g2; cases g2
    | resumeRunning g2 a => rw [g1] at g2; cases g2
    | resumeFinished g2 a => exact ih a
  | segRet _ _ ih1 ih2 =>
    intro e2 s2 h2
    cases h2 with
    | segRet a b => obtain ⟨e3, e4⟩ := ih1 a; cases e3; subst e4; exact ih2 b
    | segSuspOut a b => obtain ⟨e3, e4⟩ := ih1 b; cases e3
    | segSuspGen a b c d => obtain ⟨e3, e4⟩ := ih1 b; cases e3
  | segGen _ _ ih1 ih2 =>
    intro e2 s2 h2
    cases h2 with
    | segGen a b => obtain ⟨e3, e4⟩ := ih1 a; cases e3; subst e4; exact ih2 b
    | segSuspOut a b => obtain ⟨e3, e4⟩ := ih1 b; cases e3
    | segSuspGen a b c d => obtain ⟨e3, e4⟩ := ih1 b; cases e3
  | segSuspOut n1 _ ih =>
    intro e2 s2 h2
    cases h2 with
    | segRet a b => obtain ⟨e3, e4⟩ := ih a; cases e3
    | segGen a b => obtain ⟨e3, e4⟩ := ih a; cases e3
    | segSuspOut a b => obtain ⟨e3, e4⟩ := ih b; cases e3; subst e4; exact ⟨rfl, rfl⟩
    | segSuspGen a b c d => rw [n1] at a; cases a
  | segSuspGen n1 _ q1 _ ih1 ih2 =>
    intro e2 s2 h2
    cases h2 with
    | segRet a b => obtain ⟨e3, e4⟩ := ih1 a; cases e3
    | segGen a b => obtain ⟨e3, e4⟩ := ih1 a; cases e3
    | segSuspOut a b => rw [n1] at a; cases a
    | segSuspGen a b c d => rw [n1] at a; cases a; obtain ⟨e3, e4⟩ := ih1 b; cases e3; subst e4; exact ih2 d
theorem wakes_det {M : Model} {Γ : PySem.Ctx} {p : Pos} {g : Nat} {r : Resume} {s s1 s2 : Shared} {a b : GenResult} (h1 : Wakes M Γ p g r s a s1) (h2 : Wakes M Γ p g r s b s2) : b = a ∧ s2 = s1 := by
  unfold Wakes at h1 h2
  split at h1
  · exact h1.elim
  · rename_i k
    rw [k] at h2
    split at h1
    · obtain ⟨e1, t1, r1, _, rfl, rfl⟩ := h1
      obtain ⟨e2, t2, r2, _, rfl, rfl⟩ := h2
      obtain ⟨rfl, rfl⟩ := runs_det r1 r2
      exact ⟨rfl, rfl⟩
    · rename_i v hv
      simp only at h2
      exact ⟨h2.1.trans h1.1.symm, h2.2.trans h1.2.symm⟩
    · simp only at h2
      exact ⟨h2.1.trans h1.1.symm, h2.2.trans h1.2.symm⟩
  · rename_i k
    rw [k] at h2
    obtain ⟨e1, t1, r1, _, rfl, rfl⟩ := h1
    obtain ⟨e2, t2, r2, _, rfl, rfl⟩ := h2
    obtain ⟨rfl, rfl⟩ := runs_det r1 r2
    exact ⟨rfl, rfl⟩
  · rename_i k
    rw [k] at h2
    exact ⟨h2.1.trans h1.1.symm, h2.2.trans h1.2.symm⟩
  · rename_i k
    rw [k] at h2
    exact ⟨h2.1.trans h1.1.symm, h2.2.trans h1.2.symm⟩
theorem wp_both {α : Type} (M : Model) (Γ : PySem.Ctx) (t : Sem α) : ∀ (Q1 Q2 : α → Pos → Shared → Prop) (E1 E2 : Value → Pos → Shared → Prop) (p : Pos) (s : Shared), Sem.wp M Γ t Q1 E1 p s → Sem.wp M Γ t Q2 E2 p s →
    Sem.wp M Γ t (fun a p s => Q1 a p s ∧ Q2 a p s) (fun e p s => E1 e p s ∧ E2 e p s) p s := by
  induction t with
  | pure a => intro Q1 Q2 E1 E2 p s h1 h2; exact ⟨h1, h2⟩
  | raise e => intro Q1 Q2 E1 E2 p s h1 h2; exact ⟨h1, h2⟩
  | unsupported _ => intro Q1 Q2 E1 E2 p s h1 _; exact h1
  | finish _ => intro Q1 Q2 E1 E2 p s h1 _; exact h1
  | rule _ k ih => intro Q1 Q2 E1 E2 p s h1 h2; exact ih () _ _ _ _ p s h1 h2
  | «at» p' k ih => intro Q1 Q2 E1 E2 p s h1 h2; exact ih () _ _ _ _ p' s h1 h2
  | load a _ k ih => intro Q1 Q2 E1 E2 p s h1 h2; obtain ⟨o, e1, h1⟩ := h1; obtain ⟨o2, e2, h2⟩ := h2; rw [e1] at e2; cases e2; exact ⟨o, e1, ih o _ _ _ _ p s h1 h2⟩
  | update a _ f k ih => intro Q1 Q2 E1 E2 p s h1 h2; exact ⟨h1.1, ih () _ _ _ _ p _ h1.2 h2.2⟩
  | loadIfAlive a k ih => intro Q1 Q2 E1 E2 p s h1 h2; exact ih _ _ _ _ _ p s h1 h2
  | point _ k ih => intro Q1 Q2 E1 E2 p s h1 h2; exact ih () _ _ _ _ p s h1 h2
  | register _ _ => intro Q1 Q2 E1 E2 p s h1 _; exact h1
  | alloc o k ih => intro Q1 Q2 E1 E2 p s h1 h2; exact ih _ _ _ _ _ p _ h1 h2
  | fresh k ih => intro Q1 Q2 E1 E2 p s h1 h2; exact ih _ _ _ _ _ p _ h1 h2
  | ask k ih => intro Q1 Q2 E1 E2 p s h1 h2; exact ih _ _ _ _ _ p s h1 h2
  | choose src m k ih => intro Q1 Q2 E1 E2 p s h1 h2; exact ⟨h1.1, ih _ _ _ _ _ p _ h1.2 h2.2⟩
  | os q _ k ih => intro Q1 Q2 E1 E2 p s h1 h2; exact ih _ _ _ _ _ p _ h1 h2
  | call c hd _ _ k ih =>
    intro Q1 Q2 E1 E2 p s h1 h2
    obtain ⟨r1, s1, e1, h1⟩ := h1
    obtain ⟨r2, s2, e2, h2⟩ := h2
    obtain ⟨e3, e4⟩ := runs_det e1 e2
    cases e3
    subst e4
    exact ⟨r1, s2, e1, ih r1 _ _ _ _ p s2 h1 h2⟩
  | handled own k ih => intro Q1 Q2 E1 E2 p s h1 h2; exact ih _ _ _ _ _ p s h1 h2
  | genState g k ih => intro Q1 Q2 E1 E2 p s h1 h2; obtain ⟨o, e1, h1⟩ := h1; obtain ⟨o2, e2, h2⟩ := h2; rw [e1] at e2; cases e2; exact ⟨o, e1, ih _ _ _ _ _ p s h1 h2⟩
  | newGen c k ih => intro Q1 Q2 E1 E2 p s h1 h2; exact ih _ _ _ _ _ p _ h1 h2
  | resume g r _ k ih =>
    intro Q1 Q2 E1 E2 p s h1 h2
    obtain ⟨r1, s1, e1, h1⟩ := h1
    obtain ⟨r2, s2, e2, h2⟩ := h2
    obtain ⟨rfl, rfl⟩ := wakes_det e1 e2
    exact ⟨_, _, e1, ih _ _ _ _ _ p _ h1 h2⟩
  | yield _ _ _ _ => intro Q1 Q2 E1 E2 p s h1 _; exact h1
  | stack k ih => intro Q1 Q2 E1 E2 p s h1 h2; exact ih _ _ _ _ _ p s h1 h2
  | fork _ _ => intro Q1 Q2 E1 E2 p s h1 _; exact h1
  | thread k ih => intro Q1 Q2 E1 E2 p s h1 h2; exact ih _ _ _ _ _ p s h1 h2
  | await _ _ _ _ _ => intro Q1 Q2 E1 E2 p s h1 _; exact h1
theorem wpAny_both {α : Type} {M : Model} {A : Around} {t : Sem α} {Q1 Q2 : α → Shared → Prop} {E1 E2 : Value → Shared → Prop} {s : Shared} (h1 : wpAny M A t Q1 E1 s) (h2 : wpAny M A t Q2 E2 s) : wpAny M A t (fun a s' => Q1 a s' ∧ Q2 a s') (fun e s' => E1 e s' ∧ E2 e s') s :=
  fun Γ p hΓ => wp_both M Γ t _ _ _ _ p s (h1 Γ p hΓ) (h2 Γ p hΓ)
theorem codeAny_both {M : Model} {A : Around} {c : Code} {R1 R2 : Result → Shared → Prop} {s : Shared} (h1 : codeAny M A c R1 s) (h2 : codeAny M A c R2 s) : codeAny M A c (fun r s' => R1 r s' ∧ R2 r s') s := fun Γ p hc hΓ => by
  obtain ⟨r1, s1, e1, k1⟩ := h1 Γ p hc hΓ
  obtain ⟨r2, s2, e2, k2⟩ := h2 Γ p hc hΓ
  obtain ⟨e3, e4⟩ := runs_det e1 e2
  cases e3
  subst e4
  exact ⟨r1, s2, e1, k1, k2⟩
end L2.Pz

namespace L2.Pz
open PySem PySem.Spec PyProof.Rows
/-! ### statements, the text in sight -/
def PSm (X : Cx) (W : WX) (y : Str) (st : Stmt) (g : SF) : Prop := ∀ (pins : List (Addr × Obj)) (s : Shared) (σ : St) (H G0 H0 G : Hp) (ρ : En), Inv X pins σ H s → EnvOk X.K G0 H0 G H σ ρ → Gp X y s → ErT X.K X.mg W rbEq G0 H0 G (g ρ) →
  wpAny (model X.prog X.w) X.A (exec st X.env) (fun fl s' => SP X pins (DT X.K G0 H0 G (g ρ)) fl s' ∧ (fl = .next → Gp X y s')) X.xe s
def PSDm (X : Cx) (W : WX) (y : Str) (sts : List Stmt) (g : SF) : Prop := ∀ (pins : List (Addr × Obj)) (s : Shared) (σ : St) (H G0 H0 G : Hp) (ρ : En), Inv X pins σ H s → EnvOk X.K G0 H0 G H σ ρ → Gp X y s → ErT X.K X.mg W rbEq G0 H0 G (g ρ) →
  wpAny (model X.prog X.w) X.A (execs sts X.env) (fun fl s' => SP X pins (DT X.K G0 H0 G (g ρ)) fl s' ∧ (fl = .next → Gp X y s')) X.xe s
section
variable {X : Cx} {W : WX} {y : Str} {e a b c tg : Expr} {es : List Expr} {st : Stmt} {sts rest body : List Stmt} {f f2 : EF} {fs : List EF} {g g1 g2 : SF} {p : En → Rs Bool} {pos : Pos} {i : Nat}
theorem store_m {pins : List (Addr × Obj)} {s : Shared} {σ : St} {H : Hp} {x : Str} {v : V} {u : Value} (I : Inv X pins σ H s) (T : Gp X y s) (hN : X.N.Nodup) (hi : X.N[i]? = some x) (hx : X.env.scope.names.lookup x = some .local) (hy : y ≠ x) (r : RelV v u) {E : Value → Shared → Prop} :
    wpAny (model X.prog X.w) X.A (storeName X.env x u) (fun _ s' => Inv X pins (σ.set i (some v)) H s' ∧ Gp X y s') E s := by
  obtain ⟨m, w, n, ew, gw⟩ := T
  have noCls : (X.env.scope.kind == .class || (X.env.scope.kind == .module && X.env.locals != X.env.globals)) = false := by rw [I.ok.kind]; rfl
  exact wpAny_mono (wpAny_both (store_ok (E := E) (Q := fun _ s' => Inv X pins (σ.set i (some v)) H s') I hN hi (.inl hx) r (fun _ z => z) (.inr hx))
    (wpAny_storeName_local (E := E) (Q := fun _ s' => Gp X y s') hx n (fun h' n' _ => ⟨_, w, n', by simp [hy, ew], gw.mono (Nat.le_succ _)⟩) noCls)) (fun _ _ z => z) fun _ _ z => z.1
theorem psm_asg {x : Str} {px : Pos} (k : PDm X W y e f) (hN : X.N.Nodup) (hi : X.N[i]? = some x) (hx : X.env.scope.names.lookup x = some .local) (hy : y ≠ x) (hs : swapsWith e (some (.Name x px)) pos.line X.env = pure false := by rfl) : PSm X W y (.Assign [.Name x px] e pos) (sAsg (gN i) f) := fun pins s σ H G0 H0 G ρ I E T q => by
  unfold sAsg gN at q ⊢
  refine wpAny_Assign_Name (k.go I E T (fun d k1 v s1 x H1 G1 g1 I1 T1 r1 z1 => wpAny_mono (store_m I1 T1 hN hi hx hy r1) (fun _ s2 z => ?_) fun _ _ z => z) (fun c k1 => ?_) fun k1 => ?_) hs
  · rw [k1]
    exact ⟨⟨_, H1, z.1, _, G1, rfl, (E.grow g1).set z1, g1.g⟩, fun _ => z.2⟩
  · rw [k1] at q; exact fun G' H' g' => q G0 H0 G' H' σ ⟨rfl, rfl⟩ (E.grow g') g'.g
  · rw [k1] at q; exact q
theorem psdm_nil : PSDm X W y [] sNx := fun pins s σ H G0 H0 G ρ I E T q => wpAny_execs_nil ⟨⟨σ, H, I, ρ, G, rfl, E, Same.refl _⟩, fun _ => T⟩
theorem dt_grow {pins : List (Addr × Obj)} {G0 H0 G G' : Hp} {r : SR} {fl : Flow} {s' : Shared} (sm : Same G G') (h : SP X pins (DT X.K G0 H0 G' r) fl s') : SP X pins (DT X.K G0 H0 G r) fl s' := by
  cases fl with
  | next => obtain ⟨σ, H, I, ρ, G2, e, E, sm2⟩ := h; exact ⟨σ, H, I, ρ, G2, e, E, sm.trans sm2⟩
  | brk => obtain ⟨σ, H, I, ρ, G2, e, E, sm2⟩ := h; exact ⟨σ, H, I, ρ, G2, e, E, sm.trans sm2⟩
  | cont => obtain ⟨σ, H, I, ρ, G2, e, E, sm2⟩ := h; exact ⟨σ, H, I, ρ, G2, e, E, sm.trans sm2⟩
  | ret u => exact h
theorem psdm_cons (h1 : PSm X W y st g1) (h2 : PSDm X W y rest g2) : PSDm X W y (st :: rest) (sSeq g1 g2) := fun pins s σ H G0 H0 G ρ I E T q => by
  unfold sSeq at q ⊢
  have q1 : ErT X.K X.mg W rbEq G0 H0 G (g1 ρ) := by
    cases k : g1 ρ with
    | er c ρ' => rw [k] at q; exact q
    | no => rw [k] at q; exact q
    | _ => exact trivial
  refine wpAny_execs_cons (wpAny_mono (h1 pins s σ H G0 H0 G ρ I E T q1) (fun fl s1 z => ?_) fun _ _ z => z)
  cases fl with
  | next =>
    obtain ⟨⟨σ', H', I', ρ', G', e, E', sm⟩, T'⟩ := z
    rw [e] at q ⊢
    exact wpAny_mono (h2 pins s1 σ' H' G0 H0 G' ρ' I' E' (T' rfl) (ErT.grow rbEq_ok ⟨rfl, rfl⟩ sm q)) (fun _ _ z => ⟨dt_grow sm z.1, z.2⟩) fun _ _ z => z
  | ret u =>
    obtain ⟨⟨v, σ', H', I', rv, d, G', e, gr, z⟩, _⟩ := z
    rw [e]
    exact ⟨⟨v, σ', H', I', rv, d, G', rfl, gr, z⟩, fun z => nomatch z⟩
  | brk =>
    obtain ⟨⟨σ', H', I', ρ', G', e, E', sm⟩, _⟩ := z
    rw [e]
    exact ⟨⟨σ', H', I', ρ', G', rfl, E', sm⟩, fun z => nomatch z⟩
  | cont =>
    obtain ⟨⟨σ', H', I', ρ', G', e, E', sm⟩, _⟩ := z
    rw [e]
    exact ⟨⟨σ', H', I', ρ', G', rfl, E', sm⟩, fun z => nomatch z⟩
theorem psdm_one (h1 : PSm X W y st g) : PSDm X W y [st] g := fun pins s σ H G0 H0 G ρ I E T q => by
  have := psdm_cons h1 (psdm_nil (X := X) (W := W) (y := y)) pins s σ H G0 H0 G ρ I E T
  have e : sSeq g sNx ρ = g ρ := by
    unfold sSeq
    cases g ρ <;> rfl
  rw [e] at this
  exact this q
/-- if a call's int is a written int -/
theorem psm_ifEq {n : Int} {j} {p2 p3 : Pos} (ha : PDm X W y a f) (hi1 : ∀ ρ d, f ρ = .ok d → ∃ n, d = .int n) (h1 : PSDm X W y sts g1) (h2 : PSDm X W y rest g2) (hm : behindInMarks .Eq (.Constant (.int n) j p2) = false := by with_unfolding_all rfl) :
    PSm X W y (.If (.Compare a [.Eq] [.Constant (.int n) j p2] p3) sts rest pos) (sIf (bT (e2 eqD f (eC (.int n)))) g1 g2) := fun pins s σ H G0 H0 G ρ I E T q => by
  have ev : ∀ i, f ρ = .ok (.int i) → bT (e2 eqD f (eC (.int n))) ρ = .ok (decide (i = n)) := fun i k => by simp [k]
  refine wpAny_If (wpAny_isTrue_Compare1 (ha.go I E T (fun d k1 v s1 x H1 G1 g1 I1 T1 r1 z1 => ?_) (fun c k1 => ?_) fun k1 => ?_) hm)
  · obtain ⟨i, rfl⟩ := hi1 ρ d k1
    have e := ev i k1
    unfold sIf at q ⊢
    rw [e] at q ⊢
    cases z1
    obtain ⟨t1, rfl⟩ := r1
    refine wpAny_Constant_int (PyProof.Rows.eq_int (wpAny_truthy_bool ?_))
    have T2 : Gp X y { s1 with toks := s1.toks + 1 } := T1.tok (Nat.le_succ _)
    have eb : (i == n) = decide (i = n) := by rw [Bool.beq_eq_decide_eq]
    rw [eb]
    cases kd : decide (i = n) with
    | true => rw [kd] at q; exact wpAny_mono (h1 pins _ σ H1 G0 H0 G1 ρ (I1.tok _) (E.grow g1) T2 (ErT.grow rbEq_ok ⟨rfl, rfl⟩ g1.g q)) (fun _ _ z => ⟨dt_grow g1.g z.1, z.2⟩) fun _ _ z => z
    | false => rw [kd] at q; exact wpAny_mono (h2 pins _ σ H1 G0 H0 G1 ρ (I1.tok _) (E.grow g1) T2 (ErT.grow rbEq_ok ⟨rfl, rfl⟩ g1.g q)) (fun _ _ z => ⟨dt_grow g1.g z.1, z.2⟩) fun _ _ z => z
  · unfold sIf at q
    have e : bT (e2 eqD f (eC (.int n))) ρ = .er c := by simp [k1]
    rw [e] at q
    exact fun G' H' g' => q G0 H0 G' H' σ ⟨rfl, rfl⟩ (E.grow g') g'.g
  · unfold sIf at q
    have e : bT (e2 eqD f (eC (.int n))) ρ = .no := by simp [k1]
    rw [e] at q
    exact q
end
end L2.Pz

namespace L2.Pz
open PySem PySem.Spec PyProof.Rows
/-! ### the list of the gaps, its objects in sight -/
def ptS : Str := "point"
def sgN : Str := "sign"
/-- the values of the signs that a line writes -/
def signVs (t : Nat) : List Value := [.str (S []) t, .str (S [46]) (t + 1), .str (S [44]) (t + 2), .str (S [39]) (t + 3), .str (S [59]) (t + 4), .str (S [32]) (t + 5), .str (S [95]) (t + 6)]
def notPt (pt : Nat) : Value → Bool
  | .str x _ => x != S [pt]
  | _ => false
theorem signs_good (t pt : Nat) (h : pt ∈ pts) (k : Nat) (hk : k < 6) : ∃ x u, ((signVs t).filter (notPt pt))[k]? = some (.str x u) ∧ (gapsD pt)[k]? = some (.str x) ∧ GoodV (t + 7) (.str x u) := by
  have good : ∀ (l : List Nat) (j : Nat), (l = [] ∨ 1 ≤ j) → j < 7 → GoodV (t + 7) (.str (S l) (t + j)) := fun l j h1 h2 => by
    rcases h1 with rfl | h1
    · exact fun z => absurd rfl z
    · exact fun _ => show (t + j : Nat) ≠ 0 ∧ (t + j : Nat) < t + 7 from ⟨by omega, by omega⟩
  simp only [pts, List.mem_cons, List.not_mem_nil, or_false] at h
  match k, hk with
  | 0, _ => rcases h with rfl | rfl | rfl | rfl <;> exact ⟨_, _, rfl, rfl, good _ 0 (by simp) (by decide)⟩
  | 1, _ => rcases h with rfl | rfl | rfl | rfl <;> first | exact ⟨_, _, rfl, rfl, good _ 1 (by simp) (by decide)⟩ | exact ⟨_, _, rfl, rfl, good _ 2 (by simp) (by decide)⟩
  | 2, _ => rcases h with rfl | rfl | rfl | rfl <;> first | exact ⟨_, _, rfl, rfl, good _ 2 (by simp) (by decide)⟩ | exact ⟨_, _, rfl, rfl, good _ 3 (by simp) (by decide)⟩
  | 3, _ => rcases h with rfl | rfl | rfl | rfl <;> first | exact ⟨_, _, rfl, rfl, good _ 3 (by simp) (by decide)⟩ | exact ⟨_, _, rfl, rfl, good _ 4 (by simp) (by decide)⟩
  | 4, _ => rcases h with rfl | rfl | rfl | rfl <;> first | exact ⟨_, _, rfl, rfl, good _ 4 (by simp) (by decide)⟩ | exact ⟨_, _, rfl, rfl, good _ 5 (by simp) (by decide)⟩
  | 5, _ => rcases h with rfl | rfl | rfl | rfl <;> exact ⟨_, _, rfl, rfl, good _ 6 (by simp) (by decide)⟩
  | n + 6, h => omega
theorem paired_eq {l1 l2 : List Value} (h : Paired (fun v w => w = v) l1 l2) : l2 = l1 := by
  induction h with
  | nil => rfl
  | cons a _ ih => rw [a, ih]
section
variable {X : Cx} {pins : List (Addr × Obj)} {σ : St} {H : Hp} {s : Shared} {scope : Scope} {p1 p2 p3 p4 p5 p6 q0 q1 q2 q3 q4 q5 q6 px pos : Pos} {j0 j1 j2 j3 j4 j5 j6 j7 : _}
/-- a comprehension's list, the tokens counted -/
theorem lc_toks {env : Env} {P0 : Program} {w0 : World} {A : Around} {E : Value → Shared → Prop} {elt iter : Expr} {x : Str} {ifs : List Expr} {cl : List (Str × Addr)} {Q : Value → Shared → Prop} (p : Value → Bool) (F : Value → Value → Prop)
    (hclos : closureFor scope env = pure cl) (hcell : ∀ y ∈ scope.names, y.2 ≠ .cell) (hkind : scope.kind = .function) (hnames : ∀ y ∈ scope.names, y.2 = .local → scope.names.lookup y.1 = some .local) (hx : scope.names.lookup x = some .local)
    (h : wpAny (model P0 w0) A (eval iter env) (fun xv s1 => wpAny (model P0 w0) A (pyIter xv) (fun it s2 => ∃ I fp wr n P St, it = .ref I ∧ Walks P0 w0 A I fp wr n P St ∧ n ≤ sizeLine ∧ St 0 s2.heap ∧ (∀ b ∈ fp, b < s2.heap.objs.size) ∧
      QuietOnC P0 w0 A env scope cl x ifs elt wr P p F s2 ∧
      (∀ D h' tk ys (vs : List Value), s2.toks ≤ tk → s2.heap.get? D = none → h'.PlainList D ys → vs.length = n → (∀ j v, vs[j]? = some v → P j v) → Paired F (vs.filter p) ys.toList →
        (∀ b o, b ∉ wr → s2.heap.get? b = some o → h'.get? b = some o) → Q (.ref D) { s2 with heap := h', toks := tk })) E s1) E s)
    (hs : ∀ x, foldedSetIterable iter env x = pure x := by intro _; rfl) : wpAny (model P0 w0) A (eval (.ListComp elt [⟨.Name x px, iter, ifs, 0⟩] scope pos) env) Q E s := by
  rw [eval_ListComp]
  refine wpAny_comprehension_free (use := none) rfl hs hclos hkind hnames (wpAny_mono h (fun xv s1 h1 => wpAny_mono h1 (fun it s2 h2 => ?_) fun _ _ e => e) fun _ _ e => e)
  obtain ⟨I, fp, wr, n, P, St, rfl, W, hsz, hst, hfp, hq, hQ⟩ := h2
  have base := comp_block_walkC (px := px) (iter := iter) (pos := pos) (E := E) (RR := fun acc C => compPost (model P0 w0) A E none (fun v s' => s2.toks ≤ s'.toks → Q v s') acc C) W hsz p F hcell hkind hx hst hfp hq (by
    intro D C h' tk m' ys vs hD hC hDC hn _ hpl hlen hP hF hk
    exact ⟨m', hn, fun h'' hs'' ht => hQ D h'' tk ys vs ht hD (hpl.extBut hs''.extBut hDC) hlen hP hF fun b o hbf e => hs''.extBut b o (by rintro rfl; rw [hC] at e; cases e) (hk b o hbf e)⟩)
  refine wpAny_mono (wpAny_toks base) (fun acc s3 z => ?_) fun _ _ z => z.2
  obtain ⟨t3, z⟩ := z
  refine wpAny_mono (wpAny_toks z) (fun cenv s4 z => ?_) fun _ _ z => z.2
  obtain ⟨t4, z⟩ := z
  refine codeAny_mono (codeAny_toks_of (Nat.le_refl _) z) fun r s5 z => ?_
  obtain ⟨t5, z⟩ := z
  cases r with
  | ok f =>
    obtain ⟨m, hn, z⟩ := z
    exact ⟨m, hn, fun h' hs' => z h' hs' (Nat.le_trans t3 (Nat.le_trans t4 t5))⟩
  | error e => exact z
theorem signs_tup {Q E : Value → Shared → Prop} (h : (fun s1 : Shared => Q (.ref s1.heap.objs.size) { s1 with heap := s1.heap.push { cls := .type "tuple", data := .seq (signVs s.toks).toArray } }) { s with toks := s.toks + 7 }) :
    wpAny (model X.prog X.w) X.A (eval (.Tuple [.Constant (.str (S [])) j0 q0, .Constant (.str (S [46])) j1 q1, .Constant (.str (S [44])) j2 q2, .Constant (.str (S [39])) j3 q3, .Constant (.str (S [59])) j4 q4, .Constant (.str (S [32])) j5 q5, .Constant (.str (S [95])) j6 q6] j7 p5) X.env) Q E s :=
  wpAny_Tuple_spliced (Calls.spliced_cons (Calls.Constant_str (k := j0) (pos := q0) (Calls.spliced_cons (Calls.Constant_str (k := j1) (pos := q1) (Calls.spliced_cons (Calls.Constant_str (k := j2) (pos := q2) (Calls.spliced_cons (Calls.Constant_str (k := j3) (pos := q3) (Calls.spliced_cons (Calls.Constant_str (k := j4) (pos := q4) (Calls.spliced_cons (Calls.Constant_str (k := j5) (pos := q5) (Calls.spliced_cons (Calls.Constant_str (k := j6) (pos := q6) (Calls.spliced_nil ⟨show 7 ≤ sizeLine by decide, h⟩)))))))))))))))
theorem gap_list {c0 c1 c2 c3 c4 c5 c6 : Str} {pt : Nat} (hcs : [c0, c1, c2, c3, c4, c5, c6] = [S [], S [46], S [44], S [39], S [59], S [32], S [95]]) (I : Inv X pins σ H s) (hh : X.A.handled = none) (hN : X.N[1]? = some ptS) (hpk : X.env.scope.names.lookup ptS = some .cell) (hσ : σ[1]? = some (some (.str (S [pt]))))
    (hfree : ∀ y ∈ scope.names, y.2 = .free → y.1 = ptS) (hcell : ∀ y ∈ scope.names, y.2 ≠ .cell) (hkind : scope.kind = .function) (hnames : ∀ y ∈ scope.names, y.2 = .local → scope.names.lookup y.1 = some .local) (hx : scope.names.lookup sgN = some .local)
    (hcl : ∀ cells : List (Str × Addr), (cloFrom cells scope.names []).lookup ptS = some ((cells.lookup ptS).getD 0)) (hrel : (relabel scope X.env).names.lookup ptS = some .cell) (E : Value → Shared → Prop) :
    wpAny (model X.prog X.w) X.A (eval (.ListComp (.Name sgN p1) [⟨.Name sgN px, .Tuple [.Constant (.str c0) j0 q0, .Constant (.str c1) j1 q1, .Constant (.str c2) j2 q2, .Constant (.str c3) j3 q3, .Constant (.str c4) j4 q4, .Constant (.str c5) j5 q5, .Constant (.str c6) j6 q6] j7 p5, [.Compare (.Name sgN p2) [.NotEq] [.Name ptS p3] p4], 0⟩] scope pos) X.env)
      (fun v s' => ∃ D ys, v = .ref D ∧ s'.heap.PlainList D ys ∧ s.heap.get? D = none ∧ Inv X pins σ H s' ∧ (∃ t, t + 7 ≤ s'.toks ∧ ys.toList = (signVs t).filter (notPt pt))) E s := by
  obtain ⟨m, hn, hl⟩ := I.loc
  obtain ⟨u, r, l⟩ := hl 1 ptS _ hN hσ (.inr (.inl hpk))
  obtain ⟨tp, rfl⟩ := r
  have hc : ∃ c, X.env.cells.lookup ptS = some c ∧ s.heap.IsCell c (some (.str (S [pt]) tp)) := by
    rcases l with ⟨hk, hm⟩ | ⟨hk, c, h1, h2⟩
    · rw [show X.env.kindOf ptS = some .cell from hpk] at hk; cases hk
    · exact ⟨c, h1, h2⟩
  obtain ⟨c, hc1, hc2⟩ := hc
  simp only [List.cons.injEq, and_true] at hcs
  obtain ⟨rfl, rfl, rfl, rfl, rfl, rfl, rfl⟩ := hcs
  refine lc_toks (notPt pt) (fun v w => w = v) (closure_ok fun y hy e => by rw [hfree y hy e]; exact ⟨c, hc1⟩) hcell hkind hnames hx ?_
  refine signs_tup ?_
  generalize hs1 : ({ s with toks := s.toks + 7 } : Shared) = s1
  have I1 : Inv X pins σ H s1 := hs1 ▸ I.tok _
  have hp1 : s1.heap = s.heap := hs1 ▸ rfl
  have ht1 : s1.toks = s.toks + 7 := hs1 ▸ rfl
  have ht : (s1.heap.push { cls := .type "tuple", data := .seq (signVs s.toks).toArray }).IsTuple s1.heap.objs.size (signVs s.toks).toArray := ⟨_, Heap.get?_push_size _ rfl, rfl, _, rfl⟩
  refine wpAny_pyIter_tuple (items := (signVs s.toks).toArray) ht ?_
  generalize hh2 : s1.heap.push { cls := .type "tuple", data := .seq (signVs s.toks).toArray } = h2 at ht ⊢
  have sz2 : h2.objs.size = s1.heap.objs.size + 1 := by rw [← hh2, Heap.size_push]
  generalize hh3 : h2.push { cls := .type "tuple_iterator", data := .fields #[.ref s1.heap.objs.size, .int 0 0] } = h3
  have kp : ∀ b o, s.heap.get? b = some o → h3.get? b = some o := fun b o e => by
    rw [← hh3]; refine Heap.get?_push_of_some _ ?_; rw [← hh2]; refine Heap.get?_push_of_some _ ?_; rw [hp1]; exact e
  have sz3 : h3.objs.size = h2.objs.size + 1 := by rw [← hh3, Heap.size_push]
  refine ⟨h2.objs.size, [h2.objs.size, s1.heap.objs.size], [h2.objs.size], 7, _, _, rfl, Walks.tuple hh h2.objs.size s1.heap.objs.size (by rw [sz2]; exact Nat.ne_of_lt (Nat.lt_succ_self _)) (signVs s.toks).toArray, by decide, ⟨⟨_, by rw [← hh3]; exact Heap.get?_push_size _ rfl, rfl, rfl⟩, ?_⟩, ?_, ⟨?_, ?_⟩, ?_⟩
  · obtain ⟨o, e, z⟩ := ht
    exact ⟨o, by rw [← hh3]; exact Heap.get?_push_of_some _ e, z⟩
  · intro b hb
    simp only [List.mem_cons, List.not_mem_nil, or_false] at hb
    show b < h3.objs.size
    rcases hb with rfl | rfl
    · rw [sz3]; exact Nat.lt_succ_self _
    · rw [sz3, sz2]; exact Nat.lt_succ_of_lt (Nat.lt_succ_self _)
  · intro C i v s3 m3 E' hC hv hn3 hm3 hk3 htk
    obtain ⟨x, t, rfl⟩ : ∃ x t, v = .str x t := by
      have hm : v ∈ signVs s.toks := by
        have := Array.mem_of_getElem? hv
        simpa using this
      simp only [signVs, List.mem_cons, List.not_mem_nil, or_false] at hm
      rcases hm with rfl | rfl | rfl | rfl | rfl | rfl | rfl <;> exact ⟨_, _, rfl⟩
    have hcc : s3.heap.IsCell c (some (.str (S [pt]) tp)) := by
      obtain ⟨o, e, z⟩ := hc2
      refine ⟨o, hk3 c o (fun hm => ?_) (kp c o e), z⟩
      simp only [List.mem_cons, List.not_mem_nil, or_false] at hm
      have := Heap.lt_size e
      rw [hm, sz2, hp1] at this
      exact Nat.lt_irrefl _ (Nat.lt_of_succ_lt this)
    have nx : ∀ {y : Str}, y = ptS ∨ y = sgN → (y == ("__debug__" : Str)) = false := fun h => by rcases h with rfl | rfl <;> decide
    have key : wpAny (model X.prog X.w) X.A (isTrue (.Compare (.Name sgN p2) [.NotEq] [.Name ptS p3] p4) (compEnvC scope (cloFrom X.env.cells scope.names []) C X.env) (eval (.Compare (.Name sgN p2) [.NotEq] [.Name ptS p3] p4) (compEnvC scope (cloFrom X.env.cells scope.names []) C X.env))) (fun b s4 => b = notPt pt (.str x t) ∧ Keeps s3 s4) E' s3 := by
      refine wpAny_isTrue_Compare1 (wpAny_Name (wpAny_loadName_local (by simp [compEnvC, relabel, hkind]) (lookup_relabel_local hx) hn3 hm3 ?_) (nx (.inr rfl)))
      refine wpAny_Name (wpAny_loadName_cell (by simp [compEnvC, relabel, hkind]) hrel (c := c) ?_ hcc ?_) (nx (.inl rfl))
      · rw [show (compEnvC scope (cloFrom X.env.cells scope.names []) C X.env).cells = cloFrom X.env.cells scope.names [] from rfl, hcl, hc1]; rfl
      · exact ne_str (wpAny_truthy_bool ⟨rfl, s3.heap, s3.toks, rfl, fun _ _ e => e⟩)
    simp only [List.forIn_cons, List.forIn_nil, if_true]
    exact wpAny_bind (wpAny_bind (wpAny_mono key (fun b s4 z => wpAny_pure (wpAny_pure z)) fun _ _ z => z))
  · intro C i v s3 m3 E' hC hv hpv hn3 hm3 hk3 htk
    refine wpAny_Name (wpAny_loadName_local (by simp [compEnvC, relabel, hkind]) (lookup_relabel_local hx) hn3 hm3 ⟨rfl, s3.heap, s3.toks, rfl, fun _ _ e => e⟩) (by decide)
  · intro D h' tk ys vs htk hD hP hlen hPv hF hk
    have ev : vs = signVs s.toks := by
      refine List.ext_getElem? fun n => ?_
      by_cases hn : n < 7
      · have e1 : vs[n]? = some (vs[n]'(by omega)) := List.getElem?_eq_getElem _
        have := hPv n _ e1
        rw [e1, ← this]
        simp
      · rw [List.getElem?_eq_none (by omega), List.getElem?_eq_none (by simpa [signVs] using hn)]
    rw [ev] at hF
    refine ⟨D, ys, rfl, hP, ?_, ?_, s.toks, ?_, paired_eq hF⟩
    · cases e : s.heap.get? D with
      | none => rfl
      | some o =>
        have z := kp D o e
        rw [show h3.get? D = none from hD] at z
        cases z
    · subst hs1
      refine I.kept (h' := h') (t' := tk) fun b o e => hk b o (fun hm => ?_) (kp b o e)
      simp only [List.mem_cons, List.not_mem_nil, or_false] at hm
      have := Heap.lt_size e
      rw [hm, sz2] at this
      exact Nat.lt_irrefl _ (Nat.lt_of_succ_lt this)
    · have htk : s1.toks ≤ tk := htk
      rw [ht1] at htk
      exact htk
end
end L2.Pz

namespace L2.Pz
open PySem PySem.Spec PyProof.Rows
/-! ### gap = [..][..] -/
def gpN : Str := "gap"
section
variable {X : Cx} {W : WX} {pins : List (Addr × Obj)} {σ : St} {G0 H0 G H : Hp} {ρ : En} {s : Shared} {scope : Scope} {p1 p2 p3 p4 p5 p6 q0 q1 q2 q3 q4 q5 q6 px py pos pos' spos : Pos} {j0 j1 j2 j3 j4 j5 j6 j7 : Nat} {b : Expr} {fb : EF} {c0 c1 c2 c3 c4 c5 c6 : Str}
/-- a new list may be pinned -/
theorem pin_new {s' : Shared} {D : Addr} {ys : Array Value} (I : Inv X pins σ H s) (I' : Inv X pins σ H s') (n : s.heap.get? D = none) (l : s'.heap.PlainList D ys) : ∃ k, Inv X (pins ++ [(D, { cls := .type "list", data := .seq ys k })]) σ H s' := by
  obtain ⟨k, l⟩ := l
  refine ⟨k, I'.pins_of fun p hp => ?_⟩
  rcases List.mem_append.mp hp with hq | hp
  · exact I'.pin p (List.mem_append_right _ hq)
  · simp only [List.mem_cons, List.not_mem_nil, or_false] at hp
    subst hp
    refine ⟨l, ?_, ?_, fun hb => ?_, fun v z => by cases z⟩
    · cases e : H D with
      | none => rfl
      | some o => obtain ⟨u, z⟩ := objOk_get (I.hok D o e); rw [n] at z; cases z
    · intro z
      obtain ⟨m, ⟨o, es, ep, e, _⟩, _⟩ := I.loc
      rw [← z, n] at e
      cases e
    · obtain ⟨_, fo, hfo, _⟩ := I.ok.funs.mem hb
      obtain ⟨sl, e⟩ := I.base.slot D fo hfo (I.ok.frf D hb) hb fun z => I.ok.exfs D z hb
      rw [n] at e
      cases e
theorem gap_set {pt : Nat} {k : Int} (hpt : pt ∈ pts) (hb : PD X W b fb) (hcs : [c0, c1, c2, c3, c4, c5, c6] = [S [], S [46], S [44], S [39], S [59], S [32], S [95]]) (I : Inv X pins σ H s) (En : EnvOk X.K G0 H0 G H σ ρ) (hρ : ρ[1]? = some (some (.v (.str (S [pt]))))) (hk : fb ρ = .ok (.int k)) (h0 : 0 ≤ k) (h6 : k < 6)
    (hh : X.A.handled = none) (hN : X.N[1]? = some ptS) (hN2 : X.N[2]? = some gpN) (hnd : X.N.Nodup) (hgl : X.env.scope.names.lookup gpN = some .local) (hpk : X.env.scope.names.lookup ptS = some .cell)
    (hfree : ∀ y ∈ scope.names, y.2 = .free → y.1 = ptS) (hcell : ∀ y ∈ scope.names, y.2 ≠ .cell) (hkind : scope.kind = .function) (hnames : ∀ y ∈ scope.names, y.2 = .local → scope.names.lookup y.1 = some .local) (hx : scope.names.lookup sgN = some .local)
    (hcl : ∀ cells : List (Str × Addr), (cloFrom cells scope.names []).lookup ptS = some ((cells.lookup ptS).getD 0)) (hrel : (relabel scope X.env).names.lookup ptS = some .cell)
    (hix : ∀ o i, subscripted b false o i = operate [o, i] (getItem o i))
    (hs : swapsWith (.Subscript (.ListComp (.Name sgN p1) [⟨.Name sgN px, .Tuple [.Constant (.str c0) j0 q0, .Constant (.str c1) j1 q1, .Constant (.str c2) j2 q2, .Constant (.str c3) j3 q3, .Constant (.str c4) j4 q4, .Constant (.str c5) j5 q5, .Constant (.str c6) j6 q6] j7 p5, [.Compare (.Name sgN p2) [.NotEq] [.Name ptS p3] p4], 0⟩] scope pos) b pos') (some (.Name gpN py)) spos.line X.env = pure false) :
    wpAny (model X.prog X.w) X.A (exec (.Assign [.Name gpN py] (.Subscript (.ListComp (.Name sgN p1) [⟨.Name sgN px, .Tuple [.Constant (.str c0) j0 q0, .Constant (.str c1) j1 q1, .Constant (.str c2) j2 q2, .Constant (.str c3) j3 q3, .Constant (.str c4) j4 q4, .Constant (.str c5) j5 q5, .Constant (.str c6) j6 q6] j7 p5, [.Compare (.Name sgN p2) [.NotEq] [.Name ptS p3] p4], 0⟩] scope pos) b pos') spos) X.env)
      (fun fl s' => fl = .next ∧ ∃ d H' G', (gapsD pt)[k.toNat]? = some d ∧ Gr G H G' H' ∧ (∃ σ', Inv X pins σ' H' s' ∧ EnvOk X.K G0 H0 G' H' σ' (ρ.set 2 (some (.v d)))) ∧ Gp X gpN s') X.xe s := by
  obtain ⟨v, hv, dv⟩ := En.sl 1 _ hρ
  have dv : Dq X.K G v (.str (S [pt])) := dv
  cases dv with
  | str _ hz =>
  refine wpAny_Assign_Name (Subscript_ (wpAny_mono (gap_list hcs I hh hN hpk hv hfree hcell hkind hnames hx hcl hrel X.xe) (fun v1 s1 z => ?_) fun _ _ z => z)) hs
  obtain ⟨D, ys, rfl, hl, hD, I1, t, ht, hys⟩ := z
  obtain ⟨kk, I2⟩ := pin_new I I1 hD hl
  refine wpAny_mono (wpAny_toks (hb.run _ s1 σ H (fun x H2 => ∃ G2, Gr G H G2 H2 ∧ Dq X.K G2 x (.int k)) I2 ⟨G0, H0, G, ρ, En, by rw [hk]; exact fun v G1 H1 g z => ⟨G1, g, z⟩⟩)) (fun v2 s2 z => ?_) fun _ _ z => z.2
  obtain ⟨ht2, x2, H2, I3, r2, G2, g2, z2⟩ := z
  cases z2
  obtain ⟨t2, rfl⟩ := r2
  have hD3 := (I3.pin (D, _) (List.mem_append_right _ (List.mem_append_right _ (List.mem_singleton.mpr rfl)))).1
  obtain ⟨xt, u, e1, e2, e3⟩ := signs_good t pt hpt k.toNat (by omega)
  have hyk : ys[k.toNat]? = some (.str xt u) := by rw [← Array.getElem?_toList, hys]; exact e1
  refine item_listR (items := ys) ⟨_, hD3, rfl, _, rfl⟩ h0 (by omega) hyk ?_ (hix _ _)
  have I4 := I3.unpinned
  have hg : GoodV s2.toks (.str xt u) := e3.mono (Nat.le_trans ht ht2)
  have hxz : xt.length ≤ sizeLine := by
    have : ∀ x : Str, some (PyData.str x) ∈ ((gapsD pt).map some) → x.length ≤ sizeLine := by
      intro x hx
      simp only [pts, List.mem_cons, List.not_mem_nil, or_false] at hpt
      have key : ∀ l : List PyData, (∀ d ∈ l, ∃ y : Str, d = .str y ∧ y.length ≤ sizeLine) → some (PyData.str x) ∈ l.map some → x.length ≤ sizeLine := by
        intro l hl hm
        obtain ⟨d, hd, e⟩ := List.mem_map.mp hm
        cases e
        obtain ⟨y, e, hy⟩ := hl _ hd
        cases e
        exact hy
      refine key _ ?_ hx
      unfold gapsD gapsBut gps
      intro d hd
      obtain ⟨g, hg, rfl⟩ := List.mem_map.mp hd
      have hg := (List.mem_filter.mp hg).1
      refine ⟨_, rfl, ?_⟩
      simp only [List.mem_cons, List.not_mem_nil, or_false] at hg
      rcases hg with rfl | rfl | rfl | rfl | rfl | rfl | rfl <;> decide
    exact this xt (List.mem_map.mpr ⟨_, List.mem_of_getElem? e2, rfl⟩)
  have noCls : (X.env.scope.kind == .class || (X.env.scope.kind == .module && X.env.locals != X.env.globals)) = false := by rw [I.ok.kind]; rfl
  obtain ⟨m, hn, _⟩ := I4.loc
  refine wpAny_mono (wpAny_both (store_ok (v := .str xt) (E := X.xe) (Q := fun _ s' => Inv X pins (σ.set 2 (some (.str xt))) H2 s') I4 hnd hN2 (.inl hgl) ⟨u, rfl⟩ (fun _ z => z) (.inr hgl))
    (wpAny_storeName_local (E := X.xe) (Q := fun _ s' => Gp X gpN s') hgl hn (fun h' n' _ => ⟨_, _, n', by simp, hg.mono (Nat.le_succ _)⟩) noCls)) (fun _ s3 z => ?_) fun _ _ z => z.1
  exact ⟨rfl, _, H2, G2, e2, g2, ⟨_, z.1, (En.grow g2).set (.str xt hxz)⟩, z.2⟩
end
end L2.Pz

namespace L2.Pz
open PySem PySem.Spec PyProof.Rows
/-! ### a tuple that is known, given back -/
section
variable {X : Cx} {W : WX} {pins : List (Addr × Obj)} {σ : St} {G0 H0 G H : Hp} {ρ : En} {s : Shared} {y : Str} {e0 : Expr} {es : List Expr} {f0 : EF} {fs : List EF} {p1 pos pos' : Pos} {j : Nat} {i : Nat}
/-- how such a tuple is born -/
def Born (X : Cx) (pins : List (Addr × Obj)) (σ : St) (G H : Hp) (ds : List PyData) (fl : Flow) (s' : Shared) : Prop :=
  ∃ a ob xs H1 G1, fl = .ret (.ref a) ∧ Inv X pins σ (upd H1 a (.frz ob (.tup xs))) s' ∧ Gr G H G1 H1 ∧ H1 a = none ∧ TokO s'.toks ob ∧ DqAll X.K G1 xs ds
theorem ret_born {d0 : PyData} {gt : Str} {ds : List PyData} (I : Inv X pins σ H s) (E : EnvOk X.K G0 H0 G H σ ρ) (T : Gp X y s) (hp : PDm X W y e0 f0) (hr : PLm X W y es fs) (h0 : f0 ρ = .ok d0) (h1 : eV i ρ = .ok (.str gt)) (h2 : eL fs ρ = .ok ds) (h3 : ds.length = 3)
    (hN : X.N[i]? = some y) (hl : X.env.scope.names.lookup y = some .local) (hd : (y == ("__debug__" : Str)) = false) (hcd : (y == ("__classdict__" : Str)) = false)
    (hs : starEach (e0 :: .Name y p1 :: es) X.env = (false, eval e0 X.env) :: (false, eval (.Name y p1) X.env) :: starEach es X.env := by rfl) :
    wpAny (model X.prog X.w) X.A (exec (.Return (some (.Tuple (e0 :: .Name y p1 :: es) j pos)) pos') X.env) (Born X pins σ G H (d0 :: .str gt :: ds)) X.xe s := by
  have bt : ∀ l : List (Bool × Sem Value), backTo pos ((false, eval e0 X.env) :: (false, eval (.Name y p1) X.env) :: l) = (false, eval e0 X.env) :: (false, eval (.Name y p1) X.env) :: backTo pos l := fun _ => rfl
  refine wpAny_Return_some (wpAny_Tuple_spliced ?_)
  rw [hs, bt]
  refine Calls.spliced_cons (hp.go I E T (fun d k1 v s1 x H1 G1 g1 I1 T1 r1 z1 => Calls.spliced_cons ?_) (fun c k1 => by rw [h0] at k1; cases k1) (by rw [h0]; exact fun z => nomatch z))
  rw [h0] at k1
  cases k1
  obtain ⟨vg, hv1, hv2⟩ := env_v (E.grow g1) h1
  obtain ⟨m, u, hn, hm, hg⟩ := T1
  refine wpAny_mono (wpAny_both (raw_name (E := X.xe) (Q := fun u' s' => RelV vg u' ∧ s' = s1) (pos := p1) hN (.inl hl) I1 hv1 (fun u' r => ⟨r, rfl⟩) hd hcd) (wpAny_Name (E := X.xe) (Q := fun u' s' => u' = u) (wpAny_loadName_local I1.ok.kind hl hn hm rfl) hd)) (fun u' s' z => ?_) fun _ _ z => z.1
  obtain ⟨⟨rg, rfl⟩, rfl⟩ := z
  refine wpAny_with_toks (Nat.le_refl _) (wpAny_mono (hr.go I1 (E.grow g1) ⟨m, _, hn, hm, hg⟩ (fun ds' k2 us s2 vs H2 G2 g2 I2 T2 r2 z2 ht => ?_) (fun c k2 => by rw [h2] at k2; cases k2) (by rw [h2]; exact fun z => nomatch z)) (fun _ _ z => z) fun _ _ z _ => z)
  rw [h2] at k2
  cases k2
  have l3 : us.length = 3 := by rw [← r2.length, dpAll_len z2]; exact h3
  have hz : (v :: u' :: us).length ≤ sizeLine := by simp only [List.length_cons, l3]; decide
  have vz : Vals (x :: vg :: vs) (v :: u' :: us) := .cons r1 (.cons rg r2)
  refine ⟨hz, s2.heap.objs.size, { cls := .type "tuple", data := .seq (v :: u' :: us).toArray }, x :: vg :: vs, H2, G2, rfl, ?_, g1.trans g2, I2.hok.fresh (Nat.le_refl _), ?_, .cons (dp_mono g2.g z1) (.cons (dp_mono g2.g hv2) z2)⟩
  · exact I2.laid (t' := s2.toks) (o := .frz _ (.tup _)) (fun b u e => Heap.get?_push_of_some _ e) (Nat.le_refl _) ⟨Heap.get?_push_size _ rfl, by rw [vz.length]; exact hz, _, vz, ⟨_, Heap.get?_push_size _ rfl, rfl, _, rfl⟩⟩
  · refine ⟨rfl, rfl, _, _, rfl, fun _ xx tt hx hne => ?_⟩
    have hu : u' = .str xx tt := by
      have : (v :: u' :: us)[1]? = some (Value.str xx tt) := by simpa using hx
      simpa using this
    subst hu
    exact hg.mono ht hne
end
end L2.Pz

namespace L2.Pz
open PySem PySem.Spec PyProof.Rows L2.Pz.Fn
/-! ### the manner is drawn -/
noncomputable def g1M : SF := sAsg (gN 1) (e2 ixD (eC (.str (S [46, 44, 39, 59]))) (eCall F__law_mix [(eV 0), (eC (.int 9859)), (eC (.int 4))]))
noncomputable def fbM : EF := eCall F__law_mix [(eV 0), (eC (.int 9857)), (eC (.int 6))]
noncomputable def g3M : SF := sAsg (gN 3) (eTup [(e2 addD (eC (.int 1)) (eCall F__law_mix [(eV 0), (eC (.int 9851)), (eC (.int 5))]))])
noncomputable def g4M : SF := sIf (bT (e2 eqD (eCall F__law_mix [(eV 0), (eC (.int 9839)), (eC (.int 3))]) (eC (.int 0)))) (sAsg (gN 3) (e2 addD (eV 3) (eTup [(e2 addD (eC (.int 1)) (eCall F__law_mix [(eV 0), (eC (.int 9833)), (eC (.int 5))]))]))) sNx
noncomputable def g5M : SF := sAsg (gN 4) (e2 ixD (eTup [(eC (.str (S [97, 104, 101, 97, 100]))), (eC (.str (S [98, 101, 104, 105, 110, 100]))), (eC (.str (S [98, 114, 97, 99, 107, 101, 116, 115])))]) (eCall F__law_mix [(eV 0), (eC (.int 9829)), (eC (.int 3))]))
noncomputable def f5M : EF := e2 addD (eC (.int 1)) (eCall F__law_mix [(eV 0), (eC (.int 9817)), (eC (.int 4))])
theorem g1M_eq (c : Int) : g1M [some (.v (.int c)), none, none, none, none] = .nx [some (.v (.int c)), some (.v (.str (S [(mannerOf c).pt]))), none, none, none] := by
  have a0 := mix_nn c 9859 (m := 4) (by decide)
  have a1 := mix_lt c 9859 (m := 4) (by decide)
  have p1 : atI [46, 44, 39, 59] (mixI c 9859 4) = some (pts.getD (mixI c 9859 4).toNat 0) := by
    rcases four a0 a1 with h | h | h | h <;> rw [h] <;> rfl
  unfold g1M mannerOf
  generalize pts.getD (mixI c 9859 4).toNat 0 = pt at *
  simp [mix_eq, p1, S_one]
theorem fbM_eq (c : Int) (x1 x2 x3 x4 : Option Sl) : fbM [some (.v (.int c)), x1, x2, x3, x4] = .ok (.int (mixI c 9857 6)) := by
  unfold fbM
  simp [mix_eq]
theorem f5M_eq (c : Int) (x1 x2 x3 x4 : Option Sl) : f5M [some (.v (.int c)), x1, x2, x3, x4] = .ok (.int ((mannerOf c).ls : Nat)) := by
  have f0 := mix_nn c 9817 (m := 4) (by decide)
  have e3 : 1 + mixI c 9817 4 = (((1 + mixI c 9817 4).toNat : Nat) : Int) := by omega
  unfold f5M mannerOf
  simp [mix_eq, ← e3]
theorem g3M_eq (c : Int) (d1 d2 : PyData) : g3M [some (.v (.int c)), some (.v d1), some (.v d2), none, none] = .nx [some (.v (.int c)), some (.v d1), some (.v d2), some (.v (.tuple [.int ((mannerOf c).s0 : Nat)])), none] := by
  have c0 := mix_nn c 9851 (m := 5) (by decide)
  have e1 : 1 + mixI c 9851 5 = (((1 + mixI c 9851 5).toNat : Nat) : Int) := by omega
  unfold g3M mannerOf
  simp [mix_eq, ← e1]
theorem g4M_eq (c : Int) (d1 d2 : PyData) : g4M [some (.v (.int c)), some (.v d1), some (.v d2), some (.v (.tuple [.int ((mannerOf c).s0 : Nat)])), none] = .nx [some (.v (.int c)), some (.v d1), some (.v d2), some (.v (.tuple (mannerOf c).sz)), none] := by
  have d0 := mix_nn c 9833 (m := 5) (by decide)
  have z2 : 2 ≤ sizeLine := by decide
  have e2 : 1 + mixI c 9833 5 = (((1 + mixI c 9833 5).toNat : Nat) : Int) := by omega
  unfold g4M Man.sz mannerOf
  by_cases k : mixI c 9839 3 = 0
  · simp [mix_eq, k, z2, ← e2]
  · simp [mix_eq, k]
theorem g5M_eq (c : Int) (d1 d2 d3 : PyData) : g5M [some (.v (.int c)), some (.v d1), some (.v d2), some (.v d3), none] = .nx [some (.v (.int c)), some (.v d1), some (.v d2), some (.v d3), some (.v (.str (S (sgS (mannerOf c).sg))))] := by
  have g0 := mix_nn c 9829 (m := 3) (by decide)
  have g1 := mix_lt c 9829 (m := 3) (by decide)
  have p3 : atI ([.str (S [97, 104, 101, 97, 100]), .str (S [98, 101, 104, 105, 110, 100]), .str (S [98, 114, 97, 99, 107, 101, 116, 115])] : List PyData) (mixI c 9829 3) = some (.str (S (sgS (if mixI c 9829 3 = 0 then .ahead else if mixI c 9829 3 = 1 then .behind else .brackets)))) := by
    rcases three g0 g1 with h | h | h <;> rw [h] <;> rfl
  unfold g5M mannerOf
  simp [mix_eq, p3]
theorem gap_at (c : Int) : (gapsD (mannerOf c).pt)[(mixI c 9857 6).toNat]? = some (.str (S (mannerOf c).gp)) := by
  have a0 := mix_nn c 9859 (m := 4) (by decide)
  have a1 := mix_lt c 9859 (m := 4) (by decide)
  have b0 := mix_nn c 9857 (m := 6) (by decide)
  have b1 := mix_lt c 9857 (m := 6) (by decide)
  unfold mannerOf
  rcases four a0 a1 with h | h | h | h <;> rw [h] <;> rcases six b0 b1 with h | h | h | h | h | h <;> rw [h] <;> rfl
section
variable {X : Cx} {W : WX} {pins : List (Addr × Obj)} {s : Shared} {σ : St} {G0 H0 G H : Hp} {ρ ρ' : En} {st : Stmt} {g : SF}
theorem ps1_nx (h : PS1 X W st g) (I : Inv X pins σ H s) (E : EnvOk X.K G0 H0 G H σ ρ) (k : g ρ = .nx ρ') :
    wpAny (model X.prog X.w) X.A (exec st X.env) (fun fl s' => fl = .next ∧ ∃ σ' H' G', Inv X pins σ' H' s' ∧ EnvOk X.K G0 H0 G' H' σ' ρ') X.xe s := by
  refine wpAny_mono (h.run pins s σ H (DT X.K G0 H0 G (g ρ)) I ⟨G0, H0, G, ρ, E, pos_dt (R := rbEq) rbEq_ok (by rw [k]; exact trivial)⟩) (fun fl s' z => ?_) fun _ _ z => z
  rw [k] at z
  cases fl with
  | next => obtain ⟨σ', H', I', ρ2, G', e, E', _⟩ := z; cases e; exact ⟨rfl, σ', H', G', I', E'⟩
  | brk => obtain ⟨σ', H', I', ρ2, G', e, E', _⟩ := z; cases e
  | cont => obtain ⟨σ', H', I', ρ2, G', e, E', _⟩ := z; cases e
  | ret u => obtain ⟨v, σ', H', I', rv, d, G', e, _⟩ := z; cases e
theorem psm_nx {y : Str} (h : PSm X W y st g) (I : Inv X pins σ H s) (E : EnvOk X.K G0 H0 G H σ ρ) (T : Gp X y s) (k : g ρ = .nx ρ') :
    wpAny (model X.prog X.w) X.A (exec st X.env) (fun fl s' => fl = .next ∧ ∃ σ' H' G', Inv X pins σ' H' s' ∧ EnvOk X.K G0 H0 G' H' σ' ρ' ∧ Gp X y s') X.xe s := by
  refine wpAny_mono (h pins s σ H G0 H0 G ρ I E T (by rw [k]; exact trivial)) (fun fl s' z => ?_) fun _ _ z => z
  rw [k] at z
  obtain ⟨z, T'⟩ := z
  cases fl with
  | next => obtain ⟨σ', H', I', ρ2, G', e, E', _⟩ := z; cases e; exact ⟨rfl, σ', H', G', I', E', T' rfl⟩
  | brk => obtain ⟨σ', H', I', ρ2, G', e, E', _⟩ := z; cases e
  | cont => obtain ⟨σ', H', I', ρ2, G', e, E', _⟩ := z; cases e
  | ret u => obtain ⟨v, σ', H', I', rv, d, G', e, _⟩ := z; cases e
end
section
variable {X : Cx} {W : WX} {scope : Scope} {p1 p2 p3 p4 p5 p6 p7 q0 q1 q2 q3 q4 q5 q6 px py pos pos' spos rpos rpos' : Pos} {j0 j1 j2 j3 j4 j5 j6 j7 j8 : Nat} {b e0 : Expr} {es : List Expr} {c0 c1 c2 c3 c4 c5 c6 : Str} {S1 S3 S4 S5 : Stmt}
theorem manner_body (h1 : PS1 X W S1 g1M) (hb : PD X W b fbM) (h3 : PSm X W gpN S3 g3M) (h4 : PSm X W gpN S4 g4M) (h5 : PSm X W gpN S5 g5M) (hp : PDm X W gpN e0 (eV 1)) (hr : PLm X W gpN es [eV 3, eV 4, f5M]) (hcs : [c0, c1, c2, c3, c4, c5, c6] = [S [], S [46], S [44], S [39], S [59], S [32], S [95]])
    (hh : X.A.handled = none) (hN : X.N[1]? = some ptS) (hN2 : X.N[2]? = some gpN) (hnd : X.N.Nodup) (hgl : X.env.scope.names.lookup gpN = some .local) (hpk : X.env.scope.names.lookup ptS = some .cell)
    (hfree : ∀ y ∈ scope.names, y.2 = .free → y.1 = ptS) (hcell : ∀ y ∈ scope.names, y.2 ≠ .cell) (hkind : scope.kind = .function) (hnames : ∀ y ∈ scope.names, y.2 = .local → scope.names.lookup y.1 = some .local) (hx : scope.names.lookup sgN = some .local)
    (hcl : ∀ cells : List (Str × Addr), (cloFrom cells scope.names []).lookup ptS = some ((cells.lookup ptS).getD 0)) (hrel : (relabel scope X.env).names.lookup ptS = some .cell)
    (hix : ∀ o i, subscripted b false o i = operate [o, i] (getItem o i))
    (hs : swapsWith (.Subscript (.ListComp (.Name sgN p1) [⟨.Name sgN px, .Tuple [.Constant (.str c0) j0 q0, .Constant (.str c1) j1 q1, .Constant (.str c2) j2 q2, .Constant (.str c3) j3 q3, .Constant (.str c4) j4 q4, .Constant (.str c5) j5 q5, .Constant (.str c6) j6 q6] j7 p5, [.Compare (.Name sgN p2) [.NotEq] [.Name ptS p3] p4], 0⟩] scope pos) b pos') (some (.Name gpN py)) spos.line X.env = pure false)
    (hse : starEach (e0 :: .Name gpN p7 :: es) X.env = (false, eval e0 X.env) :: (false, eval (.Name gpN p7) X.env) :: starEach es X.env)
    {pins : List (Addr × Obj)} {s : Shared} {σ : St} {G H : Hp} {n : Int} (I : Inv X pins σ H s) (En : EnvOk X.K G H G H σ [some (.v (.int n)), none, none, none, none]) :
    wpAny (model X.prog X.w) X.A (execs [S1, .Assign [.Name gpN py] (.Subscript (.ListComp (.Name sgN p1) [⟨.Name sgN px, .Tuple [.Constant (.str c0) j0 q0, .Constant (.str c1) j1 q1, .Constant (.str c2) j2 q2, .Constant (.str c3) j3 q3, .Constant (.str c4) j4 q4, .Constant (.str c5) j5 q5, .Constant (.str c6) j6 q6] j7 p5, [.Compare (.Name sgN p2) [.NotEq] [.Name ptS p3] p4], 0⟩] scope pos) b pos') spos, S3, S4, S5, .Return (some (.Tuple (e0 :: .Name gpN p7 :: es) j8 rpos)) rpos'] X.env)
      (fun fl s' => ∃ σ', Born X pins σ' G H [.str (S [(mannerOf n).pt]), .str (S (mannerOf n).gp), .tuple (mannerOf n).sz, .str (S (sgS (mannerOf n).sg)), .int ((mannerOf n).ls : Nat)] fl s') X.xe s := by
  refine wpAny_execs_cons (wpAny_mono (ps1_nx h1 I En (g1M_eq n)) (fun fl s1 z => ?_) fun _ _ z => z)
  obtain ⟨rfl, σ1, H1, G1, I1, E1⟩ := z
  refine wpAny_execs_cons (wpAny_mono (gap_set (manner_ok n).pt hb hcs I1 E1 rfl (fbM_eq n _ _ _ _) (mix_nn _ _ (by decide)) (mix_lt _ _ (by decide)) hh hN hN2 hnd hgl hpk hfree hcell hkind hnames hx hcl hrel hix hs) (fun fl s2 z => ?_) fun _ _ z => z)
  obtain ⟨rfl, d, H2, G2, hd, g2, ⟨σ2, I2, E2⟩, T2⟩ := z
  rw [gap_at] at hd
  cases hd
  refine wpAny_execs_cons (wpAny_mono (psm_nx h3 I2 E2 T2 (g3M_eq n _ _)) (fun fl s3 z => ?_) fun _ _ z => z)
  obtain ⟨rfl, σ3, H3, G3, I3, E3, T3⟩ := z
  refine wpAny_execs_cons (wpAny_mono (psm_nx h4 I3 E3 T3 (g4M_eq n _ _)) (fun fl s4 z => ?_) fun _ _ z => z)
  obtain ⟨rfl, σ4, H4, G4, I4, E4, T4⟩ := z
  refine wpAny_execs_cons (wpAny_mono (psm_nx h5 I4 E4 T4 (g5M_eq n _ _ _)) (fun fl s5 z => ?_) fun _ _ z => z)
  obtain ⟨rfl, σ5, H5, G5, I5, E5, T5⟩ := z
  have eds : eL [eV 3, eV 4, f5M] [some (.v (.int n)), some (.v (.str (S [(mannerOf n).pt]))), some (.v (.str (S (mannerOf n).gp))), some (.v (.tuple (mannerOf n).sz)), some (.v (.str (S (sgS (mannerOf n).sg))))] = .ok [.tuple (mannerOf n).sz, .str (S (sgS (mannerOf n).sg)), .int ((mannerOf n).ls : Nat)] := by simp [f5M_eq]
  refine wpAny_execs_cons (wpAny_mono (ret_born I5 E5 T5 hp hr rfl rfl eds rfl hN2 hgl (by decide) (by decide) hse) (fun fl s6 z => ?_) fun _ _ z => z)
  obtain ⟨a, ob, xs, H6, G6, rfl, I6, g6, n6, t6, d6⟩ := z
  exact ⟨σ5, a, ob, xs, H6, G6, rfl, I6, E5.gr.trans g6, n6, t6, d6⟩
end
end L2.Pz

namespace L2.Pz
open PySem PySem.Spec PyProof.Rows L2.Pz.Fn
/-! ### a def that gives a known tuple, and the line that takes it -/
def CB (K : PySem.W.Frag) (P : Program) (w : World) (outer : List Env) (G H : Hp) (s : Shared) (ds : List PyData) (r : Result) (s' : Shared) : Prop :=
  ∃ a ob xs H1 G1, r = .ok (.ret (.ref a)) ∧ s'.os = s.os ∧ AllBare s'.gens ∧ Un (frs outer) [] H (upd H1 a (.frz ob (.tup xs))) s.heap s'.heap ∧ HOk P w (upd H1 a (.frz ob (.tup xs))) s'.heap ∧ Gr G H G1 H1 ∧ H1 a = none ∧ TokO s'.toks ob ∧ DqAll K G1 xs ds
structure HasB (P : Program) (w : World) (K : PySem.W.Frag) (mg : Str → Option Value) (base : Heap) (k : Nat) (x : Str) (F : Int → List PyData) : Prop where
  ex : ∃ (fa : Addr) (fd : FuncData) (p : Str), (∀ (A : Around) (outer : List Env) (s : Shared) (G H : Hp) (args : Args) (us : List Value) (n : Int), Room k A → Env0 P w K mg base A outer s H → BindsTo s fd args ([p].zip us) → Vals [.int n] us → Same G H →
    codeAny (model P w) A (.call (.ref fa) args) (CB K P w outer G H s (F n)) s) ∧ mg x = some (.ref fa) ∧ PySem.W.keepIn K (.ref fa) = true ∧ Binds K fd [p] []
section
variable {P : Program} {w : World} {K : PySem.W.Frag} {mg : Str → Option Value} {base : Heap}
theorem hasB_of {x qual : Str} {params : Arguments} {body : List Stmt} {scope : Scope} {kws : List (Str × V)} {f : Addr} {fd : FuncData} {N : List Str} {p : Str} {k : Nat} {Fd : Int → List PyData} (F : FunD K x qual params body scope [] kws f fd) (S : FnScope N [p] scope) (hm : mg x = some (.ref f)) (hl : N.length = 5)
    (hbd : ∀ (kV doc pm : Value) (an : Option Addr) (cdv ct : Value) (us : List Value), us.length = [p].length → bindArgs (PySem.W.fnOf x qual params body scope .none kV doc pm an cdv ct) ⟨us, []⟩ = pure ([p].zip us))
    (hb : ∀ (cdv : Value) (A : Around) (outer : List Env) (s : Shared) (H : Hp) (E : XK), Cok (cxOf (L2.CX P w) P w K mg base N qual scope f cdv A outer s H E) (fun cls d _ H => E cls d H) k →
      ∀ (s1 : Shared) (σ : St) (G : Hp) (n : Int), Inv (cxOf (L2.CX P w) P w K mg base N qual scope f cdv A outer s H E) [] σ H s1 → EnvOk K G H G H σ [some (.v (.int n)), none, none, none, none] →
      wpAny (model P w) (A.deeper (envOfC qual scope s.heap.objs.size f cdv)) (execs body (envOfC qual scope s.heap.objs.size f cdv)) (fun fl s' => ∃ σ', Born (cxOf (L2.CX P w) P w K mg base N qual scope f cdv A outer s H E) [] σ' G H (Fd n) fl s') (cxOf (L2.CX P w) P w K mg base N qual scope f cdv A outer s H E).xe s1) :
    HasB P w K mg base (k + 1) x Fd := by
  refine ⟨f, fd, p, fun A outer s G H args us n hr e0 hbn r sG => ?_, hm, F.kp, F.bindsN hbd⟩
  refine in_def (E := fun _ _ _ => False) F S hr e0 hbn r rfl (fun cdv s1 tk I hr1 => ?_) fun e s' z => ?_
  · have cc : Cok (cxOf (L2.CX P w) P w K mg base N qual scope f cdv A outer s H fun _ _ _ => False) (fun cls d _ H => False) k := ⟨hr1, takes_of rfl rfl rfl rfl, passes_of rfl⟩
    have E0 : EnvOk K G H G H (start N [.int n]) (startE N.length [.int n]) := env_start sG (.cons (.int n) .nil)
    rw [hl] at E0
    refine wpAny_mono (hb cdv A outer s H (fun _ _ _ => False) cc s1 (start N [.int n]) G n I E0) (fun fl s' z => ?_) fun _ _ z => z
    obtain ⟨σ', a, ob, xs, H1, G1, rfl, J, g, n1, t, d⟩ := z
    exact ⟨a, ob, xs, H1, G1, rfl, J.os, J.bare, J.base, J.hok, g, n1, t, d⟩
  · obtain ⟨a, B, H', cls, d, _, _, _, _, _, _, _, z⟩ := z
    exact z.elim
end
/-- x = f(e), f's tuple known -/
@[simp] def sAsgB (i : Nat) (Fd : Int → List PyData) (f : EF) (ρ : En) : SR := match f ρ with
  | .ok (.int n) => .nx (ρ.set i (some (.g (.tuple (Fd n)))))
  | _ => .no
theorem EnvOk.setG {K : PySem.W.Frag} {G0 H0 G H : Hp} {σ : St} {ρ : En} {v : V} {d : PyData} {i : Nat} (E : EnvOk K G0 H0 G H σ ρ) (h : Dq K G v d) (kn : KnV G v) : EnvOk K G0 H0 G H (σ.set i (some v)) (ρ.set i (some (.g d))) := by
  have ne : ∀ {j : Nat} {ds : List PyData}, (ρ.set i (some (.g d)))[j]? = some (some (.own ds)) → i ≠ j := fun {j ds} h e => by
    subst e
    rw [List.getElem?_set] at h
    simp only [if_true] at h
    split at h <;> cases h
  refine ⟨E.gr, by simp [E.len], fun j s hj => ?_, fun j k ds es a h1 h2 h3 h4 => ?_⟩
  · by_cases e : i = j
    · subst e
      by_cases hl : i < ρ.length
      · rw [List.getElem?_set_self hl] at hj
        cases hj
        exact ⟨v, List.getElem?_set_self (by rw [E.len]; exact hl), h, kn⟩
      · rw [List.getElem?_eq_none (by simp; omega)] at hj
        cases hj
    · rw [List.getElem?_set_ne e] at hj ⊢
      exact E.sl j s hj
  · have n1 := ne h1
    have n2 := ne h2
    rw [List.getElem?_set_ne n1] at h1 h3
    rw [List.getElem?_set_ne n2] at h2 h4
    exact E.inj j k ds es a h1 h2 h3 h4
theorem same_upd2 {G0 G : Hp} {a : Addr} {o : HO} (h : Same G0 G) : Same (upd G0 a o) (upd G a o) := fun b u e => by
  by_cases hb : b = a
  · subst hb; rw [upd_same] at e ⊢; exact e
  · rw [upd_ne hb] at e ⊢; exact h b u e
section
variable {X : Cx} {W : WX} {e : Expr} {f : EF} {i : Nat} {pos : Pos}
theorem env_born {K : PySem.W.Frag} {G0 H0 G H G1 H1 : Hp} {σ : St} {ρ : En} {a : Addr} {ob : Obj} {xs : List V} {ds : List PyData} (E : EnvOk K G0 H0 G H σ ρ) (g : Gr G H G1 H1) (n : H1 a = none) (d : DqAll K G1 xs ds) :
    RbNew G0 H0 (upd G0 a (.frz ob (.tup xs))) (upd H0 a (.frz ob (.tup xs))) ∧ EnvOk K (upd G0 a (.frz ob (.tup xs))) (upd H0 a (.frz ob (.tup xs))) (upd G1 a (.frz ob (.tup xs))) (upd H1 a (.frz ob (.tup xs))) σ ρ ∧ Same G (upd G1 a (.frz ob (.tup xs))) ∧ Dq K (upd G1 a (.frz ob (.tup xs))) (.ref a) (.tuple ds) ∧ KnV (upd G1 a (.frz ob (.tup xs))) (.ref a) := by
  have E1 := E.grow g
  have nG1 : G1 a = none := E1.gr.sub.free n
  have nG0 : G0 a = none := E1.gr.g.free nG1
  have nH0 : H0 a = none := E1.gr.h.free n
  refine ⟨⟨same_upd nG0, same_upd nH0, fun b h0 g0 => ?_⟩, ?_, g.g.trans (same_upd nG1), ?_, ⟨a, ob, xs, rfl, upd_same⟩⟩
  · by_cases hb : b = a
    · subst hb; exact absurd nH0 h0
    · rw [upd_ne hb]; exact g0
  · refine ⟨⟨same_upd2 E1.gr.sub, same_upd2 E1.gr.g, same_upd2 E1.gr.h, fun b h0 g0 => ?_, fun b o ys z => ?_⟩, E1.len, fun j sl hj => ?_, E1.inj⟩
    · by_cases hb : b = a
      · subst hb; rw [upd_same] at g0; cases g0
      · rw [upd_ne hb] at h0 g0 ⊢; exact E1.gr.n b h0 g0
    · by_cases hb : b = a
      · subst hb; rw [upd_same] at z ⊢; exact z
      · rw [upd_ne hb] at z ⊢; exact E1.gr.nf b o ys z
    · obtain ⟨v, h1, h2⟩ := E1.sl j sl hj
      refine ⟨v, h1, ?_⟩
      cases sl with
      | v d => exact dp_mono (same_upd nG1) h2
      | x b => exact h2
      | g d => obtain ⟨z1, b, o, ys, rfl, z2⟩ := h2; exact ⟨dp_mono (same_upd nG1) z1, b, o, ys, rfl, same_upd nG1 _ _ z2⟩
      | own es =>
        obtain ⟨b, ys, rfl, z1, z2, z3, z4⟩ := h2
        have hb : b ≠ a := fun z => by subst z; rw [n] at z3; cases z3
        exact ⟨b, ys, rfl, by rw [upd_ne hb]; exact z1, by rw [upd_ne hb]; exact z2, by rw [upd_ne hb]; exact z3, dpAll_mono (same_upd nG1) z4⟩
  · exact .tup (.inl (.inr ⟨ob, upd_same⟩)) (dpAll_mono (same_upd nG1) d)
theorem tk_born {n m : Nat} {G0 : Hp} {a : Addr} {ob : Obj} {xs : List V} (T : Tk n G0) (h : n ≤ m) (t : TokO m ob) : Tk m (upd G0 a (.frz ob (.tup xs))) := fun b o ys z => by
  by_cases hb : b = a
  · subst hb; rw [upd_same] at z; cases z; exact t
  · rw [upd_ne hb] at z; exact (T b o ys z).mono h
/-- the call, raw -/
theorem call_born {x : Str} {k j : Nat} {Fd : Int → List PyData} {pn : Pos} {pins : List (Addr × Obj)} {s : Shared} {σ : St} {G0 H0 G H : Hp} {ρ : En} {n : Int} (c : Cok X W j) (h : HasB X.prog X.w X.K X.mg X.base k x Fd) (hj : k ≤ j) (hg : Gl X x) (ka : PDt X W e f) (I : Inv X pins σ H s) (E : EnvOk X.K G0 H0 G H σ ρ) (T : Tk s.toks G0) (hn : f ρ = .ok (.int n))
    (hdb : (x == ("__debug__" : Str)) = false) (he : starEach [e] X.env = [(false, eval e X.env)]) :
    wpAny (model X.prog X.w) X.A (eval (.Call (.Name x pn) [e] [] pos) X.env) (fun u s' => ∃ a ob xs H1 G1, u = .ref a ∧ Inv X pins σ (upd H1 a (.frz ob (.tup xs))) s' ∧ Gr G H G1 H1 ∧ H1 a = none ∧ TokO s'.toks ob ∧ DqAll X.K G1 xs (Fd n) ∧ Tk s'.toks G0) X.xe s := by
  obtain ⟨fa, fd, p, h1, h2, h3, h4⟩ := h.ex
  refine wpAny_Call_Name_kw (ld_glob I hg h2 ?_ hdb)
  refine PySem.W.callWith_K (h₀ := X.base) I.ok.mod.kin h3 (Q := _) ?_ he rfl
  have bt : backTo pos (starEach [e] X.env) = [(false, eval e X.env)] := by rw [he]; rfl
  rw [bt]
  refine Calls.spliced_cons (ka.go I E T (fun d k1 v s1 xv H1 G1 g1 I1 T1 r1 z1 => Calls.spliced_nil ⟨I1.kIn, ?_⟩) (fun c k1 => by rw [hn] at k1; cases k1) (by rw [hn]; exact fun z => nomatch z))
  rw [hn] at k1
  cases k1
  cases z1
  have hb := h4 s1 [v] I1.kIn rfl
  rw [List.append_nil] at hb
  refine wpAny_call (codeAny_mono (codeAny_toks_of (Nat.le_refl _) (h1 X.A X.stack s1 G1 H1 ⟨[v], []⟩ [v] n (c.hr.mono hj) I1.env0 hb (.cons r1 .nil) g1.sub)) fun r s' hq => ?_)
  obtain ⟨tk, a, ob, xs, H2, G2, rfl, os, bare, un, hok, g2, n2, t2, d2⟩ := hq
  have ce : CE X.stack X.prog X.w H1 s1 (fun v H' => v = .ref a ∧ H' = upd H2 a (.frz ob (.tup xs))) (.ref a) s' := ⟨.ref a, _, os, bare, un, hok, rfl, rfl, rfl⟩
  obtain ⟨v', H', I2, _, _, rfl⟩ := I1.after ce
  exact ⟨a, ob, xs, H2, G2, rfl, I2, g1.trans g2, n2, t2, d2, T1.mono tk⟩
theorem pst_born {x y : Str} {k j : Nat} {Fd : Int → List PyData} {pn px : Pos} {cpos : Pos} (c : Cok X W j) (h : HasB X.prog X.w X.K X.mg X.base k x Fd) (hj : k ≤ j) (hg : Gl X x) (ka : PDt X W e f) (hN : X.N.Nodup) (hi : X.N[i]? = some y) (hy : Loc X.env.scope y) (hfn : X.fn y = true ∨ X.env.scope.names.lookup y = some .local) (hdb : (x == ("__debug__" : Str)) = false := by decide) (he : starEach [e] X.env = [(false, eval e X.env)] := by rfl)
    (hs : swapsWith (.Call (.Name x pn) [e] [] cpos) (some (.Name y px)) pos.line X.env = pure false := by rfl) :
    PSt X W RbNew (.Assign [.Name y px] (.Call (.Name x pn) [e] [] cpos) pos) (sAsgB i Fd f) := fun pins s σ H G0 H0 G ρ I E T q => by
  unfold sAsgB at q ⊢
  split at q
  · rename_i n hn
    refine wpAny_Assign_Name (wpAny_mono (call_born c h hj hg ka I E T hn hdb he) (fun u s1 z => ?_) fun _ _ z => z) hs
    obtain ⟨a, ob, xs, H1, G1, rfl, I1, g1, n1, t1, d1, T1⟩ := z
    obtain ⟨rb, E1, sm, dq, kn⟩ := env_born (ob := ob) E g1 n1 d1
    refine wpAny_with_toks (Nat.le_refl _) (wpAny_mono (store_ok (E := X.xe) (Q := fun _ s2 => Inv X pins (σ.set i (some (.ref a))) (upd H1 a (.frz ob (.tup xs))) s2) (v := .ref a) I1 hN hi hy rfl (fun _ z => z) hfn) (fun _ s2 I2 tk => ?_) fun _ _ z _ => z)
    exact ⟨_, _, _, _, _, I2, rb, E1.setG dq kn, sm, tk_born (T1.mono tk) (Nat.le_refl _) (t1.mono tk)⟩
  · exact q.elim
end
end L2.Pz

namespace L2.Pz
open PySem PySem.Spec PyProof.Rows L2.Pz.Fn
/-! ### what the laws' texts need besides -/
def manF (n : Int) : List PyData := [.str (S [(mannerOf n).pt]), .str (S (mannerOf n).gp), .tuple (mannerOf n).sz, .str (S (sgS (mannerOf n).sg)), .int ((mannerOf n).ls : Nat)]
theorem manF_eq (n : Int) : PyData.tuple (manF n) = manD (mannerOf n) := rfl
theorem mod_int {a b d : PyData} (h : modD a b = .ok d) : ∃ n, d = .int n := by
  unfold modD at h
  split at h
  · split at h
    · cases h; exact ⟨_, rfl⟩
    · cases h
  · cases h
theorem mix_int {ds : List PyData} {d : PyData} (h : F__law_mix ds = .ok d) : ∃ n, d = .int n := by
  unfold F__law_mix at h
  rw [lock_eq] at h
  unfold fnF b__law_mix sRet at h
  generalize startE 3 ds = ρ at h
  cases k : e2 modD (e2 modD (e2 mulD (eV 0) (eC (.int 48271))) (eV 1)) (eV 2) ρ with
  | ok d' =>
    rw [k] at h
    have h : Rs.ok d' = Rs.ok d := h
    cases h
    unfold e2 at k
    cases k1 : e2 modD (e2 mulD (eV 0) (eC (.int 48271))) (eV 1) ρ with
    | ok a =>
      unfold e2 at k1
      rw [k1] at k
      cases k2 : eV 2 ρ with
      | ok b => rw [k2] at k; exact mod_int k
      | er c => rw [k2] at k; cases k
      | no => rw [k2] at k; cases k
    | er c => unfold e2 at k1; rw [k1] at k; cases k
    | no => unfold e2 at k1; rw [k1] at k; cases k
  | er c => rw [k] at h; cases h
  | no => rw [k] at h; cases h
theorem call_mix_int (fs : List EF) (ρ : En) (d : PyData) (h : eCall F__law_mix fs ρ = .ok d) : ∃ n, d = .int n := by
  unfold eCall at h
  cases k : eL fs ρ with
  | ok ds => rw [k] at h; exact mix_int h
  | er c => rw [k] at h; cases h
  | no => rw [k] at h; cases h
theorem int_is (n : Int) (ρ : En) (d : PyData) (h : eC (.int n) ρ = .ok d) : ∃ n, d = .int n := by cases h; exact ⟨_, rfl⟩
theorem tup_is (fs : List EF) (ρ : En) (d : PyData) (h : eTup fs ρ = .ok d) : ∃ ds, d = .tuple ds := by
  unfold eTup at h
  cases k : eL fs ρ with
  | ok ds => rw [k] at h; cases h; exact ⟨_, rfl⟩
  | er c => rw [k] at h; cases h
  | no => rw [k] at h; cases h
theorem tup_is1 (f : EF) (fs : List EF) (ρ : En) (d : PyData) (h : eTup (f :: fs) ρ = .ok d) : ∃ e ds, d = .tuple (e :: ds) := by
  unfold eTup eL at h
  cases k1 : f ρ with
  | ok e =>
    rw [k1] at h
    cases k : eL fs ρ with
    | ok ds => simp only [Rs.bind_ok] at h; rw [k] at h; cases h; exact ⟨_, _, rfl⟩
    | er c => simp only [Rs.bind_ok] at h; rw [k] at h; cases h
    | no => simp only [Rs.bind_ok] at h; rw [k] at h; cases h
  | er c => rw [k1] at h; cases h
  | no => rw [k1] at h; cases h
section
variable {X : Cx} {W : WX} {a b : Expr} {f g : EF} {pos : Pos}
theorem pdt_eq {j : Nat} (k : Cok X W j) (ha : PDt X W a f) (hb : PDt X W b g) (hm : behindInMarks .Eq b = false) : PDt X W (.Compare a [.Eq] [b] pos) (e2 eqD f g) := pdt_cmp (opR_or op_eq (op_eqD k.hr.units)) sp_eq ha hb hm
theorem pdt_ne {j : Nat} (k : Cok X W j) (ha : PDt X W a f) (hb : PDt X W b g) (hm : behindInMarks .NotEq b = false) : PDt X W (.Compare a [.NotEq] [b] pos) (e2 neD f g) := pdt_cmp (opR_or op_ne (op_neD k.hr.units)) sp_ne ha hb hm
theorem ptt_eq {j : Nat} (k : Cok X W j) (ha : PDt X W a f) (hb : PDt X W b g) (hm : behindInMarks .Eq b = false) : PTt X W (.Compare a [.Eq] [b] pos) (bT (e2 eqD f g)) := ptt_cmp (opR_or op_eq (op_eqD k.hr.units)) sp_eq ha hb hm
theorem ptt_ne {j : Nat} (k : Cok X W j) (ha : PDt X W a f) (hb : PDt X W b g) (hm : behindInMarks .NotEq b = false) : PTt X W (.Compare a [.NotEq] [b] pos) (bT (e2 neD f g)) := ptt_cmp (opR_or op_ne (op_neD k.hr.units)) sp_ne ha hb hm
end
end L2.Pz

namespace L2.Pz
open PySem PySem.Spec PyProof.Rows
/-! ### a comprehension whose items need tokens -/
def PFt (X : Cx) (W : WX) (e : Expr) (f : EF) : Prop := ∀ (pins : List (Addr × Obj)) (s : Shared) (σ : St) (H : Hp) (Q : VK) (G0 H0 G : Hp) (ρ : En), Inv X pins σ H s → EnvOk X.K G0 H0 G H σ ρ → Tk s.toks G0 → RF X.K X.mg W G H σ Q (f ρ) →
  wpAny (model X.prog X.w) X.A (eval e X.env) (EP X pins σ Q) X.xe s
section
variable {X : Cx} {W : WX} {tg elt iter : Expr} {f : EF} {fi : IF} {gt : GF} {pos : Pos} {is : List Nat} {scope : Scope} {own : List (Str × Nat)}
/-- where a turn begins: the block's frame, the items so far -/
structure Tn (X Xb : Cx) (σw : St) (ρw : En) (G0 H0 G1 H1 : Hp) (D : Addr) (fp : List Addr) (tn : Nat → Heap → Prop) (ds rs : List PyData) (h : PyData → Rs (List PyData)) (i : Nat) (s : Shared) : Prop where
  le : i ≤ ds.length
  ex : ∃ G H acc as rest, Inv Xb [] σw H s ∧ EnvOk X.K G0 H0 G H σw ρw ∧ Same G1 G ∧ Same H1 H ∧ Nn H1 G1 G ∧ G D = none ∧ H D = some (.lst acc) ∧ DqAll X.K G acc as ∧ acc.length ≤ i ∧ lcL h (ds.drop i) = .ok rest ∧ rs = as ++ rest ∧ ∀ b ∈ fp, H b = none
  st : tn i s.heap
  tk : Tk s.toks G0
theorem wipe_twice (σ : St) (vs : List Nat) : wipe (wipe σ vs) vs = wipe σ vs := by
  refine List.ext_getElem? fun j => ?_
  rw [wipe_get, wipe_get, wipe_length]
  by_cases hv : j ∈ vs ∧ j < σ.length
  · rw [if_pos hv, if_pos hv]
  · rw [if_neg hv]
theorem pft_lc (hc : X.calm = true) (hN : X.N.Nodup) (ki : PID X W tg iter fi) (ok : BlkOk X.N X.env.scope scope own) (hiv : ∀ i ∈ is, i ∈ own.map (·.2))
    (hg : ∀ (s : Shared) (H : Hp) (C : Addr) (cl : List (Str × Addr)) (fp : List Addr), PGD (X.blk s H scope (compEnvC scope cl C X.env) fp) tg is gt)
    (he : ∀ (s : Shared) (H : Hp) (C : Addr) (cl : List (Str × Addr)) (fp : List Addr), PDt (X.blk s H scope (compEnvC scope cl C X.env) fp) W0 elt f) (hs : ∀ x, foldedSetIterable iter X.env x = pure x := by intro _; rfl) :
    PFt X W (.ListComp elt [⟨tg, iter, [], 0⟩] scope pos) (eLc (own.map (·.2)) fi gt bYes f) := fun pins s σ H Q G0 H0 G ρ I E T q => by
  have hfree : ∀ y ∈ scope.names, y.2 = .free → ∃ c, X.env.cells.lookup y.1 = some c := fun y hy e => I.ok.has _ (ok.free y hy e)
  unfold eLc at q
  rw [eval_ListComp]
  refine wpAny_comprehension_free (use := none) rfl hs (closure_ok hfree) ok.kind (fun y hy e => by rw [ok.uniq y hy, e]) ?_
  cases k : fi ρ with
  | no => rw [k] at q; exact q.elim
  | er c =>
    rw [k] at q
    refine wpAny_mono (ki.run pins s σ H (fun _ _ => False) I ⟨G0, H0, G, ρ, E, by rw [k]; exact q⟩) (fun _ s1 h1 => wpAny_mono h1 (fun _ _ h2 => ?_) fun _ _ z => z) fun _ _ z => z
    obtain ⟨_, _, _, _, _, _, _, _, _, _, z⟩ := h2
    exact z.elim
  | ok ds =>
    rw [k, Rs.bind_ok] at q
    by_cases hz : ds.length ≤ sizeLine
    case neg => rw [if_neg hz] at q; exact q.elim
    rw [if_pos hz] at q
    cases k2 : lcL (lc1 gt bYes f (wipeE ρ (own.map (·.2)))) ds with
    | er c => exact absurd k2 (lcL_er lc1_er ds c)
    | no => rw [k2] at q; exact q.elim
    | ok rs =>
    rw [k2, Rs.bind_ok] at q
    refine wpAny_mono (wpAny_toks (ki.run pins s σ H (fun J H1 => ∃ G1, Gr G H G1 H1 ∧ ItOk X.K G1 J ds) I ⟨G0, H0, G, ρ, E, by rw [k]; exact fun J G1 H1 g it => ⟨G1, g, it⟩⟩)) (fun _ s1 h1 => wpAny_mono (wpAny_toks h1.2) (fun itv s2 h2 => ?_) fun _ _ z => z.2) fun _ _ z => z.2
    have t1 := h1.1
    obtain ⟨t2, it, fp, tn, J, H1, e, I2, TT, st2, f2, G1, g1, iok⟩ := h2
    subst e
    refine wpAny_newObj_type (newEnv_comp ?_) (by show 0 ≤ sizeLine; decide)
    -- the new list, at D
    generalize hD : s2.heap.objs.size = D
    have nD : H1 D = none := I2.hok.fresh (Nat.le_of_eq hD)
    have nDs := g1.h.free nD
    have nD0 := E.gr.h.free nDs
    generalize hs3 : ({ s2 with heap := s2.heap.push { cls := .type "list", data := .seq ([] : List Value).toArray } } : Shared) = s3
    have kp3 : ∀ b o, s2.heap.get? b = some o → s3.heap.get? b = some o := fun b o eb => by rw [← hs3]; exact Heap.get?_push_of_some _ eb
    have sz3 : s3.heap.objs.size = s2.heap.objs.size + 1 := by rw [← hs3]; exact Heap.size_push _ _
    have tk3 : s3.toks = s2.toks := by rw [← hs3]
    have I3 : Inv X pins σ (upd H1 D (.lst [])) s3 := by
      subst hs3 hD
      exact I2.laid (t' := s2.toks) (fun b o e => Heap.get?_push_of_some _ e) (Nat.le_refl _) ⟨Nat.zero_le _, [], 0, .nil, Heap.get?_push_size _ rfl⟩
    have f3 : ∀ b ∈ fp, FpOk X pins (upd H1 D (.lst [])) b ∧ b < s3.heap.objs.size := fun b hb => by
      obtain ⟨o, eo, _⟩ := TT.obj _ _ st2 b hb
      have hlt := Heap.lt_size eo
      have hne : b ≠ D := by rw [← hD]; exact Nat.ne_of_lt hlt
      exact ⟨⟨by rw [upd_ne hne]; exact (f2 b hb).1, (f2 b hb).2⟩, by rw [sz3]; exact Nat.lt_succ_of_lt hlt⟩
    have I4 := block_start I3 ok hN f3
    have pg := hg s3 (upd H1 D (.lst [])) s3.heap.objs.size (cellsFrom (s3.heap.objs.size + 1) scope.names (cloFrom X.env.cells scope.names [])) fp
    have pe := he s3 (upd H1 D (.lst [])) s3.heap.objs.size (cellsFrom (s3.heap.objs.size + 1) scope.names (cloFrom X.env.cells scope.names [])) fp
    generalize hce : compEnvC scope (cellsFrom (s3.heap.objs.size + 1) scope.names (cloFrom X.env.cells scope.names [])) s3.heap.objs.size X.env = ce at I4 pg pe
    have cL : ce.locals = s3.heap.objs.size := by subst hce; rfl
    show codeAny _ _ (.compStart (.ListComp elt [⟨tg, iter, [], 0⟩] scope pos) 0 (.ref it) (.ref D) (compEnvC scope (cellsFrom (s3.heap.objs.size + 1) scope.names (cloFrom X.env.cells scope.names [])) s3.heap.objs.size X.env)) (compPost (model X.prog X.w) X.A X.xe none (EP X pins σ Q) (.ref D) s3.heap.objs.size) { s3 with heap := pushCells (s3.heap.push { cls := .type "dict", data := .dict #[] }) scope.names }
    rw [hce]
    generalize hs4 : ({ s3 with heap := pushCells (s3.heap.push { cls := .type "dict", data := .dict #[] }) scope.names } : Shared) = s4 at I4 ⊢
    have kp4 : ∀ b o, s3.heap.get? b = some o → s4.heap.get? b = some o := fun b o eb => by rw [← hs4]; exact pushCells_keeps _ _ _ _ (Heap.get?_push_of_some _ eb)
    have tk4 : s4.toks = s2.toks := by rw [← hs4]; exact tk3
    have st4 : tn 0 s4.heap := TT.keep _ _ _ st2 fun b _ o eb => kp4 b o (kp3 b o eb)
    generalize hH3 : upd H1 D (.lst []) = H3 at I3 I4 pg pe f3
    have begin : Tn X (X.blk s3 H3 scope ce fp) (wipe σ (own.map (·.2))) (wipeE ρ (own.map (·.2))) G0 H0 G1 H1 D fp tn ds rs (lc1 gt bYes f (wipeE ρ (own.map (·.2)))) 0 s4 := by
      subst hH3
      refine ⟨Nat.zero_le _, ⟨G1, upd H1 D (.lst []), [], [], rs, I4, ((E.grow g1).wipe (own.map (·.2))).grow (Gr.newH g1.sub nD), Same.refl _, same_upd nD, ⟨fun _ _ z => z, fun _ _ _ z => z⟩, g1.sub.free nD, upd_same, .nil, Nat.le_refl _, k2, rfl, fun b hb => (f3 b hb).1.1⟩, st4, T.mono ?_⟩
      rw [tk4]
      exact Nat.le_trans t1 t2
    have stat : ∀ {σ' : St} {H' : Hp} {s' : Shared}, Inv (X.blk s3 H3 scope ce fp) [] σ' H' s' → (∀ b ∈ fp, H' b = none) → ∀ b ∈ fp, FpOk (X.blk s3 H3 scope ce fp) [] H' b := fun {σ' H' s'} J' hn b hb =>
      ⟨hn b hb, (J'.ok.exf b hb).1, J'.ok.exfs b hb, .inl hb, (J'.ok.exf b hb).2, fun p hp => absurd (show p ∈ ([] : List (Addr × Obj)) ++ [] from hp) (by simp)⟩
    have loop : codeAny (model X.prog X.w) X.A (.compLoop (.ListComp elt [⟨tg, iter, [], 0⟩] scope pos) 0 (.ref it) (.ref D) ce) (compPost (model X.prog X.w) X.A X.xe none (EP X pins σ Q) (.ref D) s3.heap.objs.size) s4 := by
      refine compLoop_any (fun n s' => ∃ i, n = ds.length - i ∧ Tn X (X.blk s3 H3 scope ce fp) (wipe σ (own.map (·.2))) (wipeE ρ (own.map (·.2))) G0 H0 G1 H1 D fp tn ds rs (lc1 gt bYes f (wipeE ρ (own.map (·.2)))) i s') ?_ ds.length ⟨0, by simp, begin⟩
      rintro n s5 ⟨i, rfl, le, ⟨G5, H5, acc, as, rest, I5, E5, sG, sH, nG, gD, hHD, hda, hla, hl, er, n5⟩, st5, tk5⟩
      obtain ⟨stp, go⟩ := iok H5 (sG.trans E5.gr.sub)
      by_cases hlt : i < ds.length
      · obtain ⟨go1, yl⟩ := go i _ (List.getElem?_eq_getElem hlt)
        obtain ⟨r, rest', l1, l2, l3⟩ := lcL_ok hl (List.getElem?_eq_getElem hlt)
        refine wpAny_mono (wpAny_toks (TT.item (X.blk s3 H3 scope ce fp) rfl rfl rfl hc i [] s5 _ H5 (fun _ _ => False) I5 (stat I5 n5) st5 go1)) (fun _ s6 h6 => ?_) fun _ _ z => z.2.elim
        obtain ⟨t6, u, rfl, h6⟩ := h6
        refine wpAny_mono (wpAny_toks h6) (fun _ s7 h7 => ?_) fun _ _ z => z.2.elim
        obtain ⟨t7, x, H7, I7, r7, y7, st7, n7⟩ := h7
        obtain ⟨G7, g7, z7⟩ := (yl x H7 y7).grow sG E5.gr.sub
        have I7' := I7.pinned (stat I7 n7) (TT.obj _ _ st7)
        unfold lc1 at l1
        cases k3 : gt ds[i] (wipeE ρ (own.map (·.2))) with
        | none => rw [k3] at l1; cases l1
        | some ρ' =>
        rw [k3] at l1
        simp only [bYes] at l1
        cases k5 : f ρ' with
        | er c => rw [k5] at l1; cases l1
        | no => rw [k5] at l1; cases l1
        | ok w =>
        rw [k5] at l1
        cases l1
        refine wpAny_mono (wpAny_toks (pg.run _ s7 _ H7 x u (fun σ' H' => H' = H7 ∧ EnvOk X.K G0 H0 G7 H7 σ' ρ' ∧ wipe σ' (own.map (·.2)) = wipe σ (own.map (·.2))) I7' r7 ⟨G0, H0, G7, _, _, E5.grow g7, z7, ρ', k3, fun σ' E' on => ⟨rfl, E', by rw [on.wipe hiv, wipe_twice]⟩⟩)) (fun _ s8 h8 => ?_) fun _ _ z => z.2.elim
        obtain ⟨t8, σ8, H8, I8, rfl, E8, hw8⟩ := h8
        have tk8 : Tk s8.toks G0 := tk5.mono (Nat.le_trans t6 (Nat.le_trans t7 t8))
        refine wpAny_tests_nil ?_
        rw [if_pos rfl]
        refine wpAny_mono (pe.go (Po := fun v s9 => ∃ xv H9 G9, Gr G7 H8 G9 H9 ∧ Inv (X.blk s3 H3 scope ce fp) ([] ++ pinsAt fp s7.heap) σ8 H9 s9 ∧ Tk s9.toks G0 ∧ RelV xv v ∧ Dq X.K G9 xv w) I8 E8 tk8 (fun d kd v s9 xv H9 G9 g9 I9 T9 r9 z9 => by rw [k5] at kd; cases kd; exact ⟨xv, H9, G9, g9, I9, T9, r9, z9⟩) (fun c kd => by rw [k5] at kd; cases kd) (by rw [k5]; exact fun z => nomatch z)) (fun v s9 h9 => ?_) fun _ _ z => z.elim
        obtain ⟨xv, H9, G9, g9, I9, T9, r9, z9⟩ := h9
        have gg := g7.trans g9
        have gD9 := gg.n D (by rw [hHD]; exact fun z => nomatch z) gD
        have nown : ∀ (j : Nat) es, (wipeE ρ (own.map (·.2)))[j]? = some (some (.own es)) → (wipe σ (own.map (·.2)))[j]? ≠ some (some (.ref D)) := fun j es h1 h2 => by
          obtain ⟨v', h3, b, ys, e1, _, _, hb, _⟩ := E.sl j _ (wipeE_own h1)
          rw [(wipe_some h2).1] at h3
          cases h3
          cases e1
          rw [nDs] at hb
          cases hb
        refine wpAny_mono (wpAny_toks (app_ok (X := X.blk s3 H3 scope ce fp) (E := fun _ _ => False) (Q := fun _ s' => Inv (X.blk s3 H3 scope ce fp) ([] ++ pinsAt fp s7.heap) σ8 (upd H9 D (.lst (acc ++ [xv]))) s') I9 (gg.h _ _ hHD) (Nat.lt_of_lt_of_le (Nat.lt_of_le_of_lt hla hlt) hz) r9 fun _ z => z)) (fun _ s10 h10 => ?_) fun _ _ z => z.2.elim
        obtain ⟨t10, I10⟩ := h10
        have pin' : ∀ b ∈ fp, ∀ o, s7.heap.get? b = some o → s10.heap.get? b = some o ∧ upd H9 D (.lst (acc ++ [xv])) b = none := fun b hb o eb =>
          ⟨(I10.pin (b, o) (List.mem_append_right _ (List.mem_append_right _ (mem_pinsAt hb eb)))).1, (I10.pin (b, o) (List.mem_append_right _ (List.mem_append_right _ (mem_pinsAt hb eb)))).2.1⟩
        refine ⟨ds.length - (i + 1), by omega, i + 1, rfl, hlt, ⟨G9, upd H9 D (.lst (acc ++ [xv])), acc ++ [xv], as ++ [w], rest', ?_, (E5.grow gg).updD gD9 nD0 nown, sG.trans gg.g, fun b o eb => ?_, ⟨fun a h1 h2 => gg.n a (fun z => h1 (sH.free z)) (nG.1 a h1 h2), fun a o xs z => nG.2 a o xs (gg.nf a o xs z)⟩, gD9, upd_same, dpAll_app (dpAll_mono gg.g hda) (.cons z9 .nil), by simp; omega, l2, by rw [er, l3]; simp, fun b hb => ?_⟩, TT.keep _ _ _ st7 fun b hb o eb => (pin' b hb o eb).1, T9.mono t10⟩
        · refine (I10.unpinned (pins := [])).weak (by rw [← hw8, wipe_length]) fun j v' ej => ?_
          rw [← hw8] at ej
          exact (wipe_some ej).1
        · rw [upd_ne (ne_of_none eb nD)]
          exact gg.h _ _ (sH _ _ eb)
        · obtain ⟨o, eo, _⟩ := TT.obj _ _ st7 b hb
          exact (pin' b hb o eo).2
      · have e : i = ds.length := by omega
        subst e
        rw [List.drop_length] at hl
        cases hl
        rw [List.append_nil] at er
        subst er
        refine wpAny_mono (TT.done (X.blk s3 H3 scope ce fp) rfl rfl rfl hc _ [] s5 _ H5 (fun _ _ => False) I5 (stat I5 n5) st5 stp) (fun _ s6 h6 => ?_) fun _ _ z => z.elim
        obtain ⟨rfl, I6⟩ := h6
        have I7 : Inv X pins σ H5 s6 := I3.call' (ch := fp) I6.os I6.base I6.hok I6.bare fun b hb => ⟨(f3 b hb).1.2.2.2.1, (f3 b hb).1.2.1, (f3 b hb).1.2.2.2.2.1, (f3 b hb).1.2.2.2.2.2⟩
        have nC : H5 s3.heap.objs.size = none := cL ▸ (show H5 ce.locals = none from I6.free)
        obtain ⟨m, hn, _⟩ := I6.loc
        have hn : s6.heap.Ns s3.heap.objs.size m := cL ▸ (show s6.heap.Ns ce.locals m from hn)
        obtain ⟨c0, c1, c2, c3, c4, c5⟩ := I3.fpOk (Nat.le_refl _) nC
        refine ⟨m, hn, fun h'' sb => ⟨.ref D, H5, I7.turned (t' := s6.toks) (fun b o hb eb => (sb.2 b hb).trans eb) c0 c1 c3 c4 c5, rfl, ?_⟩⟩
        exact q D acc G5 H5 ⟨E5.gr.sub, g1.g.trans sG, g1.h.trans sH, fun a h0 g0 => nG.1 a (fun z => h0 (g1.h.free z)) (g1.n a h0 g0), fun a o xs z => g1.nf a o xs (nG.2 a o xs z)⟩ nDs gD hHD hda
    exact codeAny_compStart_list loop (TT.self X.A 0 _ _ _ st4 loop)
end
end L2.Pz

namespace L2.Pz
open PySem PySem.Spec PyProof.Rows
/-! ### builtins whose argument needs tokens -/
section
variable {X : Cx} {W : WX} {a : Expr} {f : EF} {pos : Pos} {F : PyData → Rs PyData}
theorem pdt_pf (h : PFt X W a f) : PDt X W a f := fun pins s σ H Q G0 H0 G ρ I E T q => h pins s σ H Q G0 H0 G ρ I E T (RF_of q)
theorem pdt_b1 {x : Str} {id : String} {p : Pos} {r : List V → Hp → VK → Prop} (hc : CallR X (.builtin id) r) (hF : Spec1 X W (fun v => r [v]) F) (hg : Gl X x) (hm : X.mg x = none) (ha : PDt X W a f) (hv : bootBuiltins x = some (.builtin id) := by decide +kernel) (hn : x ≠ "__name__" := by decide)
    (hdb : (x == ("__debug__" : Str)) = false := by decide) (he : starEach [a] X.env = [(false, eval a X.env)] := by rfl) : PDt X W (.Call (.Name x p) [a] [] pos) (e1 F f) := fun pins s σ H Q G0 H0 G ρ I E T q => by
  unfold e1 at q
  have bt : backTo pos (starEach [a] X.env) = [(false, eval a X.env)] := by rw [he]; rfl
  refine wpAny_Call_Name_kw (ld_blt I hg hm hv ?_ hn hdb)
  refine PyProof.Rows.callWith_builtin1 ?_ he rfl
  rw [bt]
  refine Calls.spliced_cons (ha.go I E T (fun d k1 v s1 xv H1 G1 g1 I1 T1 r1 z1 => Calls.spliced_nil ?_) (fun c k1 => ?_) fun k1 => ?_)
  · rw [k1, Rs.bind_ok] at q
    exact hc pins s1 σ H1 [xv] [v] Q I1 (.cons r1 .nil) (hF G1 H1 xv d σ Q g1.sub (.inl z1) (RD.grow g1 q))
  · rw [k1] at q; exact q
  · rw [k1] at q; exact q
theorem sp_anyT : Spec1 X W (fun v => rAny X.K [v]) anyD := fun G H v d σ Q s hv q => by
  unfold anyD at q
  split at q
  · obtain ⟨p, xs, rfl, h1, h2⟩ := hv.lst s
    split at q
    · rename_i bs k
      have e := bools_dq h2 k
      subst e
      exact ⟨p, bs, rfl, h1, RD.val s q fun _ => .bl _⟩
    · exact q.elim
  · exact q.elim
theorem pdt_any {p : Pos} (hc : X.calm = true) (hg : Gl X "any") (hm : X.mg "any" = none) (ha : PDt X W a f) (he : starEach [a] X.env = [(false, eval a X.env)] := by rfl) : PDt X W (.Call (.Name "any" p) [a] [] pos) (e1 anyD f) :=
  pdt_b1 (cr_any hc) sp_anyT hg hm ha (by decide +kernel) (by decide) (by decide) he
end
end L2.Pz

namespace L2.Pz.Fn
open PySem PySem.Spec PyProof.Rows L2 L2.Pz
noncomputable def b_read : SF :=
    (sSeq (sAsg (gT [(gN 2), (gN 3)]) (eCall F_unsigned [(eV 0), (eV 1)]))
    (sSeq (sAsg (gT [(gN 4), (gN 5), (gN 6)]) (eM_partition1 (eV 2) (e2 ixD (eV 1) (eC (.int 0)))))
    (sSeq (sAsg (gN 7) (eV 4))
    (sSeq (sIf (bT (e2 neD (e2 ixD (eV 1) (eC (.int 1))) (eC (.str (S []))))) (sAsg (gN 7) (eRepl 1 (eV 4))) sNx)
    (sSeq (sIf (bOr (bNot (bT (eCall F_are_figures [(eV 7)]))) (bAnd (bT (e2 gtD (e1 lenD (eV 7)) (eC (.int 1)))) (bT (e2 eqD (e2 ixD (eV 7) (eC (.int 0))) (eC (.str (S [48]))))))) (sRaise (S [78, 111, 78, 117, 109, 98, 101, 114])) sNx)
    (sSeq (sIf (bT (e2 ninD (eV 4) (eTup [(eV 7), (eCall F_in_groups [(eV 7), (eV 1)])]))) (sRaise (S [78, 111, 78, 117, 109, 98, 101, 114])) sNx)
    (sSeq (sIf (bOr (bT (e2 neD (e2 neD (eV 5) (eC (.str (S [])))) (eCall F_are_figures [(eV 6)]))) (bT (e2 gtD (e1 lenD (eV 6)) (eC (.int 9))))) (sRaise (S [78, 111, 78, 117, 109, 98, 101, 114])) sNx)
    (sSeq (sAsg (gN 8) (e1 intD (e2 addD (eV 7) (eV 6))))
    (sSeq (sIf (bD (eV 3)) (sAsg (gN 8) (e1 negD (eV 8))) sNx)
    (sSeq (sIf (bAnd (bT (e2 eqD (eV 8) (eC (.int 0)))) (bD (eV 3))) (sRaise (S [78, 111, 78, 117, 109, 98, 101, 114])) sNx)
    (sRet (eCall F_normal [(eV 8), (e1 lenD (eV 6))]))))))))))))
noncomputable def F_read : FF := lock (fnT 9 [false, true] b_read)
noncomputable def b__law_read : SF :=
    (sSeq (sAsg (gN 2) (eC .none))
    (sSeq (sTry [((S [78, 111, 78, 117, 109, 98, 101, 114]), true)] (sAsg (gN 2) (eCall F_read [(eV 0), (eG 1)])) (sAsg (gN 2) (eC .none)))
    (sRet (eV 2))))
noncomputable def F__law_read : FF := lock (fnT 3 [false, true] b__law_read)
noncomputable def b__law_told : SF :=
    (sSeq (sAsg (gN 2) (eTup [(eC (.str (S [110, 111, 110, 101]))), (eC .none)]))
    (sSeq (sTryAs [((S [78, 111, 78, 117, 109, 98, 101, 114]), true)] 3 (sAsg (gN 2) (eTup [(eC (.str (S [104, 101, 114, 101]))), (eCall F_read [(eV 0), (eG 1)])])) (fun ad_ c_ => (sAsg (gN 2) (eTup [(eC (.str (S [110, 111]))), (eIs [((S [78, 111, 78, 117, 109, 98, 101, 114]), true)] 3 ad_ c_), (eIs [((S [78, 111, 78, 117, 109, 98, 101, 114]), false)] 3 ad_ c_), (eIs [((S [78, 111, 78, 117, 109, 98, 101, 114]), true)] 3 ad_ c_)]))))
    (sRet (eV 2))))
noncomputable def F__law_told : FF := lock (fnT 4 [false, true] b__law_told)
noncomputable def C1__law_is_right (ρ : En) : Rs PyData :=
    (eV 6) ρ
noncomputable def b__law_is_right : SF :=
    (sSeq (sAsg (gN 2) (eCall F__law_told [(eV 0), (eG 1)]))
    (sSeq (sIf (bT (e2 neD (e2 ixD (eV 2) (eC (.int 0))) (eC (.str (S [104, 101, 114, 101]))))) (sRet (e2 eqD (eV 2) (eTup [(eC (.str (S [110, 111]))), (eC (.bool true)), (eC (.bool false)), (eC (.bool true))]))) sNx)
    (sSeq (sIf (bT (e2 isnD (eCall F_is_number [(e2 ixD (eV 2) (eC (.int 1)))]) (eC (.bool true)))) (sRet (eC (.bool false))) sNx)
    (sSeq (sAsg (gN 3) (e1 lenD (eLc [6] (iS (e2 ixD (eM_partition1 (eV 0) (e2 ixD (eV 1) (eC (.int 0)))) (eC (.int 2)))) (gN 6) (bT (e2 inD (eV 6) (eC (.str (S [48, 49, 50, 51, 52, 53, 54, 55, 56, 57]))))) C1__law_is_right)))
    (sSeq (sAsg (gN 4) (eCall F__law_text [(e2 ixD (eV 2) (eC (.int 1))), (eV 1), (eV 3)]))
    (sSeq (sAsg (gN 5) (eV 4))
    (sSeq (sIf (bT (e2 neD (e2 ixD (eV 1) (eC (.int 1))) (eC (.str (S []))))) (sAsg (gN 5) (eRepl 1 (eV 4))) sNx)
    (sRet (e2 inD (eV 0) (eTup [(eV 4), (eV 5)]))))))))))
noncomputable def F__law_is_right : FF := lock (fnT 7 [false, true] b__law_is_right)
noncomputable def b_read_counted : SF :=
    (sSeq (sAsg (gT [(gN 3), (gN 4), (gN 5)]) (eM_rpartition1 (eV 0) (eC (.str (S [32])))))
    (sSeq (sAsg (gN 6) (eCall F_read [(eV 3), (eG 1)]))
    (sSeq (sIf (bT (e2 neD (eV 5) (eCall F_word_for [(eV 6), (eV 2)]))) (sRaise (S [78, 111, 78, 117, 109, 98, 101, 114])) sNx)
    (sRet (eV 6)))))
noncomputable def F_read_counted : FF := lock (fnT 7 [false, true, false] b_read_counted)
noncomputable def b__law_read_v2 : SF :=
    (sSeq (sAsg (gN 3) (eC .none))
    (sSeq (sTryAs [((S [78, 111, 78, 117, 109, 98, 101, 114]), true)] 4 (sAsg (gN 3) (eCall F_read_counted [(eV 0), (eG 1), (eV 2)])) (fun ad_ c_ => (sAsg (gN 3) (eTup [(eC (.str (S [110, 111]))), (eIs [((S [78, 111, 78, 117, 109, 98, 101, 114]), true)] 4 ad_ c_), (eIs [((S [78, 111, 78, 117, 109, 98, 101, 114]), false)] 4 ad_ c_)]))))
    (sRet (eV 3))))
noncomputable def F__law_read_v2 : FF := lock (fnT 5 [false, true, false] b__law_read_v2)
noncomputable def L1__law_hundred (ρ : En) : SR :=
    (sAsg (gN 4) (e2 mulD (eV 4) (eC (.int 10)))) ρ
noncomputable def L2__law_hundred (ρ : En) : SR :=
    (sSeq (sAsg (gT [(gN 4), (gN 5)]) (eCall F_read [(eSl (eV 3) none (some (e1 negD (eC (.int 3))))), (eG 1)]))
    (sSeq (sFor (gN 6) (iR1 (e2 subD (eC (.int 2)) (eV 5))) L1__law_hundred)
    (sAsg (gN 2) (e2 addD (eV 2) (eV 4))))) ρ
noncomputable def b__law_hundred : SF :=
    (sSeq (sAsg (gN 2) (eC (.int 0)))
    (sSeq (sFor (gN 3) (iS (eCall F_percents [(eV 0), (eC (.int 2)), (eV 1)])) L2__law_hundred)
    (sRet (e2 eqD (eV 2) (eC (.int 10000))))))
noncomputable def F__law_hundred : FF := lock (fnT 7 [false, true] b__law_hundred)
noncomputable def b__law_one : SF :=
    (sTry [((S [78, 111, 78, 117, 109, 98, 101, 114]), true)] (sRet (eCall F_read [(eV 0), (eG 1)])) (sRet (eC .none)))
noncomputable def F__law_one : FF := lock (fnT 2 [false, true] b__law_one)
noncomputable def C1__law_due (ρ : En) : Rs PyData :=
    (eM_strip1 (eV 5) (eC (.str (S [32])))) ρ
noncomputable def C2__law_due (ρ : En) : Rs PyData :=
    (eCall F__law_one [(eV 5), (eG 1)]) ρ
noncomputable def C3__law_due (ρ : En) : Rs PyData :=
    (eV 9) ρ
noncomputable def L1__law_due (ρ : En) : SR :=
    (sSeq (sAsg (gN 6) (eIf (bT (e2 inD (e2 ixD (eV 1) (eC (.int 0))) (eV 5))) (e2 ixD (eM_split1 (eV 5) (e2 ixD (eV 1) (eC (.int 0)))) (eC (.int 1))) (eC (.str (S [])))))
    (sApp 4 (e1 lenD (eLc [9] (iS (eV 6)) (gN 9) (bT (e2 inD (eV 9) (eC (.str (S [48, 49, 50, 51, 52, 53, 54, 55, 56, 57]))))) C3__law_due)))) ρ
noncomputable def C4__law_due (ρ : En) : Rs PyData :=
    (eV 7) ρ
noncomputable def b__law_due : SF :=
    (sSeq (sAsg (gN 2) (eLc [5] (iS (eV 0)) (gN 5) bYes C1__law_due))
    (sSeq (sAsg (gN 3) (eLc [5] (iS (eV 2)) (gN 5) bYes C2__law_due))
    (sSeq (sIf (bOr (bT (e2 inD (eC .none) (eV 3))) (bT (e2 neD (eCall F__law_lined [(eV 2), (eV 1)]) (eV 0)))) (sRet (eC (.str (S [110, 111, 110, 101])))) sNx)
    (sSeq (sOwn 4 (eLst []))
    (sSeq (sFor (gN 5) (iS (eV 2)) L1__law_due)
    (sSeq (sIf (bT (e2 neD (eLc [7, 8] (iE (eV 3)) (gT [(gN 7), (gN 8)]) (bT (e2 neD (e2 ixD (eO 4) (eV 7)) (e2 max2D (e1 minLD (eO 4)) (e2 ixD (eV 8) (eC (.int 1)))))) C4__law_due) (eLst []))) (sRet (eC (.str (S [110, 111, 110, 101])))) sNx)
    (sRet (e1 tupleD (eV 3)))))))))
noncomputable def F__law_due : FF := lock (fnT 10 [false, true] b__law_due)
end L2.Pz.Fn

namespace L2.Pz
open PySem PySem.Spec L2 L2.Pz.Fn
/-! ### reading, its parts -/
def areF (l : List Nat) : Bool := !l.isEmpty && l.all isF
theorem figs_in (x : Nat) : inD (.str (S [x])) (.str (S [48, 49, 50, 51, 52, 53, 54, 55, 56, 57])) = .ok (.bool (isF x)) := by
  show Rs.ok (PyData.bool (inS (S [x]) (S [48, 49, 50, 51, 52, 53, 54, 55, 56, 57]))) = _
  rw [inS_1]
  rfl
theorem bools_map : ∀ l : List Bool, bools (l.map PyData.bool) = some l
  | [] => rfl
  | b :: l => by simp [bools, bools_map l]
theorem allD_bools (l : List Bool) : allD (.list (l.map PyData.bool)) = .ok (.bool (l.all id)) := by
  unfold allD
  simp [bools_map]
theorem neD_SS (a b : List Nat) : neD (.str (S a)) (.str (S b)) = .ok (.bool (!decide (a = b))) := by
  have e : (S a = S b) ↔ a = b := ⟨fun h => by injection h with h; injection h, fun h => by rw [h]⟩
  show Rs.ok (PyData.bool (!decide (S a = S b))) = _
  simp [e]
theorem eqD_SS (a b : List Nat) : eqD (.str (S a)) (.str (S b)) = .ok (.bool (decide (a = b))) := by
  have e : (S a = S b) ↔ a = b := ⟨fun h => by injection h with h; injection h, fun h => by rw [h]⟩
  show Rs.ok (PyData.bool (decide (S a = S b))) = _
  simp [e]
theorem are_figures_eq {l : List Nat} (h : l.length ≤ 100000) : F_are_figures [sD l] = .ok (.bool (areF l)) := by
  have hz : (100000 : Nat) ≤ sizeLine := by decide
  have lc : lcL (lc1 (gN 1) bYes C1_are_figures [some (.v (sD l)), none]) (l.map fun x => .str (S [x])) = .ok (l.map fun x => .bool (isF x)) := lcL_of fun x _ => by
    simp [C1_are_figures, inS_1, isF, figs]
  have q1 : eLc [1] (iS (eV 0)) (gN 1) bYes C1_are_figures [some (.v (sD l)), none] = .ok (.list (l.map fun x => .bool (isF x))) := lc_ok (ds := l.map fun x => .str (S [x])) (by simp [sD, S, signsD]) (by simp; omega) lc
  have q2 : allD (.list (l.map fun x => .bool (isF x))) = .ok (.bool (l.all isF)) := by
    have := allD_bools (l.map isF)
    rw [List.map_map] at this
    rw [show (l.map fun x => PyData.bool (isF x)) = l.map (PyData.bool ∘ isF) from rfl, this, List.all_map]
    rfl
  unfold F_are_figures areF
  rw [lock_eq]
  unfold fnF b_are_figures
  have q3 : e1 allD (eLc [1] (iS (eV 0)) (gN 1) bYes C1_are_figures) [some (.v (sD l)), none] = .ok (.bool (l.all isF)) := by rw [e1_ok' q1, q2]
  have q4 : e2 neD (eV 0) (eC (.str (S []))) [some (.v (sD l)), none] = .ok (.bool (!l.isEmpty)) := by
    rw [e2_ok (d := .str (S l)) (e := .str (S [])) rfl rfl, neD_SS]
    cases l <;> simp
  have q5 : eAnd (e2 neD (eV 0) (eC (.str (S [])))) (e1 allD (eLc [1] (iS (eV 0)) (gN 1) bYes C1_are_figures)) [some (.v (sD l)), none] = .ok (.bool (!l.isEmpty && l.all isF)) := by
    unfold eAnd
    rw [q4, Rs.bind_ok]
    cases l.isEmpty with
    | true => rfl
    | false => exact q3
  show outF (sRet _ [some (.v (sD l)), none]) = _
  rw [sRet_rt q5]
  rfl
/-- the sign of what is below nought, taken off -/
def unsg (m : Man) (t : List Nat) : List Nat × Bool := match m.sg with
  | .ahead => if t.take 1 = [45] then (t.drop 1, true) else (t, false)
  | .behind => if t.drop (t.length - 1) = [45] then (t.take (t.length - 1), true) else (t, false)
  | .brackets => if t.take 1 = [40] ∧ t.drop (t.length - 1) = [41] then ((t.take (t.length - 1)).drop 1, true) else (t, false)
theorem unsg_len (m : Man) (t : List Nat) : (unsg m t).1.length ≤ t.length := by
  unfold unsg
  split <;> split <;> simp <;> omega
theorem cut_in (l : List Nat) : cutL l (some 1) (some (-1)) = (l.take (l.length - 1)).drop 1 := by
  cases l with
  | nil => rfl
  | cons x r =>
    unfold cutL
    have e1 : HT.sIx (x :: r).length 0 (some 1) = 1 := by
      show min 1 (x :: r).length = 1
      simp
    have q2 : HT.sIx (x :: r).length (x :: r).length (some (-1)) = (x :: r).length - 1 := sIx_neg (k := 1) (by decide)
    rw [e1, q2, List.drop_take]
theorem man_3 (m : Man) : ixD (manD m) (.int 3) = .ok (.str (S (sgS m.sg))) := rfl
theorem man_0 (m : Man) : ixD (manD m) (.int 0) = .ok (.str (S [m.pt])) := rfl
theorem man_1 (m : Man) : ixD (manD m) (.int 1) = .ok (.str (S m.gp)) := rfl
theorem unsigned_eq {m : Man} {t : List Nat} (h : t.length ≤ 100000) : F_unsigned [sD t, manD m] = .ok (.tuple [sD (unsg m t).1, .bool (unsg m t).2]) := by
  have c0 : cutL t (some 1) none = t.drop 1 := by
    cases t with
    | nil => rfl
    | cons x r => exact cut_drop (k := 1) (by simp)
  have c1 : cutL t none (some 1) = t.take 1 := cut_take t 1
  have c2 : cutL t (some (-1)) none = t.drop (t.length - 1) := cut_last (k := 1) (by decide)
  have c3 : cutL t none (some (-1)) = t.take (t.length - 1) := cut_front (k := 1) (by decide)
  have c4 := cut_in t
  have a3 := man_3 m
  unfold F_unsigned unsg
  rw [lock_eq]
  unfold fnF b_unsigned
  generalize manD m = M at *
  cases k : m.sg with
  | ahead =>
    rw [k] at a3
    by_cases k1 : t.take 1 = [45]
    · simp [a3, sD, sgS, cutS_S, c0, c1, eqD_SS, k1]
    · simp [a3, sD, sgS, cutS_S, c0, c1, eqD_SS, k1]
  | behind =>
    rw [k] at a3
    by_cases k1 : t.drop (t.length - 1) = [45]
    · simp [a3, sD, sgS, cutS_S, c2, c3, eqD_SS, k1]
    · simp [a3, sD, sgS, cutS_S, c2, c3, eqD_SS, k1]
  | brackets =>
    rw [k] at a3
    by_cases k1 : t.take 1 = [40]
    · by_cases k2 : t.drop (t.length - 1) = [41]
      · simp [a3, sD, sgS, cutS_S, c1, c2, c4, eqD_SS, k1, k2]
      · simp [a3, sD, sgS, cutS_S, c1, c2, c4, eqD_SS, k1, k2]
    · simp [a3, sD, sgS, cutS_S, c1, c2, c4, eqD_SS, k1]
/-- a text replaced by nothing -/
theorem repl_S (l : List Nat) (c : Nat) : Txt.replace (S l) (S [c]) (S []) = S (l.filter (· != c)) := by
  have h := PyProof.Rows.replace_strikes (S l) c
  rw [S_of (Txt.replace (S l) (S [c]) (S []))]
  exact congrArg S h
def figsOf (m : Man) (a : List Nat) : List Nat := match m.gp with
  | [c] => a.filter (· != c)
  | _ => a
theorem figsOf_len (m : Man) (a : List Nat) : (figsOf m a).length ≤ a.length := by
  unfold figsOf
  split
  · exact List.length_filter_le _ _
  · exact Nat.le_refl _
def cNoNumber : Str := S [78, 111, 78, 117, 109, 98, 101, 114]
/-- the number of a text -/
def readM (m : Man) (t : List Nat) : Option (Int × Nat) :=
  if !areF (figsOf m (partL m.pt (unsg m t).1).1) || (decide (1 < (figsOf m (partL m.pt (unsg m t).1).1).length) && decide ((figsOf m (partL m.pt (unsg m t).1).1).head? = some 48)) then none
  else if ¬ ((partL m.pt (unsg m t).1).1 = figsOf m (partL m.pt (unsg m t).1).1 ∨ (partL m.pt (unsg m t).1).1 = grp m (figsOf m (partL m.pt (unsg m t).1).1)) then none
  else if (decide ((partL m.pt (unsg m t).1).2.1 ≠ []) != areF (partL m.pt (unsg m t).1).2.2) || decide (9 < (partL m.pt (unsg m t).1).2.2.length) then none
  else if (unsg m t).2 = true ∧ NumText.digitsVal (figsOf m (partL m.pt (unsg m t).1).1 ++ (partL m.pt (unsg m t).1).2.2) = 0 then none
  else some (nrm (if (unsg m t).2 then -((NumText.digitsVal (figsOf m (partL m.pt (unsg m t).1).1 ++ (partL m.pt (unsg m t).1).2.2) : Nat) : Int) else ((NumText.digitsVal (figsOf m (partL m.pt (unsg m t).1).1 ++ (partL m.pt (unsg m t).1).2.2) : Nat) : Int)) (partL m.pt (unsg m t).1).2.2.length)
def outR : Option (Int × Nat) → Rs PyData
  | some x => .ok (numD x)
  | none => .er cNoNumber
end L2.Pz

namespace L2.Pz
open PySem PySem.Spec L2 L2.Pz.Fn
/-! ### reading -/
theorem sSeq_er {g1 g2 : SF} {ρ ρ' : En} {c : Str} (h : g1 ρ = .er c ρ') : sSeq g1 g2 ρ = .er c ρ' := by simp [h]
theorem raise_if {p : En → Rs Bool} {c : Str} {b : Bool} {g2 : SF} {ρ : En} (h : p ρ = .ok b) : outF (sSeq (sIf p (sRaise c) sNx) g2 ρ) = if b then .er c else outF (g2 ρ) := by
  cases b with
  | true => rw [sSeq_er (c := c) (ρ' := ρ) (by rw [sIf_t h]; rfl)]; rfl
  | false => rw [sSeq_nx (ρ' := ρ) (by rw [sIf_f h]; rfl)]; rfl
theorem bOr_ok {p q : En → Rs Bool} {ρ : En} {a b : Bool} (h : p ρ = .ok a) (k : a = false → q ρ = .ok b) : bOr p q ρ = .ok (a || b) := by
  unfold bOr
  rw [h, Rs.bind_ok]
  cases a with
  | true => rfl
  | false => rw [if_neg (by decide), k rfl]; rfl
theorem bAnd_ok {p q : En → Rs Bool} {ρ : En} {a b : Bool} (h : p ρ = .ok a) (k : a = true → q ρ = .ok b) : bAnd p q ρ = .ok (a && b) := by
  unfold bAnd
  rw [h, Rs.bind_ok]
  cases a with
  | true => rw [if_pos rfl, k rfl]; rfl
  | false => rfl
theorem bNot_ok {p : En → Rs Bool} {ρ : En} {a : Bool} (h : p ρ = .ok a) : bNot p ρ = .ok (!a) := by
  unfold bNot
  rw [h]; rfl
theorem bT_ok {f : EF} {ρ : En} {a : Bool} (h : f ρ = .ok (.bool a)) : bT f ρ = .ok a := by simp [h]
theorem eCall_ok {F : FF} {fs : List EF} {ρ : En} {ds : List PyData} (h : eL fs ρ = .ok ds) : eCall F fs ρ = F ds := by simp [h]
theorem eL_1 {f : EF} {ρ : En} {d : PyData} (h : f ρ = .ok d) : eL [f] ρ = .ok [d] := by unfold eL; rw [h]; rfl
theorem eL_2 {f g : EF} {ρ : En} {d e : PyData} (h : f ρ = .ok d) (k : g ρ = .ok e) : eL [f, g] ρ = .ok [d, e] := by unfold eL; rw [h, Rs.bind_ok, eL_1 k]; rfl
theorem ix_0 (x : Nat) (l : List Nat) : ixD (.str (S (x :: l))) (.int 0) = .ok (.str (S [x])) := by
  have a1 : atI (S (x :: l)).cps.toList 0 = some x := atI0 x l
  unfold ixD
  simp only [a1]
  rfl
theorem S_inj {a b : List Nat} : S a = S b ↔ a = b := ⟨fun h => by injection h with h; injection h, fun h => by rw [h]⟩
theorem in2_S (a f g : List Nat) : ninD (.str (S a)) (.tuple [.str (S f), .str (S g)]) = .ok (.bool (!decide (a = f ∨ a = g))) := by
  have e : ∀ x y : List Nat, (S x == S y) = decide (y = x) := fun x y => by
    by_cases h : x = y
    · subst h; simp
    · have : ¬ S x = S y := fun z => h (S_inj.mp z)
      have h' : ¬ y = x := fun z => h z.symm
      simp [this, h, h']
  rw [ninD_t rfl]
  unfold inL
  simp only [List.any_cons, List.any_nil, Bool.or_false, eqF, e]
  congr 2
  by_cases h1 : a = f <;> by_cases h2 : a = g <;> simp [h1, h2]
theorem read_eq {m : Man} (hm : m.Ok) {t : List Nat} (ht : t.length ≤ 600) : F_read [sD t, manD m] = outR (readM m t) := by
  have hu := unsigned_eq (m := m) (t := t) (by omega)
  have lu := unsg_len m t
  unfold readM
  generalize unsg m t = U at *
  obtain ⟨B, neg⟩ := U
  simp only at *
  have lp := partL_len m.pt B
  have hpb : (partL m.pt B).2.1 = [] → (partL m.pt B).2.2 = [] := by
    unfold partL
    split
    · intro z; cases z
    · intro _; rfl
  have hp : partitionD (.str (S B)) (.str (S [m.pt])) = .ok (.tuple [.str (S (partL m.pt B).1), .str (S (partL m.pt B).2.1), .str (S (partL m.pt B).2.2)]) := rfl
  generalize partL m.pt B = P at *
  obtain ⟨A, pt, bh⟩ := P
  simp only at *
  have lf := figsOf_len m A
  have m0 := man_0 m
  have m1 := man_1 m
  unfold F_read
  rw [lock_eq]
  unfold fnT b_read
  change outF (sSeq _ _ [some (.v (sD t)), some (.g (manD m)), none, none, none, none, none, none, none]) = _
  rw [sSeq_nx (sAsg_nx (d := .tuple [sD B, .bool neg]) (ρ' := [some (.v (sD t)), some (.g (manD m)), some (.v (sD B)), some (.v (.bool neg)), none, none, none, none, none]) (by rw [eCall_ok (ds := [sD t, manD m]) rfl, hu]) rfl)]
  have qp : eM_partition1 (eV 2) (e2 ixD (eV 1) (eC (.int 0))) [some (.v (sD t)), some (.g (manD m)), some (.v (sD B)), some (.v (.bool neg)), none, none, none, none, none] = .ok (.tuple [.str (S A), .str (S pt), .str (S bh)]) := eM1_ok (d := sD B) (e := .str (S [m.pt])) rfl rfl (by rw [e2_ok (d := manD m) (e := .int 0) rfl rfl, m0]) hp
  rw [sSeq_nx (sAsg_nx (ρ' := [some (.v (sD t)), some (.g (manD m)), some (.v (sD B)), some (.v (.bool neg)), some (.v (sD A)), some (.v (sD pt)), some (.v (sD bh)), none, none]) qp rfl)]
  rw [sSeq_nx (sAsg_nx (d := sD A) (ρ' := [some (.v (sD t)), some (.g (manD m)), some (.v (sD B)), some (.v (.bool neg)), some (.v (sD A)), some (.v (sD pt)), some (.v (sD bh)), some (.v (sD A)), none]) rfl rfl)]
  have rp : sIf (bT (e2 neD (e2 ixD (eV 1) (eC (.int 1))) (eC (.str (S []))))) (sAsg (gN 7) (eRepl 1 (eV 4))) sNx [some (.v (sD t)), some (.g (manD m)), some (.v (sD B)), some (.v (.bool neg)), some (.v (sD A)), some (.v (sD pt)), some (.v (sD bh)), some (.v (sD A)), none] = .nx [some (.v (sD t)), some (.g (manD m)), some (.v (sD B)), some (.v (.bool neg)), some (.v (sD A)), some (.v (sD pt)), some (.v (sD bh)), some (.v (sD (figsOf m A))), none] := by
    have ts : bT (e2 neD (e2 ixD (eV 1) (eC (.int 1))) (eC (.str (S [])))) [some (.v (sD t)), some (.g (manD m)), some (.v (sD B)), some (.v (.bool neg)), some (.v (sD A)), some (.v (sD pt)), some (.v (sD bh)), some (.v (sD A)), none] = .ok (!decide (m.gp = [])) := bT_ok (by rw [e2_ok (d := .str (S m.gp)) (e := .str (S [])) (by rw [e2_ok (d := manD m) (e := .int 1) rfl rfl, m1]) rfl, neD_SS])
    have hg := hm.gp
    simp only [gps, List.mem_cons, List.not_mem_nil, or_false] at hg
    have hA : (S A).length ≤ 1000000 := by rw [S_len]; omega
    rcases hg with e | e
    · rw [e] at ts
      rw [sIf_f (by rw [ts]; rfl)]
      unfold figsOf
      rw [e]
      rfl
    · obtain ⟨c, e⟩ : ∃ c, m.gp = [c] := by rcases e with e | e | e | e | e | e <;> exact ⟨_, e⟩
      rw [e] at ts
      rw [sIf_t (by rw [ts]; rfl)]
      have er : eRepl 1 (eV 4) [some (.v (sD t)), some (.g (manD m)), some (.v (sD B)), some (.v (.bool neg)), some (.v (sD A)), some (.v (sD pt)), some (.v (sD bh)), some (.v (sD A)), none] = .ok (sD (figsOf m A)) := by
        unfold figsOf
        unfold manD
        rw [e]
        show (if ((S [c] == S []) = false ∧ (S A).length ≤ 1000000) then Rs.ok (PyData.str (Txt.replace (S A) (S [c]) (S []))) else Rs.no) = _
        rw [if_pos ⟨rfl, hA⟩, repl_S]
        rfl
      rw [sAsg_nx er (ρ' := [some (.v (sD t)), some (.g (manD m)), some (.v (sD B)), some (.v (.bool neg)), some (.v (sD A)), some (.v (sD pt)), some (.v (sD bh)), some (.v (sD (figsOf m A))), none]) rfl]
  rw [sSeq_nx rp]
  generalize figsOf m A = f at *
  have af := are_figures_eq (l := f) (by omega)
  have ab := are_figures_eq (l := bh) (by omega)
  have gr := in_groups_eq hm (l := f) (by omega)
  generalize hρ : ([some (.v (sD t)), some (.g (manD m)), some (.v (sD B)), some (.v (.bool neg)), some (.v (sD A)), some (.v (sD pt)), some (.v (sD bh)), some (.v (sD f)), none] : En) = ρ
  have v7 : eV 7 ρ = .ok (sD f) := by rw [← hρ]; rfl
  have v4 : eV 4 ρ = .ok (sD A) := by rw [← hρ]; rfl
  have v5 : eV 5 ρ = .ok (sD pt) := by rw [← hρ]; rfl
  have v6 : eV 6 ρ = .ok (sD bh) := by rw [← hρ]; rfl
  have v1 : eV 1 ρ = .ok (manD m) := by rw [← hρ]; rfl
  rw [raise_if (b := !areF f || (decide (1 < f.length) && decide (f.head? = some 48))) ?t1]
  case t1 =>
    refine bOr_ok (bNot_ok (bT_ok (by rw [eCall_ok (eL_1 v7), af]))) fun hf => bAnd_ok (bT_ok ?_) fun hl => bT_ok ?_
    · rw [e2_ok (d := .int (f.length : Nat)) (e := .int 1) (by rw [e1_ok' v7]; rfl) rfl]
      show Rs.ok (PyData.bool (decide ((1 : Int) < (f.length : Nat)))) = _
      congr 2
      simp
      omega
    · have hf : areF f = true := by simpa using hf
      cases f with
      | nil => cases hf
      | cons x r =>
        rw [e2_ok (d := .str (S [x])) (e := .str (S [48])) (by rw [e2_ok (d := sD (x :: r)) (e := .int 0) v7 rfl]; exact ix_0 x r) rfl, eqD_SS]
        simp
  by_cases t1 : (!areF f || (decide (1 < f.length) && decide (f.head? = some 48))) = true
  · rw [if_pos t1, if_pos t1]; rfl
  rw [if_neg t1, if_neg t1]
  have hf : areF f = true := by
    cases k : areF f with
    | true => rfl
    | false => rw [k] at t1; exact absurd rfl t1
  rw [raise_if (b := !decide (A = f ∨ A = grp m f)) ?t2]
  case t2 =>
    refine bT_ok ?_
    rw [e2_ok (d := sD A) (e := .tuple [sD f, sD (grp m f)]) v4 (by unfold eTup; rw [eL_2 v7 (by rw [eCall_ok (eL_2 v7 v1), gr])]; rfl)]
    exact in2_S A f (grp m f)
  by_cases t2 : A = f ∨ A = grp m f
  case neg => rw [if_pos (by simp [t2]), if_pos t2]; rfl
  rw [if_neg (by simp [t2]), if_neg (fun z => z t2)]
  rw [raise_if (b := (decide (pt ≠ []) != areF bh) || decide (9 < bh.length)) ?t3]
  case t3 =>
    refine bOr_ok (bT_ok ?_) fun _ => bT_ok ?_
    · rw [e2_ok (d := .bool (decide (pt ≠ []))) (e := .bool (areF bh)) (by rw [e2_ok (d := sD pt) (e := .str (S [])) v5 rfl]; show neD (.str (S pt)) (.str (S [])) = _; rw [neD_SS]; simp) (by rw [eCall_ok (eL_1 v6), ab])]
      cases decide (pt ≠ []) <;> cases areF bh <;> rfl
    · rw [e2_ok (d := .int (bh.length : Nat)) (e := .int 9) (by rw [e1_ok' v6]; rfl) rfl]
      show Rs.ok (PyData.bool (decide ((9 : Int) < (bh.length : Nat)))) = _
      congr 2
      simp
      omega
  by_cases t3 : (decide (pt ≠ []) != areF bh || decide (9 < bh.length)) = true
  · rw [if_pos t3, if_pos t3]; rfl
  rw [if_neg t3, if_neg t3]
  have hl9 : bh.length ≤ 9 := by
    have : decide (9 < bh.length) = false := by
      cases k : decide (9 < bh.length) with
      | false => rfl
      | true => rw [k] at t3; simp at t3
    simpa using this
  have hb : bh = [] ∨ areF bh = true := by
    cases k : areF bh with
    | true => exact .inr rfl
    | false =>
      rw [k] at t3
      refine .inl (hpb ?_)
      cases pt with
      | nil => rfl
      | cons x r => simp at t3
  have dg : NumText.AllDigits (f ++ bh) := by
    have one : ∀ l : List Nat, areF l = true → NumText.AllDigits l := fun l h => by
      unfold areF at h
      have h2 : l.all isF = true := by cases k : l.all isF with | true => rfl | false => rw [k] at h; simp at h
      intro c hc
      have := isF_iff.mp (List.all_eq_true.mp h2 c hc)
      exact this
    intro c hc
    rcases List.mem_append.mp hc with hc | hc
    · exact one f hf c hc
    · rcases hb with e | e
      · rw [e] at hc; cases hc
      · exact one bh e c hc
  have hne : f ++ bh ≠ [] := by
    cases f with
    | nil => cases hf
    | cons x r => simp
  have hi := intD_S dg hne (by rw [List.length_append]; omega)
  have q8 : e1 intD (e2 addD (eV 7) (eV 6)) ρ = .ok (.int ((NumText.digitsVal (f ++ bh) : Nat) : Int)) := by
    rw [e1_ok' (d := .str (S (f ++ bh))) (by rw [e2_ok (d := .str (S f)) (e := .str (S bh)) v7 v6, addD_S (by omega)]), hi]
  generalize NumText.digitsVal (f ++ bh) = n at *
  subst hρ
  rw [sSeq_nx (sAsg_nx (ρ' := [some (.v (sD t)), some (.g (manD m)), some (.v (sD B)), some (.v (.bool neg)), some (.v (sD A)), some (.v (sD pt)), some (.v (sD bh)), some (.v (sD f)), some (.v (.int (n : Nat)))]) q8 rfl)]
  have q9 : sIf (bD (eV 3)) (sAsg (gN 8) (e1 negD (eV 8))) sNx [some (.v (sD t)), some (.g (manD m)), some (.v (sD B)), some (.v (.bool neg)), some (.v (sD A)), some (.v (sD pt)), some (.v (sD bh)), some (.v (sD f)), some (.v (.int (n : Nat)))] = .nx [some (.v (sD t)), some (.g (manD m)), some (.v (sD B)), some (.v (.bool neg)), some (.v (sD A)), some (.v (sD pt)), some (.v (sD bh)), some (.v (sD f)), some (.v (.int (if neg then -((n : Nat) : Int) else (n : Nat))))] := by
    cases neg with
    | true => rw [sIf_t rfl]; rfl
    | false => rw [sIf_f rfl]; rfl
  rw [sSeq_nx q9]
  generalize hρ : ([some (.v (sD t)), some (.g (manD m)), some (.v (sD B)), some (.v (.bool neg)), some (.v (sD A)), some (.v (sD pt)), some (.v (sD bh)), some (.v (sD f)), some (.v (.int (if neg then -((n : Nat) : Int) else (n : Nat))))] : En) = ρ'
  have v8 : eV 8 ρ' = .ok (.int (if neg then -((n : Nat) : Int) else (n : Nat))) := by rw [← hρ]; rfl
  have v6 : eV 6 ρ' = .ok (sD bh) := by rw [← hρ]; rfl
  have v3 : eV 3 ρ' = .ok (.bool neg) := by rw [← hρ]; rfl
  rw [raise_if (b := decide (n = 0) && neg) ?t4]
  case t4 =>
    refine bAnd_ok (bT_ok ?_) fun _ => ?_
    · rw [e2_ok v8 rfl]
      show Rs.ok (PyData.bool (decide ((if neg then -((n : Nat) : Int) else (n : Nat)) = 0))) = _
      congr 2
      cases neg <;> simp
    · unfold bD; rw [v3]; rfl
  have e4 : (decide (n = 0) && neg) = true ↔ neg = true ∧ n = 0 := by simp [and_comm]
  by_cases t4 : neg = true ∧ n = 0
  · rw [if_pos (e4.mpr t4), if_pos t4]; rfl
  · rw [if_neg (fun z => t4 (e4.mp z)), if_neg t4]
    rw [sRet_rt (d := nrmD (if neg then -((n : Nat) : Int) else (n : Nat)) bh.length) (by rw [eCall_ok (eL_2 v8 (by rw [e1_ok' v6]; rfl)), S_len]; exact normal_eq (by omega))]
    rfl
end L2.Pz

namespace L2.Pz
open PySem PySem.Spec L2 L2.Pz.Fn
/-! ### what is shown is read -/
def put (m : Man) (neg : Bool) (t : List Nat) : List Nat := if neg then sgn m t else t
def tailOf (m : Man) (b : List Nat) : List Nat := if b = [] then [] else m.pt :: b
theorem gp_no {m : Man} (hm : m.Ok) {c : Nat} (h : c ∈ m.gp) : isF c = false ∧ c ≠ m.pt ∧ c ≠ 45 ∧ c ≠ 40 ∧ c ≠ 41 := by
  have key : ∀ g ∈ gps, ∀ c ∈ g, isF c = false ∧ c ≠ 45 ∧ c ≠ 40 ∧ c ≠ 41 ∧ g = [c] := by decide
  obtain ⟨h1, h2, h3, h4, h5⟩ := key _ hm.gp c h
  exact ⟨h1, fun z => hm.ne (by rw [h5, z]), h2, h3, h4⟩
/-- the signs of figures with gaps -/
def FG (m : Man) (A : List Nat) : Prop := ∀ c ∈ A, isF c = true ∨ c ∈ m.gp
theorem fg_no {m : Man} (hm : m.Ok) {A : List Nat} (h : FG m A) {c : Nat} (hc : c ∈ A) : c ≠ m.pt ∧ c ≠ 45 ∧ c ≠ 40 ∧ c ≠ 41 := by
  rcases h c hc with e | e
  · have := isF_iff.mp e
    refine ⟨fun z => ?_, by omega, by omega, by omega⟩
    have := hm.ptF.1
    rw [← z, e] at this
    cases this
  · exact (gp_no hm e).2
theorem part_put {m : Man} (hm : m.Ok) {A b : List Nat} (h : FG m A) : partL m.pt (A ++ tailOf m b) = (A, (if b = [] then [] else [m.pt]), b) := by
  have hn : m.pt ∉ A := fun z => (fg_no hm h z).1 rfl
  unfold tailOf
  by_cases hb : b = []
  · subst hb
    unfold partL
    simp [hn]
  · unfold partL
    rw [if_neg hb, if_neg hb, if_pos (by simp)]
    have e1 : (A ++ m.pt :: b).takeWhile (fun x => decide (x ≠ m.pt)) = A := by
      rw [List.takeWhile_append_of_pos (fun x hx => by simpa using fun z : x = m.pt => hn (z ▸ hx))]
      simp
    have e2 : (A ++ m.pt :: b).dropWhile (fun x => decide (x ≠ m.pt)) = m.pt :: b := by
      rw [List.dropWhile_append_of_pos (fun x hx => by simpa using fun z : x = m.pt => hn (z ▸ hx))]
      simp
    rw [e1, e2]
    rfl
theorem unsg_put {m : Man} (hm : m.Ok) {t : List Nat} (hne : t ≠ []) (h : ∀ c ∈ t, c ≠ 45 ∧ c ≠ 40 ∧ c ≠ 41) (neg : Bool) : unsg m (put m neg t) = (t, neg) := by
  have hl : ∀ x, t.drop (t.length - 1) = [x] → x ∈ t := fun x hx => List.mem_of_mem_drop (i := t.length - 1) (by rw [hx]; simp)
  have hf : ∀ x, t.take 1 = [x] → x ∈ t := fun x hx => List.mem_of_mem_take (i := 1) (by rw [hx]; simp)
  unfold unsg put sgn
  cases neg with
  | false =>
    cases m.sg with
    | ahead => simp only [Bool.false_eq_true, if_false]; rw [if_neg (fun z => (h _ (hf _ z)).1 rfl)]
    | behind => simp only [Bool.false_eq_true, if_false]; rw [if_neg (fun z => (h _ (hl _ z)).1 rfl)]
    | brackets => simp only [Bool.false_eq_true, if_false]; rw [if_neg (fun z => (h _ (hf _ z.1)).2.1 rfl)]
  | true =>
    cases m.sg with
    | ahead => simp
    | behind => simp
    | brackets => simp
theorem readM_of {m : Man} (hm : m.Ok) {A f b : List Nat} {neg : Bool} (hA : FG m A) (hfig : figsOf m A = f) (hf : areF f = true) (hh : 1 < f.length → f.head? ≠ some 48) (hA2 : A = f ∨ A = grp m f) (hb : b = [] ∨ areF b = true) (hl : b.length ≤ 9) (hn : neg = true → NumText.digitsVal (f ++ b) ≠ 0) :
    readM m (put m neg (A ++ tailOf m b)) = some (nrm (if neg then -((NumText.digitsVal (f ++ b) : Nat) : Int) else ((NumText.digitsVal (f ++ b) : Nat) : Int)) b.length) := by
  have hAne : A ≠ [] := fun z => by
    rw [z] at hfig
    have : figsOf m [] = [] := by unfold figsOf; split <;> rfl
    rw [this] at hfig
    rw [← hfig] at hf
    cases hf
  have bF : ∀ c ∈ b, isF c = true := fun c hc => by
    rcases hb with e | e
    · rw [e] at hc; cases hc
    · unfold areF at e
      have h2 : b.all isF = true := by cases k : b.all isF with | true => rfl | false => rw [k] at e; simp at e
      exact List.all_eq_true.mp h2 c hc
  have hu : unsg m (put m neg (A ++ tailOf m b)) = (A ++ tailOf m b, neg) := unsg_put hm (by simp [hAne]) (fun c hc => by
    rcases List.mem_append.mp hc with h | h
    · exact (fg_no hm hA h).2
    · unfold tailOf at h
      split at h
      · cases h
      · rcases List.mem_cons.mp h with e | e
        · rw [e]; exact hm.ptF.2.2
        · have := isF_iff.mp (bF c e); omega) neg
  have hp := part_put hm (b := b) hA
  have bb : (decide ((if b = [] then [] else [m.pt]) ≠ []) != areF b) = false := by
    rcases hb with e | e
    · rw [e]; rfl
    · have : b ≠ [] := fun z => by rw [z] at e; cases e
      rw [if_neg this, e]; simp
  unfold readM
  rw [hu]
  simp only
  rw [hp]
  simp only
  rw [hfig, hf, bb]
  rw [if_neg, if_neg, if_neg, if_neg]
  · exact fun z => hn z.1 z.2
  · simp; omega
  · exact fun z => z hA2
  · simp only [Bool.not_true, Bool.false_or, Bool.and_eq_true, decide_eq_true_eq]
    exact fun z => hh z.1 z.2
end L2.Pz

namespace L2.Pz
open PySem PySem.Spec L2 L2.Pz.Fn
theorem chk_flat (s : Nat) : ∀ f l, (chk s f l).flatten = l
  | 0, l => by simp [chk]
  | f + 1, l => by
    rw [chk]
    split
    · simp
    · rw [List.flatten_append, chk_flat s f]
      simp
theorem joinC_nil : ∀ xs : List (List Nat), joinC [] xs = xs.flatten
  | [] => rfl
  | [x] => by simp [joinC]
  | x :: y :: r => by rw [joinC, joinC_nil (y :: r)]; simp
theorem joinC_strike {c : Nat} : ∀ {xs : List (List Nat)}, (∀ x ∈ xs, c ∉ x) → (joinC [c] xs).filter (· != c) = xs.flatten
  | [], _ => rfl
  | [x], h => by
    rw [joinC, List.filter_eq_self.mpr]
    · simp
    · intro a ha
      have := h x (by simp)
      simpa using fun z : a = c => this (z ▸ ha)
  | x :: y :: r, h => by
    rw [joinC, List.filter_append, List.filter_append, joinC_strike (xs := y :: r) fun z hz => h z (by simp at hz ⊢; exact .inr hz)]
    have : x.filter (· != c) = x := List.filter_eq_self.mpr fun a ha => by
      have := h x (by simp)
      simpa using fun z : a = c => this (z ▸ ha)
    rw [this]
    simp
theorem figs_self {m : Man} (hm : m.Ok) {l : List Nat} (h : ∀ c ∈ l, isF c = true) : figsOf m l = l := by
  unfold figsOf
  split
  · rename_i c e
    refine List.filter_eq_self.mpr fun a ha => ?_
    have h1 := h a ha
    have h2 := (gp_no hm (c := c) (by rw [e]; simp)).1
    simpa using fun z : a = c => by rw [z, h2] at h1; cases h1
  · rfl
theorem figs_grp {m : Man} (hm : m.Ok) {l : List Nat} (h : ∀ c ∈ l, isF c = true) : figsOf m (grp m l) = l := by
  have fl : (chk m.sl l.length (l.take (l.length - m.s0)) ++ [l.drop (l.length - m.s0)]).flatten = l := by
    rw [List.flatten_append, chk_flat]; simp
  unfold grp
  split
  · exact figs_self hm h
  · unfold figsOf
    split
    · rename_i c e
      rw [e, joinC_strike, fl]
      intro x hx hc
      have hl : c ∈ l := by
        rw [← fl]
        exact List.mem_flatten.mpr ⟨x, hx, hc⟩
      have h1 := h c hl
      have h2 := (gp_no hm (c := c) (by rw [e]; simp)).1
      rw [h1] at h2
      cases h2
    · rename_i hne
      have hg : m.gp = [] := by
        have := hm.gp1
        cases k : m.gp with
        | nil => rfl
        | cons x r =>
          rw [k] at this
          cases r with
          | nil => exact absurd k (hne x)
          | cons _ _ => simp at this
      rw [hg, joinC_nil, fl]
theorem fg_grp {m : Man} {l : List Nat} (h : ∀ c ∈ l, isF c = true) : FG m (grp m l) := fun c hc => by
  rcases grp_mem hc with e | e
  · exact .inr e
  · exact .inl (h c e)
theorem val_app (a : List Nat) : ∀ b : List Nat, NumText.digitsVal (a ++ b) = NumText.digitsVal a * 10 ^ b.length + NumText.digitsVal b := by
  have key : ∀ (b : List Nat) (x : Nat), b.foldl (fun acc c => acc * 10 + (c - 48)) x = x * 10 ^ b.length + b.foldl (fun acc c => acc * 10 + (c - 48)) 0 := by
    intro b
    induction b with
    | nil => simp
    | cons c r ih =>
      intro x
      rw [List.foldl_cons, List.foldl_cons, ih (x * 10 + (c - 48)), ih (0 * 10 + (c - 48)), List.length_cons, Nat.pow_succ]
      generalize 10 ^ r.length = e
      generalize c - 48 = d
      rw [Nat.add_mul, Nat.mul_assoc, Nat.mul_comm 10 e, Nat.zero_mul, Nat.zero_add]
      omega
  intro b
  unfold NumText.digitsVal
  rw [List.foldl_append, key]
theorem val_noughts (n : Nat) : NumText.digitsVal (List.replicate n 48) = 0 := by
  induction n with
  | zero => rfl
  | succ n ih => rw [List.replicate_succ', NumText.digitsVal_snoc, ih]
theorem val_text (n p least : Nat) : NumText.digitsVal (D (n / 10 ^ p) ++ bhd n p least) = n * 10 ^ (least - p) := by
  unfold bhd
  rw [← List.append_assoc, val_app, val_app, val_D, val_padD, padD_len, val_noughts, List.length_replicate, Nat.add_zero]
  congr 1
  have := Nat.div_add_mod n (10 ^ p)
  rw [Nat.mul_comm] at this
  exact this
theorem D_pos0 : ∀ n : Nat, 0 < n → (D n).head? ≠ some 48 := by
  intro n
  induction n using Nat.strongRecOn with
  | ind n ih =>
    intro h
    by_cases hn : n < 10
    · rw [D_small hn]
      simp
      omega
    · rw [D_step (by omega)]
      have := ih (n / 10) (by omega) (by omega)
      obtain ⟨c, r, e, _⟩ := D_head (n / 10)
      rw [e] at this ⊢
      simpa using this
theorem D_no0 {n : Nat} (h : 1 < (D n).length) : (D n).head? ≠ some 48 := by
  refine D_pos0 n ?_
  cases n with
  | zero => rw [D_small (by decide)] at h; simp at h
  | succ n => omega
theorem areF_D (n : Nat) : areF (D n) = true := by
  unfold areF
  have h1 := D_ne n
  have h2 : (D n).all isF = true := List.all_eq_true.mpr (D_isF n)
  cases k : D n with
  | nil => exact absurd k h1
  | cons x r => rw [k] at h2; simpa using h2
theorem bdy_eq (m : Man) (n p least : Nat) : bdy m n p least = grp m (D (n / 10 ^ p)) ++ tailOf m (bhd n p least) := by
  unfold bdy tailOf
  split <;> simp
theorem areF_bhd (n p least : Nat) : bhd n p least = [] ∨ areF (bhd n p least) = true := by
  by_cases h : bhd n p least = []
  · exact .inl h
  · refine .inr ?_
    have h2 : (bhd n p least).all isF = true := List.all_eq_true.mpr (bhd_isF n p least)
    unfold areF
    cases k : bhd n p least with
    | nil => exact absurd k h
    | cons x r => rw [k] at h2; simpa using h2
theorem nrm_back {d : Int} {p least : Nat} (h : p = 0 ∨ d % 10 ≠ 0) : nrm (d * 10 ^ (least - p)) (max p least) = (d, p) := by
  have e : max p least = p + (least - p) := by omega
  rw [e, nrm_scale, nrm_of_isN h]
theorem read_back {m : Man} (hm : m.Ok) {d : Int} {p least : Nat} (h : p = 0 ∨ d % 10 ≠ 0) (hp : p ≤ 9) (hl : least ≤ 9) {A : List Nat} (hA : A = D (d.natAbs / 10 ^ p) ∨ A = grp m (D (d.natAbs / 10 ^ p))) :
    readM m (put m (decide (d < 0)) (A ++ tailOf m (bhd d.natAbs p least))) = some (d, p) := by
  have hF := D_isF (d.natAbs / 10 ^ p)
  have fg : FG m A := by
    rcases hA with e | e
    · rw [e]; exact fun c hc => .inl (hF c hc)
    · rw [e]; exact fg_grp hF
  have fi : figsOf m A = D (d.natAbs / 10 ^ p) := by
    rcases hA with e | e
    · rw [e]; exact figs_self hm hF
    · rw [e]; exact figs_grp hm hF
  have t10 : 0 < 10 ^ (least - p) := Nat.pow_pos (by decide)
  rw [readM_of hm fg fi (areF_D _) (fun z => D_no0 z) hA (areF_bhd _ _ _) (by rw [bhd_len]; omega) (fun z => by
    rw [val_text]
    have : d < 0 := by simpa using z
    have h1 : 0 < d.natAbs := by omega
    have := Nat.mul_pos h1 t10
    omega), val_text, bhd_len]
  congr 1
  have e : (if decide (d < 0) = true then -((d.natAbs * 10 ^ (least - p) : Nat) : Int) else ((d.natAbs * 10 ^ (least - p) : Nat) : Int)) = d * 10 ^ (least - p) := by
    rw [Int.natCast_mul, Int.natCast_pow]
    by_cases hd : d < 0
    · rw [if_pos (by simpa using hd), ← Int.neg_mul]
      congr 1
      omega
    · rw [if_neg (by simpa using hd)]
      congr 1
      omega
  rw [e]
  exact nrm_back h
theorem txt_put (m : Man) (d : Int) (p least : Nat) : txt m d p least = put m (decide (d < 0)) (grp m (D (d.natAbs / 10 ^ p)) ++ tailOf m (bhd d.natAbs p least)) := by
  unfold txt put
  rw [bdy_eq]
  by_cases h : d < 0 <;> simp [h]
theorem read_txt {m : Man} (hm : m.Ok) {d : Int} {p least : Nat} (h : p = 0 ∨ d % 10 ≠ 0) (hp : p ≤ 9) (hl : least ≤ 9) : readM m (txt m d p least) = some (d, p) := by
  rw [txt_put]
  exact read_back hm h hp hl (.inr rfl)
end L2.Pz

namespace L2.Pz
open PySem PySem.Spec L2 L2.Pz.Fn
def optD : Option (Int × Nat) → PyData
  | some x => numD x
  | none => .none
theorem law_read_eq {m : Man} (hm : m.Ok) {t : List Nat} (ht : t.length ≤ 600) : F__law_read [sD t, manD m] = .ok (optD (readM m t)) := by
  have h := read_eq hm ht
  unfold F__law_read
  rw [lock_eq]
  unfold fnT b__law_read
  cases k : readM m t with
  | some x =>
    rw [k] at h
    simp only [outR] at h
    generalize manD m = M at *
    generalize sD t = T at *
    simp [h, optD, mkS]
  | none =>
    rw [k] at h
    simp only [outR, cNoNumber] at h
    generalize manD m = M at *
    generalize sD t = T at *
    simp [h, optD, noEr, mkS]
theorem read_shown {m : Man} (hm : m.Ok) {f : Fm} (hf : f.Ok) (w : Way) (x : Int × Nat) : readM m (shownL m f w x) = some (rdN w f x) := by
  unfold shownL
  rw [read_txt hm (rdN_isN w f x).2 (rdN_le w f x) (fmL_le hf)]
theorem shown_inj {m : Man} (hm : m.Ok) {f : Fm} (hf : f.Ok) (w : Way) (x y : Int × Nat) : shownL m f w x = shownL m f w y ↔ rdN w f x = rdN w f y := by
  constructor
  · intro h
    have h1 := read_shown hm hf w x
    rw [h, read_shown hm hf w y] at h1
    exact (Option.some.inj h1).symm
  · intro h
    unfold shownL
    rw [h]
/-- a text without its gaps -/
def flat (m : Man) (t : List Nat) : List Nat := figsOf m t
theorem filter_id {c : Nat} {l : List Nat} (h : c ∉ l) : l.filter (· != c) = l := List.filter_eq_self.mpr fun a ha => by simpa using fun z : a = c => h (z ▸ ha)
theorem flat_txt {m : Man} (hm : m.Ok) (d : Int) (p least : Nat) : flat m (txt m d p least) = put m (decide (d < 0)) (D (d.natAbs / 10 ^ p) ++ tailOf m (bhd d.natAbs p least)) := by
  have e1 := figs_grp hm (D_isF (d.natAbs / 10 ^ p))
  rw [txt_put]
  generalize decide (d < 0) = neg
  have bF := bhd_isF d.natAbs p least
  generalize bhd d.natAbs p least = b at *
  generalize D (d.natAbs / 10 ^ p) = l at *
  unfold flat
  unfold figsOf at e1 ⊢
  split
  · rename_i c e
    obtain ⟨g1, g2, g3, g4, g5⟩ := gp_no hm (c := c) (by rw [e]; simp)
    rw [e] at e1
    simp only at e1
    have et : (tailOf m b).filter (· != c) = tailOf m b := filter_id fun z => by
      unfold tailOf at z
      split at z
      · cases z
      · rcases List.mem_cons.mp z with z | z
        · exact g2 z
        · rw [bF c z] at g1; cases g1
    unfold put sgn
    have n45 : [45].filter (· != c) = [45] := filter_id (by simpa using g3)
    have n40 : [40].filter (· != c) = [40] := filter_id (by simpa using g4)
    have n41 : [41].filter (· != c) = [41] := filter_id (by simpa using g5)
    cases neg with
    | false => simp only [Bool.false_eq_true, if_false]; rw [List.filter_append, e1, et]
    | true =>
      simp only [if_true]
      cases m.sg with
      | ahead => simp only; rw [← List.singleton_append, List.filter_append, List.filter_append, n45, e1, et]; rfl
      | behind => simp only; rw [List.filter_append, List.filter_append, n45, e1, et]
      | brackets => simp only; rw [List.filter_append, ← List.singleton_append, List.filter_append, List.filter_append, n40, n41, e1, et]; rfl
  · rename_i hne
    have : grp m l = l := by
      split at e1
      · rename_i c e; exact absurd e (hne c)
      · exact e1
    rw [this]
theorem read_flat {m : Man} (hm : m.Ok) {f : Fm} (hf : f.Ok) (w : Way) (x : Int × Nat) : readM m (flat m (shownL m f w x)) = some (rdN w f x) := by
  unfold shownL
  rw [flat_txt hm]
  exact read_back hm (rdN_isN w f x).2 (rdN_le w f x) (fmL_le hf) (.inl rfl)
theorem flat_len (m : Man) (t : List Nat) : (flat m t).length ≤ t.length := figsOf_len m t
/-- the line that makes it flat -/
theorem flat_step {m : Man} (hm : m.Ok) {i j o : Nat} {ρ : En} {t : List Nat} (ht : t.length ≤ 100000) (hi : ρ[i]? = some (some (.g (manD m)))) (hj : eV j ρ = .ok (sD t)) (ho : ρ[o]? = some (some (.v (sD t)))) :
    sIf (bT (e2 neD (e2 ixD (eV i) (eC (.int 1))) (eC (.str (S []))))) (sAsg (gN o) (eRepl i (eV j))) sNx ρ = .nx (ρ.set o (some (.v (sD (flat m t))))) := by
  have vi : eV i ρ = .ok (manD m) := by unfold eV; rw [hi]
  have ts : bT (e2 neD (e2 ixD (eV i) (eC (.int 1))) (eC (.str (S [])))) ρ = .ok (!decide (m.gp = [])) := bT_ok (by rw [e2_ok (d := .str (S m.gp)) (e := .str (S [])) (by rw [e2_ok vi rfl, man_1]) rfl, neD_SS])
  unfold flat
  by_cases hg : m.gp = []
  · rw [sIf_f (by rw [ts]; simp [hg])]
    have e : figsOf m t = t := by unfold figsOf; rw [hg]
    rw [e]
    show SR.nx ρ = _
    congr 1
    refine List.ext_getElem? fun n => ?_
    by_cases hn : o = n
    · subst hn
      have hl : o < ρ.length := by
        by_cases hl : o < ρ.length
        · exact hl
        · rw [List.getElem?_eq_none (by omega)] at ho; cases ho
      rw [List.getElem?_set_self hl, ho]
    · rw [List.getElem?_set_ne hn]
  · rw [sIf_t (by rw [ts]; simp [hg])]
    obtain ⟨c, e⟩ : ∃ c, m.gp = [c] := by
      have := hm.gp1
      cases k : m.gp with
      | nil => exact absurd k hg
      | cons x r =>
        rw [k] at this
        cases r with
        | nil => exact ⟨x, rfl⟩
        | cons _ _ => simp at this
    have er : eRepl i (eV j) ρ = .ok (sD (figsOf m t)) := by
      unfold eRepl
      rw [hj, Rs.bind_ok]
      unfold manD at hi
      unfold figsOf
      rw [e] at hi ⊢
      rw [hi]
      show (if ((S [c] == S []) = false ∧ (S t).length ≤ 1000000) then Rs.ok (PyData.str (Txt.replace (S t) (S [c]) (S []))) else Rs.no) = _
      rw [if_pos ⟨rfl, by rw [S_len]; omega⟩, repl_S]
      rfl
    rw [sAsg_nx er rfl]
end L2.Pz

namespace L2.Pz
open PySem PySem.Spec L2 L2.Pz.Fn
/-! ### what is read was shown so -/
theorem unsg_inv {m : Man} {t B : List Nat} {neg : Bool} (h : unsg m t = (B, neg)) : t = put m neg B := by
  unfold unsg at h
  unfold put sgn
  cases k : m.sg with
  | ahead =>
    rw [k] at h
    simp only at h
    split at h
    · rename_i e
      cases h
      simp only [if_true]
      cases t with
      | nil => cases e
      | cons x r => simp at e; rw [e]; rfl
    · cases h; rfl
  | behind =>
    rw [k] at h
    simp only at h
    split at h
    · rename_i e
      cases h
      simp only [if_true]
      rw [← e, List.take_append_drop]
    · cases h; rfl
  | brackets =>
    rw [k] at h
    simp only at h
    split at h
    · rename_i e
      cases h
      simp only [if_true]
      cases t with
      | nil => cases e.1
      | cons x r =>
        have e1 : x = 40 := by simpa using e.1
        subst e1
        cases r with
        | nil => simp at e
        | cons y r =>
          have e2 := e.2
          have hl : (40 :: y :: r).length - 1 = r.length + 1 := by simp
          rw [hl] at e2 ⊢
          rw [List.take_succ_cons]
          simp only [List.drop_succ_cons, List.drop_zero] at e2 ⊢
          rw [← e2, List.cons_append, List.take_append_drop]
    · cases h; rfl
theorem partL_inv {m : Man} {B A p b : List Nat} (h : partL m.pt B = (A, p, b)) (hb : decide (p ≠ []) = areF b) : B = A ++ tailOf m b := by
  unfold partL at h
  split at h
  · rename_i hm
    cases h
    have hne : ¬ (B.dropWhile fun x => decide (x ≠ m.pt)).tail = [] := fun z => by rw [z] at hb; cases hb
    unfold tailOf
    rw [if_neg hne]
    have e : m.pt :: (B.dropWhile fun x => decide (x ≠ m.pt)).tail = B.dropWhile fun x => decide (x ≠ m.pt) := by
      clear hb hne
      induction B with
      | nil => cases hm
      | cons y r ih =>
        by_cases hy : y = m.pt
        · rw [List.dropWhile_cons]; simp [hy]
        · rw [List.dropWhile_cons]
          have : decide (y ≠ m.pt) = true := by simpa using hy
          rw [if_pos this]
          exact ih (by simpa [Ne.symm hy] using hm)
    rw [e, List.takeWhile_append_dropWhile]
  · cases h
    unfold tailOf
    simp
/-- figures are those of their number -/
theorem D_valR : ∀ (r : List Nat), (∀ c ∈ r.reverse, isF c = true) → r ≠ [] → (1 < r.length → r.reverse.head? ≠ some 48) → D (NumText.digitsVal r.reverse) = r.reverse
  | [], _, h, _ => absurd rfl h
  | [c], hF, _, _ => by
    have hc := isF_iff.mp (hF c (by simp))
    have e : NumText.digitsVal [c] = c - 48 := by unfold NumText.digitsVal; simp
    show D (NumText.digitsVal [c]) = [c]
    rw [e, D_small (by omega)]
    congr 1
    omega
  | c :: x :: r, hF, _, h0 => by
    have hc := isF_iff.mp (hF c (by simp))
    have hh := h0 (by simp)
    rw [List.reverse_cons] at hh hF ⊢
    have hd : ((x :: r).reverse ++ [c]).head? = (x :: r).reverse.head? := by
      cases k : (x :: r).reverse with
      | nil => simp at k
      | cons y z => rfl
    rw [hd] at hh
    have ih := D_valR (x :: r) (fun y hy => hF y (List.mem_append_left _ hy)) (by simp) (fun _ => hh)
    have hv : 0 < NumText.digitsVal (x :: r).reverse := by
      cases k : NumText.digitsVal (x :: r).reverse with
      | zero => rw [k, D_small (by decide)] at ih; rw [← ih] at hh; exact absurd rfl hh
      | succ n => omega
    rw [NumText.digitsVal_snoc, D_step (by omega)]
    have e1 : (NumText.digitsVal (x :: r).reverse * 10 + (c - 48)) / 10 = NumText.digitsVal (x :: r).reverse := by omega
    have e2 : 48 + (NumText.digitsVal (x :: r).reverse * 10 + (c - 48)) % 10 = c := by omega
    rw [e1, e2, ih]
theorem D_val {l : List Nat} (h : areF l = true) (h0 : 1 < l.length → l.head? ≠ some 48) : D (NumText.digitsVal l) = l := by
  have hF : ∀ c ∈ l, isF c = true := by
    unfold areF at h
    have h2 : l.all isF = true := by cases k : l.all isF with | true => rfl | false => rw [k] at h; simp at h
    exact List.all_eq_true.mp h2
  have hne : l ≠ [] := fun z => by rw [z] at h; cases h
  have := D_valR l.reverse (by rw [List.reverse_reverse]; exact hF) (by simpa using hne) (by rw [List.reverse_reverse, List.length_reverse]; exact h0)
  rw [List.reverse_reverse] at this
  exact this
theorem pad_valR : ∀ (r : List Nat), (∀ c ∈ r.reverse, isF c = true) → padD r.length (NumText.digitsVal r.reverse) = r.reverse
  | [], _ => rfl
  | c :: r, hF => by
    rw [List.reverse_cons] at hF ⊢
    have hc := isF_iff.mp (hF c (by simp))
    have ih := pad_valR r fun y hy => hF y (List.mem_append_left _ hy)
    rw [NumText.digitsVal_snoc, List.length_cons, padD]
    have e1 : (NumText.digitsVal r.reverse * 10 + (c - 48)) / 10 = NumText.digitsVal r.reverse := by omega
    have e2 : 48 + (NumText.digitsVal r.reverse * 10 + (c - 48)) % 10 = c := by omega
    rw [e1, e2, ih]
theorem pad_val {l : List Nat} (h : ∀ c ∈ l, isF c = true) : padD l.length (NumText.digitsVal l) = l := by
  have := pad_valR l.reverse (by rw [List.reverse_reverse]; exact h)
  rw [List.reverse_reverse, List.length_reverse] at this
  exact this
theorem areF_all {l : List Nat} (h : areF l = true) : ∀ c ∈ l, isF c = true := by
  unfold areF at h
  have h2 : l.all isF = true := by cases k : l.all isF with | true => rfl | false => rw [k] at h; simp at h
  exact List.all_eq_true.mp h2
theorem val_lt {l : List Nat} (h : ∀ c ∈ l, isF c = true) : NumText.digitsVal l < 10 ^ l.length := by
  have e := congrArg NumText.digitsVal (pad_val h)
  rw [val_padD] at e
  rw [← e]
  exact Nat.mod_lt _ (Nat.pow_pos (by decide))
/-- noughts behind are kept by least -/
theorem bhd_scale (n p k : Nat) : bhd n p (p + k) = padD (p + k) (n * 10 ^ k) := by
  unfold bhd
  rw [Nat.add_sub_cancel_left]
  induction k generalizing n with
  | zero => simp
  | succ k ih =>
    rw [List.replicate_succ', ← List.append_assoc, ih, ← Nat.add_assoc, padD, Nat.pow_succ, ← Nat.mul_assoc]
    have e1 : n * 10 ^ k * 10 / 10 = n * 10 ^ k := by omega
    have e2 : n * 10 ^ k * 10 % 10 = 0 := by omega
    rw [e1, e2]
/-- what a readable text is -/
theorem read_inv {m : Man} (hm : m.Ok) {t : List Nat} {x : Int × Nat} (h : readM m t = some x) : ∃ (neg : Bool) (f b A : List Nat), t = put m neg (A ++ tailOf m b) ∧ (A = f ∨ A = grp m f) ∧ areF f = true ∧ (1 < f.length → f.head? ≠ some 48) ∧ (b = [] ∨ areF b = true) ∧ b.length ≤ 9 ∧
    (neg = true → NumText.digitsVal (f ++ b) ≠ 0) ∧ x = nrm (if neg then -((NumText.digitsVal (f ++ b) : Nat) : Int) else ((NumText.digitsVal (f ++ b) : Nat) : Int)) b.length := by
  unfold readM at h
  generalize hU : unsg m t = U at h
  obtain ⟨B, neg⟩ := U
  simp only at h
  generalize hP : partL m.pt B = P at h
  obtain ⟨A, p, b⟩ := P
  simp only at h
  generalize figsOf m A = f at h
  split at h
  · cases h
  rename_i c1
  split at h
  · cases h
  rename_i c2
  split at h
  · cases h
  rename_i c3
  split at h
  · cases h
  rename_i c4
  have hf : areF f = true := by cases k : areF f with | true => rfl | false => rw [k] at c1; exact absurd rfl c1
  rw [hf] at c1
  have c3a : (decide (p ≠ []) != areF b) = false := by cases k : (decide (p ≠ []) != areF b) with | false => rfl | true => rw [k] at c3; exact absurd rfl c3
  rw [c3a] at c3
  have hpb : decide (p ≠ []) = areF b := by revert c3a; cases decide (p ≠ []) <;> cases areF b <;> decide
  refine ⟨neg, f, b, A, ?_, Decidable.of_not_not c2, hf, fun z w => ?_, ?_, ?_, fun z w => c4 ⟨z, w⟩, (Option.some.inj h).symm⟩
  · rw [unsg_inv hU, partL_inv hP hpb]
  · simp [z, w] at c1
  · cases k : areF b with
    | true => exact .inr rfl
    | false =>
      refine .inl ?_
      rw [k] at hpb
      have : p = [] := by simpa using hpb
      unfold partL at hP
      split at hP
      · cases hP; cases this
      · cases hP; rfl
  · simpa using c3
/-- how it is shown again -/
theorem due_inv {m : Man} {f b : List Nat} {neg : Bool} {x : Int × Nat} (hf : areF f = true) (h0 : 1 < f.length → f.head? ≠ some 48) (hb : b = [] ∨ areF b = true) (hn : neg = true → NumText.digitsVal (f ++ b) ≠ 0)
    (hx : x = nrm (if neg then -((NumText.digitsVal (f ++ b) : Nat) : Int) else ((NumText.digitsVal (f ++ b) : Nat) : Int)) b.length) :
    decide (x.1 < 0) = neg ∧ x.2 ≤ b.length ∧ D (x.1.natAbs / 10 ^ x.2) = f ∧ bhd x.1.natAbs x.2 b.length = b := by
  have bF : ∀ c ∈ b, isF c = true := by
    rcases hb with e | e
    · rw [e]; exact fun c hc => by cases hc
    · exact areF_all e
  generalize hV : NumText.digitsVal (f ++ b) = V at *
  have hle : x.2 ≤ b.length := by rw [hx]; exact nrm_le _ _
  have hval : x.1 * 10 ^ (b.length - x.2) = (if neg then -((V : Nat) : Int) else ((V : Nat) : Int)) := by rw [hx]; exact nrm_val _ _
  have hsg : x.1 < 0 ↔ (if neg then -((V : Nat) : Int) else ((V : Nat) : Int)) < 0 := by rw [hx]; exact nrm_lt _ _
  have hva : x.1.natAbs * 10 ^ (b.length - x.2) = V := by
    have := congrArg Int.natAbs hval
    rw [Int.natAbs_mul, Int.natAbs_pow] at this
    cases neg <;> simpa using this
  obtain ⟨k, hk⟩ : ∃ k, b.length = x.2 + k := ⟨b.length - x.2, by omega⟩
  rw [hk, Nat.add_sub_cancel_left] at hva
  have hV2 : V = NumText.digitsVal f * 10 ^ b.length + NumText.digitsVal b := by rw [← hV, val_app]
  have hlt := val_lt bF
  have tp : 0 < 10 ^ b.length := Nat.pow_pos (by decide)
  refine ⟨?_, hle, ?_, ?_⟩
  · cases neg with
    | false =>
      have : ¬ x.1 < 0 := by rw [hsg]; simp
      simpa using this
    | true =>
      have : x.1 < 0 := by
        rw [hsg]
        have := hn rfl
        simp
        omega
      simpa using this
  · have e : x.1.natAbs / 10 ^ x.2 = NumText.digitsVal f := by
      have e1 : V / 10 ^ b.length = NumText.digitsVal f := by
        rw [hV2, Nat.mul_comm, Nat.mul_add_div tp, Nat.div_eq_of_lt hlt, Nat.add_zero]
      rw [← e1, ← hva, hk, Nat.add_comm x.2 k, Nat.pow_add, ← Nat.div_div_eq_div_mul, Nat.mul_div_cancel _ (Nat.pow_pos (by decide))]
    rw [e]
    exact D_val hf h0
  · rw [hk, bhd_scale, hva, ← hk, ← padD_mod, hV2, Nat.mul_comm, Nat.mul_add_mod, Nat.mod_eq_of_lt hlt]
    exact pad_val bF
end L2.Pz

namespace L2.Pz
open PySem PySem.Spec L2 L2.Pz.Fn
/-! ### every text is refused, or shown so (k07) -/
def noT : PyData := .tuple [.str (S [110, 111]), .bool true, .bool false, .bool true]
def toldD : Option (Int × Nat) → PyData
  | some x => .tuple [.str (S [104, 101, 114, 101]), numD x]
  | none => noT
theorem law_told_k07 {m : Man} (hm : m.Ok) {t : List Nat} (ht : t.length ≤ 600) : F__law_told [sD t, manD m] = .ok (toldD (readM m t)) := by
  have h := read_eq hm ht
  unfold F__law_told
  rw [lock_eq]
  change outF (b__law_told [some (.v (sD t)), some (.g (manD m)), none, none]) = _
  unfold b__law_told
  cases k : readM m t with
  | some x =>
    rw [k] at h
    simp only [outR] at h
    generalize manD m = M at *
    generalize sD t = T at *
    simp [h, toldD]
  | none =>
    rw [k] at h
    simp only [outR, cNoNumber] at h
    generalize manD m = M at *
    generalize sD t = T at *
    simp [h, toldD, noT]
theorem fg_filter {m : Man} (hm : m.Ok) {A : List Nat} (h : FG m A) : A.filter isF = figsOf m A := by
  unfold figsOf
  split
  · rename_i c e
    have hc := (gp_no hm (c := c) (by rw [e]; simp)).1
    refine List.filter_congr fun a ha => ?_
    rcases h a ha with z | z
    · rw [z]
      have : a ≠ c := fun w => by rw [w, hc] at z; cases z
      simp [this]
    · rw [e] at z
      have : a = c := by simpa using z
      rw [this, hc]
      simp
  · rename_i hne
    refine List.filter_eq_self.mpr fun a ha => ?_
    rcases h a ha with z | z
    · exact z
    · have := hm.gp1
      cases k : m.gp with
      | nil => rw [k] at z; cases z
      | cons y r =>
        rw [k] at this
        cases r with
        | nil => exact absurd k (hne y)
        | cons _ _ => simp at this
/-- how many figures a text has -/
def cnt (t : List Nat) : Nat := (t.filter isF).length
theorem cnt_app (a b : List Nat) : cnt (a ++ b) = cnt a + cnt b := by unfold cnt; simp
theorem cnt_F {l : List Nat} (h : ∀ c ∈ l, isF c = true) : cnt l = l.length := by unfold cnt; rw [List.filter_eq_self.mpr h]
theorem cnt_put {m : Man} (neg : Bool) (t : List Nat) : cnt (put m neg t) = cnt t := by
  have e1 : isF 45 = false := by decide
  have e2 : isF 40 = false := by decide
  have e3 : isF 41 = false := by decide
  unfold put sgn cnt
  cases neg with
  | false => rfl
  | true => cases m.sg <;> simp [e1, e2, e3]
theorem cnt_tail {m : Man} (hm : m.Ok) {b : List Nat} (h : ∀ c ∈ b, isF c = true) : cnt (tailOf m b) = b.length := by
  unfold tailOf
  split
  · rename_i e; rw [e]; rfl
  · have : cnt (m.pt :: b) = cnt b := by unfold cnt; rw [List.filter_cons, hm.ptF.1]; rfl
    rw [this, cnt_F h]
theorem cnt_txt {m : Man} (hm : m.Ok) (d : Int) (p least : Nat) : cnt (txt m d p least) = (D (d.natAbs / 10 ^ p)).length + max p least := by
  have hF := D_isF (d.natAbs / 10 ^ p)
  rw [txt_put, cnt_put, cnt_app, cnt_tail hm (bhd_isF _ _ _), bhd_len]
  unfold cnt
  rw [fg_filter hm (fg_grp hF), figs_grp hm hF]
/-- what stands behind the point -/
theorem behind_put {m : Man} (hm : m.Ok) {A b : List Nat} (h : FG m A) (hb : ∀ c ∈ b, isF c = true) (neg : Bool) : ((partL m.pt (put m neg (A ++ tailOf m b))).2.2.filter isF) = b := by
  have n45 := hm.ptF.2.2.1
  have n40 := hm.ptF.2.2.2.1
  have n41 := hm.ptF.2.2.2.2
  have hn : m.pt ∉ A := fun z => (fg_no hm h z).1 rfl
  have e1 : isF 45 = false := by decide
  have e3 : isF 41 = false := by decide
  have key : ∀ pre post : List Nat, m.pt ∉ pre → m.pt ∉ post → post.filter isF = [] → (partL m.pt (pre ++ (A ++ tailOf m b) ++ post)).2.2.filter isF = b := by
    intro pre post h1 h2 h3
    unfold tailOf
    by_cases hz : b = []
    · rw [if_pos hz, List.append_nil]
      unfold partL
      rw [if_neg (by simp [h1, h2, hn])]
      rw [hz]; rfl
    · rw [if_neg hz]
      have e : pre ++ (A ++ m.pt :: b) ++ post = (pre ++ A) ++ m.pt :: (b ++ post) := by simp
      have hp : ∀ x ∈ pre ++ A, decide (x ≠ m.pt) = true := fun x hx => by
        have : m.pt ∉ pre ++ A := by simp [h1, hn]
        simpa using fun z : x = m.pt => this (z ▸ hx)
      rw [e]
      unfold partL
      rw [if_pos (by simp)]
      simp only
      rw [List.dropWhile_append_of_pos hp]
      simp [h3]
      exact hb
  unfold put sgn
  cases neg with
  | false => simpa using key [] [] (by simp) (by simp) rfl
  | true =>
    simp only [if_true]
    cases m.sg with
    | ahead => simpa using key [45] [] (by simpa using n45) (by simp) rfl
    | behind => simpa using key [] [45] (by simp) (by simpa using n45) (by simp [e1])
    | brackets => simpa using key [40] [41] (by simpa using n40) (by simpa using n41) (by simp [e3])
theorem in2_SS (a f g : List Nat) : inD (.str (S a)) (.tuple [.str (S f), .str (S g)]) = .ok (.bool (decide (a = f ∨ a = g))) := by
  have h := in2_S a f g
  unfold inD
  unfold ninD at h
  cases k : inQ (.str (S a)) (.tuple [.str (S f), .str (S g)]) with
  | none => rw [k] at h; cases h
  | some b =>
    rw [k] at h
    have h : (!b) = !decide (a = f ∨ a = g) := by injection h with h; injection h
    simp only
    congr 2
    cases b <;> cases hd : decide (a = f ∨ a = g) <;> rw [hd] at h <;> first | rfl | cases h
theorem noT_eq : eqD noT noT = .ok (.bool true) := by
  unfold noT
  rw [eqD_tt (by decide +kernel)]
  congr 2
theorem noT_ne : neD noT noT = .ok (.bool false) := by
  unfold noT
  rw [neD_tt (by decide +kernel)]
  congr 2
theorem isn_num {x : Int × Nat} (h : IsN x.1 x.2) : F_is_number [numD x] = .ok (.bool true) := by
  unfold numD
  rw [is_number_ii]
  obtain ⟨h1, h2⟩ := h
  congr 2
  rcases h2 with h2 | h2
  · simp [h2]
  · have : ¬ (x.1 % 10 = 0) := h2
    simp [this]
    omega
theorem law_is_right_eq {m : Man} (hm : m.Ok) {t : List Nat} (ht : t.length ≤ 600) (hc : cnt t ≤ 59) : F__law_is_right [sD t, manD m] = .ok (.bool true) := by
  have h1 := law_told_k07 hm ht
  unfold F__law_is_right
  rw [lock_eq]
  change outF (b__law_is_right [some (.v (sD t)), some (.g (manD m)), none, none, none, none, none]) = _
  unfold b__law_is_right
  cases k : readM m t with
  | none =>
    rw [k] at h1
    rw [sSeq_nx (sAsg_nx (d := noT) (ρ' := [some (.v (sD t)), some (.g (manD m)), some (.v noT), none, none, none, none]) (by rw [eCall_ok (ds := [sD t, manD m]) rfl, h1]; rfl) rfl)]
    rw [sSeq_rt (d := .bool true)]
    · rfl
    · rw [sIf_t (bT_t (by rw [e2_ok (d := .str (S [110, 111])) (e := .str (S [104, 101, 114, 101])) rfl rfl]; rfl))]
      rw [sRet_rt (d := .bool true) (by rw [e2_ok (d := noT) (e := noT) rfl rfl, noT_eq])]
  | some x =>
    rw [k] at h1
    obtain ⟨neg, f, b, A, et, hA, hf, h0, hb, hl, hn, hx⟩ := read_inv hm k
    obtain ⟨d1, d2, d3, d4⟩ := due_inv (m := m) hf h0 hb hn hx
    have hF := areF_all hf
    have bF : ∀ c ∈ b, isF c = true := by
      rcases hb with e | e
      · rw [e]; exact fun c hc => by cases hc
      · exact areF_all e
    have fg : FG m A := by
      rcases hA with e | e
      · rw [e]; exact fun c hc => .inl (hF c hc)
      · rw [e]; exact fg_grp hF
    have fi : figsOf m A = f := by
      rcases hA with e | e
      · rw [e]; exact figs_self hm hF
      · rw [e]; exact figs_grp hm hF
    have hcnt : f.length + b.length ≤ 59 := by
      rw [et, cnt_put, cnt_app, cnt_tail hm bF] at hc
      have : cnt A = f.length := by unfold cnt; rw [fg_filter hm fg, fi]
      omega
    have hV : NumText.digitsVal (f ++ b) < 10 ^ 59 := by
      have := val_lt (l := f ++ b) fun c hc => by
        rcases List.mem_append.mp hc with z | z
        · exact hF c z
        · exact bF c z
      rw [List.length_append] at this
      exact Nat.lt_of_lt_of_le this (Nat.pow_le_pow_right (by decide) hcnt)
    have xb : x.1.natAbs < 10 ^ 60 := by
      have h2 : x.1.natAbs ≤ NumText.digitsVal (f ++ b) := by
        rw [hx]
        have := nrm_abs (if neg then -((NumText.digitsVal (f ++ b) : Nat) : Int) else ((NumText.digitsVal (f ++ b) : Nat) : Int)) b.length
        cases neg <;> simpa using this
      exact Nat.lt_of_le_of_lt h2 (Nat.lt_trans hV (by decide))
    have isN : IsN x.1 x.2 := by rw [hx]; exact nrm_isN hl
    have q3 := isn_num isN
    have q4 := law_text_eq hm (d := x.1) (p := x.2) (least := b.length) xb (by omega) (by omega)
    have bh := behind_put hm fg bF neg
    rw [← et] at bh
    have lpt := partL_len m.pt t
    have due : txt m x.1 x.2 b.length = put m neg (grp m f ++ tailOf m b) := by rw [txt_put, d1, d3, d4]
    have flt : flat m (txt m x.1 x.2 b.length) = put m neg (f ++ tailOf m b) := by rw [flat_txt hm, d1, d3, d4]
    have ldu : (txt m x.1 x.2 b.length).length ≤ 190 := txt_len hm xb (by omega) (by omega)
    have tin : t = txt m x.1 x.2 b.length ∨ t = flat m (txt m x.1 x.2 b.length) := by
      rw [due, ← due, flt]
      rcases hA with e | e
      · exact .inr (by rw [et, e])
      · exact .inl (by rw [due, et, e])
    rw [sSeq_nx (sAsg_nx (d := .tuple [.str (S [104, 101, 114, 101]), numD x]) (ρ' := [some (.v (sD t)), some (.g (manD m)), some (.v (.tuple [.str (S [104, 101, 114, 101]), numD x])), none, none, none, none]) (by rw [eCall_ok (ds := [sD t, manD m]) rfl, h1]; rfl) rfl)]
    rw [sSeq_nx (ρ' := [some (.v (sD t)), some (.g (manD m)), some (.v (.tuple [.str (S [104, 101, 114, 101]), numD x])), none, none, none, none]) (by rw [sIf_f (bT_f (by rw [e2_ok (d := .str (S [104, 101, 114, 101])) (e := .str (S [104, 101, 114, 101])) rfl rfl, neD_SS]; rfl))]; rfl)]
    rw [sSeq_nx (ρ' := [some (.v (sD t)), some (.g (manD m)), some (.v (.tuple [.str (S [104, 101, 114, 101]), numD x])), none, none, none, none]) (by rw [sIf_f (bT_f (by rw [e2_ok (d := .bool true) (e := .bool true) (by rw [eCall_ok (eL_1 (d := numD x) rfl), q3]) rfl]; rfl))]; rfl)]
    have pp : e2 ixD (eM_partition1 (eV 0) (e2 ixD (eV 1) (eC (.int 0)))) (eC (.int 2)) [some (.v (sD t)), some (.g (manD m)), some (.v (.tuple [.str (S [104, 101, 114, 101]), numD x])), none, none, none, none] = .ok (sD (partL m.pt t).2.2) := by
      have e1 : eM_partition1 (eV 0) (e2 ixD (eV 1) (eC (.int 0))) [some (.v (sD t)), some (.g (manD m)), some (.v (.tuple [.str (S [104, 101, 114, 101]), numD x])), none, none, none, none] = .ok (.tuple [.str (S (partL m.pt t).1), .str (S (partL m.pt t).2.1), .str (S (partL m.pt t).2.2)]) := eM1_ok (d := sD t) (e := .str (S [m.pt])) rfl rfl (by rw [e2_ok (d := manD m) (e := .int 0) rfl rfl, man_0]) rfl
      rw [e2_ok e1 (e := .int 2) rfl]
      rfl
    have lc : lcL (lc1 (gN 6) (bT (e2 inD (eV 6) (eC (.str (S [48, 49, 50, 51, 52, 53, 54, 55, 56, 57]))))) C1__law_is_right [some (.v (sD t)), some (.g (manD m)), some (.v (.tuple [.str (S [104, 101, 114, 101]), numD x])), none, none, none, none]) ((partL m.pt t).2.2.map fun c => .str (S [c])) = .ok (((partL m.pt t).2.2.filter isF).map fun c => .str (S [c])) := lcL_fil fun c _ => by
      generalize manD m = M
      generalize numD x = N
      generalize sD t = T
      cases kc : isF c with
      | true =>
        have := figs_in c
        rw [kc] at this
        unfold lc1
        simp only [gN, List.set_cons_succ, List.set_cons_zero]
        rw [bT_t (by rw [e2_ok (d := .str (S [c])) rfl rfl, this])]
        rfl
      | false =>
        have := figs_in c
        rw [kc] at this
        unfold lc1
        simp only [gN, List.set_cons_succ, List.set_cons_zero]
        rw [bT_f (by rw [e2_ok (d := .str (S [c])) rfl rfl, this])]
        rfl
    have ls : e1 lenD (eLc [6] (iS (e2 ixD (eM_partition1 (eV 0) (e2 ixD (eV 1) (eC (.int 0)))) (eC (.int 2)))) (gN 6) (bT (e2 inD (eV 6) (eC (.str (S [48, 49, 50, 51, 52, 53, 54, 55, 56, 57]))))) C1__law_is_right) [some (.v (sD t)), some (.g (manD m)), some (.v (.tuple [.str (S [104, 101, 114, 101]), numD x])), none, none, none, none] = .ok (.int (b.length : Nat)) := by
      rw [e1_ok' (lc_ok (ds := (partL m.pt t).2.2.map fun c => .str (S [c])) (by unfold iS; rw [pp]; rfl) (by rw [List.length_map]; exact Nat.le_trans (show _ ≤ 600 by omega) (by decide)) lc), bh]
      show Rs.ok (PyData.int ((b.map fun c => PyData.str (S [c])).length : Nat)) = _
      rw [List.length_map]
    rw [sSeq_nx (sAsg_nx (ρ' := [some (.v (sD t)), some (.g (manD m)), some (.v (.tuple [.str (S [104, 101, 114, 101]), numD x])), some (.v (.int (b.length : Nat))), none, none, none]) ls rfl)]
    rw [sSeq_nx (sAsg_nx (d := sD (txt m x.1 x.2 b.length)) (ρ' := [some (.v (sD t)), some (.g (manD m)), some (.v (.tuple [.str (S [104, 101, 114, 101]), numD x])), some (.v (.int (b.length : Nat))), some (.v (sD (txt m x.1 x.2 b.length))), none, none]) (by rw [eCall_ok (ds := [numD x, manD m, .int (b.length : Nat)]) rfl]; exact q4) rfl)]
    rw [sSeq_nx (sAsg_nx (d := sD (txt m x.1 x.2 b.length)) (ρ' := [some (.v (sD t)), some (.g (manD m)), some (.v (.tuple [.str (S [104, 101, 114, 101]), numD x])), some (.v (.int (b.length : Nat))), some (.v (sD (txt m x.1 x.2 b.length))), some (.v (sD (txt m x.1 x.2 b.length))), none]) rfl rfl)]
    rw [sSeq_nx (flat_step hm (t := txt m x.1 x.2 b.length) (by omega) rfl rfl rfl)]
    have fin : e2 inD (eV 0) (eTup [(eV 4), (eV 5)]) [some (.v (sD t)), some (.g (manD m)), some (.v (.tuple [.str (S [104, 101, 114, 101]), numD x])), some (.v (.int (b.length : Nat))), some (.v (sD (txt m x.1 x.2 b.length))), some (.v (sD (flat m (txt m x.1 x.2 b.length)))), none] = .ok (.bool true) := by
      rw [e2_ok (d := .str (S t)) (e := .tuple [.str (S (txt m x.1 x.2 b.length)), .str (S (flat m (txt m x.1 x.2 b.length)))]) rfl rfl, in2_SS]
      simp [tin]
    exact congrArg outF (sRet_rt fin)
end L2.Pz

namespace L2.Pz
open PySem PySem.Spec L2 L2.Pz.Fn
/-! ### texts that are none (k07) -/
def txA (p : Nat) : List (List Nat) := [[], [45], [p], [46, p], [48, 48], [48, 49], [48, p], [p, 53], [49, p, 50, p, 51], [43, 49], [32, 49], [49, 32], [97], [49, p, 48, 49, 50, 51, 52, 53, 54, 55, 56, 57], [45, 45, 49], [40, 49], [49, 41], [40, 40, 49, 41, 41], [45, 40, 49, 41], [40, 45, 49, 41], [40, 41], [49, 101, 53], [49, 45, 50], [49, 45, 45]]
def txW (p : Nat) : Sg → List (List Nat)
  | .ahead => [[49, 45], [40, 49, 41], [45, 48], [45, 48, p, 48]]
  | .behind => [[45, 49], [40, 49, 41], [48, 45]]
  | .brackets => [[45, 49], [49, 45], [40, 48, 41]]
def txG (p : Nat) : List Nat → List (List Nat)
  | [] => []
  | g => [g ++ [49], [49] ++ g, [49] ++ g, [49] ++ g ++ g ++ [50], [48] ++ g ++ [48, 48, 48, 48, 48, 48], [49, p, 48] ++ g ++ [48]]
def textsL (m : Man) : List (List Nat) := txA m.pt ++ txG m.pt m.gp ++ txW m.pt m.sg
theorem aS {a b : List Nat} (h : a.length + b.length ≤ 100) : addD (.str (S a)) (.str (S b)) = .ok (.str (S (a ++ b))) := addD_S (by omega)
theorem aL {a b : List PyData} (h : a.length + b.length ≤ 100) : addD (.list a) (.list b) = .ok (.list (a ++ b)) := by
  have : a.length + b.length ≤ sizeLine := Nat.le_trans h (by decide)
  simp [addD, this]
theorem texts_1 (x0 : Option Sl) (p : Nat) (g sz sg ls : Option Sl) : (sSeq (sAsg (gN 6) (eLst [(eC (.str (S []))), (eC (.str (S [45]))), (eV 1), (e2 addD (eC (.str (S [46]))) (eV 1)), (eC (.str (S [48, 48]))), (eC (.str (S [48, 49]))), (e2 addD (eC (.str (S [48]))) (eV 1))]))
    (sSeq (sAsg (gN 6) (e2 addD (eV 6) (eLst [(e2 addD (eV 1) (eC (.str (S [53])))), (e2 addD (e2 addD (e2 addD (e2 addD (eC (.str (S [49]))) (eV 1)) (eC (.str (S [50])))) (eV 1)) (eC (.str (S [51])))), (eC (.str (S [43, 49]))), (eC (.str (S [32, 49]))), (eC (.str (S [49, 32]))), (eC (.str (S [97])))])))
    (sSeq (sAsg (gN 6) (e2 addD (eV 6) (eLst [(e2 addD (e2 addD (eC (.str (S [49]))) (eV 1)) (eC (.str (S [48, 49, 50, 51, 52, 53, 54, 55, 56, 57])))), (eC (.str (S [45, 45, 49]))), (eC (.str (S [40, 49]))), (eC (.str (S [49, 41]))), (eC (.str (S [40, 40, 49, 41, 41]))), (eC (.str (S [45, 40, 49, 41])))])))
    (sAsg (gN 6) (e2 addD (eV 6) (eLst [(eC (.str (S [40, 45, 49, 41]))), (eC (.str (S [40, 41]))), (eC (.str (S [49, 101, 53]))), (eC (.str (S [49, 45, 50]))), (eC (.str (S [49, 45, 45])))])))))) [x0, some (.v (.str (S [p]))), g, sz, sg, ls, none, none] = .nx [x0, some (.v (.str (S [p]))), g, sz, sg, ls, some (.v (.list ((txA p).map sD))), none] := by
  have z1 : 1 ≤ sizeLine := by decide
  have z2 : 2 ≤ sizeLine := by decide
  have z3 : 3 ≤ sizeLine := by decide
  have z4 : 4 ≤ sizeLine := by decide
  have z5 : 5 ≤ sizeLine := by decide
  have z6 : 6 ≤ sizeLine := by decide
  have z7 : 7 ≤ sizeLine := by decide
  have z8 : 8 ≤ sizeLine := by decide
  have z9 : 9 ≤ sizeLine := by decide
  have z10 : 10 ≤ sizeLine := by decide
  have z11 : 11 ≤ sizeLine := by decide
  have z12 : 12 ≤ sizeLine := by decide
  have z13 : 13 ≤ sizeLine := by decide
  have z14 : 14 ≤ sizeLine := by decide
  have z15 : 15 ≤ sizeLine := by decide
  have z16 : 16 ≤ sizeLine := by decide
  have z17 : 17 ≤ sizeLine := by decide
  have z18 : 18 ≤ sizeLine := by decide
  have z19 : 19 ≤ sizeLine := by decide
  have z20 : 20 ≤ sizeLine := by decide
  have z21 : 21 ≤ sizeLine := by decide
  have z22 : 22 ≤ sizeLine := by decide
  have z23 : 23 ≤ sizeLine := by decide
  have z24 : 24 ≤ sizeLine := by decide
  have z25 : 25 ≤ sizeLine := by decide
  have z26 : 26 ≤ sizeLine := by decide
  have z27 : 27 ≤ sizeLine := by decide
  have z28 : 28 ≤ sizeLine := by decide
  have z29 : 29 ≤ sizeLine := by decide
  have z30 : 30 ≤ sizeLine := by decide
  have z31 : 31 ≤ sizeLine := by decide
  have z32 : 32 ≤ sizeLine := by decide
  have z33 : 33 ≤ sizeLine := by decide
  have z34 : 34 ≤ sizeLine := by decide
  have z35 : 35 ≤ sizeLine := by decide
  have z36 : 36 ≤ sizeLine := by decide
  have z37 : 37 ≤ sizeLine := by decide
  have z38 : 38 ≤ sizeLine := by decide
  have z39 : 39 ≤ sizeLine := by decide
  have z40 : 40 ≤ sizeLine := by decide
  simp [addD, txA, sD, z1, z2, z3, z4, z5, z6, z7, z8, z9, z10, z11, z12, z13, z14, z15, z16, z17, z18, z19, z20, z21, z22, z23, z24, z25, z26, z27, z28, z29, z30, z31, z32, z33, z34, z35, z36, z37, z38, z39, z40]
theorem texts_2 (x0 : Option Sl) (p : Nat) (g sz ls x6 : Option Sl) (sg : Sg) : (sSeq (sAsg (gN 7) (eLst [(eC (.str (S [45, 49]))), (eC (.str (S [40, 49, 41]))), (eC (.str (S [48, 45])))]))
    (sSeq (sIf (bT (e2 eqD (eV 4) (eC (.str (S [97, 104, 101, 97, 100]))))) (sAsg (gN 7) (eLst [(eC (.str (S [49, 45]))), (eC (.str (S [40, 49, 41]))), (eC (.str (S [45, 48]))), (e2 addD (e2 addD (eC (.str (S [45, 48]))) (eV 1)) (eC (.str (S [48]))))])) sNx)
    (sIf (bT (e2 eqD (eV 4) (eC (.str (S [98, 114, 97, 99, 107, 101, 116, 115]))))) (sAsg (gN 7) (eLst [(eC (.str (S [45, 49]))), (eC (.str (S [49, 45]))), (eC (.str (S [40, 48, 41])))])) sNx))) [x0, some (.v (.str (S [p]))), g, sz, some (.v (.str (S (sgS sg)))), ls, x6, none] = .nx [x0, some (.v (.str (S [p]))), g, sz, some (.v (.str (S (sgS sg)))), ls, x6, some (.v (.list ((txW p sg).map sD)))] := by
  have z1 : 1 ≤ sizeLine := by decide
  have z2 : 2 ≤ sizeLine := by decide
  have z3 : 3 ≤ sizeLine := by decide
  have z4 : 4 ≤ sizeLine := by decide
  have z5 : 5 ≤ sizeLine := by decide
  have z6 : 6 ≤ sizeLine := by decide
  have z7 : 7 ≤ sizeLine := by decide
  have z8 : 8 ≤ sizeLine := by decide
  have z9 : 9 ≤ sizeLine := by decide
  have z10 : 10 ≤ sizeLine := by decide
  have z11 : 11 ≤ sizeLine := by decide
  have z12 : 12 ≤ sizeLine := by decide
  have z13 : 13 ≤ sizeLine := by decide
  have z14 : 14 ≤ sizeLine := by decide
  have z15 : 15 ≤ sizeLine := by decide
  have z16 : 16 ≤ sizeLine := by decide
  have z17 : 17 ≤ sizeLine := by decide
  have z18 : 18 ≤ sizeLine := by decide
  have z19 : 19 ≤ sizeLine := by decide
  have z20 : 20 ≤ sizeLine := by decide
  have z21 : 21 ≤ sizeLine := by decide
  have z22 : 22 ≤ sizeLine := by decide
  have z23 : 23 ≤ sizeLine := by decide
  have z24 : 24 ≤ sizeLine := by decide
  have z25 : 25 ≤ sizeLine := by decide
  have z26 : 26 ≤ sizeLine := by decide
  have z27 : 27 ≤ sizeLine := by decide
  have z28 : 28 ≤ sizeLine := by decide
  have z29 : 29 ≤ sizeLine := by decide
  have z30 : 30 ≤ sizeLine := by decide
  have z31 : 31 ≤ sizeLine := by decide
  have z32 : 32 ≤ sizeLine := by decide
  have z33 : 33 ≤ sizeLine := by decide
  have z34 : 34 ≤ sizeLine := by decide
  have z35 : 35 ≤ sizeLine := by decide
  have z36 : 36 ≤ sizeLine := by decide
  have z37 : 37 ≤ sizeLine := by decide
  have z38 : 38 ≤ sizeLine := by decide
  have z39 : 39 ≤ sizeLine := by decide
  have z40 : 40 ≤ sizeLine := by decide
  cases sg <;> simp [addD, txW, sD, sgS, z1, z2, z3, z4, z5, z6, z7, z8, z9, z10, z11, z12, z13, z14, z15, z16, z17, z18, z19, z20, z21, z22, z23, z24, z25, z26, z27, z28, z29, z30, z31, z32, z33, z34, z35, z36, z37, z38, z39, z40]
theorem texts_3 (x0 : Option Sl) (p : Nat) (sz sg ls x7 : Option Sl) {g : List Nat} (hg : g.length ≤ 1) (L : List (List Nat)) (hL : L.length ≤ 30) : (sIf (bT (e2 neD (eV 2) (eC (.str (S []))))) (sSeq (sAsg (gN 6) (e2 addD (eV 6) (eLst [(e2 addD (eV 2) (eC (.str (S [49])))), (e2 addD (eC (.str (S [49]))) (eV 2)), (e2 addD (eC (.str (S [49]))) (eV 2))])))
    (sSeq (sAsg (gN 6) (e2 addD (eV 6) (eLst [(e2 addD (e2 addD (e2 addD (eC (.str (S [49]))) (eV 2)) (eV 2)) (eC (.str (S [50])))), (e2 addD (e2 addD (eC (.str (S [48]))) (eV 2)) (eC (.str (S [48, 48, 48, 48, 48, 48]))))])))
    (sAsg (gN 6) (e2 addD (eV 6) (eLst [(e2 addD (e2 addD (e2 addD (e2 addD (eC (.str (S [49]))) (eV 1)) (eC (.str (S [48])))) (eV 2)) (eC (.str (S [48]))))]))))) sNx) [x0, some (.v (.str (S [p]))), some (.v (.str (S g))), sz, sg, ls, some (.v (.list (L.map sD))), x7] = .nx [x0, some (.v (.str (S [p]))), some (.v (.str (S g))), sz, sg, ls, some (.v (.list ((L ++ txG p g).map sD))), x7] := by
  have z1 : 1 ≤ sizeLine := by decide
  have z2 : 2 ≤ sizeLine := by decide
  have z3 : 3 ≤ sizeLine := by decide
  have z4 : 4 ≤ sizeLine := by decide
  have z5 : 5 ≤ sizeLine := by decide
  have z6 : 6 ≤ sizeLine := by decide
  have z7 : 7 ≤ sizeLine := by decide
  have z8 : 8 ≤ sizeLine := by decide
  have z9 : 9 ≤ sizeLine := by decide
  have z10 : 10 ≤ sizeLine := by decide
  have z11 : 11 ≤ sizeLine := by decide
  have z12 : 12 ≤ sizeLine := by decide
  have z13 : 13 ≤ sizeLine := by decide
  have z14 : 14 ≤ sizeLine := by decide
  have z15 : 15 ≤ sizeLine := by decide
  have z16 : 16 ≤ sizeLine := by decide
  have z17 : 17 ≤ sizeLine := by decide
  have z18 : 18 ≤ sizeLine := by decide
  have z19 : 19 ≤ sizeLine := by decide
  have z20 : 20 ≤ sizeLine := by decide
  have z21 : 21 ≤ sizeLine := by decide
  have z22 : 22 ≤ sizeLine := by decide
  have z23 : 23 ≤ sizeLine := by decide
  have z24 : 24 ≤ sizeLine := by decide
  have z25 : 25 ≤ sizeLine := by decide
  have z26 : 26 ≤ sizeLine := by decide
  have z27 : 27 ≤ sizeLine := by decide
  have z28 : 28 ≤ sizeLine := by decide
  have z29 : 29 ≤ sizeLine := by decide
  have z30 : 30 ≤ sizeLine := by decide
  have z31 : 31 ≤ sizeLine := by decide
  have z32 : 32 ≤ sizeLine := by decide
  have z33 : 33 ≤ sizeLine := by decide
  have z34 : 34 ≤ sizeLine := by decide
  have z35 : 35 ≤ sizeLine := by decide
  have z36 : 36 ≤ sizeLine := by decide
  have z37 : 37 ≤ sizeLine := by decide
  have z38 : 38 ≤ sizeLine := by decide
  have z39 : 39 ≤ sizeLine := by decide
  have z40 : 40 ≤ sizeLine := by decide
  have l1 : L.length + 3 ≤ sizeLine := Nat.le_trans (show _ ≤ 40 by omega) z40
  have l2 : L.length + 3 + 2 ≤ sizeLine := Nat.le_trans (show _ ≤ 40 by omega) z40
  have l2' : L.length + 5 ≤ sizeLine := Nat.le_trans (show _ ≤ 40 by omega) z40
  have l3 : L.length + 5 + 1 ≤ sizeLine := Nat.le_trans (show _ ≤ 40 by omega) z40
  have l3' : L.length + 6 ≤ sizeLine := Nat.le_trans (show _ ≤ 40 by omega) z40
  cases g with
  | nil => simp [txG]
  | cons c r =>
    cases r with
    | cons _ _ => simp at hg
    | nil => simp [addD, txG, sD, l1, l2, l2', l3, l3', z1, z2, z3, z4, z5, z6, z7, z8, z9, z10, z11, z12, z13, z14, z15, z16, z17, z18, z19, z20, z21, z22, z23, z24, z25, z26, z27, z28, z29, z30, z31, z32, z33, z34, z35, z36, z37, z38, z39, z40]
theorem seq_assoc (a b c : SF) (ρ : En) : sSeq a (sSeq b c) ρ = sSeq (sSeq a b) c ρ := by
  unfold sSeq
  cases a ρ <;> rfl
theorem seq3 {a b c e : SF} {ρ ρ' : En} (h : sSeq a (sSeq b c) ρ = .nx ρ') : sSeq a (sSeq b (sSeq c e)) ρ = e ρ' := by
  have : sSeq a (sSeq b (sSeq c e)) ρ = sSeq (sSeq a (sSeq b c)) e ρ := by
    rw [← seq_assoc]
    unfold sSeq
    cases a ρ with
    | nx ρ1 => simp only; cases b ρ1 <;> rfl
    | _ => rfl
  rw [this, sSeq_nx h]
theorem seq4 {a b c d e : SF} {ρ ρ' : En} (h : sSeq a (sSeq b (sSeq c d)) ρ = .nx ρ') : sSeq a (sSeq b (sSeq c (sSeq d e))) ρ = e ρ' := by
  have : sSeq a (sSeq b (sSeq c (sSeq d e))) ρ = sSeq (sSeq a (sSeq b (sSeq c d))) e ρ := by
    unfold sSeq
    cases a ρ with
    | nx ρ1 =>
      simp only
      cases b ρ1 with
      | nx ρ2 => simp only; cases c ρ2 <;> rfl
      | _ => rfl
    | _ => rfl
  rw [this, sSeq_nx h]
theorem law_texts_eq {m : Man} (hm : m.Ok) : F__law_texts [manD m] = .ok (.list ((textsL m).map sD)) := by
  unfold F__law_texts
  rw [lock_eq]
  change outF (b__law_texts [some (.v (manD m)), none, none, none, none, none, none, none]) = _
  unfold b__law_texts
  rw [sSeq_nx (sAsg_nx (d := manD m) (ρ' := [some (.v (manD m)), some (.v (.str (S [m.pt]))), some (.v (.str (S m.gp))), some (.v (.tuple m.sz)), some (.v (.str (S (sgS m.sg)))), some (.v (.int (m.ls : Nat))), none, none]) rfl rfl)]
  rw [seq4 (texts_1 _ _ _ _ _ _)]
  rw [seq3 (texts_2 _ _ _ _ _ _ _)]
  rw [sSeq_nx (texts_3 _ _ _ _ _ _ hm.gp1 (txA m.pt) (show 24 ≤ 30 by decide))]
  have lG : (txG m.pt m.gp).length ≤ 6 := by
    unfold txG
    split <;> simp
  have lW : (txW m.pt m.sg).length ≤ 4 := by
    unfold txW
    split <;> simp
  rw [sRet_rt (d := .list ((textsL m).map sD)) ?h]
  case h =>
    rw [e2_ok (d := .list ((txA m.pt ++ txG m.pt m.gp).map sD)) (e := .list ((txW m.pt m.sg).map sD)) rfl rfl, aL (by simp [txA]; omega)]
    unfold textsL
    rw [← List.map_append]
  rfl
/-- refused whatever the sizes are -/
def bad (m : Man) (t : List Nat) : Bool :=
  (!areF (figsOf m (partL m.pt (unsg m t).1).1) || (decide (1 < (figsOf m (partL m.pt (unsg m t).1).1).length) && decide ((figsOf m (partL m.pt (unsg m t).1).1).head? = some 48)))
  || ((decide ((partL m.pt (unsg m t).1).2.1 ≠ []) != areF (partL m.pt (unsg m t).1).2.2) || decide (9 < (partL m.pt (unsg m t).1).2.2.length))
  || ((unsg m t).2 && decide (NumText.digitsVal (figsOf m (partL m.pt (unsg m t).1).1 ++ (partL m.pt (unsg m t).1).2.2) = 0))
theorem bad_none {m : Man} {t : List Nat} (h : bad m t = true) : readM m t = none := by
  unfold readM
  unfold bad at h
  generalize unsg m t = U at *
  generalize partL m.pt U.1 = P at *
  generalize figsOf m P.1 = f at *
  split
  · rfl
  rename_i c1
  split
  · rfl
  split
  · rfl
  rename_i c3
  split
  · rfl
  rename_i c4
  exfalso
  have c1 := Bool.eq_false_iff.mpr c1
  have c3 := Bool.eq_false_iff.mpr c3
  rw [c1, c3] at h
  refine c4 ?_
  simpa using h
def txB (p : Nat) (g : List Nat) : List (List Nat) := match g with
  | [] => []
  | g => [[48] ++ g ++ [48, 48, 48, 48, 48, 48], [49, p, 48] ++ g ++ [48]]
theorem bad_all : ∀ p ∈ pts, ∀ g ∈ gps, g ≠ [p] → ∀ sg ∈ [Sg.ahead, Sg.behind, Sg.brackets], ∀ t ∈ txA p ++ txB p g ++ txW p sg, bad ⟨p, g, 1, none, sg, 1⟩ t = true ∨ (g ≠ [] ∧ (t = g ++ [49] ∨ t = [49] ++ g)) := by decide +kernel
/-- what is told of the gaps alone -/
def gapOk (m : Man) (t f : List Nat) : Bool := decide (unsg m t = (t, false)) && decide (partL m.pt t = (t, [], [])) && decide (figsOf m t = f) && decide (t ≠ f)
theorem gap_all : ∀ p ∈ pts, ∀ g ∈ gps, g ≠ [p] → g ≠ [] → ∀ sg ∈ [Sg.ahead, Sg.behind, Sg.brackets],
    gapOk ⟨p, g, 1, none, sg, 1⟩ (g ++ [49]) [49] = true ∧ gapOk ⟨p, g, 1, none, sg, 1⟩ ([49] ++ g) [49] = true ∧ gapOk ⟨p, g, 1, none, sg, 1⟩ ([49] ++ g ++ g ++ [50]) [49, 50] = true := by decide +kernel
theorem gap_none {m : Man} {t f : List Nat} (h : gapOk m t f = true) (hg : t ≠ grp m f) : readM m t = none := by
  unfold gapOk at h
  simp only [Bool.and_eq_true, decide_eq_true_eq] at h
  obtain ⟨⟨⟨h1, h2⟩, h3⟩, h4⟩ := h
  unfold readM
  rw [h1]
  simp only
  rw [h2]
  simp only
  rw [h3]
  split
  · rfl
  · rw [if_pos]
    exact fun z => z.elim h4 hg
theorem grp_one {m : Man} (hm : m.Ok) : grp m [49] = [49] := by
  unfold grp
  rw [if_pos]
  have := hm.s0.1
  have := hm.ls.1
  simp
  omega
theorem grp_two {m : Man} (hm : m.Ok) : grp m [49, 50] = [49, 50] ∨ grp m [49, 50] = [49] ++ m.gp ++ [50] := by
  have h1 := hm.s0.1
  have h2 := hm.ls.1
  have h3 := hm.sl.1
  unfold grp
  by_cases h : [49, 50].length < m.s0 + m.ls
  · rw [if_pos h]; exact .inl rfl
  · rw [if_neg h]
    have e : m.s0 = 1 := by simp at h; omega
    rw [e]
    have c : chk m.sl [49, 50].length (List.take ([49, 50].length - 1) [49, 50]) = [[49]] := chk_small (by simpa using h3)
    rw [c]
    exact .inr rfl
theorem none_all {m : Man} (hm : m.Ok) : ∀ t ∈ textsL m, readM m t = none := by
  intro t ht
  have sgm : m.sg ∈ [Sg.ahead, Sg.behind, Sg.brackets] := by cases m.sg <;> simp
  have bd := bad_all m.pt hm.pt m.gp hm.gp hm.ne m.sg sgm
  have one : m.gp ≠ [] → readM m (m.gp ++ [49]) = none ∧ readM m ([49] ++ m.gp) = none ∧ readM m ([49] ++ m.gp ++ m.gp ++ [50]) = none := fun hne => by
    obtain ⟨g1, g2, g3⟩ := gap_all m.pt hm.pt m.gp hm.gp hm.ne hne m.sg sgm
    have l1 := hm.gp1
    obtain ⟨c, hc⟩ : ∃ c, m.gp = [c] := by
      cases k : m.gp with
      | nil => exact absurd k hne
      | cons x r =>
        rw [k] at l1
        cases r with
        | nil => exact ⟨x, rfl⟩
        | cons _ _ => simp at l1
    refine ⟨gap_none (f := [49]) g1 ?_, gap_none (f := [49]) g2 ?_, gap_none (f := [49, 50]) g3 ?_⟩
    · rw [grp_one hm, hc]; simp
    · rw [grp_one hm, hc]; simp
    · rcases grp_two hm with e | e
      · rw [e, hc]; simp
      · rw [e, hc]; simp
  have fin : ∀ t, (t ∈ txA m.pt ++ txB m.pt m.gp ++ txW m.pt m.sg) → readM m t = none := fun t ht => by
    rcases bd t ht with z | ⟨hne, z | z⟩
    · exact bad_none z
    · rw [z]; exact (one hne).1
    · rw [z]; exact (one hne).2.1
  unfold textsL at ht
  rcases List.mem_append.mp ht with ht | ht
  · rcases List.mem_append.mp ht with ht | ht
    · exact fin t (by simp [ht])
    · cases k : m.gp with
      | nil => rw [k] at ht; cases ht
      | cons c r =>
        have hne : m.gp ≠ [] := by rw [k]; simp
        obtain ⟨o1, o2, o3⟩ := one hne
        have tB : txB m.pt m.gp = [[48] ++ m.gp ++ [48, 48, 48, 48, 48, 48], [49, m.pt, 48] ++ m.gp ++ [48]] := by rw [k]; rfl
        have tG : txG m.pt m.gp = [m.gp ++ [49], [49] ++ m.gp, [49] ++ m.gp, [49] ++ m.gp ++ m.gp ++ [50], [48] ++ m.gp ++ [48, 48, 48, 48, 48, 48], [49, m.pt, 48] ++ m.gp ++ [48]] := by rw [k]; rfl
        rw [tG] at ht
        simp only [List.mem_cons, List.not_mem_nil, or_false] at ht
        rcases ht with rfl | rfl | rfl | rfl | rfl | rfl
        · exact o1
        · exact o2
        · exact o2
        · exact o3
        · exact fin _ (by rw [tB]; simp)
        · exact fin _ (by rw [tB]; simp)
  · exact fin t (by simp [ht])
end L2.Pz

namespace L2.Pz.K07
open PySem PySem.Spec PyProof.Rows L2 L2.Pz L2.Pz.Fn
noncomputable def C1_law (ρ : En) : Rs PyData :=
    (e2 neD (eCall F__law_told [(eV 5), (eG 3)]) (eTup [(eC (.str (S [110, 111]))), (eC (.bool true)), (eC (.bool false)), (eC (.bool true))])) ρ
noncomputable def L1_law (ρ : En) : SR :=
    (sSeq (sAsg (gN 5) (eCall F__law_changed [(eV 5), (e2 addD (eCall F__law_cell [(eV 0), (e2 addD (eC (.int 6)) (eV 7))]) (e2 mulD (eC (.int 7)) (eV 1))), (eV 6)]))
    (sIf (bNot (bT (eCall F__law_is_right [(eV 5), (eG 3)]))) (sRet (eC (.bool false))) sNx)) ρ
noncomputable def C2_law (ρ : En) : Rs PyData :=
    (e2 ixD (eV 6) (eCall F__law_mix [(e2 addD (eV 2) (e2 mulD (eC (.int 3)) (eV 9))), (eC (.int 9787)), (e1 lenD (eV 6))])) ρ
noncomputable def L2_law (ρ : En) : SR :=
    (sSeq (sAsg (gN 2) (e2 addD (eCall F__law_cell [(eV 0), (eV 1)]) (e2 mulD (eC (.int 3)) (eV 1))))
    (sSeq (sAsgB 3 manF (eV 2))
    (sSeq (sIf (bT (e1 anyD (eLc [5] (iS (eCall F__law_texts [(eV 3)])) (gN 5) bYes C1_law))) (sRet (eC (.bool false))) sNx)
    (sSeq (sAsg (gN 4) (eCall F__law_number [(e2 addD (eCall F__law_cell [(eV 0), (eC (.int 4))]) (e2 mulD (eC (.int 5)) (eV 1)))]))
    (sSeq (sAsg (gN 5) (eCall F__law_shown [(eV 4), (eV 3), (eCall F__law_form [(e2 addD (eCall F__law_cell [(eV 0), (eC (.int 5))]) (eV 1))]), (eC (.str (S [101, 118, 101, 110])))]))
    (sSeq (sAsg (gN 6) (e2 addD (e2 addD (e2 addD (eC (.str (S [48, 49, 53, 57, 45, 40, 41, 32]))) (e2 ixD (eV 3) (eC (.int 0)))) (e2 ixD (eV 3) (eC (.int 1)))) (eC (.str (S [49])))))
    (sSeq (sFor (gN 7) (iR1 (eC (.int 3))) L1_law)
    (sSeq (sAsg (gN 8) (eLc [9] (iR1 (eCall F__law_mix [(eV 2), (eC (.int 9781)), (eC (.int 9))])) (gN 9) bYes C2_law))
    (sIf (bNot (bT (eCall F__law_is_right [(eM_join1 (eC (.str (S []))) (eV 8)), (eG 3)]))) (sRet (eC (.bool false))) sNx))))))))) ρ
noncomputable def b_law : SF :=
    (sSeq (sFor (gN 1) (iR1 (eC (.int 4))) L2_law)
    (sRet (eC (.bool true))))
noncomputable def F_law : FF := lock (fnF 10 b_law)
end L2.Pz.K07

namespace L2.Pz.K07
open PySem PySem.Spec L2 L2.Pz L2.Pz.Fn
theorem at_nat {l : List Nat} {i : Int} (h0 : 0 ≤ i) (h1 : i < (l.length : Nat)) : ∃ c, c ∈ l ∧ ixD (.str (S l)) (.int i) = .ok (.str (S [c])) := by
  obtain ⟨n, rfl⟩ : ∃ n : Nat, i = (n : Int) := ⟨i.toNat, by omega⟩
  have hn : n < l.length := by omega
  have a1 : atI (S l).cps.toList (n : Int) = some l[n] := by
    show atI l (n : Int) = some l[n]
    unfold atI
    rw [ixN_nat hn]
    show l[n]? = _
    simp [hn]
  refine ⟨l[n], List.getElem_mem hn, ?_⟩
  unfold ixD
  simp only [a1]
  rfl
theorem changed_eq (t signs : List Nat) (ht : t.length ≤ 500) (hs : signs ≠ []) (hs2 : signs.length ≤ 100) (c : Int) : ∃ u : List Nat, F__law_changed [sD t, .int c, sD signs] = .ok (sD u) ∧ u.length ≤ t.length + 1 ∧ cnt u ≤ cnt t + 1 := by
  have l0 : 0 < signs.length := List.length_pos_iff.mpr hs
  have a0 := mix_nn c 9811 (m := ((t.length : Nat) : Int) + 1) (by omega)
  have a1 := mix_lt c 9811 (m := ((t.length : Nat) : Int) + 1) (by omega)
  have q1 := mix_eq c (p := 9811) (m := ((t.length : Nat) : Int) + 1) (by decide) (by omega)
  have b0 := mix_nn c 9803 (m := ((signs.length : Nat) : Int)) (by omega)
  have b1 := mix_lt c 9803 (m := ((signs.length : Nat) : Int)) (by omega)
  have q2 := mix_eq c (p := 9803) (m := ((signs.length : Nat) : Int)) (by decide) (by omega)
  have q3 := mix_eq c (p := 9791) (m := 3) (by decide) (by decide)
  obtain ⟨x, hx, ix⟩ := at_nat b0 b1
  generalize mixI c 9803 ((signs.length : Nat) : Int) = bi at *
  generalize mixI c 9791 3 = kd at *
  obtain ⟨n, hn⟩ : ∃ n : Nat, mixI c 9811 (((t.length : Nat) : Int) + 1) = (n : Int) := ⟨(mixI c 9811 (((t.length : Nat) : Int) + 1)).toNat, by omega⟩
  rw [hn] at a1 q1
  have hnl : n ≤ t.length := by omega
  have c1 : cutL t none (some (n : Int)) = t.take n := cut_take t n
  have c2 : cutL t (some (n : Int)) none = t.drop n := cut_drop hnl
  have c3 : cutL t (some ((n : Int) + 1)) none = t.drop (n + 1) := by
    by_cases h : n + 1 ≤ t.length
    · have := cut_drop (l := t) (k := n + 1) h
      rw [← this]; rfl
    · have e : n = t.length := by omega
      rw [List.drop_eq_nil_of_le (by omega)]
      unfold cutL
      have : HT.sIx t.length 0 (some ((n : Int) + 1)) = t.length := by
        have := HT.sIx_nat t.length 0 (n + 1)
        rw [show (((n + 1 : Nat) : Int)) = (n : Int) + 1 from by omega] at this
        rw [this]; omega
      rw [this]; simp
  have s1 : (t.take n).length ≤ 500 := by rw [List.length_take]; omega
  have s2 : (t.drop n).length ≤ 500 := by rw [List.length_drop]; omega
  have s3 : (t.drop (n + 1)).length ≤ 500 := by rw [List.length_drop]; omega
  have d1 : addD (.str (S (t.take n))) (.str (S [x])) = .ok (.str (S (t.take n ++ [x]))) := addD_S (by simp only [List.length_singleton]; omega)
  have d2 : addD (.str (S (t.take n ++ [x]))) (.str (S (t.drop n))) = .ok (.str (S (t.take n ++ [x] ++ t.drop n))) := addD_S (by simp only [List.length_append, List.length_singleton]; omega)
  have d3 : addD (.str (S (t.take n))) (.str (S (t.drop (n + 1)))) = .ok (.str (S (t.take n ++ t.drop (n + 1)))) := addD_S (by omega)
  have d4 : addD (.str (S (t.take n ++ [x]))) (.str (S (t.drop (n + 1)))) = .ok (.str (S (t.take n ++ [x] ++ t.drop (n + 1)))) := addD_S (by simp only [List.length_append, List.length_singleton]; omega)
  have ct : cnt t = cnt (t.take n) + cnt (t.drop n) := by rw [← cnt_app, List.take_append_drop]
  have c9 : cnt [x] ≤ 1 := by unfold cnt; exact List.length_filter_le _ _
  have cd : cnt (t.drop (n + 1)) ≤ cnt (t.drop n) := by
    rw [← List.drop_drop (i := 1) (j := n)]
    cases k : t.drop n with
    | nil => simp
    | cons y r => unfold cnt; simp only [List.drop_succ_cons, List.drop_zero, List.filter_cons]; split <;> simp
  unfold F__law_changed
  rw [lock_eq]
  change ∃ u : List Nat, outF (b__law_changed [some (.v (sD t)), some (.v (.int c)), some (.v (sD signs)), none, none, none]) = _ ∧ _
  unfold b__law_changed sD
  by_cases k0 : kd = 0
  · refine ⟨t.take n ++ [x] ++ t.drop n, ?_, by simp only [List.length_append, List.length_singleton, List.length_take, List.length_drop]; omega, by rw [cnt_app, cnt_app]; omega⟩
    simp [q1, q2, q3, ix, k0, cutS_S, c1, c2, d1, d2]
  · by_cases k1 : kd = 1
    · refine ⟨t.take n ++ t.drop (n + 1), ?_, by simp only [List.length_append, List.length_take, List.length_drop]; omega, by rw [cnt_app]; omega⟩
      simp [q1, q2, q3, ix, k0, k1, cutS_S, c1, c3, d3]
    · refine ⟨t.take n ++ [x] ++ t.drop (n + 1), ?_, by simp only [List.length_append, List.length_singleton, List.length_take, List.length_drop]; omega, by rw [cnt_app, cnt_app]; omega⟩
      simp [q1, q2, q3, ix, k0, k1, cutS_S, c1, c3, d1, d4]
/-- the turns -/
def Q3 (a b c : PyData) (M d e : PyData) (j : Nat) (ρ : En) : Prop := ∃ (t : List Nat) (x7 x8 x9 : Option Sl), t.length ≤ 190 + j ∧ cnt t ≤ 50 + j ∧ ρ = [some (.v a), some (.v b), some (.v c), some (.g M), some (.v d), some (.v (sD t)), some (.v e), x7, x8, x9]
def Q2 (a : PyData) (ρ : En) : Prop := ∃ x1 x2 x3 x4 x5 x6 x7 x8 x9, ρ = [some (.v a), x1, x2, x3, x4, x5, x6, x7, x8, x9]
theorem in3 {ns : List Int} {k : Nat} {c d : PyData} {m : Man} (hm : m.Ok) {sg : List Nat} (h1 : sg ≠ []) (h2 : sg.length ≤ 100) (j : Nat) (hj : j < 3) {ρ : En} (h : Q3 (scr ns) (.int (k : Nat)) c (manD m) d (sD sg) j ρ) :
    NxP (Q3 (scr ns) (.int (k : Nat)) c (manD m) d (sD sg) (j + 1)) (tgt (gN 7) L1_law (.int (j : Nat)) ρ) := by
  obtain ⟨t, x7, x8, x9, l1, l2, rfl⟩ := h
  have h6 := cell_eq ns (6 + j)
  have e6 : ((6 + j : Nat) : Int) = 6 + (j : Int) := by omega
  rw [e6] at h6
  have m7 : ∀ x, mulOk 7 x = true := fun x => mulOk_l (by decide)
  obtain ⟨u, hu, u1, u2⟩ := changed_eq t sg (by omega) h1 h2 (cellI ns (6 + j) + 7 * (k : Nat))
  have hr := law_is_right_eq hm (t := u) (by omega) (by omega)
  have s1 : eCall F__law_changed [(eV 5), (e2 addD (eCall F__law_cell [(eV 0), (e2 addD (eC (.int 6)) (eV 7))]) (e2 mulD (eC (.int 7)) (eV 1))), (eV 6)] [some (.v (scr ns)), some (.v (.int (k : Nat))), some (.v c), some (.g (manD m)), some (.v d), some (.v (sD t)), some (.v (sD sg)), some (.v (.int (j : Nat))), x8, x9] = .ok (sD u) := by
    generalize scr ns = sc at *
    generalize manD m = M at *
    generalize sD t = T at *
    generalize sD sg = SG at *
    simp [h6, m7, hu]
  show NxP _ (L1_law [some (.v (scr ns)), some (.v (.int (k : Nat))), some (.v c), some (.g (manD m)), some (.v d), some (.v (sD t)), some (.v (sD sg)), some (.v (.int (j : Nat))), x8, x9])
  unfold L1_law
  refine NxP.asg _ s1 (ρ' := [some (.v (scr ns)), some (.v (.int (k : Nat))), some (.v c), some (.g (manD m)), some (.v d), some (.v (sD u)), some (.v (sD sg)), some (.v (.int (j : Nat))), x8, x9]) rfl ?_
  exact NxP.ifF1 (bNot_ok (a := true) (bT_t (by rw [eCall_ok (ds := [sD u, manD m]) rfl, hr]))) ⟨u, _, _, _, by omega, by omega, rfl⟩
theorem any_eq {ns : List Int} {k c : PyData} {m : Man} (hm : m.Ok) (x4 x5 x6 x7 x8 x9 : Option Sl) : bT (e1 anyD (eLc [5] (iS (eCall F__law_texts [(eV 3)])) (gN 5) bYes C1_law)) [some (.v (scr ns)), some (.v k), some (.v c), some (.g (manD m)), x4, x5, x6, x7, x8, x9] = .ok false := by
  have q1 := law_texts_eq hm
  have len : ((textsL m).map sD).length ≤ 100 := by
    rw [List.length_map]
    unfold textsL
    have lG : (txG m.pt m.gp).length ≤ 6 := by unfold txG; split <;> simp
    have lW : (txW m.pt m.sg).length ≤ 4 := by unfold txW; split <;> simp
    have lA : (txA m.pt).length = 24 := rfl
    simp only [List.length_append]
    omega
  have tl : ∀ t ∈ textsL m, t.length ≤ 600 := fun t ht => by
    have hg := hm.gp1
    unfold textsL txA txG txW at ht
    simp only [List.mem_append] at ht
    rcases ht with (ht | ht) | ht
    · simp only [List.mem_cons, List.not_mem_nil, or_false] at ht
      rcases ht with rfl | rfl | rfl | rfl | rfl | rfl | rfl | rfl | rfl | rfl | rfl | rfl | rfl | rfl | rfl | rfl | rfl | rfl | rfl | rfl | rfl | rfl | rfl | rfl <;> simp
    · split at ht
      · cases ht
      · simp only [List.mem_cons, List.not_mem_nil, or_false] at ht
        rcases ht with rfl | rfl | rfl | rfl | rfl | rfl <;> simp <;> omega
    · split at ht <;> simp only [List.mem_cons, List.not_mem_nil, or_false] at ht
      · rcases ht with rfl | rfl | rfl | rfl <;> simp
      · rcases ht with rfl | rfl | rfl <;> simp
      · rcases ht with rfl | rfl | rfl <;> simp
  have lc : lcL (lc1 (gN 5) bYes C1_law [some (.v (scr ns)), some (.v k), some (.v c), some (.g (manD m)), x4, none, x6, x7, x8, x9]) ((textsL m).map sD) = .ok ((textsL m).map fun _ => .bool false) := lcL_of fun t ht => by
    have h1 := law_told_k07 hm (t := t) (tl t ht)
    rw [none_all hm t ht] at h1
    have e : C1_law [some (.v (scr ns)), some (.v k), some (.v c), some (.g (manD m)), x4, some (.v (sD t)), x6, x7, x8, x9] = .ok (.bool false) := by
      unfold C1_law
      rw [e2_ok (d := noT) (e := noT) (by rw [eCall_ok (ds := [sD t, manD m]) rfl, h1]; rfl) rfl, noT_ne]
    unfold lc1
    simp only [gN, List.set_cons_succ, List.set_cons_zero, bYes]
    rw [e]
  refine bT_f ?_
  rw [e1_ok' (lc_ok (ds := (textsL m).map sD) (by unfold iS; rw [eCall_ok (ds := [manD m]) rfl, q1]; rfl) (Nat.le_trans len (by decide)) lc)]
  rw [List.map_const']
  exact anyD_rep _
def sgs (m : Man) : List Nat := [48, 49, 53, 57, 45, 40, 41, 32] ++ [m.pt] ++ m.gp ++ [49]
theorem drawn_list {m : Man} (hm : m.Ok) (c : Int) (a b d : PyData) (x5 x7 x8 x9 : Option Sl) : ∃ l : List Nat, l.length ≤ 8 ∧
    eLc [9] (iR1 (eCall F__law_mix [(eV 2), (eC (.int 9781)), (eC (.int 9))])) (gN 9) bYes C2_law [some (.v a), some (.v b), some (.v (.int c)), some (.g (manD m)), some (.v d), x5, some (.v (sD (sgs m))), x7, x8, x9] = .ok (.list (l.map fun x => .str (S [x]))) := by
  have n0 := mix_nn c 9781 (m := 9) (by decide)
  have n1 := mix_lt c 9781 (m := 9) (by decide)
  have q1 := mix_eq c (p := 9781) (m := 9) (by decide) (by decide)
  have hl : ((sgs m).length : Int) > 0 := by simp [sgs]; omega
  have pick : ∀ j : Nat, ∃ x, ixD (.str (S (sgs m))) (.int (mixI (c + 3 * (j : Nat)) 9787 ((sgs m).length : Nat))) = .ok (.str (S [x])) := fun j => by
    obtain ⟨x, _, h⟩ := at_nat (l := sgs m) (mix_nn (c + 3 * (j : Nat)) 9787 (m := ((sgs m).length : Nat)) hl) (mix_lt _ _ hl)
    exact ⟨x, h⟩
  obtain ⟨ch, hch⟩ : ∃ ch : Nat → Nat, ∀ j : Nat, ixD (.str (S (sgs m))) (.int (mixI (c + 3 * (j : Nat)) 9787 ((sgs m).length : Nat))) = .ok (.str (S [ch j])) := ⟨fun j => (pick j).choose, fun j => (pick j).choose_spec⟩
  have rl : (rangeD 0 (mixI c 9781 9).toNat).length ≤ sizeLine := by
    have : (rangeD 0 (mixI c 9781 9).toNat).length = (mixI c 9781 9).toNat := by simp [rangeD]
    rw [this]
    exact Nat.le_trans (show (mixI c 9781 9).toNat ≤ 100 by omega) (by decide)
  refine ⟨(List.range (mixI c 9781 9).toNat).map ch, by simp; omega, ?_⟩
  have q0 : eCall F__law_mix [(eV 2), (eC (.int 9781)), (eC (.int 9))] [some (.v a), some (.v b), some (.v (.int c)), some (.g (manD m)), some (.v d), x5, some (.v (sD (sgs m))), x7, x8, x9] = .ok (.int (mixI c 9781 9)) := by rw [eCall_ok (ds := [.int c, .int 9781, .int 9]) rfl, q1]
  refine lc_ok (ds := rangeD 0 (mixI c 9781 9).toNat) (ir1_ok q0 (range1_ok (by omega) (by omega))) rl ?_
  have e : rangeD 0 (mixI c 9781 9).toNat = (List.range (mixI c 9781 9).toNat).map fun k => PyData.int (0 + (k : Nat)) := rfl
  rw [e, List.map_map]
  refine lcL_of (g := fun j => .str (S [ch j])) fun j _ => ?_
  have hp := hch j
  have q2 := mix_eq (c + 3 * (j : Nat)) (p := 9787) (m := ((sgs m).length : Nat)) (by decide) hl
  have m3 : ∀ x, mulOk 3 x = true := fun x => mulOk_l (by decide)
  have C : C2_law [some (.v a), some (.v b), some (.v (.int c)), some (.g (manD m)), some (.v d), x5, some (.v (sD (sgs m))), x7, x8, some (.v (.int (0 + (j : Nat))))] = .ok (.str (S [ch j])) := by
    unfold C2_law
    rw [e2_ok (d := .str (S (sgs m))) (e := .int (mixI (c + 3 * (j : Nat)) 9787 ((sgs m).length : Nat))) rfl ?h, hp]
    case h =>
      rw [eCall_ok (ds := [.int (c + 3 * (j : Nat)), .int 9787, .int ((sgs m).length : Nat)]) ?g, q2]
      case g =>
        generalize manD m = M
        have e9 : lenD (sD (sgs m)) = .ok (.int ((sgs m).length : Nat)) := rfl
        generalize sD (sgs m) = SG at *
        simp [m3, e9]
  unfold lc1
  simp only [gN, List.set_cons_succ, List.set_cons_zero, bYes, wipeE]
  exact (by rw [show C2_law _ = _ from C])
theorem join_ones {l : List Nat} (h : l.length ≤ 100) : joinD (.str (S [])) (.list (l.map fun x => .str (S [x]))) = .ok (sD l) := by
  have h1 : ((l.map fun x => [x]).map List.length).sum = l.length := by
    clear h
    induction l with
    | nil => rfl
    | cons x r ih => simp at ih ⊢; omega
  have := joinD_S (g := []) (C := l.map fun x => [x]) (by rw [h1]; simp; omega)
  rw [List.map_map] at this
  rw [show (l.map fun x => PyData.str (S [x])) = l.map (sD ∘ fun x => [x]) from rfl, this, joinC_ones]
theorem in2 {ns : List Int} (k : Nat) {ρ : En} (h : Q2 (scr ns) ρ) : NxP (Q2 (scr ns)) (tgt (gN 1) L2_law (.int (k : Nat)) ρ) := by
  obtain ⟨x1, x2, x3, x4, x5, x6, x7, x8, x9, rfl⟩ := h
  have hk := cell_eq ns k
  have h4 := cell_eq ns 4
  have h5 := cell_eq ns 5
  have m3 : ∀ x, mulOk 3 x = true := fun x => mulOk_l (by decide)
  have m5 : ∀ x, mulOk 5 x = true := fun x => mulOk_l (by decide)
  have hm := manner_ok (cellI ns k + 3 * (k : Nat))
  have n1 := number_eq (cellI ns 4 + 5 * (k : Nat))
  have hp := (drawn_isN (cellI ns 4 + 5 * (k : Nat))).1
  have hb := drawn_25 (cellI ns 4 + 5 * (k : Nat))
  have hf := formOf_ok (cellI ns 5 + (k : Nat))
  have q1 := form_eq (cellI ns 5 + (k : Nat))
  have s1 : e2 addD (eCall F__law_cell [(eV 0), (eV 1)]) (e2 mulD (eC (.int 3)) (eV 1)) [some (.v (scr ns)), some (.v (.int (k : Nat))), x2, x3, x4, x5, x6, x7, x8, x9] = .ok (.int (cellI ns k + 3 * (k : Nat))) := by
    generalize scr ns = sc at *
    simp [hk, m3]
  have s2 : sAsgB 3 manF (eV 2) [some (.v (scr ns)), some (.v (.int (k : Nat))), some (.v (.int (cellI ns k + 3 * (k : Nat)))), x3, x4, x5, x6, x7, x8, x9] = .nx [some (.v (scr ns)), some (.v (.int (k : Nat))), some (.v (.int (cellI ns k + 3 * (k : Nat)))), some (.g (manD (mannerOf (cellI ns k + 3 * (k : Nat))))), x4, x5, x6, x7, x8, x9] := by
    generalize scr ns = sc at *
    simp [manF_eq]
  generalize mannerOf (cellI ns k + 3 * (k : Nat)) = m at *
  generalize cellI ns k + 3 * (k : Nat) = c at *
  have s4 : eCall F__law_number [(e2 addD (eCall F__law_cell [(eV 0), (eC (.int 4))]) (e2 mulD (eC (.int 5)) (eV 1)))] [some (.v (scr ns)), some (.v (.int (k : Nat))), some (.v (.int c)), some (.g (manD m)), x4, x5, x6, x7, x8, x9] = .ok (numD (drawn (cellI ns 4 + 5 * (k : Nat)))) := by
    generalize scr ns = sc at *
    generalize manD m = M at *
    generalize numD (drawn (cellI ns 4 + 5 * (k : Nat))) = ND at *
    simp at h4
    simp [h4, m5, n1]
  generalize drawn (cellI ns 4 + 5 * (k : Nat)) = x at *
  have s5 : eCall F__law_form [(e2 addD (eCall F__law_cell [(eV 0), (eC (.int 5))]) (eV 1))] [some (.v (scr ns)), some (.v (.int (k : Nat))), some (.v (.int c)), some (.g (manD m)), some (.v (numD x)), x5, x6, x7, x8, x9] = .ok (fmD (formOf (cellI ns 5 + (k : Nat)))) := by
    generalize scr ns = sc at *
    generalize manD m = M at *
    generalize numD x = ND at *
    simp at h5
    simp [h5, q1]
  generalize formOf (cellI ns 5 + (k : Nat)) = f at *
  have r2 := law_shown_eq hm hf (w := .even) hp hb
  have hab := rdN_abs (w := .even) (f := f) hb
  have lt : (shownL m f .even x).length ≤ 190 := txt_len hm (lt60 hab) (by have := rdN_le .even f x; omega) (by have := fmL_le hf; omega)
  have ct : cnt (shownL m f .even x) ≤ 50 := by
    unfold shownL
    rw [cnt_txt hm]
    have d1 : (D ((rdN .even f x).1.natAbs / 10 ^ (rdN .even f x).2)).length ≤ 40 := D_len (k := 39) (Nat.lt_of_le_of_lt (Nat.div_le_self _ _) hab)
    have := rdN_le .even f x
    have := fmL_le hf
    omega
  have lg := hm.gp1
  have sl : (sgs m).length ≤ 100 := by simp [sgs]; omega
  have sne : sgs m ≠ [] := by simp [sgs]
  have a1 : addD (.str (S [48, 49, 53, 57, 45, 40, 41, 32])) (.str (S [m.pt])) = .ok (.str (S ([48, 49, 53, 57, 45, 40, 41, 32] ++ [m.pt]))) := addD_S (by simp)
  have a2 : addD (.str (S ([48, 49, 53, 57, 45, 40, 41, 32] ++ [m.pt]))) (.str (S m.gp)) = .ok (.str (S ([48, 49, 53, 57, 45, 40, 41, 32] ++ [m.pt] ++ m.gp))) := addD_S (by simp; omega)
  have a3 : addD (.str (S ([48, 49, 53, 57, 45, 40, 41, 32] ++ [m.pt] ++ m.gp))) (.str (S [49])) = .ok (sD (sgs m)) := addD_S (by simp; omega)
  show NxP _ (L2_law [some (.v (scr ns)), some (.v (.int (k : Nat))), x2, x3, x4, x5, x6, x7, x8, x9])
  unfold L2_law
  refine NxP.asg _ s1 (ρ' := [some (.v (scr ns)), some (.v (.int (k : Nat))), some (.v (.int c)), x3, x4, x5, x6, x7, x8, x9]) rfl ?_
  refine NxP.seq s2 ?_
  refine NxP.ifF (any_eq hm _ _ _ _ _ _) ?_
  refine NxP.asg _ s4 (ρ' := [some (.v (scr ns)), some (.v (.int (k : Nat))), some (.v (.int c)), some (.g (manD m)), some (.v (numD x)), x5, x6, x7, x8, x9]) rfl ?_
  refine NxP.asg (sD (shownL m f .even x)) (by rw [eCall_ok (ds := [numD x, manD m, fmD f, wD .even]) (by unfold eL; rw [show eV 4 _ = Rs.ok (numD x) from rfl, Rs.bind_ok]; unfold eL; rw [show eV 3 _ = Rs.ok (manD m) from rfl, Rs.bind_ok, eL_2 s5 (e := wD .even) rfl]; rfl), r2]) (ρ' := [some (.v (scr ns)), some (.v (.int (k : Nat))), some (.v (.int c)), some (.g (manD m)), some (.v (numD x)), some (.v (sD (shownL m f .even x))), x6, x7, x8, x9]) rfl ?_
  refine NxP.asg (sD (sgs m)) (by rw [e2_ok (by rw [e2_ok (by rw [e2_ok (d := .str (S [48, 49, 53, 57, 45, 40, 41, 32])) (e := .str (S [m.pt])) rfl (by rw [e2_ok (d := manD m) (e := .int 0) rfl rfl, man_0]), a1]) (e := .str (S m.gp)) (by rw [e2_ok (d := manD m) (e := .int 1) rfl rfl, man_1]), a2]) (e := .str (S [49])) rfl, a3]) (ρ' := [some (.v (scr ns)), some (.v (.int (k : Nat))), some (.v (.int c)), some (.g (manD m)), some (.v (numD x)), some (.v (sD (shownL m f .even x))), some (.v (sD (sgs m))), x7, x8, x9]) rfl ?_
  obtain ⟨ρ', e1, t, y7, y8, y9, l1, l2, rfl⟩ := forR_I (bd := tgt (gN 7) L1_law) (Q3 (scr ns) (.int (k : Nat)) (.int c) (manD m) (numD x) (sD (sgs m))) (n := 3) (ρ := [some (.v (scr ns)), some (.v (.int (k : Nat))), some (.v (.int c)), some (.g (manD m)), some (.v (numD x)), some (.v (sD (shownL m f .even x))), some (.v (sD (sgs m))), x7, x8, x9]) ⟨shownL m f .even x, _, _, _, by omega, by omega, rfl⟩ fun j hj ρ hρ => in3 hm sne sl j hj hρ
  refine NxP.for_ (ds := rangeD 0 3) rfl e1 ?_
  obtain ⟨l, ll, dl⟩ := drawn_list hm c (scr ns) (.int (k : Nat)) (numD x) (some (.v (sD t))) y7 y8 y9
  have jn := join_ones (l := l) (by omega)
  have hr := law_is_right_eq hm (t := l) (by omega) (by have : cnt l ≤ l.length := List.length_filter_le _ _; omega)
  refine NxP.asg _ dl (ρ' := [some (.v (scr ns)), some (.v (.int (k : Nat))), some (.v (.int c)), some (.g (manD m)), some (.v (numD x)), some (.v (sD t)), some (.v (sD (sgs m))), y7, some (.v (.list (l.map fun x => .str (S [x])))), y9]) rfl ?_
  refine NxP.ifF1 (bNot_ok (a := true) (bT_t ?_)) ⟨_, _, _, _, _, _, _, _, _, rfl⟩
  have ej : eM_join1 (eC (.str (S []))) (eV 8) [some (.v (scr ns)), some (.v (.int (k : Nat))), some (.v (.int c)), some (.g (manD m)), some (.v (numD x)), some (.v (sD t)), some (.v (sD (sgs m))), y7, some (.v (.list (l.map fun x => .str (S [x])))), y9] = .ok (sD l) := eM1_ok (d := .str (S [])) (e := .list (l.map fun x => .str (S [x]))) rfl rfl rfl jn
  rw [eCall_ok (eL_2 ej (e := manD m) rfl), hr]
theorem law_true (ns : List Int) (hl : ns.length ≤ 63) : F_law [.list (ns.map PyData.int)] = .ok (.bool true) := by
  obtain ⟨ρ', e1, y1, y2, y3, y4, y5, y6, y7, y8, y9, rfl⟩ := forR_P (bd := tgt (gN 1) L2_law) (Q2 (scr ns)) (n := 4) (ρ := [some (.v (scr ns)), none, none, none, none, none, none, none, none, none]) ⟨_, _, _, _, _, _, _, _, _, rfl⟩ fun k _ ρ hρ => in2 k hρ
  unfold F_law
  rw [lock_eq]
  show outF (b_law [some (.v (scr ns)), none, none, none, none, none, none, none, none, none]) = _
  unfold b_law
  rw [sSeq_nx (sFor_nx (ds := rangeD 0 4) rfl e1)]
  rfl
end L2.Pz.K07

namespace L2.Pz.K07
open PySem PySem.Spec PyProof.Rows L2 L2.Pz L2.Pz.Fn
def top (i : Nat) : Stmt := PySem.Challenge.pw_sayfigures_k07_whole_no_other_texts.main.body.getD i (.Pass ⟨0, 0, 0, 0⟩)
abbrev s_is_whole : Stmt := top 5
abbrev N_is_whole : List Str := ["thing", "low", "high"]
theorem sc_is_whole : FnScope N_is_whole ["thing", "low", "high"] (defScope s_is_whole) := ⟨rfl, rfl, rfl, by decide +kernel, rfl, by decide +kernel, by decide +kernel⟩
abbrev s_is_number : Stmt := top 6
abbrev N_is_number : List Str := ["thing"]
theorem sc_is_number : FnScope N_is_number ["thing"] (defScope s_is_number) := ⟨rfl, rfl, rfl, by decide +kernel, rfl, by decide +kernel, by decide +kernel⟩
abbrev s_normal : Stmt := top 7
abbrev N_normal : List Str := ["digits", "places"]
theorem sc_normal : FnScope N_normal ["digits", "places"] (defScope s_normal) := ⟨rfl, rfl, rfl, by decide +kernel, rfl, by decide +kernel, by decide +kernel⟩
abbrev s_groups_of : Stmt := top 9
abbrev N_groups_of : List Str := ["figures", "sizes", "found", "size"]
theorem sc_groups_of : FnScope N_groups_of ["figures", "sizes"] (defScope s_groups_of) := ⟨rfl, rfl, rfl, by decide +kernel, rfl, by decide +kernel, by decide +kernel⟩
abbrev s_in_groups : Stmt := top 10
abbrev N_in_groups : List Str := ["figures", "manner"]
theorem sc_in_groups : FnScope N_in_groups ["figures", "manner"] (defScope s_in_groups) := ⟨rfl, rfl, rfl, by decide +kernel, rfl, by decide +kernel, by decide +kernel⟩
abbrev s_are_figures : Stmt := top 12
abbrev N_are_figures : List Str := ["word", "sign"]
theorem sc_are_figures : FnScope N_are_figures ["word"] (defScope s_are_figures) := ⟨rfl, rfl, rfl, by decide +kernel, rfl, by decide +kernel, by decide +kernel⟩
abbrev s_unsigned : Stmt := top 13
abbrev N_unsigned : List Str := ["text", "manner"]
theorem sc_unsigned : FnScope N_unsigned ["text", "manner"] (defScope s_unsigned) := ⟨rfl, rfl, rfl, by decide +kernel, rfl, by decide +kernel, by decide +kernel⟩
abbrev s_read : Stmt := top 14
abbrev N_read : List Str := ["text", "manner", "body", "is_below", "ahead", "point", "behind", "figures", "digits"]
theorem sc_read : FnScope N_read ["text", "manner"] (defScope s_read) := ⟨rfl, rfl, rfl, by decide +kernel, rfl, by decide +kernel, by decide +kernel⟩
abbrev s__law_cell : Stmt := top 16
abbrev N__law_cell : List Str := ["script", "k"]
theorem sc__law_cell : FnScope N__law_cell ["script", "k"] (defScope s__law_cell) := ⟨rfl, rfl, rfl, by decide +kernel, rfl, by decide +kernel, by decide +kernel⟩
abbrev s__law_mix : Stmt := top 17
abbrev N__law_mix : List Str := ["cell", "prime", "many"]
theorem sc__law_mix : FnScope N__law_mix ["cell", "prime", "many"] (defScope s__law_mix) := ⟨rfl, rfl, rfl, by decide +kernel, rfl, by decide +kernel, by decide +kernel⟩
abbrev s__law_same : Stmt := top 18
abbrev N__law_same : List Str := ["found", "due", "one", "other"]
theorem sc__law_same : FnScope N__law_same ["found", "due"] (defScope s__law_same) := ⟨rfl, rfl, rfl, by decide +kernel, rfl, by decide +kernel, by decide +kernel⟩
abbrev s__law_normal : Stmt := top 19
abbrev N__law_normal : List Str := ["digits", "places"]
theorem sc__law_normal : FnScope N__law_normal ["digits", "places"] (defScope s__law_normal) := ⟨rfl, rfl, rfl, by decide +kernel, rfl, by decide +kernel, by decide +kernel⟩
abbrev s__law_number : Stmt := top 20
abbrev N__law_number : List Str := ["cell", "way", "places"]
theorem sc__law_number : FnScope N__law_number ["cell"] (defScope s__law_number) := ⟨rfl, rfl, rfl, by decide +kernel, rfl, by decide +kernel, by decide +kernel⟩
abbrev s__law_form : Stmt := top 21
abbrev N__law_form : List Str := ["cell", "least"]
theorem sc__law_form : FnScope N__law_form ["cell"] (defScope s__law_form) := ⟨rfl, rfl, rfl, by decide +kernel, rfl, by decide +kernel, by decide +kernel⟩
abbrev s__law_ten : Stmt := top 22
abbrev N__law_ten : List Str := ["many", "found", "turn"]
theorem sc__law_ten : FnScope N__law_ten ["many"] (defScope s__law_ten) := ⟨rfl, rfl, rfl, by decide +kernel, rfl, by decide +kernel, by decide +kernel⟩
abbrev s__law_whole : Stmt := top 23
abbrev N__law_whole : List Str := ["upper", "lower", "way", "below", "rest"]
theorem sc__law_whole : FnScope N__law_whole ["upper", "lower", "way"] (defScope s__law_whole) := ⟨rfl, rfl, rfl, by decide +kernel, rfl, by decide +kernel, by decide +kernel⟩
abbrev s__law_made : Stmt := top 24
abbrev N__law_made : List Str := ["upper", "lower", "places", "way"]
theorem sc__law_made : FnScope N__law_made ["upper", "lower", "places", "way"] (defScope s__law_made) := ⟨rfl, rfl, rfl, by decide +kernel, rfl, by decide +kernel, by decide +kernel⟩
abbrev s__law_height : Stmt := top 25
abbrev N__law_height : List Str := ["upper", "lower", "most", "height", "least"]
theorem sc__law_height : FnScope N__law_height ["upper", "lower", "most"] (defScope s__law_height) := ⟨rfl, rfl, rfl, by decide +kernel, rfl, by decide +kernel, by decide +kernel⟩
abbrev s__law_figures : Stmt := top 26
abbrev N__law_figures : List Str := ["upper", "lower", "most", "way", "height", "found"]
theorem sc__law_figures : FnScope N__law_figures ["upper", "lower", "most", "way"] (defScope s__law_figures) := ⟨rfl, rfl, rfl, by decide +kernel, rfl, by decide +kernel, by decide +kernel⟩
abbrev s__law_rounded : Stmt := top 27
abbrev N__law_rounded : List Str := ["number", "form", "way"]
theorem sc__law_rounded : FnScope N__law_rounded ["number", "form", "way"] (defScope s__law_rounded) := ⟨rfl, rfl, rfl, by decide +kernel, rfl, by decide +kernel, by decide +kernel⟩
abbrev s__law_manner : Stmt := top 28
abbrev N__law_manner : List Str := ["cell", "point", "gap", "sizes", "sign"]
theorem sc__law_manner : FnScope N__law_manner ["cell"] (defScope s__law_manner) := ⟨rfl, rfl, rfl, by decide +kernel, rfl, by decide +kernel, by decide +kernel⟩
abbrev s__law_grouped : Stmt := top 29
abbrev N__law_grouped : List Str := ["figures", "manner", "point", "gap", "sizes", "sign", "least", "found", "left"]
theorem sc__law_grouped : FnScope N__law_grouped ["figures", "manner"] (defScope s__law_grouped) := ⟨rfl, rfl, rfl, by decide +kernel, rfl, by decide +kernel, by decide +kernel⟩
abbrev s__law_text : Stmt := top 30
abbrev N__law_text : List Str := ["number", "manner", "least", "digits", "places", "ahead", "behind", "text"]
theorem sc__law_text : FnScope N__law_text ["number", "manner", "least"] (defScope s__law_text) := ⟨rfl, rfl, rfl, by decide +kernel, rfl, by decide +kernel, by decide +kernel⟩
abbrev s__law_shown : Stmt := top 31
abbrev N__law_shown : List Str := ["number", "manner", "form", "way", "least"]
theorem sc__law_shown : FnScope N__law_shown ["number", "manner", "form", "way"] (defScope s__law_shown) := ⟨rfl, rfl, rfl, by decide +kernel, rfl, by decide +kernel, by decide +kernel⟩
abbrev s__law_changed : Stmt := top 32
abbrev N__law_changed : List Str := ["text", "cell", "signs", "at", "sign", "kind"]
theorem sc__law_changed : FnScope N__law_changed ["text", "cell", "signs"] (defScope s__law_changed) := ⟨rfl, rfl, rfl, by decide +kernel, rfl, by decide +kernel, by decide +kernel⟩
abbrev s__law_told : Stmt := top 33
abbrev N__law_told : List Str := ["text", "manner", "said", "e"]
theorem sc__law_told : FnScope N__law_told ["text", "manner"] (defScope s__law_told) := ⟨rfl, rfl, rfl, by decide +kernel, rfl, by decide +kernel, by decide +kernel⟩
abbrev s__law_is_right : Stmt := top 34
abbrev N__law_is_right : List Str := ["text", "manner", "said", "least", "due", "flat", "sign"]
theorem sc__law_is_right : FnScope N__law_is_right ["text", "manner"] (defScope s__law_is_right) := ⟨rfl, rfl, rfl, by decide +kernel, rfl, by decide +kernel, by decide +kernel⟩
abbrev s__law_texts : Stmt := top 35
abbrev N__law_texts : List Str := ["manner", "point", "gap", "sizes", "sign", "least", "some", "wrong"]
theorem sc__law_texts : FnScope N__law_texts ["manner"] (defScope s__law_texts) := ⟨rfl, rfl, rfl, by decide +kernel, rfl, by decide +kernel, by decide +kernel⟩
abbrev s_law : Stmt := top 36
abbrev N_law : List Str := ["script", "k", "cell", "manner", "number", "text", "signs", "turn", "drawn", "j"]
theorem sc_law : FnScope N_law ["script"] (defScope s_law) := ⟨rfl, rfl, rfl, by decide +kernel, rfl, by decide +kernel, by decide +kernel⟩
section
variable {P : Program} {w : World} {K : PySem.W.Frag} {mg : Str → Option Value} {base : Heap}
theorem has_is_whole {f : Addr} {fd : FuncData} (F : FunD K "is_whole" "is_whole" (defArgs s_is_whole) (defBody s_is_whole) (defScope s_is_whole) [] [] f fd) (hm : mg "is_whole" = some (.ref f)) (m_isinstance : mg "isinstance" = none) (m_int : mg "int" = none) (m_bool : mg "bool" = none) : Has P w K mg base 1 "is_whole" 3 F_is_whole := by
  have nd := sc_is_whole.nd
  exact has_lock (fn_has (k := 0) F sc_is_whole hm (fun _ _ _ _ _ _ us hl => match us, hl with | [_, _, _], _ => rfl) (fun cdv A outer s H E c => (psd_one (ps1_ret (pd_and (pd_isi kit_int (by rfl) m_isinstance (by rfl) m_int (by decide +kernel) (PD_pp (pd_var 0 (pv 0)))) (pd_and (pd_not (pd_isi kit_bool (by rfl) m_isinstance (by rfl) m_bool (by decide +kernel) (PD_pp (pd_var 0 (pv 0))))) (pd_one (pd_lele (PD_pp (pd_var 1 (pv 1))) (PD_pp (pd_var 0 (pv 0))) (PD_pp (pd_var 2 (pv 2)))))))))))
theorem has_is_number {f : Addr} {fd : FuncData} (F : FunD K "is_number" "is_number" (defArgs s_is_number) (defBody s_is_number) (defScope s_is_number) [] [] f fd) (hm : mg "is_number" = some (.ref f)) (m_isinstance : mg "isinstance" = none) (m_tuple : mg "tuple" = none) (m_len : mg "len" = none) (m_int : mg "int" = none) (m_bool : mg "bool" = none) (h_is_whole : Has P w K mg base 1 "is_whole" 3 F_is_whole) : Has P w K mg base 2 "is_number" 1 F_is_number := by
  have nd := sc_is_number.nd
  exact has_lock (fn_has (k := 1) F sc_is_number hm (fun _ _ _ _ _ _ us hl => match us, hl with | [_], _ => rfl) (fun cdv A outer s H E c => (psd_cons (ps1_if (ptd_w (pwd_or (ptd_not (ptd_val (pd_isi kit_tuple (by rfl) m_isinstance (by rfl) m_tuple (by decide +kernel) (PD_pp (pd_var 0 (pv 0)))))) (pwd_or (pt_ne c (PD_pp (pd_len (by rfl) m_len (PD_pp (pd_var 0 (pv 0))))) (PD_pp pd_int) (nomark _)) (pwd_or1 (ptd_not (ptd_val (pd_call c h_is_whole (by decide) (by rfl) (pl_cons (pd_sub_ix (PD_pp (pd_var 0 (pv 0))) (PD_pp pd_int)) (pl_cons pd_int (pl_cons pd_int pl_nil))) rfl))))))) (psd_one (ps1_ret pd_bl)) psd_nil)
    (psd_cons (ps1_if (ptd_w (pwd_or (ptd_not (ptd_val (pd_isi kit_int (by rfl) m_isinstance (by rfl) m_int (by decide +kernel) (PD_pp (pd_sub_ix (PD_pp (pd_var 0 (pv 0))) (PD_pp pd_int)))))) (pwd_or1 (ptd_val (pd_isi kit_bool (by rfl) m_isinstance (by rfl) m_bool (by decide +kernel) (PD_pp (pd_sub_ix (PD_pp (pd_var 0 (pv 0))) (PD_pp pd_int)))))))) (psd_one (ps1_ret pd_bl)) psd_nil)
    (psd_one (ps1_ret (pd_or (pd_eq c (PD_pp (pd_sub_ix (PD_pp (pd_var 0 (pv 0))) (PD_pp pd_int))) (PD_pp pd_int) (nomark _)) (pd_one (pd_ne c (PD_pp (pd_mod (PD_pp (pd_sub_ix (PD_pp (pd_var 0 (pv 0))) (PD_pp pd_int))) (PD_pp pd_int))) (PD_pp pd_int) (nomark _))))))))))
theorem has_normal {f : Addr} {fd : FuncData} (F : FunD K "normal" "normal" (defArgs s_normal) (defBody s_normal) (defScope s_normal) [] [] f fd) (hm : mg "normal" = some (.ref f))  : Has P w K mg base 1 "normal" 2 F_normal := by
  have nd := sc_normal.nd
  exact has_lock (fn_has (k := 0) F sc_normal hm (fun _ _ _ _ _ _ us hl => match us, hl with | [_, _], _ => rfl) (fun cdv A outer s H E c => (psd_cons (ps1_while 1000 c.po (ptd_w (pwd_and (pt_gt (PD_pp (pd_var 1 (pv 1))) (PD_pp pd_int) (nomark _)) (pwd_and1 (pt_eq c (PD_pp (pd_mod (PD_pp (pd_var 0 (pv 0))) (PD_pp pd_int))) (PD_pp pd_int) (nomark _))))) (psd_cons (ps1_asg (pd_fdiv (PD_pp (pd_var 0 (pv 0))) (PD_pp pd_int)) (pgd_name (i := 0) nd rfl (Or.inl rfl)))
    (psd_one (ps1_asg (pd_sub (PD_pp (pd_var 1 (pv 1))) (PD_pp pd_int)) (pgd_name (i := 1) nd rfl (Or.inl rfl))))))
    (psd_one (ps1_ret (pd_tup (pl_cons (pd_var 0 (pv 0)) (pl_cons (pd_var 1 (pv 1)) pl_nil))))))))
theorem has_groups_of {f : Addr} {fd : FuncData} (F : FunD K "groups_of" "groups_of" (defArgs s_groups_of) (defBody s_groups_of) (defScope s_groups_of) [] [] f fd) (hm : mg "groups_of" = some (.ref f)) (m_len : mg "len" = none) : Has P w K mg base 1 "groups_of" 2 F_groups_of := by
  have nd := sc_groups_of.nd
  exact has_lock (fn_has (k := 0) F sc_groups_of hm (fun _ _ _ _ _ _ us hl => match us, hl with | [_, _], _ => rfl) (fun cdv A outer s H E c => (psd_cons (ps1_own (i := 2) (pf_lst pl_nil) nd rfl (Or.inl rfl))
    (psd_cons (ps1_asg (pd_sub_ix (PD_pp (pd_var 1 (pv 1))) (PD_pp pd_int)) (pgd_name (i := 3) nd rfl (Or.inl rfl)))
    (psd_cons (ps1_while 1000 c.po (pt_gt (PD_pp (pd_len (by rfl) m_len (PD_pp (pd_var 0 (pv 0))))) (PD_pp (pd_var 3 (pv 3))) (nomark _)) (psd_cons (ps1_app (pv 2) (pd_slice (PD_pp (pd_var 0 (pv 0))) (pod_some (pd_neg (PD_pp (pd_var 3 (pv 3))))) pod_none))
    (psd_cons (ps1_asg (pd_slice (PD_pp (pd_var 0 (pv 0))) pod_none (pod_some (pd_neg (PD_pp (pd_var 3 (pv 3)))))) (pgd_name (i := 0) nd rfl (Or.inl rfl)))
    (psd_one (ps1_asg (pd_sub_ix (PD_pp (pd_var 1 (pv 1))) (PD_pp (pd_neg (PD_pp pd_int)))) (pgd_name (i := 3) nd rfl (Or.inl rfl)))))))
    (psd_cons (ps1_app (pv 2) (pd_var 0 (pv 0)))
    (psd_one (ps1_ret (pd_rev (pp_var 2 (pv 2)))))))))))
theorem has_in_groups {f : Addr} {fd : FuncData} (F : FunD K "in_groups" "in_groups" (defArgs s_in_groups) (defBody s_in_groups) (defScope s_in_groups) [] [] f fd) (hm : mg "in_groups" = some (.ref f)) (m_len : mg "len" = none) (h_groups_of : Has P w K mg base 1 "groups_of" 2 F_groups_of) : Has P w K mg base 2 "in_groups" 2 F_in_groups := by
  have nd := sc_in_groups.nd
  exact has_lock (fn_has (k := 1) F sc_in_groups hm (fun _ _ _ _ _ _ us hl => match us, hl with | [_, _], _ => rfl) (fun cdv A outer s H E c => (psd_cons (ps1_if (pt_lt (PD_pp (pd_len (by rfl) m_len (PD_pp (pd_var 0 (pv 0))))) (PD_pp (pd_add (PD_pp (pd_sub_ix (PD_pp (pd_sub_ix (PD_pp (pd_var 1 (pv 1))) (PD_pp pd_int))) (PD_pp pd_int))) (PD_pp (pd_sub_ix (PD_pp (pd_var 1 (pv 1))) (PD_pp pd_int))))) (nomark _)) (psd_one (ps1_ret (pd_var 0 (pv 0)))) psd_nil)
    (psd_one (ps1_ret (pd_m_join1 (PD_pp (pd_sub_ix (PD_pp (pd_var 1 (pv 1))) (PD_pp pd_int))) (PD_pp (pd_call c h_groups_of (by decide) (by rfl) (pl_cons (pd_var 0 (pv 0)) (pl_cons (pd_sub_ix (PD_pp (pd_var 1 (pv 1))) (PD_pp pd_int)) pl_nil)) rfl))))))))
theorem has_are_figures {f : Addr} {fd : FuncData} (F : FunD K "are_figures" "are_figures" (defArgs s_are_figures) (defBody s_are_figures) (defScope s_are_figures) [] [] f fd) (hm : mg "are_figures" = some (.ref f)) (m_all : mg "all" = none) : Has P w K mg base 1 "are_figures" 1 F_are_figures := by
  have nd := sc_are_figures.nd
  exact has_lock (fn_has (k := 0) F sc_are_figures hm (fun _ _ _ _ _ _ us hl => match us, hl with | [_], _ => rfl) (fun cdv A outer s H E c => (psd_one (ps1_ret (pd_and (pd_ne c (PD_pp (pd_var 0 (pv 0))) (PD_pp (pd_strS [])) (nomark _)) (pd_one (pd_all rfl (by rfl) m_all (PD_pp (PF_pd (pf_lc (own := [("sign", 1)]) (is := [1]) rfl nd (pid_seq (pd_var 0 (pv 0))) (blkOk_by (N := N_are_figures) (sc := defScope s_are_figures) (by decide +kernel)) (by decide) (fun _ _ _ _ _ => (pgd_name (i := 1) nd rfl (Or.inl rfl))) (fun _ _ _ _ _ => ptsd_nil) (fun _ _ _ _ _ => (pd_in (PD_pp (pd_var 1 (pv 1))) (PD_pp (pd_strS [48, 49, 50, 51, 52, 53, 54, 55, 56, 57]))))))))))))))
theorem has_unsigned {f : Addr} {fd : FuncData} (F : FunD K "unsigned" "unsigned" (defArgs s_unsigned) (defBody s_unsigned) (defScope s_unsigned) [] [] f fd) (hm : mg "unsigned" = some (.ref f))  : Has P w K mg base 1 "unsigned" 2 F_unsigned := by
  have nd := sc_unsigned.nd
  exact has_lock (fn_has (k := 0) F sc_unsigned hm (fun _ _ _ _ _ _ us hl => match us, hl with | [_, _], _ => rfl) (fun cdv A outer s H E c => (psd_cons (ps1_if (ptd_w (pwd_and (pt_eq c (PD_pp (pd_sub_ix (PD_pp (pd_var 1 (pv 1))) (PD_pp pd_int))) (PD_pp (pd_strS [97, 104, 101, 97, 100])) (nomark _)) (pwd_and1 (pt_eq c (PD_pp (pd_slice (PD_pp (pd_var 0 (pv 0))) pod_none (pod_some pd_int))) (PD_pp (pd_strS [45])) (nomark _))))) (psd_one (ps1_ret (pd_tup (pl_cons (pd_slice (PD_pp (pd_var 0 (pv 0))) (pod_some pd_int) pod_none) (pl_cons pd_bl pl_nil))))) psd_nil)
    (psd_cons (ps1_if (ptd_w (pwd_and (pt_eq c (PD_pp (pd_sub_ix (PD_pp (pd_var 1 (pv 1))) (PD_pp pd_int))) (PD_pp (pd_strS [98, 101, 104, 105, 110, 100])) (nomark _)) (pwd_and1 (pt_eq c (PD_pp (pd_slice (PD_pp (pd_var 0 (pv 0))) (pod_some (pd_neg (PD_pp pd_int))) pod_none)) (PD_pp (pd_strS [45])) (nomark _))))) (psd_one (ps1_ret (pd_tup (pl_cons (pd_slice (PD_pp (pd_var 0 (pv 0))) pod_none (pod_some (pd_neg (PD_pp pd_int)))) (pl_cons pd_bl pl_nil))))) psd_nil)
    (psd_cons (ps1_if (ptd_w (pwd_and (pt_eq c (PD_pp (pd_sub_ix (PD_pp (pd_var 1 (pv 1))) (PD_pp pd_int))) (PD_pp (pd_strS [98, 114, 97, 99, 107, 101, 116, 115])) (nomark _)) (pwd_and (pt_eq c (PD_pp (pd_slice (PD_pp (pd_var 0 (pv 0))) pod_none (pod_some pd_int))) (PD_pp (pd_strS [40])) (nomark _)) (pwd_and1 (pt_eq c (PD_pp (pd_slice (PD_pp (pd_var 0 (pv 0))) (pod_some (pd_neg (PD_pp pd_int))) pod_none)) (PD_pp (pd_strS [41])) (nomark _)))))) (psd_one (ps1_ret (pd_tup (pl_cons (pd_slice (PD_pp (pd_var 0 (pv 0))) (pod_some pd_int) (pod_some (pd_neg (PD_pp pd_int)))) (pl_cons pd_bl pl_nil))))) psd_nil)
    (psd_one (ps1_ret (pd_tup (pl_cons (pd_var 0 (pv 0)) (pl_cons pd_bl pl_nil))))))))))
theorem has_read {f : Addr} {fd : FuncData} (F : FunD K "read" "read" (defArgs s_read) (defBody s_read) (defScope s_read) [] [] f fd) (hm : mg "read" = some (.ref f)) (m_len : mg "len" = none) (m_int : mg "int" = none) (x_NoNumber : ExN K mg (S [78, 111, 78, 117, 109, 98, 101, 114])) (h_unsigned : Has P w K mg base 1 "unsigned" 2 F_unsigned) (h_are_figures : Has P w K mg base 1 "are_figures" 1 F_are_figures) (h_in_groups : Has P w K mg base 2 "in_groups" 2 F_in_groups) (h_normal : Has P w K mg base 1 "normal" 2 F_normal) : HasT P w K mg base 3 "read" [false, true] F_read := by
  have nd := sc_read.nd
  exact hasT_lock (fn_hasT (k := 2) [false, true] F sc_read hm rfl (fun _ _ _ _ _ _ us hl => match us, hl with | [_, _], _ => rfl) (fun cdv A outer s H E c => (psdt_cons rbEq_ok (pst_of rbEq_ok (ps1_asg (pd_call c h_unsigned (by decide) (by rfl) (pl_cons (pd_var 0 (pv 0)) (pl_cons (pd_var 1 (pv 1)) pl_nil)) rfl) (pgd_tup rfl (pgds_cons (pgd_name (i := 2) nd rfl (Or.inl rfl)) (pgds_cons (pgd_name (i := 3) nd rfl (Or.inl rfl)) pgds_nil)))))
    (psdt_cons rbEq_ok (pst_of rbEq_ok (ps1_asg (pd_m_partition1 (PD_pp (pd_var 2 (pv 2))) (PD_pp (pd_sub_ix (PD_pp (pd_var 1 (pv 1))) (PD_pp pd_int)))) (pgd_tup rfl (pgds_cons (pgd_name (i := 4) nd rfl (Or.inl rfl)) (pgds_cons (pgd_name (i := 5) nd rfl (Or.inl rfl)) (pgds_cons (pgd_name (i := 6) nd rfl (Or.inl rfl)) pgds_nil))))))
    (psdt_cons rbEq_ok (pst_of rbEq_ok (ps1_asg (pd_var 4 (pv 4)) (pgd_name (i := 7) nd rfl (Or.inl rfl))))
    (psdt_cons rbEq_ok (pst_if rbEq_ok (ptt_of (pt_ne c (PD_pp (pd_sub_ix (PD_pp (pd_var 1 (pv 1))) (PD_pp pd_int))) (PD_pp (pd_strS [])) (nomark _))) (psdt_one rbEq_ok (pst_asg rbEq_ok (pdt_repl 1 (pdt_of (pd_var 4 (pv 4))) rfl (Or.inl rfl)) (pgd_name (i := 7) nd rfl (Or.inl rfl)))) (psdt_of rbEq_ok psd_nil))
    (psdt_of rbEq_ok (psd_cons (ps1_if (ptd_w (pwd_or (ptd_not (ptd_val (pd_call c h_are_figures (by decide) (by rfl) (pl_cons (pd_var 7 (pv 7)) pl_nil) rfl))) (pwd_or1 (ptd_w (pwd_and (pt_gt (PD_pp (pd_len (by rfl) m_len (PD_pp (pd_var 7 (pv 7))))) (PD_pp pd_int) (nomark _)) (pwd_and1 (pt_eq c (PD_pp (pd_sub_ix (PD_pp (pd_var 7 (pv 7))) (PD_pp pd_int))) (PD_pp (pd_strS [48])) (nomark _)))))))) (psd_one (ps1_raiseS [78, 111, 78, 117, 109, 98, 101, 114] c rfl x_NoNumber (by rfl))) psd_nil)
    (psd_cons (ps1_if (pt_nin (PD_pp (pd_var 4 (pv 4))) (PD_pp (pd_tup (pl_cons (pd_var 7 (pv 7)) (pl_cons (pd_call c h_in_groups (by decide) (by rfl) (pl_cons (pd_var 7 (pv 7)) (pl_cons (pd_var 1 (pv 1)) pl_nil)) rfl) pl_nil))))) (psd_one (ps1_raiseS [78, 111, 78, 117, 109, 98, 101, 114] c rfl x_NoNumber (by rfl))) psd_nil)
    (psd_cons (ps1_if (ptd_w (pwd_or (pt_ne c (PD_pp (pd_ne c (PD_pp (pd_var 5 (pv 5))) (PD_pp (pd_strS [])) (nomark _))) (PD_pp (pd_call c h_are_figures (by decide) (by rfl) (pl_cons (pd_var 6 (pv 6)) pl_nil) rfl)) (nomark _)) (pwd_or1 (pt_gt (PD_pp (pd_len (by rfl) m_len (PD_pp (pd_var 6 (pv 6))))) (PD_pp pd_int) (nomark _))))) (psd_one (ps1_raiseS [78, 111, 78, 117, 109, 98, 101, 114] c rfl x_NoNumber (by rfl))) psd_nil)
    (psd_cons (ps1_asg (pd_int_of (by rfl) m_int (PD_pp (pd_add (PD_pp (pd_var 7 (pv 7))) (PD_pp (pd_var 6 (pv 6)))))) (pgd_name (i := 8) nd rfl (Or.inl rfl)))
    (psd_cons (ps1_if (ptd_truth (PD_pp (pd_var 3 (pv 3)))) (psd_one (ps1_asg (pd_neg (PD_pp (pd_var 8 (pv 8)))) (pgd_name (i := 8) nd rfl (Or.inl rfl)))) psd_nil)
    (psd_cons (ps1_if (ptd_w (pwd_and (pt_eq c (PD_pp (pd_var 8 (pv 8))) (PD_pp pd_int) (nomark _)) (pwd_and1 (ptd_truth (PD_pp (pd_var 3 (pv 3))))))) (psd_one (ps1_raiseS [78, 111, 78, 117, 109, 98, 101, 114] c rfl x_NoNumber (by rfl))) psd_nil)
    (psd_one (ps1_ret (pd_call c h_normal (by decide) (by rfl) (pl_cons (pd_var 8 (pv 8)) (pl_cons (pd_len (by rfl) m_len (PD_pp (pd_var 6 (pv 6)))) pl_nil)) rfl))))))))))))))))
theorem has__law_cell {f : Addr} {fd : FuncData} (F : FunD K "_law_cell" "_law_cell" (defArgs s__law_cell) (defBody s__law_cell) (defScope s__law_cell) [] [] f fd) (hm : mg "_law_cell" = some (.ref f)) (m_len : mg "len" = none) : Has P w K mg base 1 "_law_cell" 2 F__law_cell := by
  have nd := sc__law_cell.nd
  exact has_lock (fn_has (k := 0) F sc__law_cell hm (fun _ _ _ _ _ _ us hl => match us, hl with | [_, _], _ => rfl) (fun cdv A outer s H E c => (psd_cons (ps1_if (pt_lt (PD_pp (pd_var 1 (pv 1))) (PD_pp (pd_len (by rfl) m_len (PD_pp (pd_var 0 (pv 0))))) (nomark _)) (psd_one (ps1_ret (pd_sub_ix (PD_pp (pd_var 0 (pv 0))) (PD_pp (pd_var 1 (pv 1)))))) psd_nil)
    (psd_one (ps1_ret pd_int)))))
theorem has__law_mix {f : Addr} {fd : FuncData} (F : FunD K "_law_mix" "_law_mix" (defArgs s__law_mix) (defBody s__law_mix) (defScope s__law_mix) [] [] f fd) (hm : mg "_law_mix" = some (.ref f))  : Has P w K mg base 1 "_law_mix" 3 F__law_mix := by
  have nd := sc__law_mix.nd
  exact has_lock (fn_has (k := 0) F sc__law_mix hm (fun _ _ _ _ _ _ us hl => match us, hl with | [_, _, _], _ => rfl) (fun cdv A outer s H E c => (psd_one (ps1_ret (pd_mod (PD_pp (pd_mod (PD_pp (pd_mul (PD_pp (pd_var 0 (pv 0))) (PD_pp pd_int))) (PD_pp (pd_var 1 (pv 1))))) (PD_pp (pd_var 2 (pv 2))))))))
theorem has__law_same {f : Addr} {fd : FuncData} (F : FunD K "_law_same" "_law_same" (defArgs s__law_same) (defBody s__law_same) (defScope s__law_same) [] [] f fd) (hm : mg "_law_same" = some (.ref f)) (m_isinstance : mg "isinstance" = none) (m_tuple : mg "tuple" = none) (m_len : mg "len" = none) (m_all : mg "all" = none) (m_zip : mg "zip" = none) (m_bool : mg "bool" = none) (m_int : mg "int" = none) (m_str : mg "str" = none) : ∀ k : Nat, Has P w K mg base (0 + k) "_law_same" 2 (F__law_same k)
  | 0 => has_zero F sc__law_same hm (fun _ _ _ _ _ _ us hl => match us, hl with | [_, _], _ => rfl)
  | k + 1 => by
    have h_rec := has__law_same F hm m_isinstance m_tuple m_len m_all m_zip m_bool m_int m_str k
    have nd := sc__law_same.nd
    exact has_lock (fn_has (k := 0 + k) F sc__law_same hm (fun _ _ _ _ _ _ us hl => match us, hl with | [_, _], _ => rfl) (fun cdv A outer s H E c => (psd_cons (ps1_if (ptd_val (pd_isi kit_tuple (by rfl) m_isinstance (by rfl) m_tuple (by decide +kernel) (PD_pp (pd_var 1 (pv 1))))) (psd_cons (ps1_if (ptd_w (pwd_or (ptd_not (ptd_val (pd_isi kit_tuple (by rfl) m_isinstance (by rfl) m_tuple (by decide +kernel) (PD_pp (pd_var 0 (pv 0)))))) (pwd_or1 (pt_ne c (PD_pp (pd_len (by rfl) m_len (PD_pp (pd_var 0 (pv 0))))) (PD_pp (pd_len (by rfl) m_len (PD_pp (pd_var 1 (pv 1))))) (nomark _))))) (psd_one (ps1_ret pd_bl)) psd_nil)
    (psd_one (ps1_ret (pd_all rfl (by rfl) m_all (PD_pp (PF_pd (pf_lc (own := [("one", 2), ("other", 3)]) (is := [2, 3]) rfl nd (pid_zip (by rfl) m_zip (pd_var 0 (pv 0)) (pd_var 1 (pv 1))) (blkOk_by (N := N__law_same) (sc := defScope s__law_same) (by decide +kernel)) (by decide) (fun _ _ _ _ _ => (pgd_tup rfl (pgds_cons (pgd_name (i := 2) nd rfl (Or.inl rfl)) (pgds_cons (pgd_name (i := 3) nd rfl (Or.inl rfl)) pgds_nil)))) (fun _ _ _ _ _ => ptsd_nil) (fun _ _ _ _ _ => (pd_call (c.blk _ _ _ _ _) h_rec (Nat.le_refl _) (by rfl) (pl_cons (pd_var 2 (pv 2)) (pl_cons (pd_var 3 (pv 3)) pl_nil)) rfl))))))))) psd_nil)
    (psd_cons (ps1_if (pt_is (PD_pp (pd_var 1 (pv 1))) (PD_pp pd_non) (nomark _)) (psd_one (ps1_ret (pd_is (PD_pp (pd_var 0 (pv 0))) (PD_pp pd_non) (nomark _)))) psd_nil)
    (psd_cons (ps1_if (ptd_w (pwd_or (ptd_val (pd_isi kit_bool (by rfl) m_isinstance (by rfl) m_bool (by decide +kernel) (PD_pp (pd_var 1 (pv 1))))) (pwd_or1 (ptd_val (pd_isi kit_bool (by rfl) m_isinstance (by rfl) m_bool (by decide +kernel) (PD_pp (pd_var 0 (pv 0)))))))) (psd_one (ps1_ret (pd_and (pd_isi kit_bool (by rfl) m_isinstance (by rfl) m_bool (by decide +kernel) (PD_pp (pd_var 1 (pv 1)))) (pd_and (pd_isi kit_bool (by rfl) m_isinstance (by rfl) m_bool (by decide +kernel) (PD_pp (pd_var 0 (pv 0)))) (pd_one (pd_eq c (PD_pp (pd_var 0 (pv 0))) (PD_pp (pd_var 1 (pv 1))) (nomark _))))))) psd_nil)
    (psd_one (ps1_ret (pd_and (pd_isi2 kit_int kit_str (by rfl) m_isinstance (by rfl) m_int (by decide +kernel) (by rfl) m_str (by decide +kernel) (PD_pp (pd_var 0 (pv 0)))) (pd_one (pd_eq c (PD_pp (pd_var 0 (pv 0))) (PD_pp (pd_var 1 (pv 1))) (nomark _)))))))))))
theorem has__law_normal {f : Addr} {fd : FuncData} (F : FunD K "_law_normal" "_law_normal" (defArgs s__law_normal) (defBody s__law_normal) (defScope s__law_normal) [] [] f fd) (hm : mg "_law_normal" = some (.ref f))  : Has P w K mg base 1 "_law_normal" 2 F__law_normal := by
  have nd := sc__law_normal.nd
  exact has_lock (fn_has (k := 0) F sc__law_normal hm (fun _ _ _ _ _ _ us hl => match us, hl with | [_, _], _ => rfl) (fun cdv A outer s H E c => (psd_cons (ps1_while 1000 c.po (ptd_w (pwd_and (pt_gt (PD_pp (pd_var 1 (pv 1))) (PD_pp pd_int) (nomark _)) (pwd_and1 (pt_eq c (PD_pp (pd_mod (PD_pp (pd_var 0 (pv 0))) (PD_pp pd_int))) (PD_pp pd_int) (nomark _))))) (psd_cons (ps1_asg (pd_fdiv (PD_pp (pd_var 0 (pv 0))) (PD_pp pd_int)) (pgd_name (i := 0) nd rfl (Or.inl rfl)))
    (psd_one (ps1_asg (pd_sub (PD_pp (pd_var 1 (pv 1))) (PD_pp pd_int)) (pgd_name (i := 1) nd rfl (Or.inl rfl))))))
    (psd_one (ps1_ret (pd_tup (pl_cons (pd_var 0 (pv 0)) (pl_cons (pd_var 1 (pv 1)) pl_nil))))))))
theorem has__law_number {f : Addr} {fd : FuncData} (F : FunD K "_law_number" "_law_number" (defArgs s__law_number) (defBody s__law_number) (defScope s__law_number) [] [] f fd) (hm : mg "_law_number" = some (.ref f)) (h__law_mix : Has P w K mg base 1 "_law_mix" 3 F__law_mix) (h__law_normal : Has P w K mg base 1 "_law_normal" 2 F__law_normal) : Has P w K mg base 2 "_law_number" 1 F__law_number := by
  have nd := sc__law_number.nd
  exact has_lock (fn_has (k := 1) F sc__law_number hm (fun _ _ _ _ _ _ us hl => match us, hl with | [_], _ => rfl) (fun cdv A outer s H E c => (psd_cons (ps1_asg (pd_call c h__law_mix (by decide) (by rfl) (pl_cons (pd_var 0 (pv 0)) (pl_cons pd_int (pl_cons pd_int pl_nil))) rfl) (pgd_name (i := 1) nd rfl (Or.inl rfl)))
    (psd_cons (ps1_asg (pd_call c h__law_mix (by decide) (by rfl) (pl_cons (pd_var 0 (pv 0)) (pl_cons pd_int (pl_cons pd_int pl_nil))) rfl) (pgd_name (i := 2) nd rfl (Or.inl rfl)))
    (psd_cons (ps1_if (pt_eq c (PD_pp (pd_var 1 (pv 1))) (PD_pp pd_int) (nomark _)) (psd_one (ps1_ret (pd_tup (pl_cons (pd_sub (PD_pp (pd_call c h__law_mix (by decide) (by rfl) (pl_cons (pd_var 0 (pv 0)) (pl_cons pd_int (pl_cons pd_int pl_nil))) rfl)) (PD_pp pd_int)) (pl_cons pd_int pl_nil))))) psd_nil)
    (psd_cons (ps1_if (pt_eq c (PD_pp (pd_var 1 (pv 1))) (PD_pp pd_int) (nomark _)) (psd_one (ps1_ret (pd_call c h__law_normal (by decide) (by rfl) (pl_cons (pd_mul (PD_pp (pd_sub (PD_pp (pd_call c h__law_mix (by decide) (by rfl) (pl_cons (pd_var 0 (pv 0)) (pl_cons pd_int (pl_cons pd_int pl_nil))) rfl)) (PD_pp pd_int))) (PD_pp (pd_sub (PD_pp (pd_pow (PD_pp pd_int) (PD_pp pd_int))) (PD_pp pd_int)))) (pl_cons (pd_var 2 (pv 2)) pl_nil)) rfl))) psd_nil)
    (psd_cons (ps1_if (pt_eq c (PD_pp (pd_var 1 (pv 1))) (PD_pp pd_int) (nomark _)) (psd_one (ps1_ret (pd_call c h__law_normal (by decide) (by rfl) (pl_cons (pd_mul (PD_pp (pd_sub (PD_pp (pd_call c h__law_mix (by decide) (by rfl) (pl_cons (pd_var 0 (pv 0)) (pl_cons pd_int (pl_cons pd_int pl_nil))) rfl)) (PD_pp pd_int))) (PD_pp pd_int)) (pl_cons (pd_var 2 (pv 2)) pl_nil)) rfl))) psd_nil)
    (psd_cons (ps1_if (pt_eq c (PD_pp (pd_var 1 (pv 1))) (PD_pp pd_int) (nomark _)) (psd_one (ps1_ret (pd_tup (pl_cons (pd_mod (PD_pp (pd_var 0 (pv 0))) (PD_pp (pd_pow (PD_pp pd_int) (PD_pp pd_int)))) (pl_cons pd_int pl_nil))))) psd_nil)
    (psd_cons (ps1_if (pt_eq c (PD_pp (pd_var 1 (pv 1))) (PD_pp pd_int) (nomark _)) (psd_one (ps1_ret (pd_call c h__law_normal (by decide) (by rfl) (pl_cons (pd_add (PD_pp (pd_mul (PD_pp pd_int) (PD_pp (pd_sub (PD_pp (pd_call c h__law_mix (by decide) (by rfl) (pl_cons (pd_var 0 (pv 0)) (pl_cons pd_int (pl_cons pd_int pl_nil))) rfl)) (PD_pp pd_int))))) (PD_pp (pd_call c h__law_mix (by decide) (by rfl) (pl_cons (pd_var 0 (pv 0)) (pl_cons pd_int (pl_cons pd_int pl_nil))) rfl))) (pl_cons (pd_mod (PD_pp (pd_var 2 (pv 2))) (PD_pp pd_int)) pl_nil)) rfl))) psd_nil)
    (psd_cons (ps1_if (pt_eq c (PD_pp (pd_var 1 (pv 1))) (PD_pp pd_int) (nomark _)) (psd_one (ps1_ret (pd_call c h__law_normal (by decide) (by rfl) (pl_cons (pd_sub (PD_pp (pd_mod (PD_pp (pd_mul (PD_pp (pd_var 0 (pv 0))) (PD_pp pd_int))) (PD_pp (pd_pow (PD_pp pd_int) (PD_pp pd_int))))) (PD_pp (pd_mul (PD_pp pd_int) (PD_pp (pd_pow (PD_pp pd_int) (PD_pp pd_int)))))) (pl_cons (pd_var 2 (pv 2)) pl_nil)) rfl))) psd_nil)
    (psd_one (ps1_ret (pd_call c h__law_normal (by decide) (by rfl) (pl_cons (pd_sub (PD_pp (pd_call c h__law_mix (by decide) (by rfl) (pl_cons (pd_var 0 (pv 0)) (pl_cons pd_int (pl_cons pd_int pl_nil))) rfl)) (PD_pp pd_int)) (pl_cons (pd_mod (PD_pp (pd_var 2 (pv 2))) (PD_pp pd_int)) pl_nil)) rfl)))))))))))))
theorem has__law_form {f : Addr} {fd : FuncData} (F : FunD K "_law_form" "_law_form" (defArgs s__law_form) (defBody s__law_form) (defScope s__law_form) [] [] f fd) (hm : mg "_law_form" = some (.ref f)) (m_min : mg "min" = none) (h__law_mix : Has P w K mg base 1 "_law_mix" 3 F__law_mix) : Has P w K mg base 2 "_law_form" 1 F__law_form := by
  have nd := sc__law_form.nd
  exact has_lock (fn_has (k := 1) F sc__law_form hm (fun _ _ _ _ _ _ us hl => match us, hl with | [_], _ => rfl) (fun cdv A outer s H E c => (psd_cons (ps1_if (pt_eq c (PD_pp (pd_mod (PD_pp (pd_var 0 (pv 0))) (PD_pp pd_int))) (PD_pp pd_int) (nomark _)) (psd_one (ps1_ret (pd_tup (pl_cons (pd_strS [102, 105, 103, 117, 114, 101, 115]) (pl_cons (pd_add (PD_pp pd_int) (PD_pp (pd_call c h__law_mix (by decide) (by rfl) (pl_cons (pd_var 0 (pv 0)) (pl_cons pd_int (pl_cons pd_int pl_nil))) rfl))) pl_nil))))) psd_nil)
    (psd_cons (ps1_asg (pd_call c h__law_mix (by decide) (by rfl) (pl_cons (pd_var 0 (pv 0)) (pl_cons pd_int (pl_cons pd_int pl_nil))) rfl) (pgd_name (i := 1) nd rfl (Or.inl rfl)))
    (psd_one (ps1_ret (pd_tup (pl_cons (pd_strS [112, 108, 97, 99, 101, 115]) (pl_cons (pd_var 1 (pv 1)) (pl_cons (pd_min2 rfl (by rfl) m_min (PD_pp pd_int) (PD_pp (pd_add (PD_pp (pd_var 1 (pv 1))) (PD_pp (pd_call c h__law_mix (by decide) (by rfl) (pl_cons (pd_var 0 (pv 0)) (pl_cons pd_int (pl_cons pd_int pl_nil))) rfl))))) pl_nil))))))))))
theorem has__law_ten {f : Addr} {fd : FuncData} (F : FunD K "_law_ten" "_law_ten" (defArgs s__law_ten) (defBody s__law_ten) (defScope s__law_ten) [] [] f fd) (hm : mg "_law_ten" = some (.ref f)) (m_range : mg "range" = none) : Has P w K mg base 1 "_law_ten" 1 F__law_ten := by
  have nd := sc__law_ten.nd
  exact has_lock (fn_has (k := 0) F sc__law_ten hm (fun _ _ _ _ _ _ us hl => match us, hl with | [_], _ => rfl) (fun cdv A outer s H E c => (psd_cons (ps1_asg pd_int (pgd_name (i := 1) nd rfl (Or.inl rfl)))
    (psd_cons (ps1_for c.po rfl (pid_range1 (by rfl) m_range (pd_var 0 (pv 0))) (pgd_name (i := 2) nd rfl (Or.inl rfl)) (psd_one (ps1_asg (pd_mul (PD_pp (pd_var 1 (pv 1))) (PD_pp pd_int)) (pgd_name (i := 1) nd rfl (Or.inl rfl)))))
    (psd_one (ps1_ret (pd_var 1 (pv 1))))))))
theorem has__law_whole {f : Addr} {fd : FuncData} (F : FunD K "_law_whole" "_law_whole" (defArgs s__law_whole) (defBody s__law_whole) (defScope s__law_whole) [] [] f fd) (hm : mg "_law_whole" = some (.ref f)) (m_int : mg "int" = none) : Has P w K mg base 1 "_law_whole" 3 F__law_whole := by
  have nd := sc__law_whole.nd
  exact has_lock (fn_has (k := 0) F sc__law_whole hm (fun _ _ _ _ _ _ us hl => match us, hl with | [_, _, _], _ => rfl) (fun cdv A outer s H E c => (psd_cons (ps1_asg (pd_fdiv (PD_pp (pd_var 0 (pv 0))) (PD_pp (pd_var 1 (pv 1)))) (pgd_name (i := 3) nd rfl (Or.inl rfl)))
    (psd_cons (ps1_asg (pd_sub (PD_pp (pd_var 0 (pv 0))) (PD_pp (pd_mul (PD_pp (pd_var 3 (pv 3))) (PD_pp (pd_var 1 (pv 1)))))) (pgd_name (i := 4) nd rfl (Or.inl rfl)))
    (psd_cons (ps1_if (pt_eq c (PD_pp (pd_var 4 (pv 4))) (PD_pp pd_int) (nomark _)) (psd_one (ps1_ret (pd_var 3 (pv 3)))) psd_nil)
    (psd_cons (ps1_if (pt_eq c (PD_pp (pd_var 2 (pv 2))) (PD_pp (pd_strS [110, 111, 117, 103, 104, 116])) (nomark _)) (psd_one (ps1_asg (pd_sub_ix (PD_pp (pd_tup (pl_cons (pd_strS [100, 111, 119, 110]) (pl_cons (pd_strS [117, 112]) pl_nil)))) (PD_pp (pd_int_of (by rfl) m_int (PD_pp (pd_lt (PD_pp (pd_var 0 (pv 0))) (PD_pp pd_int) (nomark _)))))) (pgd_name (i := 2) nd rfl (Or.inl rfl)))) psd_nil)
    (psd_cons (ps1_if (pt_in (PD_pp (pd_var 2 (pv 2))) (PD_pp (pd_tup (pl_cons (pd_strS [117, 112]) (pl_cons (pd_strS [100, 111, 119, 110]) pl_nil))))) (psd_one (ps1_ret (pd_add (PD_pp (pd_var 3 (pv 3))) (PD_pp (pd_int_of (by rfl) m_int (PD_pp (pd_eq c (PD_pp (pd_var 2 (pv 2))) (PD_pp (pd_strS [117, 112])) (nomark _)))))))) psd_nil)
    (psd_cons (ps1_if (ptd_w (pwd_and (pt_eq c (PD_pp (pd_mul (PD_pp pd_int) (PD_pp (pd_var 4 (pv 4))))) (PD_pp (pd_var 1 (pv 1))) (nomark _)) (pwd_and1 (pt_eq c (PD_pp (pd_var 2 (pv 2))) (PD_pp (pd_strS [101, 118, 101, 110])) (nomark _))))) (psd_one (ps1_ret (pd_add (PD_pp (pd_var 3 (pv 3))) (PD_pp (pd_int_of (by rfl) m_int (PD_pp (pd_eq c (PD_pp (pd_mod (PD_pp (pd_var 3 (pv 3))) (PD_pp pd_int))) (PD_pp pd_int) (nomark _)))))))) psd_nil)
    (psd_cons (ps1_if (pt_eq c (PD_pp (pd_mul (PD_pp pd_int) (PD_pp (pd_var 4 (pv 4))))) (PD_pp (pd_var 1 (pv 1))) (nomark _)) (psd_one (ps1_ret (pd_add (PD_pp (pd_var 3 (pv 3))) (PD_pp (pd_int_of (by rfl) m_int (PD_pp (pd_gt (PD_pp (pd_var 0 (pv 0))) (PD_pp pd_int) (nomark _)))))))) psd_nil)
    (psd_one (ps1_ret (pd_add (PD_pp (pd_var 3 (pv 3))) (PD_pp (pd_int_of (by rfl) m_int (PD_pp (pd_gt (PD_pp (pd_mul (PD_pp pd_int) (PD_pp (pd_var 4 (pv 4))))) (PD_pp (pd_var 1 (pv 1))) (nomark _)))))))))))))))))
theorem has__law_made {f : Addr} {fd : FuncData} (F : FunD K "_law_made" "_law_made" (defArgs s__law_made) (defBody s__law_made) (defScope s__law_made) [] [] f fd) (hm : mg "_law_made" = some (.ref f)) (h__law_ten : Has P w K mg base 1 "_law_ten" 1 F__law_ten) (h__law_whole : Has P w K mg base 1 "_law_whole" 3 F__law_whole) (h__law_normal : Has P w K mg base 1 "_law_normal" 2 F__law_normal) : ∀ k : Nat, Has P w K mg base (1 + k) "_law_made" 4 (F__law_made k)
  | 0 => has_zero F sc__law_made hm (fun _ _ _ _ _ _ us hl => match us, hl with | [_, _, _, _], _ => rfl)
  | k + 1 => by
    have h_rec := has__law_made F hm h__law_ten h__law_whole h__law_normal k
    have nd := sc__law_made.nd
    exact has_lock (fn_has (k := 1 + k) F sc__law_made hm (fun _ _ _ _ _ _ us hl => match us, hl with | [_, _, _, _], _ => rfl) (fun cdv A outer s H E c => (psd_cons (ps1_if (pt_lt (PD_pp (pd_var 1 (pv 1))) (PD_pp pd_int) (nomark _)) (psd_one (ps1_ret (pd_call c h_rec (Nat.le_refl _) (by rfl) (pl_cons (pd_neg (PD_pp (pd_var 0 (pv 0)))) (pl_cons (pd_neg (PD_pp (pd_var 1 (pv 1)))) (pl_cons (pd_var 2 (pv 2)) (pl_cons (pd_var 3 (pv 3)) pl_nil)))) rfl))) psd_nil)
    (psd_one (ps1_ret (pd_call c h__law_normal (Nat.le_trans (by decide) (Nat.le_add_right _ _)) (by rfl) (pl_cons (pd_call c h__law_whole (Nat.le_trans (by decide) (Nat.le_add_right _ _)) (by rfl) (pl_cons (pd_mul (PD_pp (pd_var 0 (pv 0))) (PD_pp (pd_call c h__law_ten (Nat.le_trans (by decide) (Nat.le_add_right _ _)) (by rfl) (pl_cons (pd_var 2 (pv 2)) pl_nil) rfl))) (pl_cons (pd_var 1 (pv 1)) (pl_cons (pd_var 3 (pv 3)) pl_nil))) rfl) (pl_cons (pd_var 2 (pv 2)) pl_nil)) rfl))))))
theorem has__law_height {f : Addr} {fd : FuncData} (F : FunD K "_law_height" "_law_height" (defArgs s__law_height) (defBody s__law_height) (defScope s__law_height) [] [] f fd) (hm : mg "_law_height" = some (.ref f)) (m_abs : mg "abs" = none) (h__law_ten : Has P w K mg base 1 "_law_ten" 1 F__law_ten) : Has P w K mg base 2 "_law_height" 3 F__law_height := by
  have nd := sc__law_height.nd
  exact has_lock (fn_has (k := 1) F sc__law_height hm (fun _ _ _ _ _ _ us hl => match us, hl with | [_, _, _], _ => rfl) (fun cdv A outer s H E c => (psd_cons (ps1_asg pd_int (pgd_name (i := 3) nd rfl (Or.inl rfl)))
    (psd_cons (ps1_asg (pd_mul (PD_pp (pd_var 1 (pv 1))) (PD_pp (pd_call c h__law_ten (by decide) (by rfl) (pl_cons (pd_sub (PD_pp (pd_var 2 (pv 2))) (PD_pp pd_int)) pl_nil) rfl))) (pgd_name (i := 4) nd rfl (Or.inl rfl)))
    (psd_cons (ps1_while 1000 c.po (pt_lt (PD_pp (pd_mul (PD_pp (pd_abs (by rfl) m_abs (PD_pp (pd_var 0 (pv 0))))) (PD_pp (pd_call c h__law_ten (by decide) (by rfl) (pl_cons (pd_neg (PD_pp (pd_var 3 (pv 3)))) pl_nil) rfl)))) (PD_pp (pd_mul (PD_pp (pd_var 4 (pv 4))) (PD_pp (pd_call c h__law_ten (by decide) (by rfl) (pl_cons (pd_var 3 (pv 3)) pl_nil) rfl)))) (nomark _)) (psd_one (ps1_asg (pd_sub (PD_pp (pd_var 3 (pv 3))) (PD_pp pd_int)) (pgd_name (i := 3) nd rfl (Or.inl rfl)))))
    (psd_one (ps1_ret (pd_var 3 (pv 3)))))))))
theorem has__law_figures {f : Addr} {fd : FuncData} (F : FunD K "_law_figures" "_law_figures" (defArgs s__law_figures) (defBody s__law_figures) (defScope s__law_figures) [] [] f fd) (hm : mg "_law_figures" = some (.ref f)) (h__law_height : Has P w K mg base 2 "_law_height" 3 F__law_height) (h__law_ten : Has P w K mg base 1 "_law_ten" 1 F__law_ten) (h__law_whole : Has P w K mg base 1 "_law_whole" 3 F__law_whole) (h__law_normal : Has P w K mg base 1 "_law_normal" 2 F__law_normal) : Has P w K mg base 3 "_law_figures" 4 F__law_figures := by
  have nd := sc__law_figures.nd
  exact has_lock (fn_has (k := 2) F sc__law_figures hm (fun _ _ _ _ _ _ us hl => match us, hl with | [_, _, _, _], _ => rfl) (fun cdv A outer s H E c => (psd_cons (ps1_if (pt_eq c (PD_pp (pd_var 0 (pv 0))) (PD_pp pd_int) (nomark _)) (psd_one (ps1_ret (pd_tup (pl_cons pd_int (pl_cons pd_int pl_nil))))) psd_nil)
    (psd_cons (ps1_asg (pd_call c h__law_height (by decide) (by rfl) (pl_cons (pd_var 0 (pv 0)) (pl_cons (pd_var 1 (pv 1)) (pl_cons (pd_var 2 (pv 2)) pl_nil))) rfl) (pgd_name (i := 4) nd rfl (Or.inl rfl)))
    (psd_cons (ps1_asg (pd_call c h__law_whole (by decide) (by rfl) (pl_cons (pd_mul (PD_pp (pd_var 0 (pv 0))) (PD_pp (pd_call c h__law_ten (by decide) (by rfl) (pl_cons (pd_neg (PD_pp (pd_var 4 (pv 4)))) pl_nil) rfl))) (pl_cons (pd_mul (PD_pp (pd_var 1 (pv 1))) (PD_pp (pd_call c h__law_ten (by decide) (by rfl) (pl_cons (pd_var 4 (pv 4)) pl_nil) rfl))) (pl_cons (pd_var 3 (pv 3)) pl_nil))) rfl) (pgd_name (i := 5) nd rfl (Or.inl rfl)))
    (psd_cons (ps1_if (pt_gt (PD_pp (pd_var 4 (pv 4))) (PD_pp pd_int) (nomark _)) (psd_one (ps1_ret (pd_tup (pl_cons (pd_mul (PD_pp (pd_var 5 (pv 5))) (PD_pp (pd_call c h__law_ten (by decide) (by rfl) (pl_cons (pd_var 4 (pv 4)) pl_nil) rfl))) (pl_cons pd_int pl_nil))))) psd_nil)
    (psd_one (ps1_ret (pd_call c h__law_normal (by decide) (by rfl) (pl_cons (pd_var 5 (pv 5)) (pl_cons (pd_neg (PD_pp (pd_var 4 (pv 4)))) pl_nil)) rfl)))))))))
theorem has__law_rounded {f : Addr} {fd : FuncData} (F : FunD K "_law_rounded" "_law_rounded" (defArgs s__law_rounded) (defBody s__law_rounded) (defScope s__law_rounded) [] [] f fd) (hm : mg "_law_rounded" = some (.ref f)) (h__law_ten : Has P w K mg base 1 "_law_ten" 1 F__law_ten) (h__law_made : Has P w K mg base 3 "_law_made" 4 (F__law_made 2)) (h__law_figures : Has P w K mg base 3 "_law_figures" 4 F__law_figures) : Has P w K mg base 4 "_law_rounded" 3 F__law_rounded := by
  have nd := sc__law_rounded.nd
  exact has_lock (fn_has (k := 3) F sc__law_rounded hm (fun _ _ _ _ _ _ us hl => match us, hl with | [_, _, _], _ => rfl) (fun cdv A outer s H E c => (psd_cons (ps1_if (pt_eq c (PD_pp (pd_sub_ix (PD_pp (pd_var 1 (pv 1))) (PD_pp pd_int))) (PD_pp (pd_strS [112, 108, 97, 99, 101, 115])) (nomark _)) (psd_one (ps1_ret (pd_call c h__law_made (by decide) (by rfl) (pl_cons (pd_sub_ix (PD_pp (pd_var 0 (pv 0))) (PD_pp pd_int)) (pl_cons (pd_call c h__law_ten (by decide) (by rfl) (pl_cons (pd_sub_ix (PD_pp (pd_var 0 (pv 0))) (PD_pp pd_int)) pl_nil) rfl) (pl_cons (pd_sub_ix (PD_pp (pd_var 1 (pv 1))) (PD_pp pd_int)) (pl_cons (pd_var 2 (pv 2)) pl_nil)))) rfl))) psd_nil)
    (psd_one (ps1_ret (pd_call c h__law_figures (by decide) (by rfl) (pl_cons (pd_sub_ix (PD_pp (pd_var 0 (pv 0))) (PD_pp pd_int)) (pl_cons (pd_call c h__law_ten (by decide) (by rfl) (pl_cons (pd_sub_ix (PD_pp (pd_var 0 (pv 0))) (PD_pp pd_int)) pl_nil) rfl) (pl_cons (pd_sub_ix (PD_pp (pd_var 1 (pv 1))) (PD_pp pd_int)) (pl_cons (pd_var 2 (pv 2)) pl_nil)))) rfl))))))
theorem born__law_manner {f : Addr} {fd : FuncData} (F : FunD K "_law_manner" "_law_manner" (defArgs s__law_manner) (defBody s__law_manner) (defScope s__law_manner) [] [] f fd) (hm : mg "_law_manner" = some (.ref f)) (h__law_mix : Has P w K mg base 1 "_law_mix" 3 F__law_mix) : HasB P w K mg base 2 "_law_manner" manF := by
  have nd := sc__law_manner.nd
  refine hasB_of (k := 1) F sc__law_manner hm rfl (fun _ _ _ _ _ _ us hl => match us, hl with | [_], _ => rfl) (fun cdv A outer s H E c s1 σ G n I En => ?_)
  exact manner_body (X := cxOf (L2.CX P w) P w K mg base N__law_manner "_law_manner" (defScope s__law_manner) f cdv A outer s H E) (W := fun cls d _ H => E cls d H)
    (ps1_asg (pd_sub_ix (PD_pp (pd_strS [46, 44, 39, 59])) (PD_pp (pd_call c h__law_mix (by decide) (by rfl) (pl_cons (pd_var 0 (pv 0)) (pl_cons pd_int (pl_cons pd_int pl_nil))) rfl))) (pgd_name (i := 1) nd rfl (Or.inr rfl)))
    (pd_call c h__law_mix (by decide) (by rfl) (pl_cons (pd_var 0 (pv 0)) (pl_cons pd_int (pl_cons pd_int pl_nil))) rfl)
    (psm_asg (i := 3) (pdm_tup (plm_cons (pdm_addI pdm_int (pdm_call c rfl rfl h__law_mix (by decide) (by rfl) (plm_cons (pdm_name (i := 0) rfl (Or.inl rfl)) (plm_cons pdm_int (plm_cons pdm_int plm_nil))) rfl) (int_is _) (call_mix_int _)) plm_nil)) nd rfl rfl (by decide))
    (psm_ifEq (pdm_call c rfl rfl h__law_mix (by decide) (by rfl) (plm_cons (pdm_name (i := 0) rfl (Or.inl rfl)) (plm_cons pdm_int (plm_cons pdm_int plm_nil))) rfl) (call_mix_int _) (psdm_one (psm_asg (i := 3) (pdm_addT (pdm_name (i := 3) rfl (Or.inl rfl)) (pdm_tup (plm_cons (pdm_addI pdm_int (pdm_call c rfl rfl h__law_mix (by decide) (by rfl) (plm_cons (pdm_name (i := 0) rfl (Or.inl rfl)) (plm_cons pdm_int (plm_cons pdm_int plm_nil))) rfl) (int_is _) (call_mix_int _)) plm_nil)) (tup_is1 _ _)) nd rfl rfl (by decide))) psdm_nil)
    (psm_asg (i := 4) (pdm_ix (pdm_tup (plm_cons (pdm_strS [97, 104, 101, 97, 100]) (plm_cons (pdm_strS [98, 101, 104, 105, 110, 100]) (plm_cons (pdm_strS [98, 114, 97, 99, 107, 101, 116, 115]) plm_nil)))) (pdm_call c rfl rfl h__law_mix (by decide) (by rfl) (plm_cons (pdm_name (i := 0) rfl (Or.inl rfl)) (plm_cons pdm_int (plm_cons pdm_int plm_nil))) rfl) (tup_is _) (call_mix_int _) (fun _ _ => rfl)) nd rfl rfl (by decide))
    (pdm_name (i := 1) rfl (Or.inr (Or.inl rfl)))
    (plm_cons (pdm_name (i := 3) rfl (Or.inl rfl)) (plm_cons (pdm_name (i := 4) rfl (Or.inl rfl)) (plm_cons (pdm_addI pdm_int (pdm_call c rfl rfl h__law_mix (by decide) (by rfl) (plm_cons (pdm_name (i := 0) rfl (Or.inl rfl)) (plm_cons pdm_int (plm_cons pdm_int plm_nil))) rfl) (int_is _) (call_mix_int _)) plm_nil)))
    (by decide +kernel) c.hr.hd rfl rfl nd rfl rfl (by decide +kernel) (by decide +kernel) rfl (by decide +kernel) rfl (fun _ => rfl) rfl (fun _ _ => rfl) rfl rfl I En
theorem has__law_grouped {f : Addr} {fd : FuncData} (F : FunD K "_law_grouped" "_law_grouped" (defArgs s__law_grouped) (defBody s__law_grouped) (defScope s__law_grouped) [] [] f fd) (hm : mg "_law_grouped" = some (.ref f)) (m_len : mg "len" = none) : Has P w K mg base 1 "_law_grouped" 2 F__law_grouped := by
  have nd := sc__law_grouped.nd
  exact has_lock (fn_has (k := 0) F sc__law_grouped hm (fun _ _ _ _ _ _ us hl => match us, hl with | [_, _], _ => rfl) (fun cdv A outer s H E c => (psd_cons (ps1_asg (pd_var 1 (pv 1)) (pgd_tup rfl (pgds_cons (pgd_name (i := 2) nd rfl (Or.inl rfl)) (pgds_cons (pgd_name (i := 3) nd rfl (Or.inl rfl)) (pgds_cons (pgd_name (i := 4) nd rfl (Or.inl rfl)) (pgds_cons (pgd_name (i := 5) nd rfl (Or.inl rfl)) (pgds_cons (pgd_name (i := 6) nd rfl (Or.inl rfl)) pgds_nil)))))))
    (psd_cons (ps1_if (pt_lt (PD_pp (pd_len (by rfl) m_len (PD_pp (pd_var 0 (pv 0))))) (PD_pp (pd_add (PD_pp (pd_sub_ix (PD_pp (pd_var 4 (pv 4))) (PD_pp pd_int))) (PD_pp (pd_var 6 (pv 6))))) (nomark _)) (psd_one (ps1_ret (pd_var 0 (pv 0)))) psd_nil)
    (psd_cons (ps1_asg (pd_slice (PD_pp (pd_var 0 (pv 0))) (pod_some (pd_neg (PD_pp (pd_sub_ix (PD_pp (pd_var 4 (pv 4))) (PD_pp pd_int))))) pod_none) (pgd_name (i := 7) nd rfl (Or.inl rfl)))
    (psd_cons (ps1_asg (pd_slice (PD_pp (pd_var 0 (pv 0))) pod_none (pod_some (pd_neg (PD_pp (pd_sub_ix (PD_pp (pd_var 4 (pv 4))) (PD_pp pd_int)))))) (pgd_name (i := 8) nd rfl (Or.inl rfl)))
    (psd_cons (ps1_while 1000 c.po (pt_ne c (PD_pp (pd_var 8 (pv 8))) (PD_pp (pd_strS [])) (nomark _)) (psd_cons (ps1_asg (pd_add (PD_pp (pd_add (PD_pp (pd_slice (PD_pp (pd_var 8 (pv 8))) (pod_some (pd_neg (PD_pp (pd_sub_ix (PD_pp (pd_var 4 (pv 4))) (PD_pp (pd_neg (PD_pp pd_int))))))) pod_none)) (PD_pp (pd_var 3 (pv 3))))) (PD_pp (pd_var 7 (pv 7)))) (pgd_name (i := 7) nd rfl (Or.inl rfl)))
    (psd_one (ps1_asg (pd_slice (PD_pp (pd_var 8 (pv 8))) pod_none (pod_some (pd_neg (PD_pp (pd_sub_ix (PD_pp (pd_var 4 (pv 4))) (PD_pp (pd_neg (PD_pp pd_int)))))))) (pgd_name (i := 8) nd rfl (Or.inl rfl))))))
    (psd_one (ps1_ret (pd_var 7 (pv 7)))))))))))
theorem has__law_text {f : Addr} {fd : FuncData} (F : FunD K "_law_text" "_law_text" (defArgs s__law_text) (defBody s__law_text) (defScope s__law_text) [] [] f fd) (hm : mg "_law_text" = some (.ref f)) (m_str : mg "str" = none) (m_abs : mg "abs" = none) (m_len : mg "len" = none) (h__law_ten : Has P w K mg base 1 "_law_ten" 1 F__law_ten) (h__law_grouped : Has P w K mg base 1 "_law_grouped" 2 F__law_grouped) : Has P w K mg base 2 "_law_text" 3 F__law_text := by
  have nd := sc__law_text.nd
  exact has_lock (fn_has (k := 1) F sc__law_text hm (fun _ _ _ _ _ _ us hl => match us, hl with | [_, _, _], _ => rfl) (fun cdv A outer s H E c => (psd_cons (ps1_asg (pd_var 0 (pv 0)) (pgd_tup rfl (pgds_cons (pgd_name (i := 3) nd rfl (Or.inl rfl)) (pgds_cons (pgd_name (i := 4) nd rfl (Or.inl rfl)) pgds_nil))))
    (psd_cons (ps1_asg (pd_str_of (by rfl) m_str (PD_pp (pd_fdiv (PD_pp (pd_abs (by rfl) m_abs (PD_pp (pd_var 3 (pv 3))))) (PD_pp (pd_call c h__law_ten (by decide) (by rfl) (pl_cons (pd_var 4 (pv 4)) pl_nil) rfl))))) (pgd_name (i := 5) nd rfl (Or.inl rfl)))
    (psd_cons (ps1_asg (pd_strS []) (pgd_name (i := 6) nd rfl (Or.inl rfl)))
    (psd_cons (ps1_if (pt_gt (PD_pp (pd_var 4 (pv 4))) (PD_pp pd_int) (nomark _)) (psd_one (ps1_asg (pd_slice (PD_pp (pd_add (PD_pp (pd_rep (PD_pp (pd_strS [48])) (PD_pp (pd_var 4 (pv 4))))) (PD_pp (pd_str_of (by rfl) m_str (PD_pp (pd_mod (PD_pp (pd_abs (by rfl) m_abs (PD_pp (pd_var 3 (pv 3))))) (PD_pp (pd_call c h__law_ten (by decide) (by rfl) (pl_cons (pd_var 4 (pv 4)) pl_nil) rfl)))))))) (pod_some (pd_neg (PD_pp (pd_var 4 (pv 4))))) pod_none) (pgd_name (i := 6) nd rfl (Or.inl rfl)))) psd_nil)
    (psd_cons (ps1_asg (pd_add (PD_pp (pd_var 6 (pv 6))) (PD_pp (pd_rep (PD_pp (pd_strS [48])) (PD_pp (pd_sub (PD_pp (pd_var 2 (pv 2))) (PD_pp (pd_len (by rfl) m_len (PD_pp (pd_var 6 (pv 6)))))))))) (pgd_name (i := 6) nd rfl (Or.inl rfl)))
    (psd_cons (ps1_asg (pd_call c h__law_grouped (by decide) (by rfl) (pl_cons (pd_var 5 (pv 5)) (pl_cons (pd_var 1 (pv 1)) pl_nil)) rfl) (pgd_name (i := 7) nd rfl (Or.inl rfl)))
    (psd_cons (ps1_if (pt_ne c (PD_pp (pd_var 6 (pv 6))) (PD_pp (pd_strS [])) (nomark _)) (psd_one (ps1_asg (pd_add (PD_pp (pd_add (PD_pp (pd_var 7 (pv 7))) (PD_pp (pd_sub_ix (PD_pp (pd_var 1 (pv 1))) (PD_pp pd_int))))) (PD_pp (pd_var 6 (pv 6)))) (pgd_name (i := 7) nd rfl (Or.inl rfl)))) psd_nil)
    (psd_cons (ps1_if (pt_ge (PD_pp (pd_var 3 (pv 3))) (PD_pp pd_int) (nomark _)) (psd_one (ps1_ret (pd_var 7 (pv 7)))) psd_nil)
    (psd_one (ps1_ret (pd_dix c (ppd_cons (pd_strS [97, 104, 101, 97, 100]) (pd_add (PD_pp (pd_strS [45])) (PD_pp (pd_var 7 (pv 7)))) (ppd_cons (pd_strS [98, 101, 104, 105, 110, 100]) (pd_add (PD_pp (pd_var 7 (pv 7))) (PD_pp (pd_strS [45]))) (ppd_cons (pd_strS [98, 114, 97, 99, 107, 101, 116, 115]) (pd_add (PD_pp (pd_add (PD_pp (pd_strS [40])) (PD_pp (pd_var 7 (pv 7))))) (PD_pp (pd_strS [41]))) ppd_nil))) (pd_sub_ix (PD_pp (pd_var 1 (pv 1))) (PD_pp pd_int)))))))))))))))
theorem has__law_shown {f : Addr} {fd : FuncData} (F : FunD K "_law_shown" "_law_shown" (defArgs s__law_shown) (defBody s__law_shown) (defScope s__law_shown) [] [] f fd) (hm : mg "_law_shown" = some (.ref f)) (h__law_rounded : Has P w K mg base 4 "_law_rounded" 3 F__law_rounded) (h__law_text : Has P w K mg base 2 "_law_text" 3 F__law_text) : Has P w K mg base 5 "_law_shown" 4 F__law_shown := by
  have nd := sc__law_shown.nd
  exact has_lock (fn_has (k := 4) F sc__law_shown hm (fun _ _ _ _ _ _ us hl => match us, hl with | [_, _, _, _], _ => rfl) (fun cdv A outer s H E c => (psd_cons (ps1_asg pd_int (pgd_name (i := 4) nd rfl (Or.inl rfl)))
    (psd_cons (ps1_if (pt_eq c (PD_pp (pd_sub_ix (PD_pp (pd_var 2 (pv 2))) (PD_pp pd_int))) (PD_pp (pd_strS [112, 108, 97, 99, 101, 115])) (nomark _)) (psd_one (ps1_asg (pd_sub_ix (PD_pp (pd_var 2 (pv 2))) (PD_pp pd_int)) (pgd_name (i := 4) nd rfl (Or.inl rfl)))) psd_nil)
    (psd_one (ps1_ret (pd_call c h__law_text (by decide) (by rfl) (pl_cons (pd_call c h__law_rounded (by decide) (by rfl) (pl_cons (pd_var 0 (pv 0)) (pl_cons (pd_var 2 (pv 2)) (pl_cons (pd_var 3 (pv 3)) pl_nil))) rfl) (pl_cons (pd_var 1 (pv 1)) (pl_cons (pd_var 4 (pv 4)) pl_nil))) rfl)))))))
theorem has__law_changed {f : Addr} {fd : FuncData} (F : FunD K "_law_changed" "_law_changed" (defArgs s__law_changed) (defBody s__law_changed) (defScope s__law_changed) [] [] f fd) (hm : mg "_law_changed" = some (.ref f)) (m_len : mg "len" = none) (h__law_mix : Has P w K mg base 1 "_law_mix" 3 F__law_mix) : Has P w K mg base 2 "_law_changed" 3 F__law_changed := by
  have nd := sc__law_changed.nd
  exact has_lock (fn_has (k := 1) F sc__law_changed hm (fun _ _ _ _ _ _ us hl => match us, hl with | [_, _, _], _ => rfl) (fun cdv A outer s H E c => (psd_cons (ps1_asg (pd_call c h__law_mix (by decide) (by rfl) (pl_cons (pd_var 1 (pv 1)) (pl_cons pd_int (pl_cons (pd_add (PD_pp (pd_len (by rfl) m_len (PD_pp (pd_var 0 (pv 0))))) (PD_pp pd_int)) pl_nil))) rfl) (pgd_name (i := 3) nd rfl (Or.inl rfl)))
    (psd_cons (ps1_asg (pd_sub_ix (PD_pp (pd_var 2 (pv 2))) (PD_pp (pd_call c h__law_mix (by decide) (by rfl) (pl_cons (pd_var 1 (pv 1)) (pl_cons pd_int (pl_cons (pd_len (by rfl) m_len (PD_pp (pd_var 2 (pv 2)))) pl_nil))) rfl))) (pgd_name (i := 4) nd rfl (Or.inl rfl)))
    (psd_cons (ps1_asg (pd_call c h__law_mix (by decide) (by rfl) (pl_cons (pd_var 1 (pv 1)) (pl_cons pd_int (pl_cons pd_int pl_nil))) rfl) (pgd_name (i := 5) nd rfl (Or.inl rfl)))
    (psd_cons (ps1_if (pt_eq c (PD_pp (pd_var 5 (pv 5))) (PD_pp pd_int) (nomark _)) (psd_one (ps1_ret (pd_add (PD_pp (pd_add (PD_pp (pd_slice (PD_pp (pd_var 0 (pv 0))) pod_none (pod_some (pd_var 3 (pv 3))))) (PD_pp (pd_var 4 (pv 4))))) (PD_pp (pd_slice (PD_pp (pd_var 0 (pv 0))) (pod_some (pd_var 3 (pv 3))) pod_none))))) psd_nil)
    (psd_cons (ps1_if (pt_eq c (PD_pp (pd_var 5 (pv 5))) (PD_pp pd_int) (nomark _)) (psd_one (ps1_ret (pd_add (PD_pp (pd_slice (PD_pp (pd_var 0 (pv 0))) pod_none (pod_some (pd_var 3 (pv 3))))) (PD_pp (pd_slice (PD_pp (pd_var 0 (pv 0))) (pod_some (pd_add (PD_pp (pd_var 3 (pv 3))) (PD_pp pd_int))) pod_none))))) psd_nil)
    (psd_one (ps1_ret (pd_add (PD_pp (pd_add (PD_pp (pd_slice (PD_pp (pd_var 0 (pv 0))) pod_none (pod_some (pd_var 3 (pv 3))))) (PD_pp (pd_var 4 (pv 4))))) (PD_pp (pd_slice (PD_pp (pd_var 0 (pv 0))) (pod_some (pd_add (PD_pp (pd_var 3 (pv 3))) (PD_pp pd_int))) pod_none))))))))))))
theorem has__law_told {f : Addr} {fd : FuncData} (F : FunD K "_law_told" "_law_told" (defArgs s__law_told) (defBody s__law_told) (defScope s__law_told) [] [] f fd) (hm : mg "_law_told" = some (.ref f)) (m_isinstance : mg "isinstance" = none) (hd_FigureError : HdN K mg (S [70, 105, 103, 117, 114, 101, 69, 114, 114, 111, 114]) [((S [78, 111, 78, 117, 109, 98, 101, 114]), true)]) (io_NoNumber : IsO K mg (S [78, 111, 78, 117, 109, 98, 101, 114]) [((S [78, 111, 78, 117, 109, 98, 101, 114]), true)]) (io_NoMoney : IsO K mg (S [78, 111, 77, 111, 110, 101, 121]) [((S [78, 111, 78, 117, 109, 98, 101, 114]), false)]) (it_ValueError : IsT K mg "ValueError" "ValueError" [((S [78, 111, 78, 117, 109, 98, 101, 114]), true)]) (h_read : HasT P w K mg base 3 "read" [false, true] F_read) : HasT P w K mg base 4 "_law_told" [false, true] F__law_told := by
  have nd := sc__law_told.nd
  exact hasT_lock (fn_hasT (k := 3) [false, true] F sc__law_told hm rfl (fun _ _ _ _ _ _ us hl => match us, hl with | [_, _], _ => rfl) (fun cdv A outer s H E c => (psdt_cons rbEq_ok (pst_of rbEq_ok (ps1_asg (pd_tup (pl_cons (pd_strS [110, 111, 110, 101]) (pl_cons pd_non pl_nil))) (pgd_name (i := 2) nd rfl (Or.inl rfl))))
    (psdt_cons rbEq_ok (pst_tryAsS (i := 3) [70, 105, 103, 117, 114, 101, 69, 114, 114, 111, 114] c hd_FigureError rfl rfl nd rfl rfl (by rfl) (fun _ _ _ ct => (psdt_one rbEq_ok (pst_asg rbEq_ok (pdt_tup (plt_cons (pdt_of (pd_strS [104, 101, 114, 101])) (plt_cons (pdt_callT ct h_read (by decide) (by rfl) (plt_cons (pdt_of (pd_var 0 (pv 0))) (plt_consG 1 (pv 1) plt_nil)) rfl) plt_nil))) (pgd_name (i := 2) nd rfl (Or.inl rfl))))) (fun ad oe pn cc SS => (psd_one (ps1_asg (pd_tup (pl_cons (pd_strS [110, 111]) (pl_cons (pd_isOS [78, 111, 78, 117, 109, 98, 101, 114] SS io_NoNumber (pv 3) (by rfl) (by rfl) m_isinstance) (pl_cons (pd_isOS [78, 111, 77, 111, 110, 101, 121] SS io_NoMoney (pv 3) (by rfl) (by rfl) m_isinstance) (pl_cons (pd_isT SS it_ValueError (pv 3) (by rfl) (by rfl) m_isinstance) pl_nil)))) (Nat.le_of_ble_eq_true rfl)) (pgd_name (i := 2) nd rfl (Or.inl rfl))))))
    (psdt_of rbEq_ok (psd_one (ps1_ret (pd_var 2 (pv 2)))))))))
theorem has__law_is_right {f : Addr} {fd : FuncData} (F : FunD K "_law_is_right" "_law_is_right" (defArgs s__law_is_right) (defBody s__law_is_right) (defScope s__law_is_right) [] [] f fd) (hm : mg "_law_is_right" = some (.ref f)) (m_len : mg "len" = none) (h__law_told : HasT P w K mg base 4 "_law_told" [false, true] F__law_told) (h_is_number : Has P w K mg base 2 "is_number" 1 F_is_number) (h__law_text : Has P w K mg base 2 "_law_text" 3 F__law_text) : HasT P w K mg base 5 "_law_is_right" [false, true] F__law_is_right := by
  have nd := sc__law_is_right.nd
  exact hasT_lock (fn_hasT (k := 4) [false, true] F sc__law_is_right hm rfl (fun _ _ _ _ _ _ us hl => match us, hl with | [_, _], _ => rfl) (fun cdv A outer s H E c => (psdt_cons rbEq_ok (pst_asg rbEq_ok (pdt_callT c h__law_told (by decide) (by rfl) (plt_cons (pdt_of (pd_var 0 (pv 0))) (plt_consG 1 (pv 1) plt_nil)) rfl) (pgd_name (i := 2) nd rfl (Or.inl rfl)))
    (psdt_cons rbEq_ok (pst_of rbEq_ok (ps1_if (pt_ne c (PD_pp (pd_sub_ix (PD_pp (pd_var 2 (pv 2))) (PD_pp pd_int))) (PD_pp (pd_strS [104, 101, 114, 101])) (nomark _)) (psd_one (ps1_ret (pd_eq c (PD_pp (pd_var 2 (pv 2))) (PD_pp (pd_tup (pl_cons (pd_strS [110, 111]) (pl_cons pd_bl (pl_cons pd_bl (pl_cons pd_bl pl_nil)))))) (nomark _)))) psd_nil))
    (psdt_cons rbEq_ok (pst_of rbEq_ok (ps1_if (pt_isn (PD_pp (pd_call c h_is_number (by decide) (by rfl) (pl_cons (pd_sub_ix (PD_pp (pd_var 2 (pv 2))) (PD_pp pd_int)) pl_nil) rfl)) (PD_pp pd_bl) (nomark _)) (psd_one (ps1_ret pd_bl)) psd_nil))
    (psdt_cons rbEq_ok (pst_of rbEq_ok (ps1_asg (pd_len (by rfl) m_len (PD_pp (PF_pd (pf_lc (own := [("sign", 6)]) (is := [6]) rfl nd (pid_seq (pd_sub_ix (PD_pp (pd_m_partition1 (PD_pp (pd_var 0 (pv 0))) (PD_pp (pd_sub_ix (PD_pp (pd_var 1 (pv 1))) (PD_pp pd_int))))) (PD_pp pd_int))) (blkOk_by (N := N__law_is_right) (sc := defScope s__law_is_right) (by decide +kernel)) (by decide) (fun _ _ _ _ _ => (pgd_name (i := 6) nd rfl (Or.inl rfl))) (fun _ _ _ _ _ => (ptsd_one (pt_in (PD_pp (pd_var 6 (pv 6))) (PD_pp (pd_strS [48, 49, 50, 51, 52, 53, 54, 55, 56, 57]))))) (fun _ _ _ _ _ => (pd_var 6 (pv 6))))))) (pgd_name (i := 3) nd rfl (Or.inl rfl))))
    (psdt_cons rbEq_ok (pst_of rbEq_ok (ps1_asg (pd_call c h__law_text (by decide) (by rfl) (pl_cons (pd_sub_ix (PD_pp (pd_var 2 (pv 2))) (PD_pp pd_int)) (pl_cons (pd_var 1 (pv 1)) (pl_cons (pd_var 3 (pv 3)) pl_nil))) rfl) (pgd_name (i := 4) nd rfl (Or.inl rfl))))
    (psdt_cons rbEq_ok (pst_of rbEq_ok (ps1_asg (pd_var 4 (pv 4)) (pgd_name (i := 5) nd rfl (Or.inl rfl))))
    (psdt_cons rbEq_ok (pst_if rbEq_ok (ptt_of (pt_ne c (PD_pp (pd_sub_ix (PD_pp (pd_var 1 (pv 1))) (PD_pp pd_int))) (PD_pp (pd_strS [])) (nomark _))) (psdt_one rbEq_ok (pst_asg rbEq_ok (pdt_repl 1 (pdt_of (pd_var 4 (pv 4))) rfl (Or.inl rfl)) (pgd_name (i := 5) nd rfl (Or.inl rfl)))) (psdt_of rbEq_ok psd_nil))
    (psdt_of rbEq_ok (psd_one (ps1_ret (pd_in (PD_pp (pd_var 0 (pv 0))) (PD_pp (pd_tup (pl_cons (pd_var 4 (pv 4)) (pl_cons (pd_var 5 (pv 5)) pl_nil)))))))))))))))))
theorem has__law_texts {f : Addr} {fd : FuncData} (F : FunD K "_law_texts" "_law_texts" (defArgs s__law_texts) (defBody s__law_texts) (defScope s__law_texts) [] [] f fd) (hm : mg "_law_texts" = some (.ref f))  : Has P w K mg base 1 "_law_texts" 1 F__law_texts := by
  have nd := sc__law_texts.nd
  exact has_lock (fn_has (k := 0) F sc__law_texts hm (fun _ _ _ _ _ _ us hl => match us, hl with | [_], _ => rfl) (fun cdv A outer s H E c => (psd_cons (ps1_asg (pd_var 0 (pv 0)) (pgd_tup rfl (pgds_cons (pgd_name (i := 1) nd rfl (Or.inl rfl)) (pgds_cons (pgd_name (i := 2) nd rfl (Or.inl rfl)) (pgds_cons (pgd_name (i := 3) nd rfl (Or.inl rfl)) (pgds_cons (pgd_name (i := 4) nd rfl (Or.inl rfl)) (pgds_cons (pgd_name (i := 5) nd rfl (Or.inl rfl)) pgds_nil)))))))
    (psd_cons (ps1_asg (pd_lst (pl_cons (pd_strS []) (pl_cons (pd_strS [45]) (pl_cons (pd_var 1 (pv 1)) (pl_cons (pd_add (PD_pp (pd_strS [46])) (PD_pp (pd_var 1 (pv 1)))) (pl_cons (pd_strS [48, 48]) (pl_cons (pd_strS [48, 49]) (pl_cons (pd_add (PD_pp (pd_strS [48])) (PD_pp (pd_var 1 (pv 1)))) pl_nil)))))))) (pgd_name (i := 6) nd rfl (Or.inl rfl)))
    (psd_cons (ps1_asg (pd_add (PD_pp (pd_var 6 (pv 6))) (PD_pp (pd_lst (pl_cons (pd_add (PD_pp (pd_var 1 (pv 1))) (PD_pp (pd_strS [53]))) (pl_cons (pd_add (PD_pp (pd_add (PD_pp (pd_add (PD_pp (pd_add (PD_pp (pd_strS [49])) (PD_pp (pd_var 1 (pv 1))))) (PD_pp (pd_strS [50])))) (PD_pp (pd_var 1 (pv 1))))) (PD_pp (pd_strS [51]))) (pl_cons (pd_strS [43, 49]) (pl_cons (pd_strS [32, 49]) (pl_cons (pd_strS [49, 32]) (pl_cons (pd_strS [97]) pl_nil))))))))) (pgd_name (i := 6) nd rfl (Or.inl rfl)))
    (psd_cons (ps1_asg (pd_add (PD_pp (pd_var 6 (pv 6))) (PD_pp (pd_lst (pl_cons (pd_add (PD_pp (pd_add (PD_pp (pd_strS [49])) (PD_pp (pd_var 1 (pv 1))))) (PD_pp (pd_strS [48, 49, 50, 51, 52, 53, 54, 55, 56, 57]))) (pl_cons (pd_strS [45, 45, 49]) (pl_cons (pd_strS [40, 49]) (pl_cons (pd_strS [49, 41]) (pl_cons (pd_strS [40, 40, 49, 41, 41]) (pl_cons (pd_strS [45, 40, 49, 41]) pl_nil))))))))) (pgd_name (i := 6) nd rfl (Or.inl rfl)))
    (psd_cons (ps1_asg (pd_add (PD_pp (pd_var 6 (pv 6))) (PD_pp (pd_lst (pl_cons (pd_strS [40, 45, 49, 41]) (pl_cons (pd_strS [40, 41]) (pl_cons (pd_strS [49, 101, 53]) (pl_cons (pd_strS [49, 45, 50]) (pl_cons (pd_strS [49, 45, 45]) pl_nil)))))))) (pgd_name (i := 6) nd rfl (Or.inl rfl)))
    (psd_cons (ps1_asg (pd_lst (pl_cons (pd_strS [45, 49]) (pl_cons (pd_strS [40, 49, 41]) (pl_cons (pd_strS [48, 45]) pl_nil)))) (pgd_name (i := 7) nd rfl (Or.inl rfl)))
    (psd_cons (ps1_if (pt_eq c (PD_pp (pd_var 4 (pv 4))) (PD_pp (pd_strS [97, 104, 101, 97, 100])) (nomark _)) (psd_one (ps1_asg (pd_lst (pl_cons (pd_strS [49, 45]) (pl_cons (pd_strS [40, 49, 41]) (pl_cons (pd_strS [45, 48]) (pl_cons (pd_add (PD_pp (pd_add (PD_pp (pd_strS [45, 48])) (PD_pp (pd_var 1 (pv 1))))) (PD_pp (pd_strS [48]))) pl_nil))))) (pgd_name (i := 7) nd rfl (Or.inl rfl)))) psd_nil)
    (psd_cons (ps1_if (pt_eq c (PD_pp (pd_var 4 (pv 4))) (PD_pp (pd_strS [98, 114, 97, 99, 107, 101, 116, 115])) (nomark _)) (psd_one (ps1_asg (pd_lst (pl_cons (pd_strS [45, 49]) (pl_cons (pd_strS [49, 45]) (pl_cons (pd_strS [40, 48, 41]) pl_nil)))) (pgd_name (i := 7) nd rfl (Or.inl rfl)))) psd_nil)
    (psd_cons (ps1_if (pt_ne c (PD_pp (pd_var 2 (pv 2))) (PD_pp (pd_strS [])) (nomark _)) (psd_cons (ps1_asg (pd_add (PD_pp (pd_var 6 (pv 6))) (PD_pp (pd_lst (pl_cons (pd_add (PD_pp (pd_var 2 (pv 2))) (PD_pp (pd_strS [49]))) (pl_cons (pd_add (PD_pp (pd_strS [49])) (PD_pp (pd_var 2 (pv 2)))) (pl_cons (pd_add (PD_pp (pd_strS [49])) (PD_pp (pd_var 2 (pv 2)))) pl_nil)))))) (pgd_name (i := 6) nd rfl (Or.inl rfl)))
    (psd_cons (ps1_asg (pd_add (PD_pp (pd_var 6 (pv 6))) (PD_pp (pd_lst (pl_cons (pd_add (PD_pp (pd_add (PD_pp (pd_add (PD_pp (pd_strS [49])) (PD_pp (pd_var 2 (pv 2))))) (PD_pp (pd_var 2 (pv 2))))) (PD_pp (pd_strS [50]))) (pl_cons (pd_add (PD_pp (pd_add (PD_pp (pd_strS [48])) (PD_pp (pd_var 2 (pv 2))))) (PD_pp (pd_strS [48, 48, 48, 48, 48, 48]))) pl_nil))))) (pgd_name (i := 6) nd rfl (Or.inl rfl)))
    (psd_one (ps1_asg (pd_add (PD_pp (pd_var 6 (pv 6))) (PD_pp (pd_lst (pl_cons (pd_add (PD_pp (pd_add (PD_pp (pd_add (PD_pp (pd_add (PD_pp (pd_strS [49])) (PD_pp (pd_var 1 (pv 1))))) (PD_pp (pd_strS [48])))) (PD_pp (pd_var 2 (pv 2))))) (PD_pp (pd_strS [48]))) pl_nil)))) (pgd_name (i := 6) nd rfl (Or.inl rfl)))))) psd_nil)
    (psd_one (ps1_ret (pd_add (PD_pp (pd_var 6 (pv 6))) (PD_pp (pd_var 7 (pv 7)))))))))))))))))
end
/-! ### the head -/
def dd_is_whole : He.DefD := ⟨("is_whole", none), "is_whole", "is_whole", defArgs s_is_whole, defBody s_is_whole, defScope s_is_whole, [], []⟩
def dd_is_number : He.DefD := ⟨("is_number", none), "is_number", "is_number", defArgs s_is_number, defBody s_is_number, defScope s_is_number, [], []⟩
def dd_normal : He.DefD := ⟨("normal", none), "normal", "normal", defArgs s_normal, defBody s_normal, defScope s_normal, [], []⟩
def dd_groups_of : He.DefD := ⟨("groups_of", none), "groups_of", "groups_of", defArgs s_groups_of, defBody s_groups_of, defScope s_groups_of, [], []⟩
def dd_in_groups : He.DefD := ⟨("in_groups", none), "in_groups", "in_groups", defArgs s_in_groups, defBody s_in_groups, defScope s_in_groups, [], []⟩
def dd_are_figures : He.DefD := ⟨("are_figures", none), "are_figures", "are_figures", defArgs s_are_figures, defBody s_are_figures, defScope s_are_figures, [], []⟩
def dd_unsigned : He.DefD := ⟨("unsigned", none), "unsigned", "unsigned", defArgs s_unsigned, defBody s_unsigned, defScope s_unsigned, [], []⟩
def dd_read : He.DefD := ⟨("read", none), "read", "read", defArgs s_read, defBody s_read, defScope s_read, [], []⟩
def dd__law_cell : He.DefD := ⟨("_law_cell", none), "_law_cell", "_law_cell", defArgs s__law_cell, defBody s__law_cell, defScope s__law_cell, [], []⟩
def dd__law_mix : He.DefD := ⟨("_law_mix", none), "_law_mix", "_law_mix", defArgs s__law_mix, defBody s__law_mix, defScope s__law_mix, [], []⟩
def dd__law_same : He.DefD := ⟨("_law_same", none), "_law_same", "_law_same", defArgs s__law_same, defBody s__law_same, defScope s__law_same, [], []⟩
def dd__law_normal : He.DefD := ⟨("_law_normal", none), "_law_normal", "_law_normal", defArgs s__law_normal, defBody s__law_normal, defScope s__law_normal, [], []⟩
def dd__law_number : He.DefD := ⟨("_law_number", none), "_law_number", "_law_number", defArgs s__law_number, defBody s__law_number, defScope s__law_number, [], []⟩
def dd__law_form : He.DefD := ⟨("_law_form", none), "_law_form", "_law_form", defArgs s__law_form, defBody s__law_form, defScope s__law_form, [], []⟩
def dd__law_ten : He.DefD := ⟨("_law_ten", none), "_law_ten", "_law_ten", defArgs s__law_ten, defBody s__law_ten, defScope s__law_ten, [], []⟩
def dd__law_whole : He.DefD := ⟨("_law_whole", none), "_law_whole", "_law_whole", defArgs s__law_whole, defBody s__law_whole, defScope s__law_whole, [], []⟩
def dd__law_made : He.DefD := ⟨("_law_made", none), "_law_made", "_law_made", defArgs s__law_made, defBody s__law_made, defScope s__law_made, [], []⟩
def dd__law_height : He.DefD := ⟨("_law_height", none), "_law_height", "_law_height", defArgs s__law_height, defBody s__law_height, defScope s__law_height, [], []⟩
def dd__law_figures : He.DefD := ⟨("_law_figures", none), "_law_figures", "_law_figures", defArgs s__law_figures, defBody s__law_figures, defScope s__law_figures, [], []⟩
def dd__law_rounded : He.DefD := ⟨("_law_rounded", none), "_law_rounded", "_law_rounded", defArgs s__law_rounded, defBody s__law_rounded, defScope s__law_rounded, [], []⟩
def dd__law_manner : He.DefD := ⟨("_law_manner", none), "_law_manner", "_law_manner", defArgs s__law_manner, defBody s__law_manner, defScope s__law_manner, [], []⟩
def dd__law_grouped : He.DefD := ⟨("_law_grouped", none), "_law_grouped", "_law_grouped", defArgs s__law_grouped, defBody s__law_grouped, defScope s__law_grouped, [], []⟩
def dd__law_text : He.DefD := ⟨("_law_text", none), "_law_text", "_law_text", defArgs s__law_text, defBody s__law_text, defScope s__law_text, [], []⟩
def dd__law_shown : He.DefD := ⟨("_law_shown", none), "_law_shown", "_law_shown", defArgs s__law_shown, defBody s__law_shown, defScope s__law_shown, [], []⟩
def dd__law_changed : He.DefD := ⟨("_law_changed", none), "_law_changed", "_law_changed", defArgs s__law_changed, defBody s__law_changed, defScope s__law_changed, [], []⟩
def dd__law_told : He.DefD := ⟨("_law_told", none), "_law_told", "_law_told", defArgs s__law_told, defBody s__law_told, defScope s__law_told, [], []⟩
def dd__law_is_right : He.DefD := ⟨("_law_is_right", none), "_law_is_right", "_law_is_right", defArgs s__law_is_right, defBody s__law_is_right, defScope s__law_is_right, [], []⟩
def dd__law_texts : He.DefD := ⟨("_law_texts", none), "_law_texts", "_law_texts", defArgs s__law_texts, defBody s__law_texts, defScope s__law_texts, [], []⟩
def dd_law : He.DefD := ⟨("law", none), "law", "law", defArgs s_law, defBody s_law, defScope s_law, [], []⟩
def fn : List He.DefD := [dd_is_whole, dd_is_number, dd_normal, dd_groups_of, dd_in_groups, dd_are_figures, dd_unsigned, dd_read, dd__law_cell, dd__law_mix, dd__law_same, dd__law_normal, dd__law_number, dd__law_form, dd__law_ten, dd__law_whole, dd__law_made, dd__law_height, dd__law_figures, dd__law_rounded, dd__law_manner, dd__law_grouped, dd__law_text, dd__law_shown, dd__law_changed, dd__law_told, dd__law_is_right, dd__law_texts, dd_law]
def fa : List He.Fa := [.glo "is_whole", .glo "is_number", .glo "normal", .glo "groups_of", .glo "in_groups", .glo "are_figures", .glo "unsigned", .glo "read", .glo "_law_cell", .glo "_law_mix", .glo "_law_same", .glo "_law_normal", .glo "_law_number", .glo "_law_form", .glo "_law_ten", .glo "_law_whole", .glo "_law_made", .glo "_law_height", .glo "_law_figures", .glo "_law_rounded", .glo "_law_manner", .glo "_law_grouped", .glo "_law_text", .glo "_law_shown", .glo "_law_changed", .glo "_law_told", .glo "_law_is_right", .glo "_law_texts", .glo "law", .free "abs", .free "all", .free "any", .free "bool", .free "int", .free "isinstance", .free "len", .free "min", .free "range", .free "str", .free "tuple", .free "zip", .glo (S [70, 105, 103, 117, 114, 101, 69, 114, 114, 111, 114]), .glo (S [78, 111, 78, 117, 109, 98, 101, 114]), .glo (S [78, 111, 77, 111, 110, 101, 121]), .free "ValueError"]
def fx : List Fx := [.exc (S [78, 111, 78, 117, 109, 98, 101, 114]), .hd (S [70, 105, 103, 117, 114, 101, 69, 114, 114, 111, 114]) [((S [78, 111, 78, 117, 109, 98, 101, 114]), true)], .is (S [78, 111, 78, 117, 109, 98, 101, 114]) [((S [78, 111, 78, 117, 109, 98, 101, 114]), true)], .is (S [78, 111, 77, 111, 110, 101, 121]) [((S [78, 111, 78, 117, 109, 98, 101, 114]), false)], .ist "ValueError" [((S [78, 111, 78, 117, 109, 98, 101, 114]), true)]]
abbrev R : PySem.W.OpenRow := PySem.W.OpenLaw.row PySem.Challenge.rw_sayfigures_k07_whole_no_other_texts
abbrev hk : PySem.W.Hook := hookE 4 fa fn fx
def ob (s : PySem.W.SharedT) : AlE := obsE 4 fa fn fx (HandSHeadRun.getT s)
theorem ob_eq (s : PySem.W.SharedT) : ob s = hk.obs s.abs := obsE_eq (HandSHeadRun.getT_eq s)
abbrev loose : List Str := [("__name__" : Str), ("is_whole" : Str), ("is_number" : Str), ("normal" : Str), ("groups_of" : Str), ("in_groups" : Str), ("are_figures" : Str), ("unsigned" : Str), ("read" : Str), ("_law_cell" : Str), ("_law_mix" : Str), ("_law_same" : Str), ("_law_normal" : Str), ("_law_number" : Str), ("_law_form" : Str), ("_law_ten" : Str), ("_law_whole" : Str), ("_law_made" : Str), ("_law_height" : Str), ("_law_figures" : Str), ("_law_rounded" : Str), ("_law_manner" : Str), ("_law_grouped" : Str), ("_law_text" : Str), ("_law_shown" : Str), ("_law_changed" : Str), ("_law_told" : Str), ("_law_is_right" : Str), ("_law_texts" : Str), ("FigureError" : Str), ("NoNumber" : Str), ("NoMoney" : Str)]
theorem run (w : World) : HandSHeadRun.RunEq R (PySem.W.view R.prog [36]) hk ob 1880 loose w := by
  intro os
  kernel_rfl
theorem law_fn {P : Program} {w : World} {K : PySem.W.Frag} {mg : Str → Option Value} {base : Heap} {f : Addr} {fd : FuncData} (F : FunD K "law" "law" (defArgs s_law) (defBody s_law) (defScope s_law) [] [] f fd) (hm : mg "law" = some (.ref f)) (m_range : mg "range" = none) (m_any : mg "any" = none) (m_len : mg "len" = none) (h__law_cell : Has P w K mg base 1 "_law_cell" 2 F__law_cell) (h__law_manner : HasB P w K mg base 2 "_law_manner" manF) (h__law_texts : Has P w K mg base 1 "_law_texts" 1 F__law_texts) (h__law_told : HasT P w K mg base 4 "_law_told" [false, true] F__law_told) (h__law_number : Has P w K mg base 2 "_law_number" 1 F__law_number) (h__law_form : Has P w K mg base 2 "_law_form" 1 F__law_form) (h__law_shown : Has P w K mg base 5 "_law_shown" 4 F__law_shown) (h__law_changed : Has P w K mg base 2 "_law_changed" 3 F__law_changed) (h__law_is_right : HasT P w K mg base 5 "_law_is_right" [false, true] F__law_is_right) (h__law_mix : Has P w K mg base 1 "_law_mix" 3 F__law_mix) : FnOk P w K mg base (L2.CX P w) 6 f fd ["script"] (spL K F_law) := by
  have nd := sc_law.nd
  unfold F_law
  rw [lock_eq]
  exact law_okT F sc_law (fun cdv A outer s H E c => (psdt_cons rbNew_ok (pst_for rbNew_ok c.po rfl (pid_range1 (by rfl) m_range pd_int) (pgd_name (i := 1) nd rfl (Or.inl rfl)) (psdt_cons rbNew_ok (pst_of rbNew_ok (ps1_asg (pd_add (PD_pp (pd_call c h__law_cell (by decide) (by rfl) (pl_cons (pd_var 0 (pv 0)) (pl_cons (pd_var 1 (pv 1)) pl_nil)) rfl)) (PD_pp (pd_mul (PD_pp pd_int) (PD_pp (pd_var 1 (pv 1)))))) (pgd_name (i := 2) nd rfl (Or.inr rfl))))
    (psdt_cons rbNew_ok (pst_born (i := 3) c h__law_manner (by decide) (by rfl) (pdt_of (pd_var 2 (pv 2))) nd rfl (Or.inr rfl) (Or.inl rfl))
    (psdt_cons rbNew_ok (pst_if rbNew_ok (ptt_val (pdt_any rfl (by rfl) m_any (pdt_pf (pft_lc (own := [("text", 5)]) (is := [5]) rfl nd (pid_seq (pd_call c h__law_texts (by decide) (by rfl) (pl_cons (pd_var 3 (pv 3)) pl_nil) rfl)) (blkOk_by (N := N_law) (sc := defScope s_law) (by decide +kernel)) (by decide) (fun _ _ _ _ _ => (pgd_name (i := 5) nd rfl (Or.inl rfl))) (fun _ _ _ _ _ => (pdt_ne (c.blk _ _ _ _ _) (pdt_callT (c.blk _ _ _ _ _) h__law_told (by decide) (by rfl) (plt_cons (pdt_of (pd_var 5 (pv 5))) (plt_consG 3 (pv 3) plt_nil)) rfl) (pdt_of (pd_tup (pl_cons (pd_strS [110, 111]) (pl_cons pd_bl (pl_cons pd_bl (pl_cons pd_bl pl_nil)))))) (nomark _))))))) (psdt_of rbNew_ok (psd_one (ps1_ret pd_bl))) (psdt_of rbNew_ok psd_nil))
    (psdt_cons rbNew_ok (pst_of rbNew_ok (ps1_asg (pd_call c h__law_number (by decide) (by rfl) (pl_cons (pd_add (PD_pp (pd_call c h__law_cell (by decide) (by rfl) (pl_cons (pd_var 0 (pv 0)) (pl_cons pd_int pl_nil)) rfl)) (PD_pp (pd_mul (PD_pp pd_int) (PD_pp (pd_var 1 (pv 1)))))) pl_nil) rfl) (pgd_name (i := 4) nd rfl (Or.inl rfl))))
    (psdt_cons rbNew_ok (pst_of rbNew_ok (ps1_asg (pd_call c h__law_shown (by decide) (by rfl) (pl_cons (pd_var 4 (pv 4)) (pl_cons (pd_var 3 (pv 3)) (pl_cons (pd_call c h__law_form (by decide) (by rfl) (pl_cons (pd_add (PD_pp (pd_call c h__law_cell (by decide) (by rfl) (pl_cons (pd_var 0 (pv 0)) (pl_cons pd_int pl_nil)) rfl)) (PD_pp (pd_var 1 (pv 1)))) pl_nil) rfl) (pl_cons (pd_strS [101, 118, 101, 110]) pl_nil)))) rfl) (pgd_name (i := 5) nd rfl (Or.inl rfl))))
    (psdt_cons rbNew_ok (pst_of rbNew_ok (ps1_asg (pd_add (PD_pp (pd_add (PD_pp (pd_add (PD_pp (pd_strS [48, 49, 53, 57, 45, 40, 41, 32])) (PD_pp (pd_sub_ix (PD_pp (pd_var 3 (pv 3))) (PD_pp pd_int))))) (PD_pp (pd_sub_ix (PD_pp (pd_var 3 (pv 3))) (PD_pp pd_int))))) (PD_pp (pd_strS [49]))) (pgd_name (i := 6) nd rfl (Or.inr rfl))))
    (psdt_cons rbNew_ok (pst_for rbNew_ok c.po rfl (pid_range1 (by rfl) m_range pd_int) (pgd_name (i := 7) nd rfl (Or.inl rfl)) (psdt_cons rbNew_ok (pst_of rbNew_ok (ps1_asg (pd_call c h__law_changed (by decide) (by rfl) (pl_cons (pd_var 5 (pv 5)) (pl_cons (pd_add (PD_pp (pd_call c h__law_cell (by decide) (by rfl) (pl_cons (pd_var 0 (pv 0)) (pl_cons (pd_add (PD_pp pd_int) (PD_pp (pd_var 7 (pv 7)))) pl_nil)) rfl)) (PD_pp (pd_mul (PD_pp pd_int) (PD_pp (pd_var 1 (pv 1)))))) (pl_cons (pd_var 6 (pv 6)) pl_nil))) rfl) (pgd_name (i := 5) nd rfl (Or.inl rfl))))
    (psdt_one rbNew_ok (pst_if rbNew_ok (ptt_not (ptt_val (pdt_callT c h__law_is_right (by decide) (by rfl) (plt_cons (pdt_of (pd_var 5 (pv 5))) (plt_consG 3 (pv 3) plt_nil)) rfl))) (psdt_of rbNew_ok (psd_one (ps1_ret pd_bl))) (psdt_of rbNew_ok psd_nil)))))
    (psdt_cons rbNew_ok (pst_of rbNew_ok (ps1_setLc (i := 8) (own := [("j", 9)]) (is := [9]) rfl nd rfl rfl (sw_true rfl rfl rfl (by decide +kernel)) (pid_range1 (by rfl) m_range (pd_call c h__law_mix (by decide) (by rfl) (pl_cons (pd_var 2 (pv 2)) (pl_cons pd_int (pl_cons pd_int pl_nil))) rfl)) (blkOk_by (N := N_law) (sc := defScope s_law) (by decide +kernel)) (by decide) (fun _ _ _ _ _ => (pgd_name (i := 9) nd rfl (Or.inl rfl))) (fun _ _ _ _ _ => ptsd_nil) (fun _ _ _ _ _ => (pd_sub_ix (PD_pp (pd_var 6 (pv 6))) (PD_pp (pd_call (c.blk _ _ _ _ _) h__law_mix (by decide) (by rfl) (pl_cons (pd_add (PD_pp (pd_var 2 (pv 2))) (PD_pp (pd_mul (PD_pp pd_int) (PD_pp (pd_var 9 (pv 9)))))) (pl_cons pd_int (pl_cons (pd_len (by rfl) m_len (PD_pp (pd_var 6 (pv 6)))) pl_nil))) rfl))))))
    (psdt_one rbNew_ok (pst_if rbNew_ok (ptt_not (ptt_val (pdt_callT c h__law_is_right (by decide) (by rfl) (plt_cons (pdt_of (pd_m_join1 (PD_pp (pd_strS [])) (PD_pp (pd_var 8 (pv 8))))) (plt_consG 3 (pv 3) plt_nil)) rfl))) (psdt_of rbNew_ok (psd_one (ps1_ret pd_bl))) (psdt_of rbNew_ok psd_nil))))))))))))
    (psdt_of rbNew_ok (psd_one (ps1_ret pd_bl)))))
theorem facts {P : Program} {w : World} {K : PySem.W.Frag} {h : Heap} {mg : Str → Option Value} {f : Addr} (X : K.In h) (G : h.Ns mainGlobals mg) (hfa : mg ("law" : Str) = some (.ref f)) (cE : SaysE fa fn fx K) :
    ∃ fd : FuncData, (∀ (s : Shared) (v : Value), BindsTo s fd ⟨[v], []⟩ [("script", v)]) ∧ ∀ base : Heap, K.In base → base.Ns mainGlobals mg → FnOk P w K mg base (L2.CX P w) 6 f fd ["script"] (spL K F_law) := by
  have c := cE.1
  obtain ⟨fd_is_whole, Q_is_whole⟩ := c.def_ 0 (d := dd_is_whole) rfl
  have g_is_whole : mg "is_whole" = some (.ref (He.fAd K ("is_whole", none))) := He.glo_ok X G (c.fact 0 (f := .glo "is_whole") rfl)
  obtain ⟨fd_is_number, Q_is_number⟩ := c.def_ 1 (d := dd_is_number) rfl
  have g_is_number : mg "is_number" = some (.ref (He.fAd K ("is_number", none))) := He.glo_ok X G (c.fact 1 (f := .glo "is_number") rfl)
  obtain ⟨fd_normal, Q_normal⟩ := c.def_ 2 (d := dd_normal) rfl
  have g_normal : mg "normal" = some (.ref (He.fAd K ("normal", none))) := He.glo_ok X G (c.fact 2 (f := .glo "normal") rfl)
  obtain ⟨fd_groups_of, Q_groups_of⟩ := c.def_ 3 (d := dd_groups_of) rfl
  have g_groups_of : mg "groups_of" = some (.ref (He.fAd K ("groups_of", none))) := He.glo_ok X G (c.fact 3 (f := .glo "groups_of") rfl)
  obtain ⟨fd_in_groups, Q_in_groups⟩ := c.def_ 4 (d := dd_in_groups) rfl
  have g_in_groups : mg "in_groups" = some (.ref (He.fAd K ("in_groups", none))) := He.glo_ok X G (c.fact 4 (f := .glo "in_groups") rfl)
  obtain ⟨fd_are_figures, Q_are_figures⟩ := c.def_ 5 (d := dd_are_figures) rfl
  have g_are_figures : mg "are_figures" = some (.ref (He.fAd K ("are_figures", none))) := He.glo_ok X G (c.fact 5 (f := .glo "are_figures") rfl)
  obtain ⟨fd_unsigned, Q_unsigned⟩ := c.def_ 6 (d := dd_unsigned) rfl
  have g_unsigned : mg "unsigned" = some (.ref (He.fAd K ("unsigned", none))) := He.glo_ok X G (c.fact 6 (f := .glo "unsigned") rfl)
  obtain ⟨fd_read, Q_read⟩ := c.def_ 7 (d := dd_read) rfl
  have g_read : mg "read" = some (.ref (He.fAd K ("read", none))) := He.glo_ok X G (c.fact 7 (f := .glo "read") rfl)
  obtain ⟨fd__law_cell, Q__law_cell⟩ := c.def_ 8 (d := dd__law_cell) rfl
  have g__law_cell : mg "_law_cell" = some (.ref (He.fAd K ("_law_cell", none))) := He.glo_ok X G (c.fact 8 (f := .glo "_law_cell") rfl)
  obtain ⟨fd__law_mix, Q__law_mix⟩ := c.def_ 9 (d := dd__law_mix) rfl
  have g__law_mix : mg "_law_mix" = some (.ref (He.fAd K ("_law_mix", none))) := He.glo_ok X G (c.fact 9 (f := .glo "_law_mix") rfl)
  obtain ⟨fd__law_same, Q__law_same⟩ := c.def_ 10 (d := dd__law_same) rfl
  have g__law_same : mg "_law_same" = some (.ref (He.fAd K ("_law_same", none))) := He.glo_ok X G (c.fact 10 (f := .glo "_law_same") rfl)
  obtain ⟨fd__law_normal, Q__law_normal⟩ := c.def_ 11 (d := dd__law_normal) rfl
  have g__law_normal : mg "_law_normal" = some (.ref (He.fAd K ("_law_normal", none))) := He.glo_ok X G (c.fact 11 (f := .glo "_law_normal") rfl)
  obtain ⟨fd__law_number, Q__law_number⟩ := c.def_ 12 (d := dd__law_number) rfl
  have g__law_number : mg "_law_number" = some (.ref (He.fAd K ("_law_number", none))) := He.glo_ok X G (c.fact 12 (f := .glo "_law_number") rfl)
  obtain ⟨fd__law_form, Q__law_form⟩ := c.def_ 13 (d := dd__law_form) rfl
  have g__law_form : mg "_law_form" = some (.ref (He.fAd K ("_law_form", none))) := He.glo_ok X G (c.fact 13 (f := .glo "_law_form") rfl)
  obtain ⟨fd__law_ten, Q__law_ten⟩ := c.def_ 14 (d := dd__law_ten) rfl
  have g__law_ten : mg "_law_ten" = some (.ref (He.fAd K ("_law_ten", none))) := He.glo_ok X G (c.fact 14 (f := .glo "_law_ten") rfl)
  obtain ⟨fd__law_whole, Q__law_whole⟩ := c.def_ 15 (d := dd__law_whole) rfl
  have g__law_whole : mg "_law_whole" = some (.ref (He.fAd K ("_law_whole", none))) := He.glo_ok X G (c.fact 15 (f := .glo "_law_whole") rfl)
  obtain ⟨fd__law_made, Q__law_made⟩ := c.def_ 16 (d := dd__law_made) rfl
  have g__law_made : mg "_law_made" = some (.ref (He.fAd K ("_law_made", none))) := He.glo_ok X G (c.fact 16 (f := .glo "_law_made") rfl)
  obtain ⟨fd__law_height, Q__law_height⟩ := c.def_ 17 (d := dd__law_height) rfl
  have g__law_height : mg "_law_height" = some (.ref (He.fAd K ("_law_height", none))) := He.glo_ok X G (c.fact 17 (f := .glo "_law_height") rfl)
  obtain ⟨fd__law_figures, Q__law_figures⟩ := c.def_ 18 (d := dd__law_figures) rfl
  have g__law_figures : mg "_law_figures" = some (.ref (He.fAd K ("_law_figures", none))) := He.glo_ok X G (c.fact 18 (f := .glo "_law_figures") rfl)
  obtain ⟨fd__law_rounded, Q__law_rounded⟩ := c.def_ 19 (d := dd__law_rounded) rfl
  have g__law_rounded : mg "_law_rounded" = some (.ref (He.fAd K ("_law_rounded", none))) := He.glo_ok X G (c.fact 19 (f := .glo "_law_rounded") rfl)
  obtain ⟨fd__law_manner, Q__law_manner⟩ := c.def_ 20 (d := dd__law_manner) rfl
  have g__law_manner : mg "_law_manner" = some (.ref (He.fAd K ("_law_manner", none))) := He.glo_ok X G (c.fact 20 (f := .glo "_law_manner") rfl)
  obtain ⟨fd__law_grouped, Q__law_grouped⟩ := c.def_ 21 (d := dd__law_grouped) rfl
  have g__law_grouped : mg "_law_grouped" = some (.ref (He.fAd K ("_law_grouped", none))) := He.glo_ok X G (c.fact 21 (f := .glo "_law_grouped") rfl)
  obtain ⟨fd__law_text, Q__law_text⟩ := c.def_ 22 (d := dd__law_text) rfl
  have g__law_text : mg "_law_text" = some (.ref (He.fAd K ("_law_text", none))) := He.glo_ok X G (c.fact 22 (f := .glo "_law_text") rfl)
  obtain ⟨fd__law_shown, Q__law_shown⟩ := c.def_ 23 (d := dd__law_shown) rfl
  have g__law_shown : mg "_law_shown" = some (.ref (He.fAd K ("_law_shown", none))) := He.glo_ok X G (c.fact 23 (f := .glo "_law_shown") rfl)
  obtain ⟨fd__law_changed, Q__law_changed⟩ := c.def_ 24 (d := dd__law_changed) rfl
  have g__law_changed : mg "_law_changed" = some (.ref (He.fAd K ("_law_changed", none))) := He.glo_ok X G (c.fact 24 (f := .glo "_law_changed") rfl)
  obtain ⟨fd__law_told, Q__law_told⟩ := c.def_ 25 (d := dd__law_told) rfl
  have g__law_told : mg "_law_told" = some (.ref (He.fAd K ("_law_told", none))) := He.glo_ok X G (c.fact 25 (f := .glo "_law_told") rfl)
  obtain ⟨fd__law_is_right, Q__law_is_right⟩ := c.def_ 26 (d := dd__law_is_right) rfl
  have g__law_is_right : mg "_law_is_right" = some (.ref (He.fAd K ("_law_is_right", none))) := He.glo_ok X G (c.fact 26 (f := .glo "_law_is_right") rfl)
  obtain ⟨fd__law_texts, Q__law_texts⟩ := c.def_ 27 (d := dd__law_texts) rfl
  have g__law_texts : mg "_law_texts" = some (.ref (He.fAd K ("_law_texts", none))) := He.glo_ok X G (c.fact 27 (f := .glo "_law_texts") rfl)
  obtain ⟨fd_law, Q_law⟩ := c.def_ 28 (d := dd_law) rfl
  have g_law : mg "law" = some (.ref (He.fAd K ("law", none))) := He.glo_ok X G (c.fact 28 (f := .glo "law") rfl)
  have m_abs : mg "abs" = none := He.free_ok X G (c.fact 29 (f := .free "abs") rfl)
  have m_all : mg "all" = none := He.free_ok X G (c.fact 30 (f := .free "all") rfl)
  have m_any : mg "any" = none := He.free_ok X G (c.fact 31 (f := .free "any") rfl)
  have m_bool : mg "bool" = none := He.free_ok X G (c.fact 32 (f := .free "bool") rfl)
  have m_int : mg "int" = none := He.free_ok X G (c.fact 33 (f := .free "int") rfl)
  have m_isinstance : mg "isinstance" = none := He.free_ok X G (c.fact 34 (f := .free "isinstance") rfl)
  have m_len : mg "len" = none := He.free_ok X G (c.fact 35 (f := .free "len") rfl)
  have m_min : mg "min" = none := He.free_ok X G (c.fact 36 (f := .free "min") rfl)
  have m_range : mg "range" = none := He.free_ok X G (c.fact 37 (f := .free "range") rfl)
  have m_str : mg "str" = none := He.free_ok X G (c.fact 38 (f := .free "str") rfl)
  have m_tuple : mg "tuple" = none := He.free_ok X G (c.fact 39 (f := .free "tuple") rfl)
  have m_zip : mg "zip" = none := He.free_ok X G (c.fact 40 (f := .free "zip") rfl)
  have gc_FigureError : mg (S [70, 105, 103, 117, 114, 101, 69, 114, 114, 111, 114]) = some (.ref (He.ga K (S [70, 105, 103, 117, 114, 101, 69, 114, 114, 111, 114]))) := He.glo_ok X G (c.fact 41 (f := .glo (S [70, 105, 103, 117, 114, 101, 69, 114, 114, 111, 114])) rfl)
  have gc_NoNumber : mg (S [78, 111, 78, 117, 109, 98, 101, 114]) = some (.ref (He.ga K (S [78, 111, 78, 117, 109, 98, 101, 114]))) := He.glo_ok X G (c.fact 42 (f := .glo (S [78, 111, 78, 117, 109, 98, 101, 114])) rfl)
  have gc_NoMoney : mg (S [78, 111, 77, 111, 110, 101, 121]) = some (.ref (He.ga K (S [78, 111, 77, 111, 110, 101, 121]))) := He.glo_ok X G (c.fact 43 (f := .glo (S [78, 111, 77, 111, 110, 101, 121])) rfl)
  have x_NoNumber : ExN K mg (S [78, 111, 78, 117, 109, 98, 101, 114]) := exN_of gc_NoNumber (cE.x 0 rfl)
  have hd_FigureError : HdN K mg (S [70, 105, 103, 117, 114, 101, 69, 114, 114, 111, 114]) [((S [78, 111, 78, 117, 109, 98, 101, 114]), true)] := hdN_of gc_FigureError (cE.x 1 rfl) (fun q hq => by simp only [List.mem_cons, List.not_mem_nil, or_false] at hq; subst hq <;> assumption) (fun q hq => by simp only [List.mem_cons, List.not_mem_nil, or_false] at hq; subst hq <;> assumption)
  have io_NoNumber : IsO K mg (S [78, 111, 78, 117, 109, 98, 101, 114]) [((S [78, 111, 78, 117, 109, 98, 101, 114]), true)] := isO_of gc_NoNumber (cE.x 2 rfl) (fun q hq => by simp only [List.mem_cons, List.not_mem_nil, or_false] at hq; subst hq <;> assumption)
  have io_NoMoney : IsO K mg (S [78, 111, 77, 111, 110, 101, 121]) [((S [78, 111, 78, 117, 109, 98, 101, 114]), false)] := isO_of gc_NoMoney (cE.x 3 rfl) (fun q hq => by simp only [List.mem_cons, List.not_mem_nil, or_false] at hq; subst hq <;> assumption)
  have it_ValueError : IsT K mg "ValueError" "ValueError" [((S [78, 111, 78, 117, 109, 98, 101, 114]), true)] := isT_of (He.free_ok X G (c.fact 44 (f := .free "ValueError") rfl)) (by decide +kernel) (cE.x 4 rfl) (fun q hq => by simp only [List.mem_cons, List.not_mem_nil, or_false] at hq; subst hq <;> assumption)
  have e := hfa.symm.trans g_law
  cases e
  have b := FunD.bindsA (ps := ["script"]) Q_law fun _ _ _ _ _ _ us hl => match us, hl with | [_], _ => rfl
  refine ⟨fd_law, fun s v => b s [v] rfl, fun base _ _ => ?_⟩
  have h_is_whole : Has P w K mg base 1 "is_whole" 3 F_is_whole := has_is_whole Q_is_whole g_is_whole m_isinstance m_int m_bool
  have h_is_number : Has P w K mg base 2 "is_number" 1 F_is_number := has_is_number Q_is_number g_is_number m_isinstance m_tuple m_len m_int m_bool h_is_whole
  have h_normal : Has P w K mg base 1 "normal" 2 F_normal := has_normal Q_normal g_normal 
  have h_groups_of : Has P w K mg base 1 "groups_of" 2 F_groups_of := has_groups_of Q_groups_of g_groups_of m_len
  have h_in_groups : Has P w K mg base 2 "in_groups" 2 F_in_groups := has_in_groups Q_in_groups g_in_groups m_len h_groups_of
  have h_are_figures : Has P w K mg base 1 "are_figures" 1 F_are_figures := has_are_figures Q_are_figures g_are_figures m_all
  have h_unsigned : Has P w K mg base 1 "unsigned" 2 F_unsigned := has_unsigned Q_unsigned g_unsigned 
  have h_read : HasT P w K mg base 3 "read" [false, true] F_read := has_read Q_read g_read m_len m_int x_NoNumber h_unsigned h_are_figures h_in_groups h_normal
  have h__law_cell : Has P w K mg base 1 "_law_cell" 2 F__law_cell := has__law_cell Q__law_cell g__law_cell m_len
  have h__law_mix : Has P w K mg base 1 "_law_mix" 3 F__law_mix := has__law_mix Q__law_mix g__law_mix 
  have h__law_same : Has P w K mg base 3 "_law_same" 2 (F__law_same 3) := has__law_same Q__law_same g__law_same m_isinstance m_tuple m_len m_all m_zip m_bool m_int m_str 3
  have h__law_normal : Has P w K mg base 1 "_law_normal" 2 F__law_normal := has__law_normal Q__law_normal g__law_normal 
  have h__law_number : Has P w K mg base 2 "_law_number" 1 F__law_number := has__law_number Q__law_number g__law_number h__law_mix h__law_normal
  have h__law_form : Has P w K mg base 2 "_law_form" 1 F__law_form := has__law_form Q__law_form g__law_form m_min h__law_mix
  have h__law_ten : Has P w K mg base 1 "_law_ten" 1 F__law_ten := has__law_ten Q__law_ten g__law_ten m_range
  have h__law_whole : Has P w K mg base 1 "_law_whole" 3 F__law_whole := has__law_whole Q__law_whole g__law_whole m_int
  have h__law_made : Has P w K mg base 3 "_law_made" 4 (F__law_made 2) := has__law_made Q__law_made g__law_made h__law_ten h__law_whole h__law_normal 2
  have h__law_height : Has P w K mg base 2 "_law_height" 3 F__law_height := has__law_height Q__law_height g__law_height m_abs h__law_ten
  have h__law_figures : Has P w K mg base 3 "_law_figures" 4 F__law_figures := has__law_figures Q__law_figures g__law_figures h__law_height h__law_ten h__law_whole h__law_normal
  have h__law_rounded : Has P w K mg base 4 "_law_rounded" 3 F__law_rounded := has__law_rounded Q__law_rounded g__law_rounded h__law_ten h__law_made h__law_figures
  have h__law_manner : HasB P w K mg base 2 "_law_manner" manF := born__law_manner Q__law_manner g__law_manner h__law_mix
  have h__law_grouped : Has P w K mg base 1 "_law_grouped" 2 F__law_grouped := has__law_grouped Q__law_grouped g__law_grouped m_len
  have h__law_text : Has P w K mg base 2 "_law_text" 3 F__law_text := has__law_text Q__law_text g__law_text m_str m_abs m_len h__law_ten h__law_grouped
  have h__law_shown : Has P w K mg base 5 "_law_shown" 4 F__law_shown := has__law_shown Q__law_shown g__law_shown h__law_rounded h__law_text
  have h__law_changed : Has P w K mg base 2 "_law_changed" 3 F__law_changed := has__law_changed Q__law_changed g__law_changed m_len h__law_mix
  have h__law_told : HasT P w K mg base 4 "_law_told" [false, true] F__law_told := has__law_told Q__law_told g__law_told m_isinstance hd_FigureError io_NoNumber io_NoMoney it_ValueError h_read
  have h__law_is_right : HasT P w K mg base 5 "_law_is_right" [false, true] F__law_is_right := has__law_is_right Q__law_is_right g__law_is_right m_len h__law_told h_is_number h__law_text
  have h__law_texts : Has P w K mg base 1 "_law_texts" 1 F__law_texts := has__law_texts Q__law_texts g__law_texts 
  have nd := sc_law.nd
  exact law_fn Q_law g_law m_range m_any m_len h__law_cell h__law_manner h__law_texts h__law_told h__law_number h__law_form h__law_shown h__law_changed h__law_is_right h__law_mix
end L2.Pz.K07

open PySem PySem.W PySem.Calls PyProof.Rows
set_option maxRecDepth 100000 in
set_option maxHeartbeats 0 in
theorem PySem.Challenge.cw_sayfigures_k07_whole_no_other_texts_holds : PySem.Challenge.rw_sayfigures_k07_whole_no_other_texts.Holds := by
  w_on; o_law
  refine HandSHeadRun.head_any (r := OpenLaw.row PySem.Challenge.rw_sayfigures_k07_whole_no_other_texts) (q := view (OpenLaw.row PySem.Challenge.rw_sayfigures_k07_whole_no_other_texts).prog [36]) (H := L2.Pz.K07.hk) (ob := L2.Pz.K07.ob) (M := 1880) (loose := L2.Pz.K07.loose) (d := HandSHeadRun.topDef (OpenLaw.row PySem.Challenge.rw_sayfigures_k07_whole_no_other_texts).prog 36) (kwd := []) L2.Pz.K07.ob_eq
    (by kernel_rfl) (fun s => by kernel_rfl) L2.Pz.K07.run (by kernel_rfl) (by kernel_rfl) (by kernel_rfl) (by rfl) (by first | assumption | decide +kernel) (by decide +kernel) ⟨rfl, rfl, rfl, rfl, rfl, by decide +kernel⟩ ?hw ?hc
  case hw => w_witness2
  case hc =>
    refine L2.Pz.walk_ofEW (l := PySem.Challenge.rw_sayfigures_k07_whole_no_other_texts) (n := 63) (k := 6) (CX := fun w => L2.CX (PySem.Challenge.rw_sayfigures_k07_whole_no_other_texts).prog w) (x := "script") rfl (by decide) (by kernel_rfl) ⟨rfl, by decide, by decide⟩ ?F ?X
    case X => exact fun _ _ _ _ _ z => by obtain ⟨_, _, _, _, _, _, _, _, _, _, _, _, z⟩ := z; exact z
    case F =>
      intro w mg fa h Y G hmg0
      obtain ⟨K, KX, c⟩ := Y
      have hmg : mg ("law" : PySem.Str) = some (.ref fa) := by
        have e : (HandSHeadRun.topDef (OpenLaw.row PySem.Challenge.rw_sayfigures_k07_whole_no_other_texts).prog 36).name = ("law" : PySem.Str) := by kernel_rfl
        rw [← e]
        exact hmg0
      obtain ⟨fd, hb, hF⟩ := L2.Pz.K07.facts (P := (PySem.Challenge.rw_sayfigures_k07_whole_no_other_texts).prog) (w := w) KX G hmg c
      exact ⟨K, fd, L2.Pz.spL K L2.Pz.K07.F_law, KX, hb, fun H a ns hl hS => L2.Pz.law_spL hS (L2.Pz.K07.law_true ns hl), hF⟩
